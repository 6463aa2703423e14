import PyProof.Rows.All
import Wide.All
import OpenK.AllK
import Wide.FinOn
import HandS.ForMost
import HandS.IsInst
import HandS.Style
import HandS.Wide
import HandS.Walk
import HandS.ForExc
import HandS.ExcInit
import HandS.ExcField
import HandS.ExcIs
import HandS.TupAny
import HandS.Conv
import PyProof.ReprRoads
import PyProof.ReprBulk
import HandS.ExcBuiltin
import HandS.Defaults
import HandS.CallSlots
import HandS.Rev
import PySem.Challenge.RW_fairseek_k05_rows_and_comings
set_option Elab.async false
set_option linter.all false
set_option maxRecDepth 100000
namespace Fs
open PySem PySem.Spec PyProof.Rows L2
/-! ### heaps -/
theorem same_upd {H : Hp} {p : Addr} {o : HO} (h : H p = none) : Same H (upd H p o) := fun b x e => by
  rw [upd_ne (ne_of_none e h)]
  exact e
/-- all but what stands at p is as it was -/
def Off (p : Addr) (H H' : Hp) : Prop := ∀ b o, b ≠ p → H b = some o → H' b = some o
theorem Off.refl (p : Addr) (H : Hp) : Off p H H := fun _ _ _ h => h
theorem Off.trans {p : Addr} {H H1 H2 : Hp} (a : Off p H H1) (b : Off p H1 H2) : Off p H H2 := fun c o n h => b c o n (a c o n h)
theorem Off.of {p : Addr} {H H' : Hp} (a : Same H H') : Off p H H' := fun c o _ h => a c o h
theorem Off.put {p : Addr} {H : Hp} {o : HO} : Off p H (upd H p o) := fun c u n h => by
  rw [upd_ne n]
  exact h
theorem Off.new {p q : Addr} {H H' : Hp} {o : HO} (a : Off p H H') (h : H' q = none) : Off p H (upd H' q o) := fun c u n e => by
  have e' := a c u n e
  rw [upd_ne (ne_of_none e' h)]
  exact e'
theorem Off.free {p q : Addr} {H H' : Hp} (a : Off p H H') (h : H' q = none) (n : q ≠ p) : H q = none := by
  cases e : H q with
  | none => rfl
  | some o =>
    rw [a q o n e] at h
    cases h
theorem Off.mut {p q : Addr} {H H' : Hp} {o : HO} (a : Off p H H') (h : H q = none) : Off p H (upd H' q o) := fun c u n e => by
  rw [upd_ne (ne_of_none e h)]
  exact a c u n e
/-- p is new: nothing of old is touched -/
theorem Off.same {p : Addr} {H0 H H' : Hp} (s : Same H0 H) (n : H0 p = none) (a : Off p H H') : Same H0 H' := fun c o e =>
  a c o (ne_of_none e n) (s c o e)
theorem same_mut {H H' : Hp} {p : Addr} {o : HO} (e : Same H H') (h : H p = none) : Same H (upd H' p o) := fun b x q => by
  rw [upd_ne (ne_of_none q h)]
  exact e b x q
theorem sz_le {n : Nat} (h : n ≤ 1000000) : n ≤ sizeLine := Nat.le_trans h (by decide)
theorem sz_lt {n : Nat} (h : n < 1000000) : n < sizeLine := Nat.lt_of_lt_of_le h (by decide)
/-! ### kinds of things -/
inductive Kn where
  | non | bl | int | str | lst | tup | dct
def Kn.name : Kn → String
  | .non => "NoneType" | .bl => "bool" | .int => "int" | .str => "str" | .lst => "list" | .tup => "tuple" | .dct => "dict"
def Kn.isBl : Kn → Bool
  | .bl => true | _ => false
def Kn.isInt : Kn → Bool
  | .bl => true | .int => true | _ => false
def Kn.isWhole : Kn → Bool
  | .int => true | _ => false
def Kn.isStr : Kn → Bool
  | .str => true | _ => false
def Kn.isTup : Kn → Bool
  | .tup => true | _ => false
def Kn.isLst : Kn → Bool
  | .lst => true | _ => false
abbrev Knd (K : PySem.W.Frag) (H : Hp) (x : V) (k : Kn) : Prop := TyX K H x (.type k.name)
theorem kit_bl {K : PySem.W.Frag} (k : Kn) : PySem.W.kitOne K (.type k.name) (.type "bool") = some k.isBl := kit_ty (by cases k <;> decide +kernel)
theorem kit_int {K : PySem.W.Frag} (k : Kn) : PySem.W.kitOne K (.type k.name) (.type "int") = some k.isInt := kit_ty (by cases k <;> decide +kernel)
theorem kit_str {K : PySem.W.Frag} (k : Kn) : PySem.W.kitOne K (.type k.name) (.type "str") = some k.isStr := kit_ty (by cases k <;> decide +kernel)
theorem kit_tup {K : PySem.W.Frag} (k : Kn) : PySem.W.kitOne K (.type k.name) (.type "tuple") = some k.isTup := kit_ty (by cases k <;> decide +kernel)
theorem kit_lst {K : PySem.W.Frag} (k : Kn) : PySem.W.kitOne K (.type k.name) (.type "list") = some k.isLst := kit_ty (by cases k <;> decide +kernel)
section
variable {K : PySem.W.Frag} {H : Hp}
theorem kn_non : Knd K H .non .non := .base .non
theorem kn_bl (b : Bool) : Knd K H (.bl b) .bl := .base (.bl b)
theorem kn_int (i : Int) : Knd K H (.int i) .int := .base (.int i)
theorem kn_str (x : Str) : Knd K H (.str x) .str := .base (.str x)
theorem kn_lst {a : Addr} {xs : List V} (e : H a = some (.lst xs)) : Knd K H (.ref a) .lst := .base (.lst e)
theorem kn_tup {a : Addr} {xs : List V} (e : H a = some (.tup xs)) : Knd K H (.ref a) .tup := .base (.tup e)
theorem kn_dct {a : Addr} {xs : List (Key × V)} (e : H a = some (.dK xs)) : Knd K H (.ref a) .dct := .base (.dK e)
end
theorem Knd.same {K : PySem.W.Frag} {H H' : Hp} {x : V} {k : Kn} (h : Knd K H x k) (s : Same H H') : Knd K H' x k := by
  revert h
  show TyX K H x (.type k.name) → TyX K H' x (.type k.name)
  generalize Value.type k.name = t
  intro h
  cases h with
  | base b =>
    cases b with
    | non => exact .base .non
    | bl x => exact .base (.bl x)
    | int i => exact .base (.int i)
    | str x => exact .base (.str x)
    | flt x => exact .base (.flt x)
    | lst e => exact .base (.lst (s _ _ e))
    | frz e => exact .base (.frz (s _ _ e))
    | tup e => exact .base (.tup (s _ _ e))
    | dK e => exact .base (.dK (s _ _ e))
    | dT e => exact .base (.dT (s _ _ e))
    | ins e cl ha hn htk hm => exact .base (.ins (s _ _ e) cl ha hn htk hm)
  | byt b => exact .byt b
  | set e => exact .set (s _ _ e)
  | kList e c => exact .kList e c
  | kTuple e c => exact .kTuple e c
  | kDict e c => exact .kDict e c
  | fTuple e => exact .fTuple (s _ _ e)
  | fDict e => exact .fDict (s _ _ e)
/-! ### indices -/
theorem atI_of {α : Type} {xs : List α} {i : Int} {x : α} (h0 : 0 ≤ i) (h : xs[i.toNat]? = some x) : atI xs i = some x := by
  have e : i = ((i.toNat : Nat) : Int) := by omega
  rw [e]
  exact atI_nat h
theorem atI_in {α : Type} {xs : List α} {i : Int} (h0 : 0 ≤ i) (h1 : i < (xs.length : Int)) : ∃ x, atI xs i = some x ∧ x ∈ xs := by
  have hl : i.toNat < xs.length := by omega
  exact ⟨xs[i.toNat], atI_of h0 (List.getElem?_eq_getElem hl), List.getElem_mem hl⟩
theorem lst_at {H : Hp} {l : Addr} {xs : List V} {i : Int} (h : H l = some (.lst xs)) (h0 : 0 ≤ i) (h1 : i < (xs.length : Int)) : ∃ x, H l = some (.lst xs) ∧ atI xs i = some x ∧ x ∈ xs := by
  obtain ⟨x, a, b⟩ := atI_in h0 h1
  exact ⟨x, h, a, b⟩
/-! ### texts -/
def OkS (z : Str) : Prop := ∀ c ∈ z.cps.toList, c < 1114112
theorem OkS.dec {z : Str} (h : z.cps.toList.all (fun c => decide (c < 1114112)) = true) : OkS z := fun c hc => of_decide_eq_true (List.all_eq_true.mp h c hc)
theorem OkS.strOk {z : Str} (h : OkS z) : PyData.strOk z = true := by
  unfold PyData.strOk
  rw [← Array.all_toList, List.all_eq_true]
  exact fun c hc => decide_eq_true (h c hc)
theorem cps_app (a b : Str) : (a ++ b).cps.toList = a.cps.toList ++ b.cps.toList := by
  show (a.cps ++ b.cps).toList = _
  simp
theorem OkS.app {a b : Str} (ha : OkS a) (hb : OkS b) : OkS (a ++ b) := fun c hc => by
  rw [cps_app] at hc
  rcases List.mem_append.mp hc with h | h
  · exact ha c h
  · exact hb c h
theorem OkS.cut {a : Str} (ha : OkS a) (lo hi : Option Int) : OkS (cutS a lo hi) := fun c hc => by
  unfold cutS at hc
  rw [List.toList_toArray] at hc
  exact ha c (List.mem_of_mem_drop (List.mem_of_mem_take hc))
theorem OkS.one {c : Nat} (h : c < 1114112) : OkS ⟨#[c]⟩ := fun d hd => by
  have e : d = c := by simpa using hd
  rw [e]
  exact h
theorem cps_glued (sep : Str) : ∀ (rest : List Str) (acc : Array Nat), (rest.foldl (fun acc p => acc ++ sep.cps ++ p.cps) acc).toList = acc.toList ++ (rest.map fun p => sep.cps.toList ++ p.cps.toList).flatten
  | [], acc => by simp
  | p :: r, acc => by
    rw [List.foldl_cons, cps_glued sep r]
    simp
theorem OkS.join {sep : Str} (hs : OkS sep) : ∀ {ys : List Str}, (∀ y ∈ ys, OkS y) → OkS (Txt.join sep ys)
  | [], _ => fun c hc => by
    have e : (Txt.join sep []).cps.toList = [] := rfl
    rw [e] at hc
    cases hc
  | y :: r, h => fun c hc => by
    have e : (Txt.join sep (y :: r)).cps.toList = y.cps.toList ++ (r.map fun p => sep.cps.toList ++ p.cps.toList).flatten := cps_glued sep r y.cps
    rw [e] at hc
    rcases List.mem_append.mp hc with hc | hc
    · exact h y List.mem_cons_self c hc
    · obtain ⟨l, hl, hc⟩ := List.mem_flatten.mp hc
      obtain ⟨p, hp, rfl⟩ := List.mem_map.mp hl
      rcases List.mem_append.mp hc with hc | hc
      · exact hs c hc
      · exact h p (List.mem_cons_of_mem _ hp) c hc
/-- a ≤ b ≤ c, c a name's value -/
theorem chain_var {a b c : Int} {R : VK} {H : Hp} {σ : L2.St} {i : Nat} (hi : σ[i]? = some (some (.int c))) (h : R (.bl (decide (a ≤ b) && decide (b ≤ c))) H) :
    ∃ k, V.bl (decide (a ≤ b)) = .bl k ∧ (if k = true then tVar i σ H (fun w' H4 => rI0 (fun i j => .bl (decide (i ≤ j))) (.int b) w' H4 R) else R (.bl false) H) := by
  refine ⟨_, rfl, ?_⟩
  by_cases c1 : a ≤ b
  · rw [decide_eq_true c1] at h ⊢
    exact ⟨_, hi, _, _, rfl, rfl, h⟩
  · rw [decide_eq_false c1] at h ⊢
    exact h

/-! ### a def whose promise may lean on this: nothing is being shown around (repr's own guard is empty) -/
structure FnG (P : Program) (w : World) (K : PySem.W.Frag) (mg : Str → Option Value) (base : Heap) (CX : CXT) (k : Nat) (f : Addr) (fd : FuncData) (ps : List Str) (sp : Sp) : Prop where
  len : ∀ vs H Q E, sp vs H Q E → vs.length = ps.length
  go : ∀ (A : Around) (outer : List PySem.Env) (s : Shared) (H : Hp) (args : Args) (us : List Value) (vs : List V) (Q : VK) (E : XK), Room k A → A.guards = some [] → Env0 P w K mg base A outer s H → BindsTo s fd args (ps.zip us) → Vals vs us → sp vs H Q E →
    codeAny (model P w) A (.call (.ref f) args) (CR CX outer P w H s Q E) s
theorem FnG.of {P : Program} {w : World} {K : PySem.W.Frag} {mg : Str → Option Value} {base : Heap} {CX : CXT} {k : Nat} {f : Addr} {fd : FuncData} {ps : List Str} {sp : Sp} (F : FnOk P w K mg base CX k f fd ps sp) : FnG P w K mg base CX k f fd ps sp :=
  ⟨F.len, fun A outer s H args us vs Q E hr _ => F.run A outer s H args us vs Q E hr⟩
theorem FnG.mono {P : Program} {w : World} {K : PySem.W.Frag} {mg : Str → Option Value} {base : Heap} {CX : CXT} {j k : Nat} {f : Addr} {fd : FuncData} {ps : List Str} {sp : Sp} (F : FnG P w K mg base CX j f fd ps sp) (h : j ≤ k) : FnG P w K mg base CX k f fd ps sp :=
  ⟨F.len, fun A outer s H args us vs Q E hr => F.go A outer s H args us vs Q E (hr.mono h)⟩
section
variable {P : Program} {w : World} {K : PySem.W.Frag} {mg : Str → Option Value} {base : Heap}
theorem fnG_of {CX : CXT} {x qual : Str} {st : Stmt} {f : Addr} {fd : FuncData} {N ps : List Str} {k : Nat} {sp : Sp} (F : Fun K x qual st f fd) (S : FnScope N ps (defScope st)) (len : ∀ vs H Q E, sp vs H Q E → vs.length = ps.length)
    (hbody : ∀ (cdv : Value) (A : Around) (outer : List PySem.Env) (s : Shared) (H : Hp) (vs : List V) (Q : VK) (E : XK), Room k (A.deeper (envOfC qual (defScope st) s.heap.objs.size f cdv)) → A.guards = some [] → sp vs H Q E →
      ∃ t, PSs (cxOf CX P w K mg base N qual (defScope st) f cdv A outer s H E) (defBody st) t ∧ t { nx := fun _ H' => Q .non H', rt := Q } (L2.start N vs) H) : FnG P w K mg base CX (k + 1) f fd ps sp := by
  obtain ⟨oc, od, kV, doc, pm, an, cdv, ct, osl, rfl, lk, hcd⟩ := F.ex
  refine ⟨len, fun A outer s H args us vs Q E hr hg e0 hb r hsp => ?_⟩
  have kept : ∀ b o, base.get? b = some o → s.heap.get? b = some o := fun b o e => (e0.bs b o e).1
  have KX := e0.mod.kin.keeps kept
  have lim := e0.mod.nolimit.keeps kept
  refine codeAny_call_function hr.depth (KX _ _ lk) rfl S.co S.gen rfl (PySem.W.codeRec_of KX hcd) (hb _ _ _ _ (wpAny_newFunctionEnv_cells S.kind (fun y hy => ?_) fun env he s1 x => ?_))
  · rcases S.par y.1 (List.of_mem_zip hy).1 with q | q
    · exact .inl q
    · exact .inr ⟨q, PySem.W.cellsFrom_some _ _ _ (.inl q)⟩
  · subst he
    obtain ⟨t, ht, hq⟩ := hbody cdv A outer s H vs Q E (hr.deeper _) hg hsp
    refine ⟨lim.keeps x.toInCall.keep, codeAny_func (wpAny_mono (ht.run [] s1 (L2.start N vs) H _ (inv_start S hr.hd e0 (len _ _ _ _ hsp) r x) hq) (fun fl s' hs => ?_) fun e s' hs => hs)⟩
    cases fl with
    | ret u =>
      obtain ⟨v, _, H', J, rv, q⟩ := hs
      exact ⟨v, H', J.os, J.bare, J.base, J.hok, rv, q⟩
    | next =>
      obtain ⟨_, H', J, q⟩ := hs
      exact ⟨.non, H', J.os, J.bare, J.base, J.hok, rfl, q⟩
    | brk => exact hs.choose_spec.choose_spec.2.elim
    | cont => exact hs.choose_spec.choose_spec.2.elim
/-- a def that lets nothing out -/
theorem okG {x qual : Str} {st : Stmt} {f : Addr} {fd : FuncData} {N ps : List Str} {k : Nat} {sp : Sp} (F : Fun K x qual st f fd) (S : FnScope N ps (defScope st)) (len : ∀ vs H Q E, sp vs H Q E → vs.length = ps.length)
    (hbody : ∀ (cdv : Value) (A : Around) (outer : List PySem.Env) (s : Shared) (H : Hp) (vs : List V) (Q : VK) (E : XK), Room k (A.deeper (envOfC qual (defScope st) s.heap.objs.size f cdv)) → A.guards = some [] → sp vs H Q E →
      ∃ t, PSs (cxOf CX0 P w K mg base N qual (defScope st) f cdv A outer s H E).nox (defBody st) t ∧ t { nx := fun _ H' => Q .non H', rt := Q } (L2.start N vs) H) : FnG P w K mg base CX0 (k + 1) f fd ps sp :=
  fnG_of F S len fun cdv A outer s H vs Q E hr hg h => by
    obtain ⟨t, ht, q⟩ := hbody cdv A outer s H vs Q E hr hg h
    exact ⟨t, ht.nox, q⟩
end
section
variable {X : Cx} {CX : CXT} {k : Nat} {f : Addr} {fd : FuncData} {ps : List Str} {sp : Sp} {E : XK} {x : Str} {p pos : Pos} {e : Expr} {es : List Expr} {t : TA}
theorem runG {pins : List (Addr × Obj)} {σ : L2.St} {H : Hp} {s : Shared} {Q : VK} {us : List Value} {vs : List V} (F : FnG X.prog X.w X.K X.mg X.base CX k f fd ps sp) (hr : Room k X.A) (hgd : X.A.guards = some []) (hb : Binds X.K fd ps []) (hx : Passes CX X E)
    (I : Inv X pins σ H s) (r : Vals vs us) (h : sp (vs ++ []) H Q E) : wpAny (model X.prog X.w) X.A (call (.ref f) us) (EP X pins σ Q) X.xe s := by
  have r2 : Vals (vs ++ []) (us ++ []) := r.append .nil
  have hl : (us ++ []).length = ps.length := r2.length.symm.trans (F.len _ _ _ _ h)
  refine wpAny_call (codeAny_mono (F.go X.A X.stack s H ⟨us, []⟩ (us ++ []) (vs ++ []) Q E hr hgd I.env0 (hb s us I.kIn hl) r2 h) fun r s' hq => ?_)
  match r, hq with
  | .error e, hq => exact hx pins σ H s e s' I hq
  | .ok (.ret u), hq => exact I.after hq
theorem pe_callG (F : FnG X.prog X.w X.K X.mg X.base CX k f fd ps sp) (hr : Room k X.A) (hgd : X.A.guards = some []) (hg : Gl X x) (hm : X.mg x = some (.ref f)) (hk : PySem.W.keepIn X.K (.ref f) = true) (hb : Binds X.K fd ps []) (hx : Passes CX X E)
    (ha : PA X (e :: es) t) (hdb : (x == ("__debug__" : Str)) = false := by decide) (he : starEach (e :: es) X.env = (false, eval e X.env) :: starEach es X.env := by rfl) (hpl : (backTo pos (starEach es X.env)).any (·.1) = false := by rfl) :
    PE X (.Call (.Name x p) (e :: es) [] pos) (tCall sp [] E t) :=
  ⟨fun pins s σ H Q I h => wpAny_Call_Name_kw (ld_glob I hg hm (PySem.W.callWith_K (h₀ := X.base) I.ok.mod.kin hk
    (thn (ha.run pos pins s σ H _ I h) fun us s1 ⟨vs, H1, I1, r, q⟩ => ⟨I1.kIn, runG F hr hgd hb hx I1 r q⟩) he hpl) hdb)⟩
theorem pe_callG0 (F : FnG X.prog X.w X.K X.mg X.base CX k f fd ps sp) (hr : Room k X.A) (hgd : X.A.guards = some []) (hg : Gl X x) (hm : X.mg x = some (.ref f)) (hk : PySem.W.keepIn X.K (.ref f) = true) (hb : Binds X.K fd ps []) (hx : Passes CX X E)
    (hdb : (x == ("__debug__" : Str)) = false := by decide) : PE X (.Call (.Name x p) [] [] pos) (tCall sp [] E tNil) :=
  ⟨fun pins s σ H Q I h => wpAny_Call_Name_kw (ld_glob I hg hm (PySem.W.callWith_K0 I.kIn hk (runG (us := []) F hr hgd hb hx I .nil h)) hdb)⟩
end
/-! ### the end of a law whose def is such a one -/
theorem lawG {P : Program} {w : World} {K : PySem.W.Frag} {mg mb : Str → Option Value} {k : Nat} {fa a : Addr} {fd : FuncData} {x : Str} {sp : Sp} {s1 : Shared} {vs : List Value} {ns : List Int}
    (KX : K.In s1.heap) (hns : s1.heap.Ns mainGlobals mg) (hb : s1.heap.Ns builtinsNs mb) (hbb : ∀ x : Str, x ≠ "__name__" → mb x = bootBuiltins x) (hlim : s1.heap.NoLimit) (hg : s1.gens = #[])
    (ha : s1.heap.get? a = some { cls := .type "list", data := .seq vs.toArray }) (hi : IntsAre vs ns) (hl : ns.length ≤ sizeLine) (hr : Room k callerA)
    (F : ∀ base : Heap, K.In base → base.Ns mainGlobals mg → FnG P w K mg base CX0 k fa fd [x] sp) (hbind : ∀ (s : Shared) (u : Value), BindsTo s fd ⟨[u], []⟩ [(x, u)])
    (hsp : ∀ H : Hp, SqL K H a (ns.map V.int) → sp [.ref a] H (fun v _ => v = .bl true) fun _ _ _ => False) :
    codeAny (model P w) callerA (.call (.ref fa) ⟨[.ref a], []⟩) (fun r s' => r = .ok (.ret (.bool true)) ∧ OldK s1.heap s'.heap ∧ s'.os = s1.os ∧ AllBare s'.gens) s1 := by
  have rv := vals_ints hi
  have key : ∀ H : Hp, SqL K H a (ns.map V.int) → HOk P w H s1.heap → (∀ b u, H b = some u → b = a ∧ (∃ o xs, u = .frz o (.lst xs)) ∧ K.lookup a = none) →
      codeAny (model P w) callerA (.call (.ref fa) ⟨[.ref a], []⟩) (fun r s' => r = .ok (.ret (.bool true)) ∧ OldK s1.heap s'.heap ∧ s'.os = s1.os ∧ AllBare s'.gens) s1 := by
    intro H hS hok hA
    have free : ∀ {b : Addr}, (∀ o, s1.heap.get? b = some o → ¬ (b = a ∧ K.lookup a = none)) → ∀ o, s1.heap.get? b = some o → H b = none := fun {b} n o e => by
      cases q : H b with
      | none => rfl
      | some u => exact absurd ⟨(hA b u q).1, (hA b u q).2.2⟩ (n o e)
    have nsK : ∀ {b : Addr} {m : Str → Option Value}, s1.heap.Ns b m → (hidT s1.heap H).Ns b m := fun {b m} ⟨o, es, ep, e, d, r⟩ =>
      ⟨o, es, ep, hidT_get e (free (fun o2 e2 z => by
        rw [z.1, ha] at e
        cases e
        cases d) o e), d, r⟩
    have hKb : K.In (hidT s1.heap H) := fun b o e => hidT_get (KX b o e) (free (fun o2 e2 z => by
      rw [z.1, z.2] at e
      cases e) o (KX b o e))
    have hM : Mod K mg (hidT s1.heap H) := ⟨hKb, nsK hns, ⟨mb, nsK hb, hbb⟩, let ⟨mc, h1, h2⟩ := hlim; ⟨mc, nsK h1, h2⟩⟩
    have no : ∀ b : Addr, b ∉ ([] : List Addr) := fun b => by simp
    have e0 : Env0 P w K mg (hidT s1.heap H) callerA [] s1 H := ⟨rfl, hM, fun b o e => of_hidT e, Nat.le_of_eq (hidT_size _ _), trivial, fun b hb => absurd hb (no b), hok, .of_eq hg⟩
    refine codeAny_mono ((F _ hKb (nsK hns)).go callerA [] s1 H ⟨[.ref a], []⟩ [.ref a] [.ref a] _ _ hr rfl e0 (hbind s1 (.ref a)) (.cons rfl .nil) (hsp H hS)) fun r s' h => ?_
    match r, h with
    | .error e, h => exact h.elim
    | .ok (.ret u), h =>
      obtain ⟨v, H', os, bare, un, hok', r', q⟩ := h
      cases (show v = .bl true from q)
      cases (show u = Value.bool true from r')
      refine ⟨rfl, OldK.of_keep fun b o e => ?_, os, bare⟩
      cases q : H b with
      | none => exact un.keep b o e q (no b) (no b)
      | some u =>
        obtain ⟨_, ⟨ob, xs, rfl⟩, _⟩ := hA b u q
        have e1 := (hok b _ q).1
        rw [e] at e1
        cases e1
        exact (hok' b _ (un.frzs b _ _ q)).1
  cases hk : K.lookup a with
  | some o =>
    have e := KX a o hk
    rw [ha] at e
    cases e
    exact key (fun _ => none) (.inr ⟨_, vs.toArray, _, hk, rfl, rfl, rfl, by rw [List.size_toArray, hi.length]; exact hl, by simpa using rv⟩) (fun b u z => nomatch z) fun b u z => nomatch z
  | none =>
    let ob : Obj := { cls := .type "list", data := .seq vs.toArray }
    have at_ : ∀ b u, (fun c : Addr => if c = a then some (HO.frz ob (.lst (ns.map V.int))) else none) b = some u → b = a ∧ u = .frz ob (.lst (ns.map V.int)) := fun b u z => by
      by_cases hb : b = a
      · exact ⟨hb, (Option.some.inj ((if_pos hb).symm.trans z)).symm⟩
      · have z' := (if_neg hb).symm.trans z
        cases z'
    refine key (fun c => if c = a then some (.frz ob (.lst (ns.map V.int))) else none) (.inl (.inr ⟨ob, if_pos rfl⟩)) (fun b u z => ?_) fun b u z => ?_
    · obtain ⟨rfl, rfl⟩ := at_ b u z
      exact ⟨ha, by rw [List.length_map]; exact hl, vs, _, rv, ha⟩
    · obtain ⟨rfl, rfl⟩ := at_ b u z
      exact ⟨rfl, ⟨_, _, rfl⟩, hk⟩
theorem walkG {l : PySem.W.OpenLaw} {n k : Nat} {q : Program} {loose : List Str} {XP : (Str → Option Value) → Heap → Prop} {YP : World → Heap → Prop} {d : DefRec} {K : Params → PySem.W.Frag} {sp : PySem.W.Frag → Sp} {x : Str}
    (hn : l.most = some n) (hn2 : n ≤ sizeLine) (hdf : d.params.defaults = []) (hr : Room k callerA) (hY : ∀ (w : World) (h : Heap), YP w h → (K w.params).In h)
    (F : ∀ (w : World) (mg : Str → Option Value) (fa : Addr) (h : Heap), (K w.params).In h → h.Ns mainGlobals mg → mg d.name = some (.ref fa) →
      ∃ fd : FuncData, (∀ (s : Shared) (u : Value), BindsTo s fd ⟨[u], []⟩ [(x, u)]) ∧ ∀ base : Heap, (K w.params).In base → base.Ns mainGlobals mg → FnG l.prog w (K w.params) mg base CX0 k fa fd [x] (sp (K w.params)))
    (hsp : ∀ (K : PySem.W.Frag) (H : Hp) (a : Addr) (ns : List Int), ns.length ≤ n → SqL K H a (ns.map V.int) → sp K [.ref a] H (fun v _ => v = .bl true) fun _ _ _ => False) :
    PySem.W.WalkO q loose XP YP l.row.toRowW d [] (fun f vs => PySem.call f vs) := by
  refine Att.attach_call hn hdf fun w s0 s1 mg mb fa o pm cd doc a vs ns G Y ho hd hcd hmg hobj hints hlen hg => ?_
  obtain ⟨fd, hb, hF⟩ := F w mg fa _ (hY w _ Y) G.T.g hmg
  exact lawG (hY w _ Y) G.T.g G.T.b G.T.builtins G.T.nolimit hg hobj hints (Nat.le_trans hlen hn2) hr hF hb fun H hS => hsp _ H a ns hlen hS


/-! ### a list held against the empty list, whatever stands in it -/
def rNilL (K : PySem.W.Frag) (neg : Bool) : R2 := fun x y H Q => ∃ a b xs, x = .ref a ∧ y = .ref b ∧ SqL K H a xs ∧ SqL K H b [] ∧ Q (.bl (if neg then !xs.isEmpty else xs.isEmpty)) H
section
variable {X : Cx}
theorem op_neNil (hu : X.A.units + 64 < cLine) : OpR X (compareOp .NotEq) (rNilL X.K true) := by
  intro pins s σ H x y v u Q I rx ry h
  obtain ⟨a, b, xs, rfl, rfl, hx, hy, q⟩ := h
  cases rx
  cases ry
  obtain ⟨its, r, pl, _⟩ := I.list hx
  obtain ⟨its2, r2, pl2, _⟩ := I.list hy
  cases r2
  have hu' : X.A.units < cLine := Nat.lt_of_le_of_lt (Nat.le_add_right _ _) hu
  cases r with
  | nil =>
    exact SeqAt.RcNeAt.lists (e := fun _ => true) pl.isList pl2.isList rfl hu' (fun j h1 => absurd h1 (by simp)) X.prog X.w X.xe _ ⟨.bl false, H, I, rfl, q⟩
  | cons r1 r2 =>
    exact SeqAt.RcNeAt.lists_lengths pl.isList pl2.isList (by simp) hu' X.prog X.w X.xe _ ⟨.bl true, H, I, rfl, q⟩
theorem op_eqNil (hu : X.A.units + 64 < cLine) : OpR X (compareOp .Eq) (rNilL X.K false) := by
  intro pins s σ H x y v u Q I rx ry h
  obtain ⟨a, b, xs, rfl, rfl, hx, hy, q⟩ := h
  cases rx
  cases ry
  obtain ⟨its, r, pl, _⟩ := I.list hx
  obtain ⟨its2, r2, pl2, _⟩ := I.list hy
  cases r2
  have hu' : X.A.units < cLine := Nat.lt_of_le_of_lt (Nat.le_add_right _ _) hu
  cases r with
  | nil => exact SeqAt.eq_listAt (e := fun _ => true) pl.isList pl2.isList rfl hu' (fun j h1 => absurd h1 (by simp)) ⟨.bl true, H, I, rfl, q⟩
  | cons r1 r2 => exact SeqAt.eq_list_lengthsAt pl.isList pl2.isList (by simp) hu' ⟨.bl false, H, I, rfl, q⟩
end
/-! ### data, empty dicts too -/
mutual
inductive Dq (K : PySem.W.Frag) (H : Hp) : V → PyData → Prop
  | non : Dq K H .non .none
  | bl (b : Bool) : Dq K H (.bl b) (.bool b)
  | int (i : Int) : Dq K H (.int i) (.int i)
  | str (x : Str) : Dq K H (.str x) (.str x)
  | lst {a : Addr} {xs : List V} {ds : List PyData} : SqL K H a xs → DqAll K H xs ds → Dq K H (.ref a) (.list ds)
  | tup {a : Addr} {xs : List V} {ds : List PyData} : SqT K H a xs → DqAll K H xs ds → Dq K H (.ref a) (.tuple ds)
  | dct {a : Addr} : H a = some (.dK []) → Dq K H (.ref a) (.dict [])
inductive DqAll (K : PySem.W.Frag) (H : Hp) : List V → List PyData → Prop
  | nil : DqAll K H [] []
  | cons {v : V} {vs : List V} {d : PyData} {ds : List PyData} : Dq K H v d → DqAll K H vs ds → DqAll K H (v :: vs) (d :: ds)
end
section
variable {K : PySem.W.Frag} {H H' : Hp}
theorem seqT {a : Addr} {xs : List V} (e : Same H H') (h : SqT K H a xs) : SqT K H' a xs := by
  rcases h with (h | ⟨o, h⟩) | h
  · exact .inl (.inl (e _ _ h))
  · exact .inl (.inr ⟨o, e _ _ h⟩)
  · exact .inr h
mutual
theorem Dq.same (s : Same H H') : ∀ {v : V} {d : PyData}, Dq K H v d → Dq K H' v d
  | _, _, .non => .non
  | _, _, .bl b => .bl b
  | _, _, .int i => .int i
  | _, _, .str x => .str x
  | _, _, .lst h r => .lst (s.seq h) (DqAll.same s r)
  | _, _, .tup h r => .tup (seqT s h) (DqAll.same s r)
  | _, _, .dct h => .dct (s _ _ h)
theorem DqAll.same (s : Same H H') : ∀ {vs : List V} {ds : List PyData}, DqAll K H vs ds → DqAll K H' vs ds
  | _, _, .nil => .nil
  | _, _, .cons h r => .cons (Dq.same s h) (DqAll.same s r)
end
theorem DqAll.length : ∀ {vs : List V} {ds : List PyData}, DqAll K H vs ds → vs.length = ds.length
  | _, _, .nil => rfl
  | _, _, .cons _ r => congrArg Nat.succ r.length
end
section
variable {X : Cx} {pins : List (Addr × Obj)} {σ : L2.St} {H : Hp} {s : Shared}
/-- how a value is read and shown -/
def Rk (X : Cx) (h : Heap) (u : Value) (d : PyData) : Prop := (∃ as, Reads h u d as) ∧ ∃ bs, ReadAtMost h d.depth bs ∧ ReprK X.prog X.w bs h d.depth u d.shown
def RkAll (X : Cx) (h : Heap) (us : List Value) (ds : List PyData) : Prop := (∃ as, ReadsAll h us ds as) ∧ ∃ bs, ReadAtMost h (PyData.depthAll ds) bs ∧ ReprAllK X.prog X.w bs h (PyData.depthAll ds) us (PyData.shownAll ds)
theorem rk_leaf {h : Heap} {u : Value} {d : PyData} (r : Reads h u d []) (i : ReprIs X.prog X.w u d.shown) : Rk X h u d := ⟨⟨_, r⟩, [], (fun _ z => nomatch z), .of_is i _ _ _⟩
mutual
theorem Dq.rk (I : Inv X pins σ H s) : ∀ (d : PyData) (v : V) (u : Value), Dq X.K H v d → RelV v u → d.showable = true → d.shown.length ≤ sizeLine → Rk X s.heap u d
  | .none, _, _, h, r, _, _ => by
    cases h
    cases r
    exact rk_leaf .none ReprIs.none
  | .bool b, _, _, h, r, _, _ => by
    cases h
    cases r
    exact rk_leaf (.bool b) (ReprIs.bool b)
  | .int i, _, _, h, r, hs, _ => by
    cases h
    obtain ⟨t, rfl⟩ := r
    exact rk_leaf (.int i t) (ReprIs.int t (of_decide_eq_true hs))
  | .str x, _, _, h, r, _, hz => by
    cases h
    obtain ⟨t, rfl⟩ := r
    exact rk_leaf (.str x t) (ReprIs.str x t hz)
  | .list ds, _, _, h, r, hs, hz => by
    cases h with
    | @lst a xs _ hq ha =>
      cases r
      obtain ⟨its, rv, ⟨o, n, ho, hc, _, hd⟩, _⟩ := I.list hq
      obtain ⟨⟨as, hr⟩, bs, hb, hk⟩ := DqAll.rk I ds _ its ha rv hs fun t ht => Nat.le_trans (listText_mem_le ht) hz
      have rd : Reads s.heap (.ref a) (.list ds) _ := Reads.list ho hc hd hr
      refine ⟨⟨_, rd⟩, a :: bs, ReadAtMost.cons rd (Nat.le_succ _) hb, ?_⟩
      cases its with
      | nil =>
        cases hr
        exact ReprK.listEmpty ho hc hd
      | cons x l => exact ReprK.list ho hc hd (not_mem_of_deeper rd (Nat.lt_succ_self _) hb) (by simpa using hk.length_eq) fun i y e => hk.item i y (by simpa using e)
  | .tuple ds, _, _, h, r, hs, hz => by
    cases h with
    | @tup a xs _ hq ha =>
      cases r
      obtain ⟨its, rv, ⟨o, ho, hc, n, hd⟩, _⟩ := I.tuple hq
      obtain ⟨⟨as, hr⟩, bs, hb, hk⟩ := DqAll.rk I ds _ its ha rv hs fun t ht => Nat.le_trans (tupleText_mem_le ht) hz
      have rd : Reads s.heap (.ref a) (.tuple ds) _ := Reads.tuple ho hc hd hr
      exact ⟨⟨_, rd⟩, a :: bs, ReadAtMost.cons rd (Nat.le_succ _) hb, ReprK.tuple ho hc hd (not_mem_of_deeper rd (Nat.lt_succ_self _) hb) hk⟩
  | .dict kvs, _, _, h, r, hs, hz => by
    cases h with
    | @dct a ha =>
      cases r
      obtain ⟨_, hsys, vs, hv, o, es, ep, ho, hc, hd, _, he, _⟩ := (show ObjOk X.prog X.w H s.heap a (.dK []) from I.hok a _ ha)
      cases hv
      have he' : es.toList = [] := by
        cases hp : es.toList with
        | nil => rfl
        | cons x l =>
          rw [hp] at he
          cases he
      have e : es = #[] := by
        cases es
        cases he'
        rfl
      subst e
      have rd : Reads s.heap (.ref a) (.dict []) _ := Reads.dict ho hc.1 hd ReadsAll.nil ReadsAll.nil
      exact ⟨⟨_, rd⟩, [a], ReadAtMost.cons rd (Nat.zero_le _) (fun _ z => nomatch z), ReprK.dict ho hc.1 hd hsys (fun z => nomatch z) .nil⟩
theorem DqAll.rk (I : Inv X pins σ H s) : ∀ (ds : List PyData) (vs : List V) (us : List Value), DqAll X.K H vs ds → Vals vs us → PyData.showableAll ds = true → (∀ t ∈ PyData.shownAll ds, t.length ≤ sizeLine) → RkAll X s.heap us ds
  | [], _, _, h, r, _, _ => by
    cases h
    cases r
    exact ⟨⟨_, .nil⟩, [], (fun _ z => nomatch z), .nil⟩
  | d :: ds, _, _, h, r, hs, hz => by
    cases h with
    | cons h1 h2 =>
      cases r with
      | cons r1 r2 =>
        obtain ⟨s1, s2⟩ := Bool.and_eq_true_iff.mp hs
        obtain ⟨⟨_, q1⟩, b1, m1, k1⟩ := Dq.rk I d _ _ h1 r1 s1 (hz _ List.mem_cons_self)
        obtain ⟨⟨_, q2⟩, b2, m2, k2⟩ := DqAll.rk I ds _ _ h2 r2 s2 fun t ht => hz t (List.mem_cons_of_mem _ ht)
        exact ⟨⟨_, .cons q1 q2⟩, b1 ++ b2, (m1.mono (Nat.le_max_left _ _)).append (m2.mono (Nat.le_max_right _ _)),
          .cons ((k1.more fun _ z => List.mem_append_left _ z).level_le (Nat.le_max_left _ _)) (k2.more_le (fun _ z => List.mem_append_right _ z) (Nat.le_max_right _ _))⟩
end
/-- repr of a list -/
def rReprL (K : PySem.W.Frag) : List V → Hp → VK → Prop := fun xs H Q => ∃ (a : Addr) (d : PyData) (ds : List PyData), xs = [.ref a] ∧ Dq K H (.ref a) (.list (d :: ds)) ∧ PyData.showable (.list (d :: ds)) = true ∧ (PyData.shown (.list (d :: ds))).length ≤ sizeLine ∧
  PyData.depth (.list (d :: ds)) ≤ 190 ∧ Q (.str (PyData.shown (.list (d :: ds)))) H
theorem call_reprL (hgd : X.A.guards = some []) (hu : X.A.units + 200 < cLine) : CallR X (.builtin "repr") (rReprL X.K) := by
  intro pins s σ H xs us Q I r h
  obtain ⟨a, d, ds, rfl, hq, hs, hz, hd, q⟩ := h
  obtain ⟨u, rfl, rx⟩ := vals1 r
  cases rx
  cases hq with
  | @lst _ ys _ hl ha =>
    obtain ⟨its, rv, ⟨o, n, ho, hc, _, hda⟩, _⟩ := I.list hl
    obtain ⟨⟨as, hr⟩, bs, hb, hk⟩ := DqAll.rk I (d :: ds) _ its ha rv hs fun t ht => Nat.le_trans (listText_mem_le ht) hz
    have rd : Reads s.heap (.ref a) (.list (d :: ds)) _ := Reads.list ho hc hda hr
    cases its with
    | nil =>
      have hr' : ReadsAll s.heap [] (d :: ds) as := hr
      cases hr'
    | cons x l =>
      have hd' : PyData.depthAll (d :: ds) + 1 ≤ 190 := hd
      refine call_repr_slot (by omega) ⟨o, ho, hc⟩ F.slot_list_repr.toG (call_list_reprK ho hc hda (not_mem_of_deeper rd (Nat.lt_succ_self _) hb) (by simpa using hk.length_eq) (fun i y e => hk.item i y (by simpa using e)) hgd (fun b _ => Clear.nil b)
        (by show X.A.units + 1 + (PyData.depthAll (d :: ds) + 1) < cLine; omega) (fun _ _ e => e) (fun h' u tk k => ⟨_, _, rfl, .str (PyData.shown (.list (d :: ds))), H, I.kept k, ⟨_, rfl⟩, q⟩) hz)
end
/-! ### len, its deed by a name -/
def rLenS (K : PySem.W.Frag) : List V → Hp → VK → Prop := fun xs H Q => ∃ p ys, xs = [.ref p] ∧ (SqL K H p ys ∨ SqT K H p ys) ∧ Q (.int ys.length) H
theorem call_lenS {X : Cx} : CallR X (.builtin "len") (rLenS X.K) := call_len_seq

/-! ### walking what is a list or a tuple -/
/-- a list (true) or a tuple (false) -/
def SeqB (b : Bool) (K : PySem.W.Frag) (H : Hp) (a : Addr) (xs : List V) : Prop := if b = true then SqL K H a xs else SqT K H a xs
theorem SeqB.same {b : Bool} {K : PySem.W.Frag} {H H' : Hp} {a : Addr} {xs : List V} (h : SeqB b K H a xs) (s : Same H H') : SeqB b K H' a xs := by
  cases b with
  | true => exact s.seq h
  | false => exact seqT s h
theorem SeqB.or {b : Bool} {K : PySem.W.Frag} {H : Hp} {a : Addr} {xs : List V} (h : SeqB b K H a xs) : SqL K H a xs ∨ SqT K H a xs := by
  cases b with
  | true => exact .inl h
  | false => exact .inr h
theorem SeqB.knd {b : Bool} {K : PySem.W.Frag} {H : Hp} {a : Addr} {xs : List V} (h : SeqB b K H a xs) : ∃ k : Kn, Knd K H (.ref a) k ∧ (k.isLst || k.isTup) = true := by
  cases b with
  | true =>
    refine ⟨.lst, ?_, rfl⟩
    rcases h with (h | ⟨o, h⟩) | ⟨o, its, n, h, c, _⟩
    · exact .base (.lst h)
    · exact .base (.frz h)
    · exact .kList h c
  | false =>
    refine ⟨.tup, ?_, rfl⟩
    rcases h with (h | ⟨o, h⟩) | ⟨o, its, n, h, c, _⟩
    · exact .base (.tup h)
    · exact .fTuple h
    · exact .kTuple h c
section
variable {X : Cx} {tg : Expr}
/-- the walk of a list or a tuple at a: whichever it is, its turns are the items -/
def iSeqA (K : PySem.W.Frag) (tl : TE) : TI := fun σ H R => tl σ H fun x H1 => ∃ a xs b, x = .ref a ∧ SeqB b K H1 a xs ∧
  ∀ J : It, Walk J xs.length (fun H => SeqB b K H a xs) (YAt xs) → R J H1
theorem pi_seqA {l : Expr} {tl : TE} (hl : PE X l tl) : PI X tg l (iSeqA X.K tl) := by
  refine ⟨fun pins s σ H R I h => ?_⟩
  refine thn (hl.run pins s σ H _ I h) fun v s1 ⟨x, H1, I1, r1, q1⟩ => ?_
  obtain ⟨a, xs, b, e, hq, q⟩ := q1
  subst e
  cases r1
  cases b with
  | true =>
    have hq : SqL X.K H1 a xs := hq
    have q := q (Itl X.K a) walk_list
    obtain ⟨its, rv, p, hz⟩ := I1.list hq
    refine wpAny_pyIter_list p.isList ?_
    refine ⟨s1.heap.objs.size, [s1.heap.objs.size], _, _, H1, rfl, I1.kept (t' := s1.toks) fun b o e => Heap.get?_push_of_some _ e, turn_list a _, ⟨_, Heap.get?_push_size _ rfl, rfl, rfl⟩, fun b hb => ?_, q⟩
    have e : b = s1.heap.objs.size := by simpa using hb
    subst e
    exact I1.fpOk (Nat.le_refl _) (I1.hok.fresh (Nat.le_refl _))
  | false =>
    have hq : SqT X.K H1 a xs := hq
    have q := q (Itt X.K a) walk_tup
    obtain ⟨its, rv, p, hz⟩ := I1.tuple hq
    refine wpAny_pyIter_tuple (show s1.heap.IsTuple a its.toArray from p) ?_
    refine ⟨s1.heap.objs.size, [s1.heap.objs.size], _, _, H1, rfl, I1.kept (t' := s1.toks) fun b o e => Heap.get?_push_of_some _ e, turn_tuple a _, ⟨_, Heap.get?_push_size _ rfl, rfl, rfl⟩, fun b hb => ?_, q⟩
    have e : b = s1.heap.objs.size := by simpa using hb
    subst e
    exact I1.fpOk (Nat.le_refl _) (I1.hok.fresh (Nat.le_refl _))
end
/-! ### reversed(..) of a list or a tuple -/
section
variable {X : Cx} {tg : Expr}
theorem pe_wide {e : Expr} {te : TE} (h : PE X e te) : PE X e (fun σ H Q => ∃ Q' : VK, te σ H Q' ∧ ∀ v H1, Q' v H1 → Q v H1) :=
  ⟨fun pins s σ H Q I ⟨Q', q, m⟩ => wpAny_mono (h.run pins s σ H Q' I q) (fun _ _ ⟨v, H1, J, r, z⟩ => ⟨v, H1, J, r, m v H1 z⟩) fun _ _ z => z⟩
theorem walk_revT {K : PySem.W.Frag} {a : Addr} {xs : List V} : Walk (RT.ItvT K a xs.length) xs.length (fun H => SqT K H a xs) (fun i H x H' => H' = H ∧ xs[xs.length - 1 - i]? = some x) :=
  ⟨fun i _ hi q => ⟨hi, xs, xs[xs.length - 1 - i]'(by omega), q, by simp [show xs.length - 1 - i < xs.length by omega]⟩, fun _ _ => Nat.le_refl _, fun _ _ _ _ _ q y => ⟨y.1, y.2 xs q⟩⟩
def iRevS (K : PySem.W.Frag) (te : TE) : TI := fun σ H R => te σ H fun v H1 => ∃ (a : Addr) (xs : List V) (b : Bool), v = .ref a ∧ SeqB b K H1 a xs ∧
  ∀ J : It, Walk J xs.length (fun H => SeqB b K H a xs) (fun i H x H' => H' = H ∧ xs[xs.length - 1 - i]? = some x) → R J H1
theorem pi_revS {e : Expr} {te : TE} {p pos : Pos} (hg : Gl X "reversed") (hm : X.mg "reversed" = none) (he : PE X e te) (hs : starEach [e] X.env = (false, eval e X.env) :: starEach [] X.env := by rfl) : PI X tg (.Call (.Name "reversed" p) [e] [] pos) (iRevS X.K te) := by
  refine ⟨fun pins s σ H R I h => (RT.pi_revA hg hm (pe_wide he) hs).run pins s σ H R I ⟨_, h, fun v H1 hh => ?_⟩⟩
  obtain ⟨a, xs, b, ev, hq, q⟩ := hh
  cases b with
  | true => exact ⟨a, xs, ev, .inl ⟨hq, q _ walk_rev⟩⟩
  | false => exact ⟨a, xs, ev, .inr ⟨hq, q _ walk_revT⟩⟩
end
theorem kit_lt {K : PySem.W.Frag} (k : Kn) : PySem.W.kitAny K (.type k.name) [.type "list", .type "tuple"] = some (k.isLst || k.isTup) := by
  have h1 := kit_lst (K := K) k
  have h2 := kit_tup (K := K) k
  unfold PySem.W.kitAny
  rw [h1]
  cases k.isLst with
  | true => rfl
  | false =>
    show PySem.W.kitAny K (.type k.name) [.type "tuple"] = _
    unfold PySem.W.kitAny
    rw [h2]
    cases k.isTup <;> rfl


/-! ### SeekError.__init__(self, ..): the class's own name, the built-in's deed -/
section
variable {X : Cx} {e : Expr} {es : List Expr} {ta : TA} {p1 p2 pos : Pos} {S : Addr} {mc : Value}
theorem pe_seinit {x : Str} {pl : Sem Bool} (hg : Gl X x) (hm : X.mg x = some (.ref S)) (hga : PySem.W.specialIn X.K (.ref S) "__getattribute__" = some (some (.builtin "type.__getattribute__"))) (hrd : PySem.W.readsIn X.K S mc = true)
    (vV : PySem.W.findCls X.K (.ref S) mc "__init__" = some (.val (.builtin "ValueError.__init__"))) (ha : PA X (e :: es) ta) (hdb : (x == ("__debug__" : Str)) = false := by decide)
    (hc : eval (.Call (.Attribute (.Name x p1) "__init__" p2) (e :: es) [] pos) X.env = (do
      let ov ← eval (.Name x p1) X.env
      standAt p2.atName
      let (f, first) ← holding [ov] (getMethod ov "__init__" pl)
      callWith pos f first (backTo pos (starEach (e :: es) X.env)) (backToKw pos (keywordEach [] X.env))) := by rfl)
    (he : starEach (e :: es) X.env = (false, eval e X.env) :: starEach es X.env := by rfl) (hpl : (backTo pos (starEach es X.env)).any (·.1) = false := by rfl) :
    PE X (.Call (.Attribute (.Name x p1) "__init__" p2) (e :: es) [] pos) (tVeI X.K ta) := by
  refine ⟨fun pins s σ H Q I h => PySem.W.methodCall_KW (ld_glob I hg hm (PySem.W.method_cls I.kIn hga (PySem.W.cls_value I.kIn hrd vV (by decide +kernel) ?_)) hdb) hc⟩
  show wpAny _ _ (callWith pos (Value.builtin "ValueError.__init__") [] (backTo pos (starEach (e :: es) X.env)) []) _ _ _
  refine PyProof.Rows.callWith_method1 (thn (ha.run pos pins _ σ H _ (I.tok _) h) fun us s1 ⟨vs, H1, I1, r1, a, C, ws, ev, hl, T, ea, q⟩ => ?_) he hpl
  subst ev
  match us, r1 with
  | u0 :: ur, .cons ra rr =>
    cases (show u0 = Value.ref a from ra)
    exact oinit_ok T I1 ea (by rw [← Paired.length rr, sizeLine_eq]; omega) fun s' J => ⟨.non, H1, J, rfl, q⟩
end
/-! ### isinstance(e, C), isinstance(e, (C, D)), e the caught exception with its dict -/
section
open PySem.W
variable {prog : Program} {w : World} {A : Around} {E : Value → Shared → Prop} {s : Shared} {K : Frag} {x D : Addr} {ox : Obj} {od : Option Obj}
theorem class_of_exc (C : ExcC K D) {Q : Option Value → Shared → Prop} (X : K.In s.heap) (I : InstAt s.heap x ox D od) (h : Q (some (.ref D)) { s with toks := s.toks + 1 }) : wpAny (model prog w) A (getAttr? (.ref x) "__class__") Q E s := by
  have hf : findObj K D od "__class__" = some (.bind (.builtin "getset_descriptor.__get__") (.builtin "object.__class__")) := by
    obtain ⟨cd, hc, _⟩ := any_some C.hd
    unfold findObj
    rw [hc, Option.bind_some, C.ha, Option.bind_some]
    simp [C.hn, C.ht]
  obtain ⟨hp, g, d, t, os⟩ := s
  have L0 := I.type (M := model prog w)
  have no : (onTheHeap (Value.ref D) && Value.builtin "BaseException.__getattribute__" == Value.builtin "object.__getattribute__") = false := by
    rw [show (Value.builtin "BaseException.__getattribute__" == Value.builtin "object.__getattribute__") = false by decide +kernel]
    rfl
  unfold getAttr? getAttrBy? getAttrBy
  refine wpAny_bind (wpAny_mkText (wpAny_bind (wpAny_attempt (wpAny_holding (wpAny_bind (L0.at (wpAny_bind ((looks_findIn X C.hg).at ?_))))))))
  dsimp only
  rw [no, if_neg Bool.false_ne_true]
  unfold getAttrByItsOwn hookBefore
  refine wpAny_bind ?_
  rw [if_pos (show onTheHeap (Value.ref D) = true from rfl)]
  refine (looks_findIn X C.hk).at (wpAny_bind (wpAny_attempt (wpAny_holding ?_)))
  unfold callGetattribute
  rw [if_neg (show ¬ (false && onTheHeap (Value.builtin "BaseException.__getattribute__")) = true from Bool.false_ne_true)]
  unfold boundAndCalled
  rw [PySem.F.excAttr_ValueError.ga.bind (.ref x)]
  refine wpAny_bind (wpAny_pure (wpAny_call (codeAny_call_builtin PySem.F.excAttr_ValueError.ga.plain PySem.F.entry_bexc_ga ?_)))
  refine @check_slot (model prog w) _ _ ⟨hp, g, d, t + 1, os⟩ "BaseException.__getattribute__" "BaseException" "__getattribute__" (.ref x) [.str "__class__" t] [] _ (by decide +kernel) (by decide +kernel) (L0.andThen (looks_subIn X C.hs)) (PySem.F.args_bexc_ga (.ref x) (.str "__class__" t)) ?_
  unfold Builtin.«object.__getattribute__»
  refine wpAny_bind (wpAny_of_eq (a := ((Value.ref x : Value), [Value.str "__class__" t])) (by first | rfl | (simp only [slotArgs]; rfl)) ?_)
  refine wpAny_bind (wpAny_pure (wpAny_bind (L0.at (wpAny_bind ((looks_find (M := model prog w) X I hf).at ?_)))))
  show wpAny _ _ (holding [Value.builtin "object.__class__"] (call (.builtin "getset_descriptor.__get__") [.builtin "object.__class__", .ref x, .ref D]) >>= ret) _ _ _
  refine wpAny_bind (wpAny_holding (wpAny_call (class_get (s := ⟨hp, g, d, t + 1, os⟩) (ox := ox) (od := od) X I C.hm (wpAny_pure ?_))))
  show wpAny _ _ (handedOut (.ref D)) _ _ _
  rw [handedOut_of (v := .ref D) rfl]
  first
    | exact wpAny_pure (wpAny_pure h)
    | exact wpAny_pure h
    | exact wpAny_pure (wpAny_bind (wpAny_pure (wpAny_pure h)))
theorem kit_exc (C : ExcC K D) (hd : ∃ cd, clsIn K D = some cd) : KitX K (.ref x) (.ref D) (fun h => InstAt h x ox D od) where
  ty := fun _ _ _ I => I.type
  it := fun _ _ X _ => by
    obtain ⟨cdD, hcD⟩ := hd
    unfold clsIn at hcD
    split at hcD
    · rename_i c' d' cd' sl' ho
      intro A' Q' E' s' k q
      unfold isType loadHead
      exact wpAny_bind (wpAny_loadPart (k _ _ (X _ _ ho)) (wpAny_pure q))
    · cases hcD
  ne := fun h tp dd its n sl X htp => by
    obtain ⟨cdD, hcD⟩ := hd
    refine Bool.eq_false_iff.mpr fun q => ?_
    cases (Value.ref.inj (beq_iff_eq.mp q))
    unfold clsIn at hcD
    split at hcD
    · rename_i c' d' cd' sl' ho
      cases (X _ _ ho).symm.trans htp
    · cases hcD
  ca := fun X I k => class_of_exc C X I k
end
/-- isinstance of the exception at a that the suite holds; its class D, its dict dd -/
def rIsX (K : PySem.W.Frag) (a : Addr) (cls : Value) (d : Option Addr) : List V → Hp → VK → Prop := fun xs H Q => ∃ (D dd : Addr) (fs : List (Str × V)) (b : Bool), cls = .ref D ∧ d = some dd ∧ H dd = some (.xd fs) ∧ ExcC K D ∧
  ((∃ c cv, xs = [.ref a, c] ∧ ClsV c cv ∧ PySem.W.kitOne K (.ref D) cv = some b) ∨ ∃ tp cs us, xs = [.ref a, .ref tp] ∧ H tp = some (.tup cs) ∧ Paired ClsV cs us ∧ PySem.W.kitAny K (.ref D) us = some b) ∧ Q (.bl b) H
theorem call_isX {X : Cx} {a : Addr} {oe : Obj} {cls : Value} {d : Option Addr} {pn : List (Addr × Obj)} (hz : Zc cls d oe) (hf : ∃ vs, oe.data = .fields vs) : CallR (X.suite a ((a, oe) :: pn)) (.builtin "isinstance") (rIsX X.K a cls d) := by
  intro pins s σ H xs us Q I r h
  obtain ⟨D, dd, fs, b, rfl, rfl, hdd, C, hk, q⟩ := h
  obtain ⟨hget, _⟩ := I.pin (a, oe) (List.mem_append_left _ List.mem_cons_self)
  obtain ⟨vs, hv⟩ := hf
  obtain ⟨mA, hns, _⟩ := (show ObjOk X.prog X.w H s.heap dd (.xd fs) from I.hok dd _ hdd)
  obtain ⟨od, ho, _⟩ := lookIn_ns hns
  have J : PySem.W.InstAt s.heap a oe D (some od) := ⟨hget, hz.1, by unfold PySem.W.notCls; rw [hv] <;> rfl, by rw [hz.2]; exact ho⟩
  have Z := kit_exc (x := a) (ox := oe) (od := some od) C (let ⟨cd, hc, _⟩ := PySem.W.any_some C.hd; ⟨cd, hc⟩)
  have fin : ∀ tk, EP (X.suite a ((a, oe) :: pn)) pins σ Q (.bool b) { s with toks := tk } := fun tk => ⟨.bl b, H, I.tok tk, rfl, q⟩
  rcases hk with ⟨c, cv, rfl, k, e⟩ | ⟨tp, cs, ws, rfl, hT, k, e⟩
  · obtain ⟨u1, u2, rfl, r1, r2⟩ := vals2 r
    cases r1
    have e2 := k.eq r2
    subst e2
    exact PySem.W.kia_one Z I.kIn J e (fun z => nomatch z) fin
  · obtain ⟨u1, u2, rfl, r1, r2⟩ := vals2 r
    cases r1
    cases (show u2 = Value.ref tp from r2)
    obtain ⟨_, its, rv, o, h1, h2, n, h3⟩ := (show ObjOk X.prog X.w H s.heap tp (.tup cs) from I.hok tp _ hT)
    have e3 := ClsV.all k rv
    subst e3
    obtain ⟨oc, oD, dt, sl⟩ := o
    simp only at h2 h3
    subst h2 h3
    exact PySem.W.kia_tup Z I.kIn J h1 e (fun z => nomatch z) fin
/-! ### try with several clauses, named or not -/
abbrev HdR := Value × (Addr → Value → Option Addr → TS)
/-- what the clauses wish of what the body raises, the first that fits -/
def wMix (K : PySem.W.Frag) (Wout : WX) (D : Ends) : List HdR → WX
  | [] => Wout
  | (c, r) :: l => fun cls d σ H => ∃ b, PySem.W.exmOne K cls c = some b ∧ (b = true → ∀ a, H a = none → r a cls d D σ H) ∧ (b = false → wMix K Wout D l cls d σ H)
/-- a named clause's suite: the name holds the exception, and is gone behind it -/
def asName (i : Nat) (ts : Addr → Value → Option Addr → TS) : Addr → Value → Option Addr → TS := fun a cls d D σ H =>
  ts a cls d { nx := fun σ' H' => D.nx (σ'.set i none) H', rt := D.rt, bk := fun σ' H' => D.bk (σ'.set i none) H', ct := fun σ' H' => D.ct (σ'.set i none) H' } (σ.set i (some (.ref a))) H
def SuiteOk (X : Cx) (b : List Stmt) (ts : Addr → Value → Option Addr → TS) : Prop :=
  ∀ (a : Addr) (oe : Obj) (cls : Value) (d : Option Addr) (pn : List (Addr × Obj)), Zc cls d oe → (∃ vs, oe.data = .fields vs) → PSs (X.suite a ((a, oe) :: pn)) b (ts a cls d)
inductive MixOk (X : Cx) : List ExceptHandler → List HdR → Prop
  | nil : MixOk X [] []
  | bare {x : Str} {c : Value} {ts : Addr → Value → Option Addr → TS} {b0 : Stmt} {bs : List Stmt} {np ps : Pos} {hds : List ExceptHandler} {l : List HdR} (hc : Names X x c) (hsu : SuiteOk X (b0 :: bs) ts) (r : MixOk X hds l) :
      MixOk X (.ExceptHandler (some (.Name x np)) none (b0 :: bs) ps :: hds) ((c, ts) :: l)
  | named {x n : Str} {i : Nat} {c : Value} {ts : Addr → Value → Option Addr → TS} {b0 : Stmt} {bs : List Stmt} {np ps : Pos} {hds : List ExceptHandler} {l : List HdR} (hc : Names X x c) (hN : X.N.Nodup) (hi : X.N[i]? = some n) (hln : X.env.kindOf n = some .local)
      (hsu : SuiteOk X (b0 :: bs) ts) (r : MixOk X hds l) : MixOk X (.ExceptHandler (some (.Name x np)) (some n) (b0 :: bs) ps :: hds) ((c, asName i ts) :: l)
section
variable {X : Cx} {body : List Stmt} {h0 : ExceptHandler} {hds : List ExceptHandler} {l : List HdR} {pos : Pos} {tb : WX → TS} {Wout : WX}
theorem ps_try_mix (hs : X.stack = X.env :: X.outer) (hf : X.env.frame = some X.env.locals) (tk : Takes X Wout)
    (hb : ∀ (W : WX) (pn : List (Addr × Obj)) (xe : Value → Shared → Prop), Takes (X.tr pn xe) W → PassesOwn (model X.prog X.w) X.A X.env xe → PSs (X.tr pn xe) body (tb W))
    (hh : MixOk X (h0 :: hds) l) : PS X (.Try body (h0 :: hds) [] [] pos) (fun D σ H => tb (wMix X.K Wout D l) D σ H) := by
  refine ⟨fun pins s σ H D I h => wpAny_Try_except ?_⟩
  have ok := I.ok
  refine wpAny_mono ((hb (wMix X.K Wout D l) (X.pn ++ pins) _ (fun u s' xx => ?_) PassesOwn.looking).run [] s σ H D (I.toTry _) h) (fun f s1 hsp => ?_) (fun e s1 he => he)
  · -- what was raised is looked at by the clauses
    obtain ⟨a, B, sI, pins', σ', H', cls, d, rfl, J', nb, up, sky, na, os, ag, w⟩ := xx
    have J : Inv X pins σ' H' sI := J'.ofTry ok
    rw [hs] at sky
    refine Sky.land Zc.steady (show X.A.frames = some (X.env :: X.outer) by rw [ok.frames, hs]) hf sky fun h3 fl3 up3 => ?_
    have land : ∀ {h4 : Heap}, HandSPX.FlyingZ B (X.env :: X.outer) a (Zc cls d) h4 → _ → Inv X pins σ' H' { s' with heap := h4 } := fun {h4} fl4 up4 => J.landed nb fl4.1 (up.trans up4) os ag
    have J3 := land fl3 up3
    obtain ⟨oe3, vs3, he3, hz3, hd3⟩ := fl3.there
    have nfr : a ∉ frs (X.env :: X.outer) := fun hm => by
      obtain ⟨_, o', e', hnf⟩ := fl3.2.2.1.mem hm
      rw [he3] at e'
      cases e'
      exact hnf _ hd3
    have nL : a ≠ X.env.locals := fun z => nfr (List.mem_filterMap.mpr ⟨X.env, List.mem_cons_self, by rw [hf, z]⟩)
    have nF : a ∉ X.fs := fun hm => by
      obtain ⟨e, he, q⟩ := List.mem_filterMap.mp hm
      exact nfr (List.mem_filterMap.mpr ⟨e, List.mem_cons_of_mem _ he, q⟩)
    have S3 := J3.suite he3 hd3 na nL nF
    have LT : PySem.W.Looks (model X.prog X.w) h3 (typeOf (.ref a)) cls := fun A Q E s k q => wpAny_typeOf_ref (k _ _ he3) (by rw [hz3.1]; exact q)
    have test : ∀ {x : Str} {c : Value} {np : Pos} {Q : Value → Shared → Prop} {E : Value → Shared → Prop}, Names X x c → Q c { s' with heap := h3 } → wpAny (model X.prog X.w) (X.A.mark (some (.ref a))) (eval (.Name x np) X.env) Q E { s' with heap := h3 } := fun {x c np Q E} hc q => by
      obtain ⟨hg, hdbg, hm | ⟨hm, hv, hnn⟩⟩ := hc
      · exact ld_glob (X := X.suite a ((a, oe3) :: (X.pn ++ pins))) S3 hg hm q hdbg
      · exact ld_blt (X := X.suite a ((a, oe3) :: (X.pn ++ pins))) S3 hg hm hv q hnn hdbg
    have go : ∀ {hds' : List ExceptHandler} {l' : List HdR}, MixOk X hds' l' → wMix X.K Wout D l' cls d σ' H' → wpAny (model X.prog X.w) X.A (handleBy (.ref a) X.env hds') (SP X pins D) X.xe { s' with heap := h3 } := by
      intro hds' l' hk
      induction hk with
      | nil =>
        intro w
        refine wpAny_handleBy_nil ?_
        obtain ⟨_, _, _, oe, vs, T, oT, ts', he, hz, hd, h1, hr⟩ := id fl3
        unfold PySem.passOn
        refine wpAny_bind (wpAny_field he hd h1 ?_)
        rw [if_neg (show ¬ ((Value.ref T == Value.none) = true) by simp)]
        have fin : wpAny (model X.prog X.w) X.A (setFlight (.ref a) X.env.frame) (fun _ s4 => wpAny (model X.prog X.w) X.A (throw (.ref a) : Sem Flow) (SP X pins D) X.xe s4) X.xe { s' with heap := h3 } := by
          rw [hf]
          exact HandSPX.setFlight_upZ fl3 fun h4 hh4 up4 => wpAny_throw (tk _ _ ⟨a, B, sI, pins, σ', H', cls, d, rfl, J, nb, (up.trans up3).trans up4, .inr (.inr (by rw [hs]; exact hh4)), na, os, ag, w⟩)
        first
          | exact wpAny_bind (wpAny_pure (wpAny_bind fin))
          | exact wpAny_bind fin
      | bare hc hsu r ih =>
        intro w
        obtain ⟨b, hb1, hyes, hno⟩ := w
        refine wpAny_handleBy_cons (codeAny_handlers_test (test hc ((PySem.W.exm_one (M := model X.prog X.w) J3.kIn LT hb1).here ?_))) (by intro q; cases q)
        cases b with
        | false => exact ih (hno rfl)
        | true =>
          refine codeAny_handlers_suite (HandSPX.lands_againZ fl3 fun h4 fl4 up4 => ?_)
          obtain ⟨oe4, vs4, he4, hz4, hd4⟩ := fl4.there
          have S4 := (land fl4 (up3.trans up4)).suite he4 hd4 na nL nF
          refine wpAny_mono ((hsu a oe4 cls d (X.pn ++ pins) hz4 ⟨_, hd4⟩).run [] _ _ H' _ S4 (hyes rfl a na)) (fun f s6 hsp => ?_) (fun _ _ z => z.elim)
          match f, hsp with
          | .next, ⟨σ6, H6, S6, q6⟩ => exact ⟨_, _, S6.unsuite ok, q6⟩
          | .brk, ⟨σ6, H6, S6, q6⟩ => exact ⟨_, _, S6.unsuite ok, q6⟩
          | .cont, ⟨σ6, H6, S6, q6⟩ => exact ⟨_, _, S6.unsuite ok, q6⟩
          | .ret u, ⟨v6, σ6, H6, S6, r6, q6⟩ => exact ⟨_, _, _, S6.unsuite ok, r6, q6⟩
      | @named x n i c ts b0 bs np ps hds2 l2 hc hN hi hln hsu r ih =>
        intro w
        obtain ⟨b, hb1, hyes, hno⟩ := w
        refine wpAny_handleBy_cons (codeAny_handlers_test (test hc ((PySem.W.exm_one (M := model X.prog X.w) J3.kIn LT hb1).here ?_))) (by intro q; cases q)
        cases b with
        | false => exact ih (hno rfl)
        | true =>
          refine codeAny_handlers_suite_as (HandSPX.lands_againZ fl3 fun h4 fl4 up4 => ?_)
          obtain ⟨oe4, vs4, he4, hz4, hd4⟩ := fl4.there
          have S4 := (land fl4 (up3.trans up4)).suite he4 hd4 na nL nF
          refine store_ok (X := X.suite a ((a, oe4) :: (X.pn ++ pins))) (v := .ref a) S4 hN hi (.inl hln) rfl (fun s5 S5 => ?_) (.inr hln)
          refine wpAny_mono ((hsu a oe4 cls d (X.pn ++ pins) hz4 ⟨_, hd4⟩).run [] s5 _ H' _ S5 (hyes rfl a na)) (fun f s6 hsp => ?_) (fun _ _ z => z.elim)
          match f, hsp with
          | .next, ⟨σ6, H6, S6, q6⟩ => exact gone_ok (S6.unsuite ok) hN hi hln fun s7 J7 => ⟨_, _, J7, q6⟩
          | .brk, ⟨σ6, H6, S6, q6⟩ => exact gone_ok (S6.unsuite ok) hN hi hln fun s7 J7 => ⟨_, _, J7, q6⟩
          | .cont, ⟨σ6, H6, S6, q6⟩ => exact gone_ok (S6.unsuite ok) hN hi hln fun s7 J7 => ⟨_, _, J7, q6⟩
          | .ret u, ⟨v6, σ6, H6, S6, r6, q6⟩ => exact gone_ok (S6.unsuite ok) hN hi hln fun s7 J7 => ⟨_, _, _, J7, r6, q6⟩
    exact go hh w
  · match f, hsp with
    | .next, ⟨σ', H', J', q⟩ => exact wpAny_execs_nil ⟨σ', H', J'.ofTry ok, q⟩
    | .brk, ⟨σ', H', J', q⟩ => exact ⟨σ', H', J'.ofTry ok, q⟩
    | .cont, ⟨σ', H', J', q⟩ => exact ⟨σ', H', J'.ofTry ok, q⟩
    | .ret u, ⟨v, σ', H', J', r, q⟩ => exact ⟨v, σ', H', J'.ofTry ok, r, q⟩
end
/-! ### isinstance against an own class, against a built-in one -/
theorem kit_refE {K : PySem.W.Frag} {C : Addr} {cls : Value} {b : Bool} (hdct : PySem.W.hasDictIn K C = true) (ht : PySem.W.typeIn K (.ref C) = some (.type "type")) (h4 : PySem.W.subIn K cls (.ref C) = some b) (hb : cls = .ref C → some true = some b) : PySem.W.kitOne K cls (.ref C) = some b := by
  obtain ⟨cd, hc, _⟩ := PySem.W.any_some hdct
  have e2 : ((PySem.W.clsIn K C).isSome && PySem.W.typeIn K (.ref C) == some (.type "type")) = true := by rw [hc, ht] <;> rfl
  unfold PySem.W.kitOne
  by_cases e : (cls == .ref C) = true
  · rw [if_pos e]
    exact hb (eq_of_beq e)
  · rw [if_neg e]
    show (if ((PySem.W.clsIn K C).isSome && PySem.W.typeIn K (.ref C) == some (.type "type")) = true then PySem.W.subIn K cls (.ref C) else none) = some b
    rw [if_pos e2]
    exact h4
theorem kit_tyE {K : PySem.W.Frag} {C : Addr} {n : String} {b : Bool} (h : PySem.W.subIn K (.ref C) (.type n) = some b) (hm : PySem.W.kitMeta n = true) : PySem.W.kitOne K (.ref C) (.type n) = some b := by
  unfold PySem.W.kitOne
  rw [if_neg (show ¬ ((Value.ref C == Value.type n) = true) by simp)]
  show (if PySem.W.kitMeta n = true then PySem.W.subIn K (.ref C) (.type n) else none) = some b
  rw [if_pos hm]
  exact h


def topS (i : Nat) : Stmt := PySem.Challenge.pw_fairseek_k05_rows_and_comings.main.body.getD i (.Pass ⟨0, 0, 0, 0⟩)
abbrev s_is_whole : Stmt := topS 9
abbrev s_is_within : Stmt := topS 10
abbrev s_is_name : Stmt := topS 11
abbrev s_is_unknown : Stmt := topS 16
abbrev s_is_pair : Stmt := topS 17
abbrev s_is_single : Stmt := topS 18
abbrev s_is_term : Stmt := topS 19
abbrev s_need_term : Stmt := topS 20
abbrev s_parts_within : Stmt := topS 21
abbrev s_numbers_in : Stmt := topS 22
abbrev s_turned_into : Stmt := topS 23
abbrev s_by_coming : Stmt := topS 24
abbrev s_listed : Stmt := topS 25
abbrev s_items_of : Stmt := topS 26
abbrev s_l_cell : Stmt := topS 28
abbrev s_l_purse : Stmt := topS 29
abbrev s_l_take : Stmt := topS 30
abbrev s_l_single : Stmt := topS 31
abbrev s_l_term : Stmt := topS 32
abbrev s_l_room : Stmt := topS 33
abbrev s_l_parts : Stmt := topS 34
abbrev s_l_renamed : Stmt := topS 35
abbrev s_l_pairs : Stmt := topS 36
abbrev s_l_said : Stmt := topS 37
abbrev s_l_due : Stmt := topS 38
abbrev s_l_rows_right : Stmt := topS 39
abbrev s_l_items_right : Stmt := topS 40
abbrev s_l_refused : Stmt := topS 41
abbrev s_l_great_right : Stmt := topS 42
abbrev s_law : Stmt := topS 43
abbrev s_NoTerm_init : Stmt := inClass (topS 2) 0
abbrev s_NoPlace_init : Stmt := inClass (topS 3) 0
abbrev s_TooGreat_init : Stmt := inClass (topS 4) 0
structure Env (K : PySem.W.Frag) (mg : Str → Option Value) where
  a_is_whole : Addr
  d_is_whole : FuncData
  F_is_whole : Fun K "is_whole" "is_whole" s_is_whole a_is_whole d_is_whole
  b_is_whole : Binds K d_is_whole ["thing"] []
  g_is_whole : mg "is_whole" = some (.ref a_is_whole)
  a_is_within : Addr
  d_is_within : FuncData
  F_is_within : Fun K "is_within" "is_within" s_is_within a_is_within d_is_within
  b_is_within : Binds K d_is_within ["thing", "low", "high"] []
  g_is_within : mg "is_within" = some (.ref a_is_within)
  a_is_name : Addr
  d_is_name : FuncData
  F_is_name : Fun K "is_name" "is_name" s_is_name a_is_name d_is_name
  b_is_name : Binds K d_is_name ["thing"] []
  g_is_name : mg "is_name" = some (.ref a_is_name)
  a_is_unknown : Addr
  d_is_unknown : FuncData
  F_is_unknown : Fun K "is_unknown" "is_unknown" s_is_unknown a_is_unknown d_is_unknown
  b_is_unknown : Binds K d_is_unknown ["thing"] []
  g_is_unknown : mg "is_unknown" = some (.ref a_is_unknown)
  a_is_pair : Addr
  d_is_pair : FuncData
  F_is_pair : Fun K "is_pair" "is_pair" s_is_pair a_is_pair d_is_pair
  b_is_pair : Binds K d_is_pair ["term"] []
  g_is_pair : mg "is_pair" = some (.ref a_is_pair)
  a_is_single : Addr
  d_is_single : FuncData
  F_is_single : Fun K "is_single" "is_single" s_is_single a_is_single d_is_single
  b_is_single : Binds K d_is_single ["thing"] []
  g_is_single : mg "is_single" = some (.ref a_is_single)
  a_is_term : Addr
  d_is_term : FuncData
  F_is_term : Fun K "is_term" "is_term" s_is_term a_is_term d_is_term
  b_is_term : Binds K d_is_term ["thing"] []
  g_is_term : mg "is_term" = some (.ref a_is_term)
  a_need_term : Addr
  d_need_term : FuncData
  F_need_term : Fun K "need_term" "need_term" s_need_term a_need_term d_need_term
  b_need_term : Binds K d_need_term ["thing"] []
  g_need_term : mg "need_term" = some (.ref a_need_term)
  a_parts_within : Addr
  d_parts_within : FuncData
  F_parts_within : Fun K "parts_within" "parts_within" s_parts_within a_parts_within d_parts_within
  b_parts_within : Binds K d_parts_within ["term"] []
  g_parts_within : mg "parts_within" = some (.ref a_parts_within)
  a_numbers_in : Addr
  d_numbers_in : FuncData
  F_numbers_in : Fun K "numbers_in" "numbers_in" s_numbers_in a_numbers_in d_numbers_in
  b_numbers_in : Binds K d_numbers_in ["term"] []
  g_numbers_in : mg "numbers_in" = some (.ref a_numbers_in)
  a_turned_into : Addr
  d_turned_into : FuncData
  F_turned_into : Fun K "turned_into" "turned_into" s_turned_into a_turned_into d_turned_into
  b_turned_into : Binds K d_turned_into ["term", "values"] []
  g_turned_into : mg "turned_into" = some (.ref a_turned_into)
  a_by_coming : Addr
  d_by_coming : FuncData
  F_by_coming : Fun K "by_coming" "by_coming" s_by_coming a_by_coming d_by_coming
  b_by_coming : Binds K d_by_coming ["terms"] []
  g_by_coming : mg "by_coming" = some (.ref a_by_coming)
  a_listed : Addr
  d_listed : FuncData
  F_listed : FunD K "listed" "listed" (defArgs s_listed) (defBody s_listed) (defScope s_listed) [V.str "nil"] [] a_listed d_listed
  dv_listed : List Value
  bd_listed : Binds K d_listed ["items", "rest"] dv_listed
  vd_listed : Vals [V.str "nil"] dv_listed
  kb_listed : KBn K d_listed ["items", "rest"] 1 ["rest"] (fun us ws => us ++ ws) (fun vs zs => vs ++ zs)
  b_listed : Binds K d_listed ["items", "rest"] []
  g_listed : mg "listed" = some (.ref a_listed)
  a_items_of : Addr
  d_items_of : FuncData
  F_items_of : Fun K "items_of" "items_of" s_items_of a_items_of d_items_of
  b_items_of : Binds K d_items_of ["term"] []
  g_items_of : mg "items_of" = some (.ref a_items_of)
  a_l_cell : Addr
  d_l_cell : FuncData
  F_l_cell : Fun K "_law_cell" "_law_cell" s_l_cell a_l_cell d_l_cell
  b_l_cell : Binds K d_l_cell ["_law_script", "_law_k"] []
  g_l_cell : mg "_law_cell" = some (.ref a_l_cell)
  a_l_purse : Addr
  d_l_purse : FuncData
  F_l_purse : Fun K "_law_purse" "_law_purse" s_l_purse a_l_purse d_l_purse
  b_l_purse : Binds K d_l_purse ["_law_cell_here"] []
  g_l_purse : mg "_law_purse" = some (.ref a_l_purse)
  a_l_take : Addr
  d_l_take : FuncData
  F_l_take : Fun K "_law_take" "_law_take" s_l_take a_l_take d_l_take
  b_l_take : Binds K d_l_take ["_law_purse_here", "_law_many"] []
  g_l_take : mg "_law_take" = some (.ref a_l_take)
  a_l_single : Addr
  d_l_single : FuncData
  F_l_single : Fun K "_law_single" "_law_single" s_l_single a_l_single d_l_single
  b_l_single : Binds K d_l_single ["_law_purse_here"] []
  g_l_single : mg "_law_single" = some (.ref a_l_single)
  a_l_term : Addr
  d_l_term : FuncData
  F_l_term : Fun K "_law_term" "_law_term" s_l_term a_l_term d_l_term
  b_l_term : Binds K d_l_term ["_law_purse_here", "_law_room_here"] []
  g_l_term : mg "_law_term" = some (.ref a_l_term)
  a_l_room : Addr
  d_l_room : FuncData
  F_l_room : Fun K "_law_room" "_law_room" s_l_room a_l_room d_l_room
  b_l_room : Binds K d_l_room ["_law_purse_here"] []
  g_l_room : mg "_law_room" = some (.ref a_l_room)
  a_l_parts : Addr
  d_l_parts : FuncData
  F_l_parts : Fun K "_law_parts" "_law_parts" s_l_parts a_l_parts d_l_parts
  b_l_parts : Binds K d_l_parts ["_law_term_here"] []
  g_l_parts : mg "_law_parts" = some (.ref a_l_parts)
  a_l_renamed : Addr
  d_l_renamed : FuncData
  F_l_renamed : Fun K "_law_renamed" "_law_renamed" s_l_renamed a_l_renamed d_l_renamed
  b_l_renamed : Binds K d_l_renamed ["_law_term_here", "_law_known"] []
  g_l_renamed : mg "_law_renamed" = some (.ref a_l_renamed)
  a_l_pairs : Addr
  d_l_pairs : FuncData
  F_l_pairs : Fun K "_law_pairs" "_law_pairs" s_l_pairs a_l_pairs d_l_pairs
  b_l_pairs : Binds K d_l_pairs ["_law_items", "_law_last"] []
  g_l_pairs : mg "_law_pairs" = some (.ref a_l_pairs)
  a_l_said : Addr
  d_l_said : FuncData
  F_l_said : Fun K "_law_said" "_law_said" s_l_said a_l_said d_l_said
  b_l_said : Binds K d_l_said ["_law_way", "_law_thing", "_law_last"] []
  g_l_said : mg "_law_said" = some (.ref a_l_said)
  a_l_due : Addr
  d_l_due : FuncData
  F_l_due : Fun K "_law_due" "_law_due" s_l_due a_l_due d_l_due
  b_l_due : Binds K d_l_due ["_law_items", "_law_last"] []
  g_l_due : mg "_law_due" = some (.ref a_l_due)
  a_l_rows_right : Addr
  d_l_rows_right : FuncData
  F_l_rows_right : Fun K "_law_rows_right" "_law_rows_right" s_l_rows_right a_l_rows_right d_l_rows_right
  b_l_rows_right : Binds K d_l_rows_right ["_law_items", "_law_last"] []
  g_l_rows_right : mg "_law_rows_right" = some (.ref a_l_rows_right)
  a_l_items_right : Addr
  d_l_items_right : FuncData
  F_l_items_right : Fun K "_law_items_right" "_law_items_right" s_l_items_right a_l_items_right d_l_items_right
  b_l_items_right : Binds K d_l_items_right ["_law_term_here"] []
  g_l_items_right : mg "_law_items_right" = some (.ref a_l_items_right)
  a_l_refused : Addr
  d_l_refused : FuncData
  F_l_refused : Fun K "_law_refused" "_law_refused" s_l_refused a_l_refused d_l_refused
  b_l_refused : Binds K d_l_refused ["_law_purse_here", "_law_items", "_law_last"] []
  g_l_refused : mg "_law_refused" = some (.ref a_l_refused)
  a_l_great_right : Addr
  d_l_great_right : FuncData
  F_l_great_right : Fun K "_law_great_right" "_law_great_right" s_l_great_right a_l_great_right d_l_great_right
  b_l_great_right : Binds K d_l_great_right [] []
  g_l_great_right : mg "_law_great_right" = some (.ref a_l_great_right)
  a_law : Addr
  d_law : FuncData
  F_law : Fun K "law" "law" s_law a_law d_law
  b_law : Binds K d_law ["_law_script"] []
  g_law : mg "law" = some (.ref a_law)
  a_NoTerm : Addr
  g_NoTerm : mg "NoTerm" = some (.ref a_NoTerm)
  x_NoTerm : OexC K a_NoTerm
  y_NoTerm : ExcC K a_NoTerm
  f_NoTerm : XfC K a_NoTerm
  i_NoTerm : Addr
  di_NoTerm : FuncData
  Fi_NoTerm : Fun K "__init__" "NoTerm.__init__" s_NoTerm_init i_NoTerm di_NoTerm
  bi_NoTerm : Binds K di_NoTerm ["self", "found"] []
  ii_NoTerm : PySem.W.findIn K (.ref a_NoTerm) "__init__" = some (some (.ref i_NoTerm))
  ti_NoTerm : PySem.W.typeIn K (.ref i_NoTerm) = some (.type "function")
  kv_NoTerm : PySem.W.kitOne K (.ref a_NoTerm) (.type "ValueError") = some true
  n_NoTerm_found : PySem.W.findIn K (.ref a_NoTerm) "found" = some none
  a_NoPlace : Addr
  g_NoPlace : mg "NoPlace" = some (.ref a_NoPlace)
  x_NoPlace : OexC K a_NoPlace
  y_NoPlace : ExcC K a_NoPlace
  f_NoPlace : XfC K a_NoPlace
  i_NoPlace : Addr
  di_NoPlace : FuncData
  Fi_NoPlace : Fun K "__init__" "NoPlace.__init__" s_NoPlace_init i_NoPlace di_NoPlace
  bi_NoPlace : Binds K di_NoPlace ["self", "found"] []
  ii_NoPlace : PySem.W.findIn K (.ref a_NoPlace) "__init__" = some (some (.ref i_NoPlace))
  ti_NoPlace : PySem.W.typeIn K (.ref i_NoPlace) = some (.type "function")
  kv_NoPlace : PySem.W.kitOne K (.ref a_NoPlace) (.type "ValueError") = some true
  n_NoPlace_found : PySem.W.findIn K (.ref a_NoPlace) "found" = some none
  a_TooGreat : Addr
  g_TooGreat : mg "TooGreat" = some (.ref a_TooGreat)
  x_TooGreat : OexC K a_TooGreat
  y_TooGreat : ExcC K a_TooGreat
  f_TooGreat : XfC K a_TooGreat
  i_TooGreat : Addr
  di_TooGreat : FuncData
  Fi_TooGreat : Fun K "__init__" "TooGreat.__init__" s_TooGreat_init i_TooGreat di_TooGreat
  bi_TooGreat : Binds K di_TooGreat ["self", "parts"] []
  ii_TooGreat : PySem.W.findIn K (.ref a_TooGreat) "__init__" = some (some (.ref i_TooGreat))
  ti_TooGreat : PySem.W.typeIn K (.ref i_TooGreat) = some (.type "function")
  kv_TooGreat : PySem.W.kitOne K (.ref a_TooGreat) (.type "ValueError") = some true
  n_TooGreat_parts : PySem.W.findIn K (.ref a_TooGreat) "parts" = some none
  a_SeekError : Addr
  g_SeekError : mg "SeekError" = some (.ref a_SeekError)
  sga : PySem.W.specialIn K (.ref a_SeekError) "__getattribute__" = some (some (.builtin "type.__getattribute__"))
  srd : PySem.W.readsIn K a_SeekError (.type "type") = true
  svi : PySem.W.findCls K (.ref a_SeekError) (.type "type") "__init__" = some (.val (.builtin "ValueError.__init__"))
  km_NoTerm_NoTerm : PySem.W.kitOne K (.ref a_NoTerm) (.ref a_NoTerm) = some true
  em_NoTerm_NoTerm : PySem.W.exmOne K (.ref a_NoTerm) (.ref a_NoTerm) = some true
  km_NoTerm_NoPlace : PySem.W.kitOne K (.ref a_NoTerm) (.ref a_NoPlace) = some false
  em_NoTerm_NoPlace : PySem.W.exmOne K (.ref a_NoTerm) (.ref a_NoPlace) = some false
  km_NoTerm_TooGreat : PySem.W.kitOne K (.ref a_NoTerm) (.ref a_TooGreat) = some false
  em_NoTerm_TooGreat : PySem.W.exmOne K (.ref a_NoTerm) (.ref a_TooGreat) = some false
  km_NoPlace_NoTerm : PySem.W.kitOne K (.ref a_NoPlace) (.ref a_NoTerm) = some false
  em_NoPlace_NoTerm : PySem.W.exmOne K (.ref a_NoPlace) (.ref a_NoTerm) = some false
  km_NoPlace_NoPlace : PySem.W.kitOne K (.ref a_NoPlace) (.ref a_NoPlace) = some true
  em_NoPlace_NoPlace : PySem.W.exmOne K (.ref a_NoPlace) (.ref a_NoPlace) = some true
  km_NoPlace_TooGreat : PySem.W.kitOne K (.ref a_NoPlace) (.ref a_TooGreat) = some false
  em_NoPlace_TooGreat : PySem.W.exmOne K (.ref a_NoPlace) (.ref a_TooGreat) = some false
  km_TooGreat_NoTerm : PySem.W.kitOne K (.ref a_TooGreat) (.ref a_NoTerm) = some false
  em_TooGreat_NoTerm : PySem.W.exmOne K (.ref a_TooGreat) (.ref a_NoTerm) = some false
  km_TooGreat_NoPlace : PySem.W.kitOne K (.ref a_TooGreat) (.ref a_NoPlace) = some false
  em_TooGreat_NoPlace : PySem.W.exmOne K (.ref a_TooGreat) (.ref a_NoPlace) = some false
  km_TooGreat_TooGreat : PySem.W.kitOne K (.ref a_TooGreat) (.ref a_TooGreat) = some true
  em_TooGreat_TooGreat : PySem.W.exmOne K (.ref a_TooGreat) (.ref a_TooGreat) = some true
  km_NoTerm_SeekError : PySem.W.kitOne K (.ref a_NoTerm) (.ref a_SeekError) = some true
  em_NoTerm_SeekError : PySem.W.exmOne K (.ref a_NoTerm) (.ref a_SeekError) = some true
  km_NoPlace_SeekError : PySem.W.kitOne K (.ref a_NoPlace) (.ref a_SeekError) = some true
  em_NoPlace_SeekError : PySem.W.exmOne K (.ref a_NoPlace) (.ref a_SeekError) = some true
  km_TooGreat_SeekError : PySem.W.kitOne K (.ref a_TooGreat) (.ref a_SeekError) = some true
  em_TooGreat_SeekError : PySem.W.exmOne K (.ref a_TooGreat) (.ref a_SeekError) = some true
  m_ValueError : mg "ValueError" = none
  m_all : mg "all" = none
  m_list : mg "list" = none
  m_reversed : mg "reversed" = none
  m_isinstance : mg "isinstance" = none
  m_tuple : mg "tuple" = none
  m_repr : mg "repr" = none
  m_range : mg "range" = none
  m_int : mg "int" = none
  m_sum : mg "sum" = none
  m_len : mg "len" = none
  m_max : mg "max" = none
  m_bool : mg "bool" = none
  m_str : mg "str" = none
  t_LETTERS : Tok
  g_LETTERS : mg "LETTERS" = some (Value.str "abcdefghijklmnopqrstuvwxyz" t_LETTERS)
  t_LONGEST : Tok
  g_LONGEST : mg "LONGEST" = some (Value.int 8 t_LONGEST)
  a_OWN_WORDS : Addr
  g_OWN_WORDS : mg "OWN_WORDS" = some (.ref a_OWN_WORDS)
  q_OWN_WORDS : ∀ H : Hp, SqT K H a_OWN_WORDS [V.str "rel", V.str "same", V.str "unlike", V.str "one", V.str "both", V.str "fresh", V.str "call", V.str "not"]
  t_MOST_PARTS : Tok
  g_MOST_PARTS : mg "MOST_PARTS" = some (Value.int 100 t_MOST_PARTS)
  t_MOST_UNKNOWN : Tok
  g_MOST_UNKNOWN : mg "MOST_UNKNOWN" = some (Value.int 999999999 t_MOST_UNKNOWN)
  t_GREATEST : Tok
  g_GREATEST : mg "GREATEST" = some (Value.int 999999999999999999999999999999 t_GREATEST)
theorem sc_is_whole : FnScope ["thing"] ["thing"] (defScope s_is_whole) := ⟨rfl, rfl, rfl, by decide +kernel, rfl, by decide +kernel, by decide +kernel⟩
theorem sc_is_within : FnScope ["thing", "low", "high"] ["thing", "low", "high"] (defScope s_is_within) := ⟨rfl, rfl, rfl, by decide +kernel, rfl, by decide +kernel, by decide +kernel⟩
theorem sc_is_name : FnScope ["thing", "sign"] ["thing"] (defScope s_is_name) := ⟨rfl, rfl, rfl, by decide +kernel, rfl, by decide +kernel, by decide +kernel⟩
theorem sc_is_unknown : FnScope ["thing"] ["thing"] (defScope s_is_unknown) := ⟨rfl, rfl, rfl, by decide +kernel, rfl, by decide +kernel, by decide +kernel⟩
theorem sc_is_pair : FnScope ["term"] ["term"] (defScope s_is_pair) := ⟨rfl, rfl, rfl, by decide +kernel, rfl, by decide +kernel, by decide +kernel⟩
theorem sc_is_single : FnScope ["thing"] ["thing"] (defScope s_is_single) := ⟨rfl, rfl, rfl, by decide +kernel, rfl, by decide +kernel, by decide +kernel⟩
theorem sc_is_term : FnScope ["thing", "left", "seen", "part"] ["thing"] (defScope s_is_term) := ⟨rfl, rfl, rfl, by decide +kernel, rfl, by decide +kernel, by decide +kernel⟩
theorem sc_need_term : FnScope ["thing"] ["thing"] (defScope s_need_term) := ⟨rfl, rfl, rfl, by decide +kernel, rfl, by decide +kernel, by decide +kernel⟩
theorem sc_parts_within : FnScope ["term", "left", "found", "part"] ["term"] (defScope s_parts_within) := ⟨rfl, rfl, rfl, by decide +kernel, rfl, by decide +kernel, by decide +kernel⟩
theorem sc_numbers_in : FnScope ["term", "found", "part"] ["term"] (defScope s_numbers_in) := ⟨rfl, rfl, rfl, by decide +kernel, rfl, by decide +kernel, by decide +kernel⟩
theorem sc_turned_into : FnScope ["term", "values"] ["term", "values"] (defScope s_turned_into) := ⟨rfl, rfl, rfl, by decide +kernel, rfl, by decide +kernel, by decide +kernel⟩
theorem sc_by_coming : FnScope ["terms", "values", "term", "number"] ["terms"] (defScope s_by_coming) := ⟨rfl, rfl, rfl, by decide +kernel, rfl, by decide +kernel, by decide +kernel⟩
theorem sc_listed : FnScope ["items", "rest", "item", "many", "found"] ["items", "rest"] (defScope s_listed) := ⟨rfl, rfl, rfl, by decide +kernel, rfl, by decide +kernel, by decide +kernel⟩
theorem sc_items_of : FnScope ["term", "found"] ["term"] (defScope s_items_of) := ⟨rfl, rfl, rfl, by decide +kernel, rfl, by decide +kernel, by decide +kernel⟩
theorem sc_l_cell : FnScope ["_law_script", "_law_k"] ["_law_script", "_law_k"] (defScope s_l_cell) := ⟨rfl, rfl, rfl, by decide +kernel, rfl, by decide +kernel, by decide +kernel⟩
theorem sc_l_purse : FnScope ["_law_cell_here"] ["_law_cell_here"] (defScope s_l_purse) := ⟨rfl, rfl, rfl, by decide +kernel, rfl, by decide +kernel, by decide +kernel⟩
theorem sc_l_take : FnScope ["_law_purse_here", "_law_many", "_law_digit", "_law_number"] ["_law_purse_here", "_law_many"] (defScope s_l_take) := ⟨rfl, rfl, rfl, by decide +kernel, rfl, by decide +kernel, by decide +kernel⟩
theorem sc_l_single : FnScope ["_law_purse_here", "_law_way", "_law_names"] ["_law_purse_here"] (defScope s_l_single) := ⟨rfl, rfl, rfl, by decide +kernel, rfl, by decide +kernel, by decide +kernel⟩
theorem sc_l_term : FnScope ["_law_purse_here", "_law_room_here", "_law_first"] ["_law_purse_here", "_law_room_here"] (defScope s_l_term) := ⟨rfl, rfl, rfl, by decide +kernel, rfl, by decide +kernel, by decide +kernel⟩
theorem sc_l_room : FnScope ["_law_purse_here"] ["_law_purse_here"] (defScope s_l_room) := ⟨rfl, rfl, rfl, by decide +kernel, rfl, by decide +kernel, by decide +kernel⟩
theorem sc_l_parts : FnScope ["_law_term_here"] ["_law_term_here"] (defScope s_l_parts) := ⟨rfl, rfl, rfl, by decide +kernel, rfl, by decide +kernel, by decide +kernel⟩
theorem sc_l_renamed : FnScope ["_law_term_here", "_law_known"] ["_law_term_here", "_law_known"] (defScope s_l_renamed) := ⟨rfl, rfl, rfl, by decide +kernel, rfl, by decide +kernel, by decide +kernel⟩
theorem sc_l_pairs : FnScope ["_law_items", "_law_last", "_law_item"] ["_law_items", "_law_last"] (defScope s_l_pairs) := ⟨rfl, rfl, rfl, by decide +kernel, rfl, by decide +kernel, by decide +kernel⟩
theorem sc_l_said : FnScope ["_law_way", "_law_thing", "_law_last", "_law_found", "e"] ["_law_way", "_law_thing", "_law_last"] (defScope s_l_said) := ⟨rfl, rfl, rfl, by decide +kernel, rfl, by decide +kernel, by decide +kernel⟩
theorem sc_l_due : FnScope ["_law_items", "_law_last", "_law_many", "_law_item"] ["_law_items", "_law_last"] (defScope s_l_due) := ⟨rfl, rfl, rfl, by decide +kernel, rfl, by decide +kernel, by decide +kernel⟩
theorem sc_l_rows_right : FnScope ["_law_items", "_law_last", "_law_handed", "_law_known", "_law_due_here", "_law_item"] ["_law_items", "_law_last"] (defScope s_l_rows_right) := ⟨rfl, rfl, rfl, by decide +kernel, rfl, by decide +kernel, by decide +kernel⟩
theorem sc_l_items_right : FnScope ["_law_term_here", "_law_items", "_law_last", "_law_turn", "_law_found", "_law_told"] ["_law_term_here"] (defScope s_l_items_right) := ⟨rfl, rfl, rfl, by decide +kernel, rfl, by decide +kernel, by decide +kernel⟩
theorem sc_l_refused : FnScope ["_law_purse_here", "_law_items", "_law_last", "_law_some", "_law_bad", "_law_worse", "_law_at", "_law_spoilt", "_law_way", "_law_thing"] ["_law_purse_here", "_law_items", "_law_last"] (defScope s_l_refused) := ⟨rfl, rfl, rfl, by decide +kernel, rfl, by decide +kernel, by decide +kernel⟩
theorem sc_l_great_right : FnScope ["_law_many", "_law_k"] [] (defScope s_l_great_right) := ⟨rfl, rfl, rfl, by decide +kernel, rfl, by decide +kernel, by decide +kernel⟩
theorem sc_law : FnScope ["_law_script", "_law_cell_here", "_law_purse_here", "_law_items", "_law_last", "_law_term_here", "_law_k"] ["_law_script"] (defScope s_law) := ⟨rfl, rfl, rfl, by decide +kernel, rfl, by decide +kernel, by decide +kernel⟩
theorem sc_NoTerm_init : FnScope ["self", "found"] ["self", "found"] (defScope s_NoTerm_init) := ⟨rfl, rfl, rfl, by decide +kernel, rfl, by decide +kernel, by decide +kernel⟩
theorem sc_NoPlace_init : FnScope ["self", "found"] ["self", "found"] (defScope s_NoPlace_init) := ⟨rfl, rfl, rfl, by decide +kernel, rfl, by decide +kernel, by decide +kernel⟩
theorem sc_TooGreat_init : FnScope ["self", "parts"] ["self", "parts"] (defScope s_TooGreat_init) := ⟨rfl, rfl, rfl, by decide +kernel, rfl, by decide +kernel, by decide +kernel⟩
/-! ### the exceptions' own __init__ -/
def sp_init1 (C : Addr) (f : Str) : Sp := fun vs H Q _ => ∃ (a : Addr) (v : V), vs = [.ref a, v] ∧ H a = some (exo a C none) ∧ ∀ d, H d = none → d ≠ a → Q .non (upd (upd H d (exd d [(f, v)])) a (exo a C (some d)))
/-- what is left of a made exception is its dict -/
theorem exc_heap {H : Hp} {a d : Addr} {o1 o2 o3 o4 : HO} (ha : H a = none) (hd : d ≠ a) : upd (del (upd (upd (upd H a o1) d o2) a o3) a) d o4 = upd H d o4 := by
  funext b
  by_cases h1 : b = d
  · subst h1
    rw [upd_same, upd_same]
  · rw [upd_ne h1, upd_ne h1]
    by_cases h2 : b = a
    · subst h2
      rw [del_same, ha]
    · rw [del_ne h2, upd_ne h2, upd_ne h1, upd_ne h2]
theorem un2 {k : Nat} {A : Around} (h : Room k A) : A.units + 200 < cLine := Nat.lt_of_le_of_lt (by omega) h.un
section
variable {P : Program} {w : World} {K : PySem.W.Frag} {mg : Str → Option Value} {base : Heap}
theorem ok_NoTerm (T : Env K mg) : FnOk P w K mg base CX0 1 T.i_NoTerm T.di_NoTerm ["self", "found"] (sp_init1 T.a_NoTerm "found") := by
  refine T.Fi_NoTerm.ok sc_NoTerm_init (fun vs H Q E h => ?_) (fun cdv A outer s H vs Q E hr h => ?_)
  · obtain ⟨a, v, rfl, _⟩ := h
    rfl
  · obtain ⟨a, v, rfl, ha, q⟩ := h
    refine ⟨_, pss_cons (ps_expr (pe_seinit (by rfl) T.g_SeekError T.sga T.srd T.svi (pa_cons (pv 0) (pa_cons pe_str pa_nil)))) (pss_one (ps_ost (pv 0) (pv 1))), ?_⟩
    exact ⟨_, rfl, a, T.a_NoTerm, [_], rfl, (by show 1 ≤ 1000; decide), T.x_NoTerm, ha, _, rfl, _, rfl, a, T.a_NoTerm, rfl, T.x_NoTerm, T.n_NoTerm_found, .inl ⟨ha, fun dx hd hne => q dx hd hne⟩⟩
theorem ok_NoPlace (T : Env K mg) : FnOk P w K mg base CX0 1 T.i_NoPlace T.di_NoPlace ["self", "found"] (sp_init1 T.a_NoPlace "found") := by
  refine T.Fi_NoPlace.ok sc_NoPlace_init (fun vs H Q E h => ?_) (fun cdv A outer s H vs Q E hr h => ?_)
  · obtain ⟨a, v, rfl, _⟩ := h
    rfl
  · obtain ⟨a, v, rfl, ha, q⟩ := h
    refine ⟨_, pss_cons (ps_expr (pe_seinit (by rfl) T.g_SeekError T.sga T.srd T.svi (pa_cons (pv 0) (pa_cons pe_str pa_nil)))) (pss_one (ps_ost (pv 0) (pv 1))), ?_⟩
    exact ⟨_, rfl, a, T.a_NoPlace, [_], rfl, (by show 1 ≤ 1000; decide), T.x_NoPlace, ha, _, rfl, _, rfl, a, T.a_NoPlace, rfl, T.x_NoPlace, T.n_NoPlace_found, .inl ⟨ha, fun dx hd hne => q dx hd hne⟩⟩
theorem ok_TooGreat (T : Env K mg) : FnOk P w K mg base CX0 1 T.i_TooGreat T.di_TooGreat ["self", "parts"] (sp_init1 T.a_TooGreat "parts") := by
  refine T.Fi_TooGreat.ok sc_TooGreat_init (fun vs H Q E h => ?_) (fun cdv A outer s H vs Q E hr h => ?_)
  · obtain ⟨a, v, rfl, _⟩ := h
    rfl
  · obtain ⟨a, v, rfl, ha, q⟩ := h
    refine ⟨_, pss_cons (ps_expr (pe_seinit (by rfl) T.g_SeekError T.sga T.srd T.svi (pa_cons (pv 0) (pa_cons pe_str pa_nil)))) (pss_one (ps_ost (pv 0) (pv 1))), ?_⟩
    exact ⟨_, rfl, a, T.a_TooGreat, [_], rfl, (by show 1 ≤ 1000; decide), T.x_TooGreat, ha, _, rfl, _, rfl, a, T.a_TooGreat, rfl, T.x_TooGreat, T.n_TooGreat_parts, .inl ⟨ha, fun dx hd hne => q dx hd hne⟩⟩
end
/-- raise C(v): the reading, from the argument on -/
theorem raise1 {C : Addr} {f : Str} {v : V} {H : Hp} {Q : XK} (q : ∀ d, H d = none → Q (.ref C) (some d) (upd H d (.xd [(f, v)]))) :
    ([v] : List V).length ≤ 1000 ∧ ∀ a, H a = none → sp_init1 C f (.ref a :: ([v] ++ [])) (upd H a (exo a C none))
      (fun u H2 => u = .non ∧ ∃ (d : Addr) (fs : List (Str × V)), H2 a = some (exo a C (some d)) ∧ H2 d = some (exd d fs) ∧ H d = none ∧ Q (.ref C) (some d) (upd (del H2 a) d (.xd fs))) (fun _ _ _ => False) := by
  refine ⟨by show 1 ≤ 1000; decide, fun a ha => ⟨a, v, rfl, upd_same, fun d hd hne => ⟨rfl, d, [(f, v)], upd_same, ?_, ?_, ?_⟩⟩⟩
  · rw [upd_ne hne, upd_same]
  · rw [upd_ne hne] at hd
    exact hd
  · rw [exc_heap ha hne]
    rw [upd_ne hne] at hd
    exact q d hd

/-! ### is_whole, is_within, is_name -/
section
variable {P : Program} {w : World} {K : PySem.W.Frag} {mg : Str → Option Value} {base : Heap}
def sp_is_whole (K : PySem.W.Frag) : Sp := fun vs H Q _ => ∃ x k, vs = [x] ∧ Knd K H x k ∧ Q (.bl k.isWhole) H
theorem ok_is_whole (T : Env K mg) : FnOk P w K mg base CX0 1 T.a_is_whole T.d_is_whole ["thing"] (sp_is_whole K) := by
  refine T.F_is_whole.ok sc_is_whole (fun vs H Q E h => ?_) (fun cdv A outer s H vs Q E hr h => ?_)
  · obtain ⟨x, k, rfl, _⟩ := h
    rfl
  · obtain ⟨x, k, rfl, hk, q⟩ := h
    refine ⟨_, (pss_one (ps_ret (pe_and (pe_callB call_isi (by rfl) T.m_isinstance PyProof.Rows.boot_isinstance (pa_cons (pv 0) (pa_cons (pe_bltn (v := .ty "int") (by rfl) T.m_int PyProof.Rows.boot_int rfl) pa_nil))) (pe_one (pe_not (pe_callB call_isi (by rfl) T.m_isinstance PyProof.Rows.boot_isinstance (pa_cons (pv 0) (pa_cons (pe_bltn (v := .ty "bool") (by rfl) T.m_bool PyProof.Rows.boot_bool rfl) pa_nil)))))))), ?_⟩
    refine ⟨x, rfl, x, .ty "int", .type k.name, .type "int", k.isInt, rfl, .ty _, hk, kit_int k, k.isInt, rfl, ?_⟩
    cases k <;> first
      | exact iteF q
      | exact iteT ⟨x, rfl, x, .ty "bool", _, .type "bool", _, rfl, .ty _, hk, kit_bl _, _, rfl, q⟩
def withinV : V → Int → Int → Bool
  | .int i, lo, hi => decide (lo ≤ i) && decide (i ≤ hi)
  | _, _, _ => false
def sp_is_within (K : PySem.W.Frag) : Sp := fun vs H Q _ => ∃ x k lo hi, vs = [x, .int lo, .int hi] ∧ Knd K H x k ∧ Q (.bl (withinV x lo hi)) H
theorem tyx_int {H : Hp} {x : V} {t : Value} (h : TyX K H x t) : t = .type "int" → ∃ i, x = .int i := by
  cases h with
  | base b => cases b <;> intro e <;> first | exact ⟨_, rfl⟩ | (exact absurd (Value.type.inj e) (by decide)) | cases e
  | _ => intro e; exact absurd (Value.type.inj e) (by decide)
theorem knd_int {H : Hp} {x : V} (h : Knd K H x .int) : ∃ i, x = .int i := tyx_int h rfl
theorem tyx_of_int {H : Hp} {x : V} {t : Value} (h : TyX K H x t) : ∀ i, x = .int i → t = .type "int" := by
  cases h with
  | base b => cases b <;> intro i e <;> first | rfl | cases e
  | _ => intro i e; cases e
theorem int_knd {H : Hp} {i : Int} {k : Kn} (h : Knd K H (.int i) k) : k = .int := by
  have e := Value.type.inj (tyx_of_int h i rfl)
  cases k <;> first | rfl | exact absurd e (by decide)
theorem ok_is_within (T : Env K mg) : FnOk P w K mg base CX0 2 T.a_is_within T.d_is_within ["thing", "low", "high"] (sp_is_within K) := by
  have G_is_whole : FnOk P w K mg base CX0 1 T.a_is_whole T.d_is_whole ["thing"] (sp_is_whole K) := ok_is_whole T
  refine T.F_is_within.ok sc_is_within (fun vs H Q E h => ?_) (fun cdv A outer s H vs Q E hr h => ?_)
  · obtain ⟨x, k, lo, hi, rfl, _⟩ := h
    rfl
  · obtain ⟨x, k, lo, hi, rfl, hk, q⟩ := h
    have hr_is_whole := hr
    refine ⟨_, (pss_one (ps_ret (pe_and (pe_call G_is_whole hr_is_whole (by rfl) T.g_is_whole T.F_is_whole.kp T.b_is_whole .nil pass0 (pa_cons (pv 0) pa_nil)) (pe_one (pe_chain op_le op_le (pv 1) (pv 0) (pv 2)))))), ?_⟩
    refine ⟨x, rfl, x, k, rfl, hk, k.isWhole, rfl, ?_⟩
    by_cases c : k = .int
    · subst c
      obtain ⟨i, rfl⟩ := knd_int hk
      refine iteT ⟨_, rfl, _, rfl, _, _, rfl, rfl, _, rfl, ?_⟩
      have q : Q (.bl (decide (lo ≤ i) && decide (i ≤ hi))) H := q
      by_cases c : lo ≤ i
      · rw [decide_eq_true c]
        refine iteT ⟨_, rfl, _, _, rfl, rfl, ?_⟩
        rw [decide_eq_true c] at q
        exact q
      · rw [decide_eq_false c]
        refine iteF ?_
        rw [decide_eq_false c] at q
        exact q
    · have e : k.isWhole = false := by cases k <;> first | rfl | exact absurd rfl c
      rw [e]
      refine iteF ?_
      have e2 : withinV x lo hi = false := by
        cases x with
        | int i => exact absurd (int_knd hk) c
        | _ => rfl
      rw [e2] at q
      exact q
/-- the own words -/
def ownW : List V := [V.str "rel", V.str "same", V.str "unlike", V.str "one", V.str "both", V.str "fresh", V.str "call", V.str "not"]
def letterL : List Nat := ("abcdefghijklmnopqrstuvwxyz" : Str).cps.toList
/-- what is_name tells of a text -/
def isName (x : Str) : Bool := decide (1 ≤ (x.length : Int)) && (decide ((x.length : Int) ≤ 8) && (!inV (.str x) ownW && x.cps.toList.all fun c => decide (c ∈ letterL)))
def nameV : V → Bool
  | .str x => isName x
  | _ => false
theorem tyx_str {H : Hp} {x : V} {t : Value} (h : TyX K H x t) : t = .type "str" → ∃ i, x = .str i := by
  cases h with
  | base b => cases b <;> intro e <;> first | exact ⟨_, rfl⟩ | (exact absurd (Value.type.inj e) (by decide)) | cases e
  | _ => intro e; exact absurd (Value.type.inj e) (by decide)
theorem tyx_of_str {H : Hp} {x : V} {t : Value} (h : TyX K H x t) : ∀ i, x = .str i → t = .type "str" := by
  cases h with
  | base b => cases b <;> intro i e <;> first | rfl | cases e
  | _ => intro i e; cases e
theorem knd_str {H : Hp} {x : V} (h : Knd K H x .str) : ∃ i, x = .str i := tyx_str h rfl
theorem str_knd {H : Hp} {i : Str} {k : Kn} (h : Knd K H (.str i) k) : k = .str := by
  have e := Value.type.inj (tyx_of_str h i rfl)
  cases k <;> first | rfl | exact absurd e (by decide)
/-- a list made sign by sign -/
theorem lc_signs {z : Str} {te : TE} {i : Nat} {σ : L2.St} {H : Hp} {D : Addr} {f : Nat → V} {Qd : Hp → Prop} (hD : H D = none) (hz : z.length ≤ sizeLine)
    (he : ∀ c H', Same H H' → ∀ Q : VK, Q (f c) H' → te ((wipe σ [i]).set i (some (.str ⟨#[c]⟩))) H' Q) (hw : ∀ v, wipe ((wipe σ [i]).set i (some v)) [i] = wipe σ [i])
    (hd : ∀ H', Same H H' → H' D = some (.lst (z.cps.toList.map f)) → Qd H') :
    ∃ W : Nat → Nat → Hp → Prop, (∃ m, W 0 m (upd H D (.lst []))) ∧ ∀ j m H, W j m H →
      ((Its z).stop j H ∧ Qd H) ∨ ((Its z).go j H ∧ ∃ Nx : Hp → Prop, (∀ H', Nx H' → ∃ m', m' < m ∧ W (j + 1) m' H') ∧ ∀ x H', (Its z).yld j H x H' → gName i x (wipe σ [i]) H' fun σ2 H2 => wipe σ2 [i] = wipe σ [i] ∧ tYes σ2 H2 fun b H3 =>
        if b = true then te σ2 H3 fun y H4 => ∃ acc, H4 D = some (.lst acc) ∧ acc.length < sizeLine ∧ Nx (upd H4 D (.lst (acc ++ [y]))) else Nx H3) := by
  refine lc_it walk_str (fun j H' => Same H H' ∧ H' D = some (.lst ((z.cps.toList.take j).map f))) ⟨same_upd hD, upd_same⟩ (fun _ _ _ _ => trivial) ?_ ?_
  · rintro j x H1 H2 hj ⟨sm, hL⟩ ⟨rfl, c, hc, rfl⟩
    refine ⟨hw _, ?_⟩
    refine he c H2 sm _ ⟨_, hL, ?_, same_mut sm hD, ?_⟩
    · rw [List.length_map, List.length_take]
      have e : z.cps.toList.length = z.length := by simp [Str.length]
      have e2 : z.cps.size = z.length := rfl
      omega
    · have g : z.cps.toList[j]? = some c := by
        rw [Array.getElem?_toList]
        exact hc
      rw [upd_same, List.take_add_one, g, List.map_append]
      rfl
  · rintro H' ⟨sm, hL⟩
    refine hd H' sm ?_
    have e : z.cps.toList.take z.cps.size = z.cps.toList := List.take_of_length_le (by simp)
    rw [e] at hL
    exact hL
def sp_is_name (K : PySem.W.Frag) : Sp := fun vs H Q _ => ∃ x k, vs = [x] ∧ Knd K H x k ∧ (∀ z, x = .str z → z.length ≤ sizeLine) ∧ ∀ H', Same H H' → Q (.bl (nameV x)) H'
theorem ok_is_name (T : Env K mg) : FnOk P w K mg base CX0 1 T.a_is_name T.d_is_name ["thing"] (sp_is_name K) := by
  refine T.F_is_name.ok sc_is_name (fun vs H Q E h => ?_) (fun cdv A outer s H vs Q E hr h => ?_)
  · obtain ⟨x, k, rfl, _⟩ := h
    rfl
  · obtain ⟨x, k, rfl, hk, hz, q⟩ := h
    refine ⟨_, (pss_cons (ps_if (PW.pt (pw_or (pt_not (pt_val (pe_callB call_isi (by rfl) T.m_isinstance PyProof.Rows.boot_isinstance (pa_cons (pv 0) (pa_cons (pe_bltn (v := .ty "str") (by rfl) T.m_str PyProof.Rows.boot_str rfl) pa_nil))))) (pw_or (pt_not (pt_chain op_le op_le pe_int (pe_callB call_len_str (by rfl) T.m_len PySem.boot_len (pa_cons (pv 0) pa_nil)) (pe_glob (v := V.int 8) (by rfl) T.g_LONGEST ⟨_, rfl⟩))) (pw_or1 (pt_cmpR op_in_seq (pv 0) (pe_glob (v := .ref T.a_OWN_WORDS) (by rfl) T.g_OWN_WORDS rfl) (by rfl)))))) (pss_one (ps_ret pe_bl)) pss_nil)
      (pss_one (ps_ret (pe_callB (cr_all (by rfl)) (by rfl) T.m_all PyProof.Rows.boot_all (pa_cons (pe_lc (own := [("sign", 1)]) (g := gName 1) (tt := tYes) (by rfl) sc_is_name.nd (pi_str (pv 0)) (blkOk_by (own := [("sign", 1)]) (N := ["thing", "sign"]) (sc := defScope s_is_name) (by decide +kernel)) (fun _ _ _ _ _ => (pg_name (i := 1) sc_is_name.nd rfl (Or.inl rfl))) (fun _ _ _ _ _ => pts_nil) (fun _ _ _ _ _ => (pe_cmpR op_in_sign (pv 1) (pe_glob (v := V.str "abcdefghijklmnopqrstuvwxyz") (by rfl) T.g_LETTERS ⟨_, rfl⟩) (by rfl)))) pa_nil))))), ?_⟩
    refine ⟨x, rfl, x, .ty "str", .type k.name, .type "str", k.isStr, rfl, .ty _, hk, kit_str k, _, rfl, ?_⟩
    by_cases ck : k = .str
    · subst ck
      obtain ⟨z, rfl⟩ := knd_str hk
      have hz := hz z rfl
      have qn : ∀ H', Same H H' → Q (.bl (decide (1 ≤ (z.length : Int)) && (decide ((z.length : Int) ≤ 8) && (!inV (.str z) ownW && z.cps.toList.all fun c => decide (c ∈ letterL))))) H' := q
      refine iteF ⟨_, rfl, z, rfl, hz, _, _, rfl, rfl, _, rfl, ?_⟩
      by_cases c1 : (1 : Int) ≤ (z.length : Int)
      · rw [decide_eq_true c1] at qn ⊢
        refine iteT ⟨_, _, rfl, rfl, _, rfl, ?_⟩
        by_cases c2 : (z.length : Int) ≤ 8
        · rw [decide_eq_true c2] at qn ⊢
          refine iteF ⟨_, rfl, T.a_OWN_WORDS, ownW, rfl, .inr (T.q_OWN_WORDS H), rfl, rfl, _, rfl, ?_⟩
          cases c3 : inV (.str z) ownW with
          | true =>
            rw [c3] at qn
            exact qn H (Same.refl H)
          | false =>
            rw [c3] at qn
            refine iteF ?_
            refine ⟨_, rfl, z, rfl, fun D hD => ?_⟩
            refine lc_signs (f := fun c => .bl (decide (c ∈ letterL))) hD hz (fun c H' sm Q' q' => ⟨_, rfl, c, _, rfl, rfl, q'⟩) (fun v => rfl) fun H' sm hL => ?_
            refine ⟨D, z.cps.toList.map fun c => decide (c ∈ letterL), rfl, SqL.of ?_, ?_⟩
            · rw [hL, List.map_map]
              rfl
            · have e : ((z.cps.toList.map fun c => decide (c ∈ letterL)).all id) = z.cps.toList.all fun c => decide (c ∈ letterL) := by
                rw [List.all_map]
                rfl
              rw [e]
              exact qn H' sm
        · rw [decide_eq_false c2] at qn ⊢
          exact qn H (Same.refl H)
      · rw [decide_eq_false c1] at qn ⊢
        refine iteF ⟨_, rfl, ?_⟩
        exact qn H (Same.refl H)
    · have e : k.isStr = false := by cases k <;> first | rfl | exact absurd rfl ck
      rw [e]
      have e2 : nameV x = false := by
        cases x with
        | str i => exact absurd (str_knd hk) ck
        | _ => rfl
      rw [e2] at q
      exact q H (Same.refl H)
end

/-! ### the law's cell, purse and draws -/
section
variable {P : Program} {w : World} {K : PySem.W.Frag} {mg : Str → Option Value} {base : Heap}
def sp_l_cell (K : PySem.W.Frag) : Sp := fun vs H Q _ => ∃ (a : Addr) (ns : List Int) (k : Int), vs = [.ref a, .int k] ∧ SqL K H a (ns.map V.int) ∧ 0 ≤ k ∧ ∀ c, Q (.int c) H
theorem ok_l_cell (T : Env K mg) : FnOk P w K mg base CX0 1 T.a_l_cell T.d_l_cell ["_law_script", "_law_k"] (sp_l_cell K) := by
  refine T.F_l_cell.ok sc_l_cell (fun vs H Q E h => ?_) (fun cdv A outer s H vs Q E hr h => ?_)
  · obtain ⟨a, ns, k, rfl, _⟩ := h
    rfl
  · obtain ⟨a, ns, k, rfl, hS, h0, q⟩ := h
    refine ⟨_, (pss_cons (ps_if (pt_cmpR op_lt (pv 1) (pe_callB call_len_seq (by rfl) T.m_len PySem.boot_len (pa_cons (pv 0) pa_nil)) (nomark _)) (pss_one (ps_ret (pe_ix ix_list (pv 0) (pv 1) (fun _ _ => rfl)))) pss_nil)
      (pss_one (ps_ret (pe_op op_add (pe_op op_mul pe_int (pv 1)) pe_int)))), ?_⟩
    refine ⟨_, rfl, _, rfl, a, _, rfl, .inl hS, _, _, rfl, rfl, _, rfl, ite2 (fun c => ?_) (fun c => ?_)⟩
    · have c' : k < (((ns.map V.int).length : Nat) : Int) := of_decide_eq_true c
      obtain ⟨x, hx, hm⟩ := atI_in h0 c'
      obtain ⟨n, _, rfl⟩ := List.mem_map.mp hm
      exact ⟨_, rfl, _, rfl, a, _, k, _, rfl, rfl, hS, hx, q n⟩
    · exact ⟨_, rfl, _, _, rfl, rfl, .inl ⟨by decide, by decide⟩, _, _, rfl, rfl, q _⟩
/-- a purse stands at p -/
def Pu (H : Hp) (p : Addr) : Prop := ∃ x y z : Int, H p = some (.lst [.int x, .int y, .int z])
def sp_l_purse (K : PySem.W.Frag) : Sp := fun vs H Q _ => ∃ (c : Int), vs = [.int c] ∧ ∀ p H', H p = none → Same H H' → Pu H' p → Q (.ref p) H'
theorem ok_l_purse (T : Env K mg) : FnOk P w K mg base CX0 1 T.a_l_purse T.d_l_purse ["_law_cell_here"] (sp_l_purse K) := by
  refine T.F_l_purse.ok sc_l_purse (fun vs H Q E h => ?_) (fun cdv A outer s H vs Q E hr h => ?_)
  · obtain ⟨c, rfl, _⟩ := h
    rfl
  · obtain ⟨c, rfl, q⟩ := h
    refine ⟨_, (pss_one (ps_ret (pe_lst (pa_cons (pe_callB (call_max2 (by rfl)) (by rfl) T.m_max PyProof.Rows.boot_max (pa_cons pe_int (pa_cons (pe_op op_sub (pv 0) (pe_op op_pow pe_int pe_int)) pa_nil))) (pa_cons (pe_op op_mod (pv 0) pe_int) (pa_cons pe_int pa_nil)))))), ?_⟩
    refine ⟨_, rfl, _, _, rfl, rfl, ⟨by decide, by decide, by decide⟩, _, _, rfl, rfl, _, _, rfl, _, rfl, _, _, rfl, rfl, (by show (0 : Int) < 2147483629; decide), (by show 3 ≤ sizeLine; decide), fun p hp => ?_⟩
    exact q p _ hp (same_upd hp) ⟨_, _, _, upd_same⟩
def sp_l_take (K : PySem.W.Frag) : Sp := fun vs H Q _ => ∃ (p : Addr) (n : Int), vs = [.ref p, .int n] ∧ Pu H p ∧ 0 < n ∧ n.natAbs < 2 ^ 9000 ∧ ∀ r H', 0 ≤ r → r < n → Off p H H' → Pu H' p → Q (.int r) H'
theorem ok_l_take (T : Env K mg) : FnOk P w K mg base CX0 1 T.a_l_take T.d_l_take ["_law_purse_here", "_law_many"] (sp_l_take K) := by
  refine T.F_l_take.ok sc_l_take (fun vs H Q E h => ?_) (fun cdv A outer s H vs Q E hr h => ?_)
  · obtain ⟨p, n, rfl, _⟩ := h
    rfl
  · obtain ⟨p, n, rfl, ⟨x, y, z, hp⟩, hn, hn2, q⟩ := h
    refine ⟨_, (pss_cons (ps_asg (pe_op op_add (pe_ix ix_list (pv 0) pe_int (fun _ _ => rfl)) pe_int) (pg_sub (pv 0) pe_int set_list))
      (pss_cons (ps_if (pt_cmpR op_gt (pe_ix ix_list (pv 0) pe_int (fun _ _ => rfl)) pe_int (nomark _)) (pss_cons (ps_set (i := 2) sc_l_take.nd rfl (Or.inl rfl) (pe_op op_mod (pe_ix ix_list (pv 0) pe_int (fun _ _ => rfl)) (pv 1)))
      (pss_cons (ps_asg (pe_op op_fdivW (pe_ix ix_list (pv 0) pe_int (fun _ _ => rfl)) (pv 1)) (pg_sub (pv 0) pe_int set_list))
      (pss_one (ps_ret (pv 2))))) pss_nil)
      (pss_cons (ps_set (i := 3) sc_l_take.nd rfl (Or.inl rfl) (pe_op op_mod (pe_op op_add (pe_op op_add (pe_op op_mul (pe_ix ix_list (pv 0) pe_int (fun _ _ => rfl)) pe_int) (pe_op op_mul pe_int (pe_ix ix_list (pv 0) pe_int (fun _ _ => rfl)))) pe_int) pe_int))
      (pss_cons (ps_set (i := 3) sc_l_take.nd rfl (Or.inl rfl) (pe_op op_mod (pe_op op_mul (pv 3) (pv 3)) pe_int))
      (pss_cons (ps_set (i := 3) sc_l_take.nd rfl (Or.inl rfl) (pe_op op_mod (pe_op op_mul (pe_op op_add (pv 3) (pe_op op_mul pe_int (pe_ix ix_list (pv 0) pe_int (fun _ _ => rfl)))) pe_int) pe_int))
      (pss_one (ps_ret (pe_op op_mod (pe_op op_fdivW (pe_op op_mod (pe_op op_mul (pv 3) (pv 3)) pe_int) pe_int) (pv 1))))))))), ?_⟩
    refine ⟨_, rfl, p, _, 2, _, rfl, rfl, SqL.of hp, atI_nat (j := 2) rfl, _, _, rfl, rfl, _, rfl, p, _, 2, 2, rfl, rfl, hp, rfl, ?_⟩
    have h1 : (upd H p (.lst ([V.int x, V.int y, V.int z].set 2 (V.int (z + 1))))) p = some (.lst [V.int x, V.int y, V.int (z + 1)]) := upd_same
    refine ⟨_, rfl, p, _, 0, _, rfl, rfl, SqL.of h1, atI_nat (j := 0) rfl, _, _, rfl, rfl, _, rfl, ite2 (fun c => ?_) (fun c => ?_)⟩
    · refine ⟨_, rfl, p, _, 0, _, rfl, rfl, SqL.of h1, atI_nat (j := 0) rfl, _, rfl, _, _, rfl, rfl, hn, ?_⟩
      refine ⟨_, rfl, p, _, 0, _, rfl, rfl, SqL.of h1, atI_nat (j := 0) rfl, _, rfl, _, _, rfl, rfl, wide_div hn hn2 (by decide) (by decide), _, rfl, p, _, 0, 0, rfl, rfl, h1, rfl, ?_⟩
      refine ⟨_, rfl, ?_⟩
      exact q _ _ (Int.emod_nonneg _ (by omega)) (Int.emod_lt_of_pos _ hn) (Off.put.trans Off.put) ⟨_, _, _, upd_same⟩
    · refine ⟨_, rfl, p, _, 1, _, rfl, rfl, SqL.of h1, atI_nat (j := 1) rfl, _, _, rfl, rfl, .inr ⟨by decide, by decide⟩, _, rfl, p, _, 2, _, rfl, rfl, SqL.of h1, atI_nat (j := 2) rfl, _, _, rfl, rfl, .inl ⟨by decide, by decide⟩, _, _, rfl, rfl, _, _, rfl, rfl, _, _, rfl, rfl, (by show (0 : Int) < 2147483647; decide), ?_⟩
      have b1 : ∀ i : Int, -(2 ^ 64) < i % 2147483647 ∧ i % 2147483647 < 2 ^ 64 := fun i => by omega
      refine ⟨_, rfl, _, rfl, _, _, rfl, rfl, .inl (b1 _), _, _, rfl, rfl, (by show (0 : Int) < 2147483629; decide), ?_⟩
      refine ⟨_, rfl, _, rfl, p, _, 2, _, rfl, rfl, SqL.of h1, atI_nat (j := 2) rfl, _, _, rfl, rfl, .inl ⟨by decide, by decide⟩, _, _, rfl, rfl, _, _, rfl, rfl, .inr ⟨by decide, by decide⟩, _, _, rfl, rfl, (by show (0 : Int) < 2147483587; decide), ?_⟩
      have b2 : ∀ i : Int, -(2 ^ 64) < i % 2147483587 ∧ i % 2147483587 < 2 ^ 64 := fun i => by omega
      refine ⟨_, rfl, _, rfl, _, _, rfl, rfl, .inl (b2 _), _, _, rfl, rfl, (by show (0 : Int) < 2147483579; decide), _, _, rfl, rfl, wide_div (b := 4) (by decide) (by decide) (by decide) (by decide), _, rfl, _, _, rfl, rfl, hn, ?_⟩
      exact q _ _ (Int.emod_nonneg _ (by omega)) (Int.emod_lt_of_pos _ hn) Off.put ⟨_, _, _, upd_same⟩
end
theorem lt9000 {n : Int} (h : n.natAbs < 2 ^ 128) : n.natAbs < 2 ^ 9000 := Nat.lt_of_lt_of_le h (Nat.pow_le_pow_right (by decide) (by decide))
theorem Pu.ne {H : Hp} {p q : Addr} {o : HO} (h : Pu H p) (hq : H q = some o) (d : ∀ x y z : Int, o ≠ .lst [.int x, .int y, .int z]) : q ≠ p := fun e => by
  obtain ⟨x, y, z, hp⟩ := h
  rw [e, hp] at hq
  exact d x y z (Option.some.inj hq).symm
theorem Pu.new {H : Hp} {p q : Addr} {o : HO} (h : Pu H p) (hq : H q = none) : Pu (upd H q o) p := by
  obtain ⟨x, y, z, hp⟩ := h
  exact ⟨x, y, z, by rw [upd_ne (ne_of_none hp hq)]; exact hp⟩
theorem Pu.nne {H : Hp} {p q : Addr} (h : Pu H p) (hq : H q = none) : q ≠ p := fun e => by
  obtain ⟨x, y, z, hp⟩ := h
  rw [e, hp] at hq
  cases hq
theorem Pu.off {H : Hp} {p q : Addr} {o : HO} (h : Pu H p) (hq : q ≠ p) : Pu (upd H q o) p := by
  obtain ⟨x, y, z, hp⟩ := h
  exact ⟨x, y, z, by rw [upd_ne (Ne.symm hq)]; exact hp⟩
theorem Pu.same {H H' : Hp} {p : Addr} (h : Pu H p) (s : Same H H') : Pu H' p := by
  obtain ⟨x, y, z, hp⟩ := h
  exact ⟨x, y, z, s _ _ hp⟩
theorem cutV_mem {xs : List V} {lo hi : Option Int} {x : V} (h : x ∈ cutV xs lo hi) : x ∈ xs := List.mem_of_mem_drop (List.mem_of_mem_take h)


/-! ### things as trees: pairs, and leaves -/
inductive Th where
  | lf (d : PyData)
  | pr (a b : Th)
def Th.toD : Th → PyData
  | .lf d => d
  | .pr a b => .tuple [a.toD, b.toD]
def isPairD : PyData → Bool
  | .tuple [_, _] => true
  | _ => false
def Th.isPr : Th → Bool
  | .lf _ => false
  | .pr _ _ => true
/-- the leaves are no pairs -/
def Th.nf : Th → Prop
  | .lf d => isPairD d = false
  | .pr a b => a.nf ∧ b.nf
def Th.parts : Th → Nat
  | .lf _ => 1
  | .pr a b => 1 + a.parts + b.parts
/-- all parts, in reading order -/
def Th.pre : Th → List Th
  | .lf d => [.lf d]
  | .pr a b => .pr a b :: (a.pre ++ b.pre)
def Th.deep : Th → Nat
  | .lf _ => 1
  | .pr a b => 1 + max a.deep b.deep
theorem Th.parts_pos (t : Th) : 0 < t.parts := by
  cases t with
  | lf d => exact Nat.one_pos
  | pr a b =>
    show 0 < 1 + a.parts + b.parts
    omega
theorem Th.pre_length (t : Th) : t.pre.length = t.parts := by
  induction t with
  | lf d => rfl
  | pr a b iha ihb =>
    show (a.pre ++ b.pre).length + 1 = 1 + a.parts + b.parts
    rw [List.length_append, iha, ihb]
    omega
theorem Th.deep_le (t : Th) : t.deep ≤ t.parts := by
  induction t with
  | lf d => exact Nat.le_refl _
  | pr a b iha ihb =>
    show 1 + max a.deep b.deep ≤ 1 + a.parts + b.parts
    omega
theorem Th.pairD {t : Th} (h : t.nf) : isPairD t.toD = t.isPr := by
  cases t with
  | lf d => exact h
  | pr a b => rfl
theorem Th.pre_nf {t u : Th} (h : t.nf) (hu : u ∈ t.pre) : u.nf := by
  induction t with
  | lf d =>
    rw [List.mem_singleton.mp hu]
    exact h
  | pr a b iha ihb =>
    rcases List.mem_cons.mp hu with e | hu
    · rw [e]
      exact h
    · rcases List.mem_append.mp hu with hu | hu
      · exact iha h.1 hu
      · exact ihb h.2 hu
def withinD : PyData → Int → Int → Bool
  | .int i, lo, hi => decide (lo ≤ i) && decide (i ≤ hi)
  | _, _, _ => false
def nameD : PyData → Bool
  | .str x => isName x
  | _ => false
/-- an unknown's number -/
def unkD : PyData → Bool
  | .tuple [d] => withinD d 0 999999999
  | _ => false
def singleD (d : PyData) : Bool := nameD d || (withinD d 0 999999999999999999999999999999 || unkD d)
def Th.okL : Th → Bool
  | .lf d => singleD d
  | .pr a b => a.okL && b.okL
def Th.isTerm (t : Th) : Bool := t.okL && decide (t.parts ≤ 100)
def knD : PyData → Kn
  | .none => .non
  | .bool _ => .bl
  | .int _ => .int
  | .str _ => .str
  | .list _ => .lst
  | .tuple _ => .tup
  | .dict _ => .dct
mutual
/-- numbers and texts of no great size -/
def fine : PyData → Bool
  | .none | .bool _ => true
  | .int i => decide (i.natAbs < 2 ^ 1000)
  | .str x => decide (x.length ≤ 1000) && x.cps.toList.all (fun c => decide (c < 1114112))
  | .list xs | .tuple xs => fineAll xs
  | .dict kvs => kvs.isEmpty
def fineAll : List PyData → Bool
  | [] => true
  | x :: xs => fine x && fineAll xs
end
theorem Th.fine_pr {a b : Th} (h : fine (Th.pr a b).toD = true) : fine a.toD = true ∧ fine b.toD = true := by
  have h' : (fine a.toD && (fine b.toD && true)) = true := h
  rw [Bool.and_true] at h'
  exact Bool.and_eq_true_iff.mp h'
section
variable {K : PySem.W.Frag} {H : Hp}
theorem Dq.knd {v : V} {d : PyData} (h : Dq K H v d) : Knd K H v (knD d) := by
  cases h with
  | non => exact kn_non
  | bl b => exact kn_bl b
  | int i => exact kn_int i
  | str x => exact kn_str x
  | lst hs _ =>
    rcases hs with (h | ⟨o, h⟩) | ⟨o, its, n, h, c, _⟩
    · exact .base (.lst h)
    · exact .base (.frz h)
    · exact .kList h c
  | tup hs _ =>
    rcases hs with (h | ⟨o, h⟩) | ⟨o, its, n, h, c, _⟩
    · exact .base (.tup h)
    · exact .fTuple h
    · exact .kTuple h c
  | dct h => exact kn_dct h
theorem Dq.within {v : V} {d : PyData} (h : Dq K H v d) (lo hi : Int) : withinV v lo hi = withinD d lo hi := by
  cases h <;> rfl
theorem Dq.name {v : V} {d : PyData} (h : Dq K H v d) : nameV v = nameD d := by
  cases h <;> rfl
theorem Dq.strLen {v : V} {d : PyData} (h : Dq K H v d) (f : fine d = true) : ∀ z, v = .str z → z.length ≤ sizeLine := by
  intro z e
  subst e
  cases h
  exact sz_le (Nat.le_trans (of_decide_eq_true (Bool.and_eq_true_iff.mp f).1) (by decide))
theorem Dq.tupOf {v : V} {ds : List PyData} (h : Dq K H v (.tuple ds)) : ∃ a xs, v = .ref a ∧ SqT K H a xs ∧ DqAll K H xs ds := by
  cases h with
  | tup hs hr => exact ⟨_, _, rfl, hs, hr⟩
theorem DqAll.two {xs : List V} {d e : PyData} (h : DqAll K H xs [d, e]) : ∃ x y, xs = [x, y] ∧ Dq K H x d ∧ Dq K H y e := by
  cases h with
  | cons h1 h2 =>
    cases h2 with
    | cons h2 h3 =>
      cases h3
      exact ⟨_, _, rfl, h1, h2⟩
theorem DqAll.one {xs : List V} {d : PyData} (h : DqAll K H xs [d]) : ∃ x, xs = [x] ∧ Dq K H x d := by
  cases h with
  | cons h1 h2 =>
    cases h2
    exact ⟨_, rfl, h1⟩
end
section
variable {P : Program} {w : World} {K : PySem.W.Frag} {mg : Str → Option Value} {base : Heap}
/-! ### is_unknown, is_pair, is_single -/
def sp_is_pair (K : PySem.W.Frag) : Sp := fun vs H Q _ => ∃ x d, vs = [x] ∧ Dq K H x d ∧ Q (.bl (isPairD d)) H
theorem isPair_tup (ds : List PyData) : isPairD (.tuple ds) = decide (V.int (ds.length : Int) = V.int 2) := by
  match ds with
  | [] => rfl
  | [_] => rfl
  | [_, _] => rfl
  | _ :: _ :: _ :: r =>
    symm
    refine decide_eq_false fun e => ?_
    have e := V.int.inj e
    simp only [List.length_cons] at e
    omega
theorem ok_is_pair (T : Env K mg) : FnOk P w K mg base CX0 1 T.a_is_pair T.d_is_pair ["term"] (sp_is_pair K) := by
  refine T.F_is_pair.ok sc_is_pair (fun vs H Q E h => ?_) (fun cdv A outer s H vs Q E hr h => ?_)
  · obtain ⟨x, d, rfl, _⟩ := h
    rfl
  · obtain ⟨x, d, rfl, hd, q⟩ := h
    refine ⟨_, (pss_one (ps_ret (pe_and (pe_callB call_isi (by rfl) T.m_isinstance PyProof.Rows.boot_isinstance (pa_cons (pv 0) (pa_cons (pe_bltn (v := .ty "tuple") (by rfl) T.m_tuple PyProof.Rows.boot_tuple rfl) pa_nil))) (pe_one (pe_cmpR op_eq (pe_callB call_len_seq (by rfl) T.m_len PySem.boot_len (pa_cons (pv 0) pa_nil)) pe_int (nomark _)))))), ?_⟩
    refine ⟨x, rfl, x, .ty "tuple", _, .type "tuple", _, rfl, .ty _, hd.knd, kit_tup _, _, rfl, ?_⟩
    cases d with
    | tuple ds =>
      obtain ⟨a, xs, rfl, hs, hr'⟩ := hd.tupOf
      rw [isPair_tup, ← hr'.length] at q
      exact ⟨_, rfl, a, xs, rfl, .inr hs, rfl, q⟩
    | _ => exact q
def sp_is_unknown (K : PySem.W.Frag) : Sp := fun vs H Q _ => ∃ x d, vs = [x] ∧ Dq K H x d ∧ Q (.bl (unkD d)) H
theorem ok_is_unknown (T : Env K mg) : FnOk P w K mg base CX0 3 T.a_is_unknown T.d_is_unknown ["thing"] (sp_is_unknown K) := by
  have G_is_within : FnOk P w K mg base CX0 2 T.a_is_within T.d_is_within ["thing", "low", "high"] (sp_is_within K) := ok_is_within T
  refine T.F_is_unknown.ok sc_is_unknown (fun vs H Q E h => ?_) (fun cdv A outer s H vs Q E hr h => ?_)
  · obtain ⟨x, d, rfl, _⟩ := h
    rfl
  · obtain ⟨x, d, rfl, hd, q⟩ := h
    have hr_is_within := hr
    refine ⟨_, (pss_one (ps_ret (pe_and (pe_callB call_isi (by rfl) T.m_isinstance PyProof.Rows.boot_isinstance (pa_cons (pv 0) (pa_cons (pe_bltn (v := .ty "tuple") (by rfl) T.m_tuple PyProof.Rows.boot_tuple rfl) pa_nil))) (pe_and (pe_cmpR op_eq (pe_callB call_len_seq (by rfl) T.m_len PySem.boot_len (pa_cons (pv 0) pa_nil)) pe_int (nomark _)) (pe_one (pe_call G_is_within hr_is_within (by rfl) T.g_is_within T.F_is_within.kp T.b_is_within .nil pass0 (pa_cons (pe_ix ix_tup (pv 0) pe_int (fun _ _ => rfl)) (pa_cons pe_int (pa_cons (pe_glob (v := V.int 999999999) (by rfl) T.g_MOST_UNKNOWN ⟨_, rfl⟩) pa_nil))))))))), ?_⟩
    refine ⟨x, rfl, x, .ty "tuple", _, .type "tuple", _, rfl, .ty _, hd.knd, kit_tup _, _, rfl, ?_⟩
    cases d with
    | tuple ds =>
      obtain ⟨a, xs, rfl, hs, hr'⟩ := hd.tupOf
      refine ⟨_, rfl, a, xs, rfl, .inr hs, rfl, _, rfl, ?_⟩
      match ds, hr', q with
      | [], hr', q =>
        cases hr'
        exact q
      | [d], hr', q =>
        obtain ⟨y, rfl, hy⟩ := hr'.one
        refine ⟨_, rfl, a, _, 0, y, rfl, rfl, hs, atI_nat (j := 0) rfl, y, knD d, 0, 999999999, rfl, hy.knd, ?_⟩
        rw [hy.within]
        exact q
      | d :: e :: r, hr', q =>
        have hl := hr'.length
        have e2 : decide (V.int (xs.length : Int) = V.int 1) = false := decide_eq_false fun e => by
          have e := V.int.inj e
          simp only [List.length_cons] at hl
          omega
        rw [e2]
        exact q
    | _ => exact q
def sp_is_single (K : PySem.W.Frag) : Sp := fun vs H Q _ => ∃ x d, vs = [x] ∧ Dq K H x d ∧ fine d = true ∧ ∀ H', Same H H' → Q (.bl (singleD d)) H'
theorem ok_is_single (T : Env K mg) : FnOk P w K mg base CX0 4 T.a_is_single T.d_is_single ["thing"] (sp_is_single K) := by
  have G_is_within : FnOk P w K mg base CX0 3 T.a_is_within T.d_is_within ["thing", "low", "high"] (sp_is_within K) := (ok_is_within T).mono (by decide)
  have G_is_name : FnOk P w K mg base CX0 3 T.a_is_name T.d_is_name ["thing"] (sp_is_name K) := (ok_is_name T).mono (by decide)
  have G_is_unknown : FnOk P w K mg base CX0 3 T.a_is_unknown T.d_is_unknown ["thing"] (sp_is_unknown K) := ok_is_unknown T
  refine T.F_is_single.ok sc_is_single (fun vs H Q E h => ?_) (fun cdv A outer s H vs Q E hr h => ?_)
  · obtain ⟨x, d, rfl, _⟩ := h
    rfl
  · obtain ⟨x, d, rfl, hd, hf, q⟩ := h
    have hr_is_within := hr
    have hr_is_name := hr
    have hr_is_unknown := hr
    refine ⟨_, (pss_one (ps_ret (pe_or (pe_call G_is_name hr_is_name (by rfl) T.g_is_name T.F_is_name.kp T.b_is_name .nil pass0 (pa_cons (pv 0) pa_nil)) (pe_or (pe_call G_is_within hr_is_within (by rfl) T.g_is_within T.F_is_within.kp T.b_is_within .nil pass0 (pa_cons (pv 0) (pa_cons pe_int (pa_cons (pe_glob (v := V.int 999999999999999999999999999999) (by rfl) T.g_GREATEST ⟨_, rfl⟩) pa_nil)))) (pe_one (pe_call G_is_unknown hr_is_unknown (by rfl) T.g_is_unknown T.F_is_unknown.kp T.b_is_unknown .nil pass0 (pa_cons (pv 0) pa_nil))))))), ?_⟩
    refine ⟨_, rfl, x, _, rfl, hd.knd, hd.strLen hf, fun H1 s1 => ⟨_, rfl, ?_⟩⟩
    have q := q H1 s1
    have hd1 := hd.same s1
    unfold singleD at q
    rw [hd.name]
    cases e1 : nameD d with
    | true =>
      rw [e1] at q
      exact q
    | false =>
      rw [e1] at q
      refine ⟨_, rfl, x, _, 0, 999999999999999999999999999999, rfl, hd1.knd, _, rfl, ?_⟩
      rw [hd1.within]
      cases e2 : withinD d 0 999999999999999999999999999999 with
      | true =>
        rw [e2] at q
        exact q
      | false =>
        rw [e2] at q
        exact ⟨_, rfl, x, d, rfl, hd1, q⟩
end


/-! ### is_term -/
def sumP : List Th → Nat
  | [] => 0
  | t :: r => t.parts + sumP r
section
variable {P : Program} {w : World} {K : PySem.W.Frag} {mg : Str → Option Value} {base : Heap}
def OkTh (t : Th) : Prop := t.nf ∧ fine t.toD = true
theorem OkTh.pr {a b : Th} (h : OkTh (.pr a b)) : OkTh a ∧ OkTh b := ⟨⟨h.1.1, (Th.fine_pr h.2).1⟩, ⟨h.1.2, (Th.fine_pr h.2).2⟩⟩
theorem Dq.pr {H : Hp} {v : V} {a b : Th} (h : Dq K H v (Th.pr a b).toD) : ∃ p x y, v = .ref p ∧ SqT K H p [x, y] ∧ Dq K H x a.toD ∧ Dq K H y b.toD := by
  obtain ⟨p, xs, rfl, hs, hr⟩ := Dq.tupOf (ds := [a.toD, b.toD]) h
  obtain ⟨x, y, rfl, hx, hy⟩ := hr.two
  exact ⟨p, x, y, rfl, hs, hx, hy⟩
/-- the loop of is_term: the stack's top is the head of ts -/
def WT (K : PySem.W.Frag) (H : Hp) (x : V) (l : Addr) (t : Th) (m : Nat) (σ : L2.St) (H' : Hp) : Prop := ∃ (ts : List Th) (vs : List V) (n : Nat) (y : Option V), σ = [some x, some (.ref l), some (.int (n : Int)), y] ∧ m = sumP ts ∧ DqAll K H vs (ts.map Th.toD) ∧ (∀ u ∈ ts, OkTh u) ∧
  H' l = some (.lst vs.reverse) ∧ Same H H' ∧ n ≤ 100 ∧ vs.length ≤ n + 1 ∧ t.isTerm = (ts.all Th.okL && decide (n + sumP ts ≤ 100))
def sp_is_term (K : PySem.W.Frag) : Sp := fun vs H Q _ => ∃ x t, vs = [x] ∧ Dq K H x t.toD ∧ OkTh t ∧ ∀ H', Same H H' → Q (.bl t.isTerm) H'
theorem ok_is_term (T : Env K mg) : FnOk P w K mg base CX0 5 T.a_is_term T.d_is_term ["thing"] (sp_is_term K) := by
  have G_is_pair : FnOk P w K mg base CX0 4 T.a_is_pair T.d_is_pair ["term"] (sp_is_pair K) := (ok_is_pair T).mono (by decide)
  have G_is_single : FnOk P w K mg base CX0 4 T.a_is_single T.d_is_single ["thing"] (sp_is_single K) := ok_is_single T
  refine T.F_is_term.ok sc_is_term (fun vs H Q E h => ?_) (fun cdv A outer s H vs Q E hr h => ?_)
  · obtain ⟨x, t, rfl, _⟩ := h
    rfl
  · obtain ⟨x, t, rfl, hd, ht, q⟩ := h
    have hr_is_pair := hr
    have hr_is_single := hr
    refine ⟨_, (pss_cons (ps_set (i := 1) sc_is_term.nd rfl (Or.inl rfl) (pe_lst (pa_cons (pv 0) pa_nil)))
      (pss_cons (ps_set (i := 2) sc_is_term.nd rfl (Or.inl rfl) pe_int)
      (pss_cons (ps_while PassesOwn.never (pt_cmpR (op_neNil hr.units) (pv 1) (pe_lst pa_nil) (nomark _)) (pss_cons (ps_set (i := 3) sc_is_term.nd rfl (Or.inl rfl) (pe_bm0 PySem.F.plainAttrs_list PySem.F.slot_list_pop PySem.F.type_list_pop mt_pop (pv 1)))
      (pss_cons (ps_aug (i := 2) sc_is_term.nd rfl (Or.inl rfl) pe_int ip_add)
      (pss_cons (ps_if (pt_cmpR op_gt (pv 2) (pe_glob (v := V.int 100) (by rfl) T.g_MOST_PARTS ⟨_, rfl⟩) (nomark _)) (pss_one (ps_ret pe_bl)) pss_nil)
      (pss_one (ps_if (pt_val (pe_call G_is_pair hr_is_pair (by rfl) T.g_is_pair T.F_is_pair.kp T.b_is_pair .nil pass0 (pa_cons (pv 3) pa_nil))) (pss_one (ps_expr (pe_bm PySem.F.plainAttrs_list PySem.F.slot_list_extend PySem.F.type_list_extend mt_extend (pv 1) (pa_cons (pe_lst (pa_cons (pe_ix ix_tup (pv 3) pe_int (fun _ _ => rfl)) (pa_cons (pe_ix ix_tup (pv 3) pe_int (fun _ _ => rfl)) pa_nil))) pa_nil)))) (pss_one (ps_if (pt_not (pt_val (pe_call G_is_single hr_is_single (by rfl) T.g_is_single T.F_is_single.kp T.b_is_single .nil pass0 (pa_cons (pv 3) pa_nil)))) (pss_one (ps_ret pe_bl)) pss_nil))))))))
      (pss_one (ps_ret pe_bl))))), ?_⟩
    refine ⟨_, rfl, (by show 1 ≤ sizeLine; decide), fun l hl => ?_⟩
    refine ⟨WT K H x l t, ⟨sumP [t], [t], [x], 0, none, rfl, rfl, .cons hd .nil, (fun u hu => by rw [List.mem_singleton.mp hu]; exact ht), upd_same, same_upd hl, by decide, Nat.le_refl 1, ?_⟩, fun m σ H1 hW => ?_⟩
    · show (t.okL && decide (t.parts ≤ 100)) = ((t.okL && true) && decide (0 + (t.parts + 0) ≤ 100))
      rw [Bool.and_true, Nat.zero_add, Nat.add_zero]
    · obtain ⟨ts, ws, n, y, rfl, rfl, hD, hO, hL, sm, hn, hw, eT⟩ := hW
      refine ⟨_, rfl, Nat.zero_le _, fun p hp => ?_⟩
      have nlp : l ≠ p := ne_of_none hL hp
      have hL2 : (upd H1 p (.lst [])) l = some (.lst ws.reverse) := (upd_ne nlp).trans hL
      have sm2 : Same H (upd H1 p (.lst [])) := sm.trans (same_upd hp)
      match ts, ws, hD with
      | [], [], _ =>
        refine ⟨l, p, _, rfl, rfl, SqL.of hL2, SqL.of upd_same, false, rfl, ?_⟩
        have e : t.isTerm = true := by
          rw [eT]
          show (true && decide (n + 0 ≤ 100)) = true
          rw [decide_eq_true (by omega)]
          rfl
        rw [e] at q
        exact q _ sm2
      | u :: ts, v :: ws, hD =>
        have hne : (v :: ws).reverse.isEmpty = false := by simp
        refine ⟨l, p, _, rfl, rfl, SqL.of hL2, SqL.of upd_same, true, congrArg V.bl (congrArg Bool.not hne), ?_⟩
        refine ⟨fun σ' H' => ∃ m', m' < sumP (u :: ts) ∧ WT K H x l t m' σ' H', fun σ' H' z => z, ?_⟩
        have hv : Dq K H v u.toD ∧ DqAll K H ws (ts.map Th.toD) := by
          cases hD with
          | cons a b => exact ⟨a, b⟩
        have hlast : (v :: ws).reverse[(v :: ws).reverse.length - 1]? = some v := by simp
        have hdrop : (v :: ws).reverse.dropLast = ws.reverse := by simp
        refine ⟨_, rfl, .inl ⟨rfl, _, SqL.of hL2⟩, l, _, v, rfl, rfl, hL2, hlast, ?_⟩
        rw [hdrop]
        have sm3 : Same H (upd (upd H1 p (.lst [])) l (.lst ws.reverse)) := same_mut sm2 hl
        refine ⟨_, rfl, _, _, rfl, rfl, ?_⟩
        refine ⟨_, rfl, _, _, rfl, rfl, _, rfl, ite2 (fun c => ?_) (fun c => ?_)⟩
        · have c : (100 : Int) < (n : Int) + 1 := of_decide_eq_true c
          have e : t.isTerm = false := by
            rw [eT]
            have hp := u.parts_pos
            show ((u :: ts).all Th.okL && decide (n + (u.parts + sumP ts) ≤ 100)) = false
            rw [decide_eq_false (show ¬ n + (u.parts + sumP ts) ≤ 100 by omega), Bool.and_false]
          rw [e] at q
          exact q _ sm3
        · have c : ¬ (100 : Int) < (n : Int) + 1 := of_decide_eq_false (Bool.eq_false_iff.mpr c)
          have hu := hO u List.mem_cons_self
          have hrest : ∀ z ∈ ts, OkTh z := fun z hz => hO z (List.mem_cons_of_mem _ hz)
          have hL3 : (upd (upd H1 p (.lst [])) l (.lst ws.reverse)) l = some (.lst ws.reverse) := upd_same
          refine ⟨_, rfl, v, u.toD, rfl, hv.1.same sm3, _, rfl, ?_⟩
          rw [Th.pairD hu.1]
          cases u with
          | pr a b =>
            obtain ⟨pa, y0, y1, rfl, hs, h0, h1⟩ := hv.1.pr
            have hs3 := seqT sm3 hs
            refine ⟨_, rfl, .inl ⟨rfl, _, SqL.of hL3⟩, _, rfl, pa, _, 1, y1, rfl, rfl, hs3, atI_nat (j := 1) rfl, _, rfl, pa, _, 0, y0, rfl, rfl, hs3, atI_nat (j := 0) rfl, (by show 2 ≤ sizeLine; decide), fun p2 hp2 => ?_⟩
            have nl2 : l ≠ p2 := ne_of_none hL3 hp2
            refine ⟨l, p2, _, _, rfl, rfl, (upd_ne nl2).trans hL3, upd_same, ?_, ?_⟩
            · rw [List.length_reverse]
              simp only [List.length_cons] at hw
              exact sz_le (by show ws.length + 2 ≤ 1000000; omega)
            · have e1 : ws.reverse ++ [y1, y0] = (y0 :: y1 :: ws).reverse := by simp
              rw [e1]
              refine ⟨sumP (a :: b :: ts), ?_, a :: b :: ts, y0 :: y1 :: ws, n + 1, _, rfl, rfl, .cons h0 (.cons h1 hv.2), ?_, upd_same, same_mut (sm3.trans (same_upd hp2)) hl, by omega, ?_, ?_⟩
              · show a.parts + (b.parts + sumP ts) < 1 + a.parts + b.parts + sumP ts
                omega
              · intro z hz
                rcases List.mem_cons.mp hz with rfl | hz
                · exact hu.pr.1
                · rcases List.mem_cons.mp hz with rfl | hz
                  · exact hu.pr.2
                  · exact hrest z hz
              · simp only [List.length_cons] at hw ⊢
                omega
              · rw [eT]
                show ((a.okL && b.okL) && ts.all Th.okL && decide (n + (1 + a.parts + b.parts + sumP ts) ≤ 100)) = (a.okL && (b.okL && ts.all Th.okL) && decide (n + 1 + (a.parts + (b.parts + sumP ts)) ≤ 100))
                rw [Bool.and_assoc a.okL, show n + (1 + a.parts + b.parts + sumP ts) = n + 1 + (a.parts + (b.parts + sumP ts)) by omega]
          | lf d =>
            refine ⟨_, rfl, v, d, rfl, hv.1.same sm3, hu.2, fun H4 s4 => ⟨_, rfl, ?_⟩⟩
            cases e1 : singleD d with
            | false =>
              have e : t.isTerm = false := by
                rw [eT]
                show ((singleD d && ts.all Th.okL) && _) = false
                rw [e1]
                rfl
              rw [e] at q
              exact q _ (sm3.trans s4)
            | true =>
              refine ⟨sumP ts, ?_, ts, ws, n + 1, _, rfl, rfl, hv.2, hrest, s4 _ _ hL3, sm3.trans s4, by omega, ?_, ?_⟩
              · show sumP ts < 1 + sumP ts
                omega
              · simp only [List.length_cons] at hw
                omega
              · rw [eT]
                show ((singleD d && ts.all Th.okL) && decide (n + (1 + sumP ts) ≤ 100)) = (ts.all Th.okL && decide (n + 1 + sumP ts ≤ 100))
                rw [e1, Bool.true_and, show n + (1 + sumP ts) = n + 1 + sumP ts by omega]
end
/-! ### need_term, parts_within, parts_of -/
section
variable {P : Program} {w : World} {K : PySem.W.Frag} {mg : Str → Option Value} {base : Heap}
def sp_need_term (K : PySem.W.Frag) (C : Addr) : Sp := fun vs H Q E => ∃ x t, vs = [x] ∧ Dq K H x t.toD ∧ OkTh t ∧ (t.isTerm = true → ∀ H', Same H H' → Q .non H') ∧
  (t.isTerm = false → ∀ H' d, Same H H' → H' d = none → E (.ref C) (some d) (upd H' d (.xd [("found", x)])))
theorem ok_need_term (T : Env K mg) : FnOk P w K mg base (L2.CX P w) 6 T.a_need_term T.d_need_term ["thing"] (sp_need_term K T.a_NoTerm) := by
  have G_is_term : FnOk P w K mg base CX0 5 T.a_is_term T.d_is_term ["thing"] (sp_is_term K) := ok_is_term T
  have G_NoTerm : FnOk P w K mg base CX0 4 T.i_NoTerm T.di_NoTerm ["self", "found"] (sp_init1 T.a_NoTerm "found") := (ok_NoTerm T).mono (by decide)
  refine T.F_need_term.okX sc_need_term (fun vs H Q E h => ?_) (fun cdv A outer s H vs Q E hr h => ?_)
  · obtain ⟨x, t, rfl, _⟩ := h
    rfl
  · obtain ⟨x, t, rfl, hd, ht, q, qe⟩ := h
    have hr_is_term := hr
    refine ⟨_, (pss_one (ps_if (pt_not (pt_val (pe_call G_is_term hr_is_term (by rfl) T.g_is_term T.F_is_term.kp T.b_is_term .nil pass0 (pa_cons (pv 0) pa_nil)))) (pss_one (ps_raise (by rfl) (takes_of rfl rfl rfl rfl) (pmk_oex T.x_NoTerm T.ii_NoTerm T.ti_NoTerm G_NoTerm hr T.bi_NoTerm .nil pass0 (by rfl) T.g_NoTerm (pa_cons (pv 0) pa_nil)))) pss_nil)), ?_⟩
    refine ⟨_, rfl, x, t, rfl, hd, ht, fun H1 s1 => ⟨_, rfl, ?_⟩⟩
    cases e : t.isTerm with
    | true => exact q e H1 s1
    | false => exact ⟨_, rfl, raise1 fun d hd => qe e H1 d s1 hd⟩
/-- the loop of parts_within -/
def WP (K : PySem.W.Frag) (H0 H : Hp) (x : V) (l f : Addr) (t : Th) (m : Nat) (σ : L2.St) (H' : Hp) : Prop := ∃ (ts done : List Th) (vs fs : List V) (y : Option V), σ = [some x, some (.ref l), some (.ref f), y] ∧ m = sumP ts ∧ DqAll K H0 vs (ts.map Th.toD) ∧ (∀ u ∈ ts, u.nf) ∧
  DqAll K H0 fs (done.map Th.toD) ∧ H' l = some (.lst vs.reverse) ∧ H' f = some (.lst fs) ∧ Same H H' ∧ done ++ (ts.map Th.pre).flatten = t.pre
def sp_parts_within (K : PySem.W.Frag) : Sp := fun vs H Q _ => ∃ (x : V) (t : Th) (H0 : Hp), vs = [x] ∧ Same H0 H ∧ Dq K H0 x t.toD ∧ t.nf ∧ t.parts ≤ 500000 ∧ ∀ l ws H', H l = none → Same H H' → H' l = some (.lst ws) → DqAll K H0 ws (t.pre.map Th.toD) → Q (.ref l) H'
theorem sumP_len : ∀ ts : List Th, ((ts.map Th.pre).flatten).length = sumP ts
  | [] => rfl
  | t :: r => by
    rw [List.map_cons, List.flatten_cons, List.length_append, sumP_len r, t.pre_length]
    rfl
theorem sumP_ge : ∀ ts : List Th, ts.length ≤ sumP ts
  | [] => Nat.le_refl _
  | t :: r => by
    have h := sumP_ge r
    have h2 := t.parts_pos
    show r.length + 1 ≤ t.parts + sumP r
    omega
theorem DqAll.snoc {H : Hp} : ∀ {vs : List V} {ds : List PyData} {v : V} {d : PyData}, DqAll K H vs ds → Dq K H v d → DqAll K H (vs ++ [v]) (ds ++ [d])
  | _, _, _, _, .nil, h => .cons h .nil
  | _, _, _, _, .cons a r, h => .cons a (r.snoc h)
theorem ok_parts_within (T : Env K mg) : FnOk P w K mg base CX0 2 T.a_parts_within T.d_parts_within ["term"] (sp_parts_within K) := by
  have G_is_pair : FnOk P w K mg base CX0 1 T.a_is_pair T.d_is_pair ["term"] (sp_is_pair K) := ok_is_pair T
  refine T.F_parts_within.ok sc_parts_within (fun vs H Q E h => ?_) (fun cdv A outer s H vs Q E hr h => ?_)
  · obtain ⟨x, t, H0, rfl, _⟩ := h
    rfl
  · obtain ⟨x, t, H0, rfl, s0, hd, ht, hp, q⟩ := h
    have hr_is_pair := hr
    refine ⟨_, (pss_cons (ps_set (i := 1) sc_parts_within.nd rfl (Or.inl rfl) (pe_lst (pa_cons (pv 0) pa_nil)))
      (pss_cons (ps_set (i := 2) sc_parts_within.nd rfl (Or.inl rfl) (pe_lst pa_nil))
      (pss_cons (ps_while PassesOwn.never (pt_cmpR (op_neNil hr.units) (pv 1) (pe_lst pa_nil) (nomark _)) (pss_cons (ps_set (i := 3) sc_parts_within.nd rfl (Or.inl rfl) (pe_bm0 PySem.F.plainAttrs_list PySem.F.slot_list_pop PySem.F.type_list_pop mt_pop (pv 1)))
      (pss_cons (ps_expr (pe_bm PySem.F.plainAttrs_list PySem.F.slot_list_append PySem.F.type_list_append mt_append (pv 2) (pa_cons (pv 3) pa_nil)))
      (pss_one (ps_if (pt_val (pe_call G_is_pair hr_is_pair (by rfl) T.g_is_pair T.F_is_pair.kp T.b_is_pair .nil pass0 (pa_cons (pv 3) pa_nil))) (pss_one (ps_expr (pe_bm PySem.F.plainAttrs_list PySem.F.slot_list_extend PySem.F.type_list_extend mt_extend (pv 1) (pa_cons (pe_lst (pa_cons (pe_ix ix_tup (pv 3) pe_int (fun _ _ => rfl)) (pa_cons (pe_ix ix_tup (pv 3) pe_int (fun _ _ => rfl)) pa_nil))) pa_nil)))) pss_nil)))))
      (pss_one (ps_ret (pv 2)))))), ?_⟩
    refine ⟨_, rfl, (by show 1 ≤ sizeLine; decide), fun l hl => ⟨Nat.zero_le _, fun f hf => ?_⟩⟩
    have nlf : l ≠ f := ne_of_none upd_same hf
    have hf0 : H f = none := (same_upd hl).free hf
    refine ⟨WP K H0 H x l f t, ⟨sumP [t], [t], [], [x], [], none, rfl, rfl, .cons hd .nil, (fun u hu => by rw [List.mem_singleton.mp hu]; exact ht), .nil, (upd_ne nlf).trans upd_same, upd_same, (same_upd hl).trans (same_upd hf), ?_⟩, fun m σ H1 hW => ?_⟩
    · show [] ++ (t.pre ++ []) = t.pre
      rw [List.nil_append, List.append_nil]
    · obtain ⟨ts, done, ws, fs, y, rfl, rfl, hD, hO, hF, hL, hFo, sm, eP⟩ := hW
      have hlen : fs.length + sumP ts = t.parts := by
        have e := congrArg List.length eP
        rw [List.length_append, sumP_len, t.pre_length] at e
        rw [hF.length, List.length_map]
        exact e
      refine ⟨_, rfl, Nat.zero_le _, fun p hp' => ?_⟩
      have nlp : l ≠ p := ne_of_none hL hp'
      have nfp : f ≠ p := ne_of_none hFo hp'
      have hL2 : (upd H1 p (.lst [])) l = some (.lst ws.reverse) := (upd_ne nlp).trans hL
      have hF2 : (upd H1 p (.lst [])) f = some (.lst fs) := (upd_ne nfp).trans hFo
      have sm2 : Same H (upd H1 p (.lst [])) := sm.trans (same_upd hp')
      match ts, ws, hD with
      | [], [], _ =>
        refine ⟨l, p, _, rfl, rfl, SqL.of hL2, SqL.of upd_same, false, rfl, ?_⟩
        have e : done = t.pre := by
          rw [← eP]
          exact (List.append_nil done).symm
        rw [e] at hF
        exact ⟨_, rfl, q f fs _ hf0 sm2 hF2 hF⟩
      | u :: ts, v :: ws, hD =>
        have hne : (v :: ws).reverse.isEmpty = false := by simp
        refine ⟨l, p, _, rfl, rfl, SqL.of hL2, SqL.of upd_same, true, congrArg V.bl (congrArg Bool.not hne), ?_⟩
        refine ⟨fun σ' H' => ∃ m', m' < sumP (u :: ts) ∧ WP K H0 H x l f t m' σ' H', fun σ' H' z => z, ?_⟩
        have hv : Dq K H0 v u.toD ∧ DqAll K H0 ws (ts.map Th.toD) := by
          cases hD with
          | cons a b => exact ⟨a, b⟩
        have hlast : (v :: ws).reverse[(v :: ws).reverse.length - 1]? = some v := by simp
        have hdrop : (v :: ws).reverse.dropLast = ws.reverse := by simp
        refine ⟨_, rfl, .inl ⟨rfl, _, SqL.of hL2⟩, l, _, v, rfl, rfl, hL2, hlast, ?_⟩
        rw [hdrop]
        have sm3 : Same H (upd (upd H1 p (.lst [])) l (.lst ws.reverse)) := same_mut sm2 hl
        have hF3 : (upd (upd H1 p (.lst [])) l (.lst ws.reverse)) f = some (.lst fs) := (upd_ne (Ne.symm nlf)).trans hF2
        have hL3 : (upd (upd H1 p (.lst [])) l (.lst ws.reverse)) l = some (.lst ws.reverse) := upd_same
        have hws : ws.length + 1 ≤ sumP (u :: ts) := by
          have h1 := hv.2.length
          rw [List.length_map] at h1
          have h2 := sumP_ge ts
          have h3 := u.parts_pos
          show ws.length + 1 ≤ u.parts + sumP ts
          omega
        refine ⟨_, rfl, .inl ⟨rfl, _, SqL.of hF3⟩, _, rfl, f, _, v, rfl, rfl, hF3, sz_lt (by omega), ?_⟩
        have sm4 : Same H (upd (upd (upd H1 p (.lst [])) l (.lst ws.reverse)) f (.lst (fs ++ [v]))) := same_mut sm3 hf0
        have hL4 : (upd (upd (upd H1 p (.lst [])) l (.lst ws.reverse)) f (.lst (fs ++ [v]))) l = some (.lst ws.reverse) := (upd_ne nlf).trans hL3
        have hu := hO u List.mem_cons_self
        have hrest : ∀ z ∈ ts, z.nf := fun z hz => hO z (List.mem_cons_of_mem _ hz)
        have hF5 : DqAll K H0 (fs ++ [v]) ((done ++ [u]).map Th.toD) := by
          rw [List.map_append]
          exact hF.snoc hv.1
        refine ⟨_, rfl, v, u.toD, rfl, hv.1.same (s0.trans sm4), _, rfl, ?_⟩
        rw [Th.pairD hu]
        cases u with
        | pr a b =>
          obtain ⟨pa, y0, y1, rfl, hs, h0, h1⟩ := hv.1.pr
          have hs3 := seqT (s0.trans sm4) hs
          refine ⟨_, rfl, .inl ⟨rfl, _, SqL.of hL4⟩, _, rfl, pa, _, 1, y1, rfl, rfl, hs3, atI_nat (j := 1) rfl, _, rfl, pa, _, 0, y0, rfl, rfl, hs3, atI_nat (j := 0) rfl, (by show 2 ≤ sizeLine; decide), fun p2 hp2 => ?_⟩
          have nl2 : l ≠ p2 := ne_of_none hL4 hp2
          have nf2 : f ≠ p2 := ne_of_none upd_same hp2
          refine ⟨l, p2, _, _, rfl, rfl, (upd_ne nl2).trans hL4, upd_same, ?_, ?_⟩
          · rw [List.length_reverse]
            exact sz_le (by show ws.length + 2 ≤ 1000000; omega)
          · have e1 : ws.reverse ++ [y1, y0] = (y0 :: y1 :: ws).reverse := by simp
            rw [e1]
            refine ⟨sumP (a :: b :: ts), ?_, a :: b :: ts, done ++ [.pr a b], y0 :: y1 :: ws, fs ++ [.ref pa], _, rfl, rfl, .cons h0 (.cons h1 hv.2), ?_, hF5, upd_same, ?_, same_mut (sm4.trans (same_upd hp2)) hl, ?_⟩
            · show a.parts + (b.parts + sumP ts) < 1 + a.parts + b.parts + sumP ts
              omega
            · intro z hz
              rcases List.mem_cons.mp hz with rfl | hz
              · exact hu.1
              · rcases List.mem_cons.mp hz with rfl | hz
                · exact hu.2
                · exact hrest z hz
            · rw [upd_ne (Ne.symm nlf), upd_ne nf2, upd_same]
            · rw [← eP]
              show done ++ [Th.pr a b] ++ (a.pre ++ (b.pre ++ (ts.map Th.pre).flatten)) = done ++ ((Th.pr a b :: (a.pre ++ b.pre)) ++ (ts.map Th.pre).flatten)
              simp
        | lf d =>
          refine ⟨sumP ts, ?_, ts, done ++ [.lf d], ws, fs ++ [v], _, rfl, rfl, hv.2, hrest, hF5, hL4, upd_same, sm4, ?_⟩
          · show sumP ts < 1 + sumP ts
            omega
          · rw [← eP]
            show done ++ [Th.lf d] ++ (ts.map Th.pre).flatten = done ++ ([Th.lf d] ++ (ts.map Th.pre).flatten)
            simp
def sp_parts_of (K : PySem.W.Frag) (C : Addr) : Sp := fun vs H Q E => ∃ x t, vs = [x] ∧ Dq K H x t.toD ∧ OkTh t ∧ (t.isTerm = true → ∀ H', Same H H' → Q (.int t.parts) H') ∧
  (t.isTerm = false → ∀ H' d, Same H H' → H' d = none → E (.ref C) (some d) (upd H' d (.xd [("found", x)])))
theorem Th.term_parts {t : Th} (h : t.isTerm = true) : t.parts ≤ 100 := of_decide_eq_true (Bool.and_eq_true_iff.mp h).2
end
/-! ### numbers_in, unknowns_of -/
def unkNum : PyData → Option Int
  | .tuple [.int i] => if withinD (.int i) 0 999999999 then some i else none
  | _ => none
def addU (acc : List Int) (i : Int) : List Int := if i ∈ acc then acc else acc ++ [i]
def stepU (acc : List Int) (u : Th) : List Int := match unkNum u.toD with
  | some i => addU acc i
  | none => acc
/-- the unknowns, by first coming -/
def Th.unks (t : Th) : List Int := t.pre.foldl stepU []
theorem unkD_num {d : PyData} : unkD d = (unkNum d).isSome := by
  match d with
  | .none | .bool _ | .int _ | .str _ | .list _ | .dict _ => rfl
  | .tuple [] => rfl
  | .tuple [.int i] =>
    show withinD (.int i) 0 999999999 = (if withinD (.int i) 0 999999999 then some i else none).isSome
    cases withinD (.int i) 0 999999999 <;> rfl
  | .tuple [.none] | .tuple [.bool _] | .tuple [.str _] | .tuple [.list _] | .tuple [.tuple _] | .tuple [.dict _] => rfl
  | .tuple (a :: _ :: _) => cases a <;> rfl
theorem unkNum_some {d : PyData} {i : Int} (h : unkNum d = some i) : d = .tuple [.int i] := by
  match d, h with
  | .tuple [.int j], h =>
    have h' : (if withinD (.int j) 0 999999999 then some j else none) = some i := h
    cases e : withinD (.int j) 0 999999999 with
    | true =>
      rw [e, if_pos rfl] at h'
      rw [Option.some.inj h']
    | false =>
      rw [e, if_neg Bool.false_ne_true] at h'
      cases h'
theorem addU_len (acc : List Int) (i : Int) : (addU acc i).length ≤ acc.length + 1 := by
  unfold addU
  split
  · omega
  · rw [List.length_append, List.length_singleton]
    exact Nat.le_refl _
theorem stepU_len (acc : List Int) (u : Th) : (stepU acc u).length ≤ acc.length + 1 := by
  unfold stepU
  split
  · exact addU_len _ _
  · omega
theorem foldU_len : ∀ (l : List Th) (acc : List Int), (l.foldl stepU acc).length ≤ acc.length + l.length
  | [], acc => Nat.le_refl _
  | u :: r, acc => by
    have h1 := foldU_len r (stepU acc u)
    have h2 := stepU_len acc u
    show (r.foldl stepU (stepU acc u)).length ≤ acc.length + (r.length + 1)
    omega
/-- the dict that holds them -/
def kvU (acc : List Int) : List (Key × V) := acc.map fun i => (Sum.inl i, V.bl true)
theorem kvU_put (acc : List Int) (i : Int) : putK (kvU acc) (Sum.inl i : Key) (.bl true) = kvU (addU acc i) := by
  have ha : ((kvU acc).any fun kv => decide (kv.1 = (Sum.inl i : Key))) = decide (i ∈ acc) := by
    unfold kvU
    rw [List.any_map]
    rw [Bool.eq_iff_iff, List.any_eq_true, decide_eq_true_iff]
    constructor
    · rintro ⟨j, hj, e⟩
      have e := Sum.inl.inj (of_decide_eq_true e)
      rw [← e]
      exact hj
    · intro h
      exact ⟨i, h, decide_eq_true rfl⟩
  unfold putK addU
  rw [ha]
  by_cases h : i ∈ acc
  · rw [if_pos (decide_eq_true h), if_pos h]
    unfold kvU
    rw [List.map_map]
    refine List.map_congr_left fun j _ => ?_
    show (if (Sum.inl j : Key) = Sum.inl i then ((Sum.inl j : Key), V.bl true) else (Sum.inl j, V.bl true)) = (Sum.inl j, V.bl true)
    split <;> rfl
  · rw [if_neg (by rw [decide_eq_false h]; exact Bool.false_ne_true), if_neg h]
    unfold kvU
    rw [List.map_append]
    rfl
theorem kvU_keys (acc : List Int) : ((kvU acc).map fun kv => kV kv.1) = acc.map V.int := by
  unfold kvU
  rw [List.map_map]
  rfl
theorem take_fold {l : List Th} {i : Nat} {u : Th} (h : l[i]? = some u) : (l.take (i + 1)).foldl stepU [] = stepU ((l.take i).foldl stepU []) u := by
  rw [List.take_add_one, h, List.foldl_append]
  rfl
section
variable {P : Program} {w : World} {K : PySem.W.Frag} {mg : Str → Option Value} {base : Heap}
theorem DqAll.get {H : Hp} : ∀ {vs : List V} {ds : List PyData} {i : Nat} {v : V}, DqAll K H vs ds → vs[i]? = some v → ∃ d, ds[i]? = some d ∧ Dq K H v d
  | _, _, _, _, .nil, e => by simp at e
  | _, _, 0, _, .cons h _, e => by
    have e := Option.some.inj e
    subst e
    exact ⟨_, rfl, h⟩
  | _, _, i + 1, v, .cons _ r, e => r.get (i := i) (v := v) e
theorem DqAll.getTh {H : Hp} {vs : List V} {ts : List Th} {i : Nat} {v : V} (h : DqAll K H vs (ts.map Th.toD)) (e : vs[i]? = some v) : ∃ u, ts[i]? = some u ∧ Dq K H v u.toD := by
  obtain ⟨d, e2, hd⟩ := h.get e
  rw [List.getElem?_map] at e2
  cases eu : ts[i]? with
  | none =>
    rw [eu] at e2
    cases e2
  | some u =>
    rw [eu] at e2
    have e3 := Option.some.inj e2
    rw [← e3] at hd
    exact ⟨u, rfl, hd⟩
def sp_numbers_in (K : PySem.W.Frag) : Sp := fun vs H Q _ => ∃ (x : V) (t : Th), vs = [x] ∧ Dq K H x t.toD ∧ t.nf ∧ t.parts ≤ 500000 ∧ ∀ l H', H l = none → Same H H' → H' l = some (.lst (t.unks.map V.int)) → Q (.ref l) H'
theorem ok_numbers_in (T : Env K mg) : FnOk P w K mg base CX0 4 T.a_numbers_in T.d_numbers_in ["term"] (sp_numbers_in K) := by
  have G_parts_within : FnOk P w K mg base CX0 3 T.a_parts_within T.d_parts_within ["term"] (sp_parts_within K) := (ok_parts_within T).mono (by decide)
  have G_is_unknown : FnOk P w K mg base CX0 3 T.a_is_unknown T.d_is_unknown ["thing"] (sp_is_unknown K) := ok_is_unknown T
  refine T.F_numbers_in.ok sc_numbers_in (fun vs H Q E h => ?_) (fun cdv A outer s H vs Q E hr h => ?_)
  · obtain ⟨x, t, rfl, _⟩ := h
    rfl
  · obtain ⟨x, t, rfl, hd, ht, hp, q⟩ := h
    have hr_parts_within := hr
    have hr_is_unknown := hr
    have hu := hu_of hr
    refine ⟨_, (pss_cons (ps_set (i := 1) sc_numbers_in.nd rfl (Or.inl rfl) pe_dnewK)
      (pss_cons (ps_for PassesOwn.never (by rfl) (pi_list (pe_call G_parts_within hr_parts_within (by rfl) T.g_parts_within T.F_parts_within.kp T.b_parts_within .nil pass0 (pa_cons (pv 0) pa_nil))) (pg_name (i := 2) sc_numbers_in.nd rfl (Or.inl rfl)) (pss_one (ps_if (pt_val (pe_call G_is_unknown hr_is_unknown (by rfl) T.g_is_unknown T.F_is_unknown.kp T.b_is_unknown .nil pass0 (pa_cons (pv 2) pa_nil))) (pss_one (ps_dput hu (pv 1) (pe_ix ix_tup (pv 2) pe_int (fun _ _ => rfl)) pe_bl rfl)) pss_nil)))
      (pss_one (ps_ret (pe_callTy (call_list_dK (by rfl)) (by rfl) T.m_list PyProof.Rows.boot_list (pa_cons (pv 1) pa_nil)))))), ?_⟩
    intro d hd0
    have s1 : Same H (upd H d (.dK [])) := same_upd hd0
    refine ⟨_, rfl, x, t, H, rfl, s1, hd, ht, hp, fun p ws H2 np s2 hL hq => ?_⟩
    have hdp : d ≠ p := ne_of_none upd_same np
    have hq0 : DqAll K H2 ws (t.pre.map Th.toD) := hq.same (s1.trans s2)
    refine ⟨p, rfl, ⟨_, SqL.of hL⟩, for_list (K := K) (a := p) (xs := ws) (fun i σ H' => ∃ y, σ = [some x, some (.ref d), y] ∧ H' d = some (.dK (kvU ((t.pre.take i).foldl stepU []))) ∧ H' p = some (.lst ws) ∧ Same H H' ∧ DqAll K H' ws (t.pre.map Th.toD))
      ⟨none, rfl, s2 _ _ upd_same, hL, s1.trans s2, hq0⟩ (fun i σ H' _ ⟨_, _, _, z, _⟩ => SqL.of z) ?_ ?_⟩
    · rintro i v σ H3 hi ⟨y, rfl, h1, h2, s3, hq3⟩
      obtain ⟨u, hu', hv⟩ := hq3.getTh hi
      refine ⟨_, rfl, v, u.toD, rfl, hv, _, rfl, ?_⟩
      rw [unkD_num]
      have hfold := take_fold hu'
      cases e : unkNum u.toD with
      | none =>
        refine ⟨_, rfl, ?_, h2, s3, hq3⟩
        rw [hfold]
        unfold stepU
        rw [e]
        exact h1
      | some j =>
        have ed := unkNum_some e
        rw [ed] at hv
        obtain ⟨a, xs, rfl, hs, hr'⟩ := hv.tupOf
        obtain ⟨z, rfl, hz⟩ := hr'.one
        cases hz
        have hlen : (kvU ((t.pre.take i).foldl stepU [])).length < sizeLine := by
          have h3 := foldU_len (t.pre.take i) []
          rw [List.length_take] at h3
          have h4 := t.pre_length
          unfold kvU
          rw [List.length_map]
          refine sz_lt ?_
          simp only [List.length_nil] at h3
          omega
        refine ⟨_, rfl, _, rfl, a, _, 0, _, rfl, rfl, hs, atI_nat (j := 0) rfl, d, _, rfl, DPut.k (k := Sum.inl j) h1 hlen, ?_⟩
        have sd : Same H (upd H3 d (.dK (putK (kvU ((t.pre.take i).foldl stepU [])) (Sum.inl j) (.bl true)))) := same_mut s3 hd0
        refine ⟨_, rfl, ?_, (upd_ne (Ne.symm hdp)).trans h2, sd, hq.same sd⟩
        rw [upd_same, kvU_put, hfold]
        unfold stepU
        rw [e]
    · rintro σ H3 ⟨y, rfl, h1, h2, s3, hq3⟩
      have el : ws.length = t.pre.length := by
        rw [hq.length, List.length_map]
      rw [el, List.take_length] at h1
      refine ⟨_, rfl, d, _, rfl, h1, fun r hr' => ?_⟩
      refine q r _ (s3.free hr') (s3.trans (same_upd hr')) ?_
      rw [upd_same, kvU_keys]
      rfl
end
section
variable {P : Program} {w : World} {K : PySem.W.Frag} {mg : Str → Option Value} {base : Heap}
/-! ### places -/
def Th.pls : Th → List Int → List (List Int × Th)
  | .lf d, pl => [(pl, .lf d)]
  | .pr a b, pl => (pl, .pr a b) :: (a.pls (pl ++ [0]) ++ b.pls (pl ++ [1]))
/-- all tuples are as they were -/
def Tups (K : PySem.W.Frag) (H H' : Hp) : Prop := ∀ a xs, SqT K H a xs → SqT K H' a xs
theorem Tups.of {H H' : Hp} (s : Same H H') : Tups K H H' := fun _ _ h => seqT s h
theorem Tups.trans {H H1 H2 : Hp} (a : Tups K H H1) (b : Tups K H1 H2) : Tups K H H2 := fun x y h => b x y (a x y h)
theorem Tups.put {H : Hp} {l : Addr} {ys zs : List V} (h : H l = some (.lst ys)) : Tups K H (upd H l (.lst zs)) := fun a xs ha => by
  rcases ha with (ha | ⟨o, ha⟩) | ha
  · exact .inl (.inl ((upd_ne (ne_of ha h fun z => nomatch z)).trans ha))
  · exact .inl (.inr ⟨o, (upd_ne (ne_of ha h fun z => nomatch z)).trans ha⟩)
  · exact .inr ha
theorem Tups.off {H H' : Hp} {l : Addr} {ys : List V} (h : H l = some (.lst ys)) (o : Off l H H') : Tups K H H' := fun a xs ha => by
  rcases ha with (ha | ⟨o', ha⟩) | ha
  · exact .inl (.inl (o _ _ (ne_of ha h fun z => nomatch z) ha))
  · exact .inl (.inr ⟨o', o _ _ (ne_of ha h fun z => nomatch z) ha⟩)
  · exact .inr ha
/-- e is a tuple of a place and a part (the part was there at H0) -/
def Pp (K : PySem.W.Frag) (H0 H : Hp) (e : V) (p : List Int × Th) : Prop := ∃ a b xv, e = .ref a ∧ SqT K H a [.ref b, xv] ∧ SqT K H b (p.1.map V.int) ∧ Dq K H0 xv p.2.toD
def PpAll (K : PySem.W.Frag) (H0 H : Hp) : List V → List (List Int × Th) → Prop
  | [], [] => True
  | e :: es, p :: ps => Pp K H0 H e p ∧ PpAll K H0 H es ps
  | _, _ => False
theorem Pp.tups {H0 H H' : Hp} {e : V} {p : List Int × Th} (h : Pp K H0 H e p) (t : Tups K H H') : Pp K H0 H' e p := by
  obtain ⟨a, b, xv, rfl, h1, h2, h3⟩ := h
  exact ⟨a, b, xv, rfl, t _ _ h1, t _ _ h2, h3⟩
theorem PpAll.tups {H0 H H' : Hp} (t : Tups K H H') : ∀ {es : List V} {ps : List (List Int × Th)}, PpAll K H0 H es ps → PpAll K H0 H' es ps
  | [], [], _ => trivial
  | _ :: _, _ :: _, ⟨h, r⟩ => ⟨h.tups t, PpAll.tups t r⟩
theorem PpAll.length {H0 H : Hp} : ∀ {es : List V} {ps : List (List Int × Th)}, PpAll K H0 H es ps → es.length = ps.length
  | [], [], _ => rfl
  | _ :: _, _ :: _, ⟨_, r⟩ => congrArg Nat.succ (PpAll.length r)
theorem PpAll.app {H0 H : Hp} : ∀ {es fs : List V} {ps qs : List (List Int × Th)}, PpAll K H0 H es ps → PpAll K H0 H fs qs → PpAll K H0 H (es ++ fs) (ps ++ qs)
  | [], _, [], _, _, h => h
  | _ :: _, _, _ :: _, _, ⟨h, r⟩, h2 => ⟨h, PpAll.app r h2⟩
theorem cat_place {H : Hp} {b q : Addr} {pl : List Int} {k : Int} {Q : VK} (hb : SqT K H b (pl.map V.int)) (hq : SqT K H q [.int k]) (hl : pl.length ≤ 1000) (h : ∀ r H', Same H H' → SqT K H' r ((pl ++ [k]).map V.int) → Q (.ref r) H') :
    rCatA K (.ref b) (.ref q) H Q := by
  refine ⟨b, q, _, _, rfl, rfl, hb, hq, ?_, fun e => ?_, (fun _ e => by cases e), fun _ _ p hp => ?_⟩
  · rw [List.length_map]
    exact sz_le (by show pl.length + 1 ≤ 1000000; omega)
  · have e : pl = [] := List.map_eq_nil_iff.mp e
    subst e
    exact h q H (Same.refl H) hq
  · refine h p _ (same_upd hp) (SqT.of ?_)
    rw [upd_same, List.map_append]
    rfl
def sumQ : List (List Int × Th) → Nat
  | [] => 0
  | p :: r => p.2.parts + sumQ r
theorem sumQ_ge : ∀ ts : List (List Int × Th), ts.length ≤ sumQ ts
  | [] => Nat.le_refl _
  | t :: r => by
    have h := sumQ_ge r
    have h2 := t.2.parts_pos
    show r.length + 1 ≤ t.2.parts + sumQ r
    omega
theorem Th.pls_length : ∀ (t : Th) (pl : List Int), (t.pls pl).length = t.parts
  | .lf _, _ => rfl
  | .pr a b, pl => by
    show (a.pls _ ++ b.pls _).length + 1 = 1 + a.parts + b.parts
    rw [List.length_append, pls_length a, pls_length b]
    omega
theorem sumQ_len : ∀ ts : List (List Int × Th), ((ts.map fun p => p.2.pls p.1).flatten).length = sumQ ts
  | [] => rfl
  | t :: r => by
    rw [List.map_cons, List.flatten_cons, List.length_append, sumQ_len r, Th.pls_length]
    rfl
end


/-! ### the law's drawn terms -/
mutual
/-- no lists, no dicts in it -/
def tupOnly : PyData → Bool
  | .none | .bool _ | .int _ | .str _ => true
  | .tuple xs => tupOnlyAll xs
  | .list _ | .dict _ => false
def tupOnlyAll : List PyData → Bool
  | [] => true
  | x :: xs => tupOnly x && tupOnlyAll xs
end
theorem no_ft {p : Prop} (h : false = true) : p := nomatch h
theorem single_tup : ∀ {d : PyData}, singleD d = true → tupOnly d = true
  | .none, _ => rfl
  | .bool _, _ => rfl
  | .int _, _ => rfl
  | .str _, _ => rfl
  | .list _, h => no_ft h
  | .dict _, h => no_ft h
  | .tuple [], _ => rfl
  | .tuple [.none], _ => rfl
  | .tuple [.bool _], _ => rfl
  | .tuple [.int _], _ => rfl
  | .tuple [.str _], _ => rfl
  | .tuple [.list _], h => no_ft h
  | .tuple [.tuple _], h => no_ft h
  | .tuple [.dict _], h => no_ft h
  | .tuple (_ :: _ :: _), h => no_ft h
theorem Th.ok_tup {t : Th} (h : t.okL = true) : tupOnly t.toD = true := by
  induction t with
  | lf d => exact single_tup h
  | pr a b iha ihb =>
    obtain ⟨h1, h2⟩ := Bool.and_eq_true_iff.mp h
    show (tupOnly a.toD && (tupOnly b.toD && true)) = true
    rw [iha h1, ihb h2]
    rfl
section
variable {K : PySem.W.Frag} {H H' : Hp}
mutual
theorem Dq.tups (t : Tups K H H') : ∀ (d : PyData) (v : V), tupOnly d = true → Dq K H v d → Dq K H' v d
  | .none, _, _, h => by
    cases h
    exact .non
  | .bool b, _, _, h => by
    cases h
    exact .bl b
  | .int i, _, _, h => by
    cases h
    exact .int i
  | .str i, _, _, h => by
    cases h
    exact .str i
  | .list _, _, e, _ => no_ft e
  | .dict _, _, e, _ => no_ft e
  | .tuple ds, _, e, h => by
    cases h with
    | tup h r => exact .tup (t _ _ h) (DqAll.tups t ds _ e r)
theorem DqAll.tups (t : Tups K H H') : ∀ (ds : List PyData) (vs : List V), tupOnlyAll ds = true → DqAll K H vs ds → DqAll K H' vs ds
  | [], _, _, h => by
    cases h
    exact .nil
  | d :: ds, _, e, h => by
    cases h with
    | cons h r => exact .cons (Dq.tups t d _ (Bool.and_eq_true_iff.mp e).1 h) (DqAll.tups t ds _ (Bool.and_eq_true_iff.mp e).2 r)
end
theorem Pu.tups {p : Addr} (h : Pu H p) (o : Off p H H') : Tups K H H' := by
  obtain ⟨x, y, z, e⟩ := h
  exact Tups.off e o
end
section
variable {P : Program} {w : World} {K : PySem.W.Frag} {mg : Str → Option Value} {base : Heap}
def sp_l_single (K : PySem.W.Frag) : Sp := fun vs H Q _ => ∃ p, vs = [.ref p] ∧ Pu H p ∧ ∀ v d H', Dq K H' v d → singleD d = true → fine d = true → isPairD d = false → Off p H H' → Pu H' p → Q v H'
theorem single_int {i : Int} (h0 : 0 ≤ i) (h1 : i ≤ 999999999999999999999999999999) : singleD (.int i) = true ∧ fine (.int i) = true := by
  constructor
  · show (false || ((decide (0 ≤ i) && decide (i ≤ 999999999999999999999999999999)) || false)) = true
    rw [decide_eq_true h0, decide_eq_true h1]
    rfl
  · show decide (i.natAbs < 2 ^ 1000) = true
    refine decide_eq_true (Nat.lt_of_le_of_lt (m := 999999999999999999999999999999) (by omega) (by decide))
theorem single_unk {i : Int} (h0 : 0 ≤ i) (h1 : i ≤ 999999999) : singleD (.tuple [.int i]) = true ∧ fine (.tuple [.int i]) = true := by
  constructor
  · show (false || (false || (decide (0 ≤ i) && decide (i ≤ 999999999)))) = true
    rw [decide_eq_true h0, decide_eq_true h1]
    rfl
  · show (decide (i.natAbs < 2 ^ 1000) && true) = true
    rw [Bool.and_true]
    exact decide_eq_true (Nat.lt_of_le_of_lt (m := 999999999999999999999999999999) (by omega) (by decide))
theorem single_name {z : Str} (h : isName z = true) (hf : fine (.str z) = true) : singleD (.str z) = true ∧ fine (.str z) = true := ⟨by
  show (isName z || _) = true
  rw [h]
  rfl, hf⟩
/-- a text that is a name -/
def NameV (v : V) : Prop := ∃ z : Str, v = .str z ∧ isName z = true ∧ fine (.str z) = true
/-- a whole number of terms, at most m -/
def NumV (m : Int) (v : V) : Prop := ∃ i : Int, v = .int i ∧ 0 ≤ i ∧ i ≤ m
theorem ok_l_single (T : Env K mg) : FnOk P w K mg base CX0 2 T.a_l_single T.d_l_single ["_law_purse_here"] (sp_l_single K) := by
  have G_l_take : FnOk P w K mg base CX0 1 T.a_l_take T.d_l_take ["_law_purse_here", "_law_many"] (sp_l_take K) := ok_l_take T
  refine T.F_l_single.ok sc_l_single (fun vs H Q E h => ?_) (fun cdv A outer s H vs Q E hr h => ?_)
  · obtain ⟨p, rfl, _⟩ := h
    rfl
  · obtain ⟨p, rfl, hp, q⟩ := h
    have hr_l_take := hr
    refine ⟨_, (pss_cons (ps_set (i := 1) sc_l_single.nd rfl (Or.inl rfl) (pe_call G_l_take hr_l_take (by rfl) T.g_l_take T.F_l_take.kp T.b_l_take .nil pass0 (pa_cons (pv 0) (pa_cons pe_int pa_nil))))
      (pss_cons (ps_if (pt_cmpR op_lt (pv 1) pe_int (nomark _)) (pss_cons (ps_set (i := 2) sc_l_single.nd rfl (Or.inl rfl) (pe_lst (pa_cons pe_str (pa_cons pe_str (pa_cons pe_str (pa_cons pe_str (pa_cons pe_str (pa_cons pe_str (pa_cons pe_str (pa_cons pe_str (pa_cons pe_str (pa_cons pe_str (pa_cons pe_str (pa_cons pe_str (pa_cons pe_str (pa_cons pe_str pa_nil))))))))))))))))
      (pss_one (ps_ret (pe_ix ix_list (pv 2) (pe_call G_l_take hr_l_take (by rfl) T.g_l_take T.F_l_take.kp T.b_l_take .nil pass0 (pa_cons (pv 0) (pa_cons pe_int pa_nil))) (fun _ _ => rfl))))) pss_nil)
      (pss_cons (ps_if (pt_cmpR op_lt (pv 1) pe_int (nomark _)) (pss_one (ps_ret (pe_ix ix_list (pe_lst (pa_cons pe_int (pa_cons pe_int (pa_cons pe_int (pa_cons (pe_op op_sub (pe_op op_pow pe_int pe_int) pe_int) (pa_cons (pe_call G_l_take hr_l_take (by rfl) T.g_l_take T.F_l_take.kp T.b_l_take .nil pass0 (pa_cons (pv 0) (pa_cons (pe_op op_pow pe_int pe_int) pa_nil))) (pa_cons pe_int pa_nil))))))) (pe_call G_l_take hr_l_take (by rfl) T.g_l_take T.F_l_take.kp T.b_l_take .nil pass0 (pa_cons (pv 0) (pa_cons pe_int pa_nil))) (fun _ _ => rfl)))) pss_nil)
      (pss_one (ps_ret (pe_tup (pa_cons (pe_ix ix_list (pe_lst (pa_cons pe_int (pa_cons pe_int (pa_cons pe_int (pa_cons pe_int (pa_cons pe_int (pa_cons pe_int (pa_cons pe_int (pa_cons pe_int pa_nil))))))))) (pe_call G_l_take hr_l_take (by rfl) T.g_l_take T.F_l_take.kp T.b_l_take .nil pass0 (pa_cons (pv 0) (pa_cons pe_int pa_nil))) (fun _ _ => rfl)) pa_nil))))))), ?_⟩
    refine ⟨_, rfl, p, 8, rfl, hp, by decide, lt9000 (by decide), fun w1 H1 _ _ o1 p1 => ?_⟩
    refine ⟨_, rfl, _, _, rfl, rfl, _, rfl, ite2 (fun c => ?_) (fun c => ?_)⟩
    · refine ⟨(by show 14 ≤ sizeLine; decide), fun l hl => ?_⟩
      refine ⟨_, rfl, _, rfl, p, 14, rfl, p1.new hl, by decide, lt9000 (by decide), fun r H2 r0 r1 o2 p2 => ?_⟩
      obtain ⟨y, hL, hy, hm⟩ := lst_at (o2 l _ (p1.nne hl) upd_same) r0 r1
      refine ⟨l, _, r, y, rfl, rfl, SqL.of hL, hy, ?_⟩
      have hy2 : NameV y := by
        simp only [List.mem_cons, List.not_mem_nil, or_false] at hm
        rcases hm with rfl | rfl | rfl | rfl | rfl | rfl | rfl | rfl | rfl | rfl | rfl | rfl | rfl | rfl <;> exact ⟨_, rfl, by decide +kernel, by decide +kernel⟩
      obtain ⟨z, rfl, hz, hf⟩ := hy2
      obtain ⟨k1, k2⟩ := single_name hz hf
      exact q _ _ H2 (.str z) k1 k2 rfl ((o1.new hl).trans o2) p2
    · refine ⟨_, rfl, _, _, rfl, rfl, _, rfl, ite2 (fun c => ?_) (fun c => ?_)⟩
      · refine ⟨_, _, rfl, rfl, ⟨by decide, by decide, by decide⟩, _, _, rfl, rfl, _, rfl, _, _, rfl, rfl, ⟨by decide, by decide, by decide⟩, p, _, rfl, p1, by decide, lt9000 (by decide), fun n H2 n0 n1 o2 p2 => ?_⟩
        refine ⟨(by show 6 ≤ sizeLine; decide), fun l hl => ?_⟩
        refine ⟨_, rfl, p, 6, rfl, p2.new hl, by decide, lt9000 (by decide), fun r H3 r0 r1 o3 p3 => ?_⟩
        obtain ⟨y, hL, hy, hm⟩ := lst_at (o3 l _ (p2.nne hl) upd_same) r0 r1
        refine ⟨l, _, r, y, rfl, rfl, SqL.of hL, hy, ?_⟩
        have hy2 : NumV 999999999999999999999999999999 y := by
          simp only [List.mem_cons, List.not_mem_nil, or_false] at hm
          have n1 : n < 1000000000 := n1
          rcases hm with rfl | rfl | rfl | rfl | rfl | rfl
          · exact ⟨_, rfl, by decide, by decide⟩
          · exact ⟨_, rfl, by decide, by decide⟩
          · exact ⟨_, rfl, by decide, by decide⟩
          · exact ⟨_, rfl, by decide, by decide⟩
          · exact ⟨_, rfl, n0, by omega⟩
          · exact ⟨_, rfl, by decide, by decide⟩
        obtain ⟨i, rfl, i0, i1⟩ := hy2
        obtain ⟨k1, k2⟩ := single_int i0 i1
        exact q _ _ H3 (.int i) k1 k2 rfl (((o1.trans o2).new hl).trans o3) p3
      · refine ⟨(by show 8 ≤ sizeLine; decide), fun l hl => ?_⟩
        refine ⟨_, rfl, p, 8, rfl, p1.new hl, by decide, lt9000 (by decide), fun r H3 r0 r1 o3 p3 => ?_⟩
        obtain ⟨y, hL, hy, hm⟩ := lst_at (o3 l _ (p1.nne hl) upd_same) r0 r1
        refine ⟨l, _, r, y, rfl, rfl, SqL.of hL, hy, ?_⟩
        have hy2 : NumV 999999999 y := by
          simp only [List.mem_cons, List.not_mem_nil, or_false] at hm
          rcases hm with rfl | rfl | rfl | rfl | rfl | rfl | rfl | rfl <;> exact ⟨_, rfl, by decide, by decide⟩
        obtain ⟨i, rfl, i0, i1⟩ := hy2
        obtain ⟨k1, k2⟩ := single_unk i0 i1
        refine ⟨(by show 1 ≤ sizeLine; decide), fun t ht => ?_⟩
        exact q _ _ _ (.tup (SqT.of upd_same) (.cons (.int i) .nil)) k1 k2 rfl (((o1.new hl).trans o3).new ht) (p3.new ht)
/-- a drawn term -/
def GoodT (t : Th) (n : Int) : Prop := t.nf ∧ t.okL = true ∧ fine t.toD = true ∧ (t.parts : Int) ≤ n
def sp_l_term (K : PySem.W.Frag) (n : Nat) : Sp := fun vs H Q _ => ∃ p r, vs = [.ref p, .int r] ∧ Pu H p ∧ 1 ≤ r ∧ r ≤ n ∧ r ≤ 1000 ∧ ∀ v t H', Dq K H' v (Th.toD t) → GoodT t r → Off p H H' → Pu H' p → Q v H'
theorem ok_l_term (T : Env K mg) : ∀ n : Nat, FnOk P w K mg base CX0 (n + 3) T.a_l_term T.d_l_term ["_law_purse_here", "_law_room_here"] (sp_l_term K n)
  | 0 => by
    have no : ∀ vs H Q E, ¬ sp_l_term K 0 vs H Q E := fun vs H Q E h => by
      obtain ⟨p, r, _, _, h1, h2, _⟩ := h
      omega
    exact ⟨fun vs H Q E h => absurd h (no vs H Q E), fun A outer s H args us vs Q E _ _ _ _ h => absurd h (no vs H Q E)⟩
  | n + 1 => by
    have G_l_term : FnOk P w K mg base CX0 (n + 3) T.a_l_term T.d_l_term ["_law_purse_here", "_law_room_here"] (sp_l_term K n) := ok_l_term T n
    have G_l_single : FnOk P w K mg base CX0 (n + 3) T.a_l_single T.d_l_single ["_law_purse_here"] (sp_l_single K) := (ok_l_single T).mono (by omega)
    have G_l_take : FnOk P w K mg base CX0 (n + 3) T.a_l_take T.d_l_take ["_law_purse_here", "_law_many"] (sp_l_take K) := (ok_l_take T).mono (by omega)
    refine T.F_l_term.ok sc_l_term (fun vs H Q E h => ?_) (fun cdv A outer s H vs Q E hr h => ?_)
    · obtain ⟨p, r, rfl, _⟩ := h
      rfl
    · obtain ⟨p, r, rfl, hp, hr1, hrn, hrk, q⟩ := h
      have hr_l_take := hr
      have hr_l_single := hr
      have hr_l_term := hr
      refine ⟨_, (pss_cons (ps_if (PW.pt (pw_or (pt_cmpR op_lt (pv 1) pe_int (nomark _)) (pw_or1 (pt_cmpR op_eq (pe_call G_l_take hr_l_take (by rfl) T.g_l_take T.F_l_take.kp T.b_l_take .nil pass0 (pa_cons (pv 0) (pa_cons pe_int pa_nil))) pe_int (nomark _))))) (pss_one (ps_ret (pe_call G_l_single hr_l_single (by rfl) T.g_l_single T.F_l_single.kp T.b_l_single .nil pass0 (pa_cons (pv 0) pa_nil)))) pss_nil)
      (pss_cons (ps_set (i := 2) sc_l_term.nd rfl (Or.inl rfl) (pe_ix ix_list (pe_lst (pa_cons pe_int (pa_cons (pe_op op_add pe_int (pe_call G_l_take hr_l_take (by rfl) T.g_l_take T.F_l_take.kp T.b_l_take .nil pass0 (pa_cons (pv 0) (pa_cons (pe_op op_sub (pv 1) pe_int) pa_nil)))) pa_nil))) (pe_call G_l_take hr_l_take (by rfl) T.g_l_take T.F_l_take.kp T.b_l_take .nil pass0 (pa_cons (pv 0) (pa_cons pe_int pa_nil))) (fun _ _ => rfl)))
      (pss_one (ps_ret (pe_tup (pa_cons (pe_call G_l_term hr_l_term (by rfl) T.g_l_term T.F_l_term.kp T.b_l_term .nil pass0 (pa_cons (pv 0) (pa_cons (pv 2) pa_nil))) (pa_cons (pe_call G_l_term hr_l_term (by rfl) T.g_l_term T.F_l_term.kp T.b_l_term .nil pass0 (pa_cons (pv 0) (pa_cons (pe_op op_sub (pe_op op_sub (pv 1) pe_int) (pv 2)) pa_nil))) pa_nil))))))), ?_⟩
      have single : ∀ H1, Off p H H1 → Pu H1 p → sp_l_single K [.ref p] H1 Q E0 := fun H1 o1 p1 => ⟨p, rfl, p1, fun v d H2 hd hs hf hn o2 p2 => q v (.lf d) H2 hd ⟨hn, hs, hf, by show ((1 : Nat) : Int) ≤ r; omega⟩ (o1.trans o2) p2⟩
      refine ⟨_, rfl, _, _, rfl, rfl, _, rfl, ite2 (fun c => ?_) (fun c => ?_)⟩
      · exact ⟨_, rfl, single H (Off.refl p H) hp⟩
      · have c : ¬ r < 3 := of_decide_eq_false (Bool.eq_false_iff.mpr c)
        refine ⟨_, rfl, p, 5, rfl, hp, by decide, lt9000 (by decide), fun w1 H1 _ _ o1 p1 => ⟨rfl, _, rfl, ite2 (fun c => ?_) (fun c => ?_)⟩⟩
        · exact ⟨_, rfl, single H1 o1 p1⟩
        · refine ⟨_, rfl, _, rfl, _, _, rfl, rfl, p, r - 2, rfl, p1, by omega, lt9000 (by omega), fun k H2 k0 k1 o2 p2 => ⟨_, _, rfl, rfl, (by show 2 ≤ sizeLine; decide), fun l hl => ?_⟩⟩
          refine ⟨_, rfl, p, 2, rfl, p2.new hl, by decide, lt9000 (by decide), fun j H3 j0 j1 o3 p3 => ?_⟩
          obtain ⟨y, hL, hy, hm⟩ := lst_at (o3 l _ (p2.nne hl) upd_same) j0 j1
          have hy2 : ∃ f : Int, y = .int f ∧ 1 ≤ f ∧ f ≤ r - 2 := by
            simp only [List.mem_cons, List.not_mem_nil, or_false] at hm
            rcases hm with rfl | rfl
            · exact ⟨_, rfl, by decide, by omega⟩
            · exact ⟨_, rfl, by omega, by omega⟩
          obtain ⟨f, rfl, f1, f2⟩ := hy2
          refine ⟨l, _, j, _, rfl, rfl, SqL.of hL, hy, ?_⟩
          have o03 : Off p H H3 := ((o1.trans o2).new hl).trans o3
          refine ⟨_, rfl, _, rfl, p, f, rfl, p3, f1, by omega, by omega, fun v1 t1 H4 d1 g1 o4 p4 => ?_⟩
          refine ⟨_, rfl, _, rfl, _, _, rfl, rfl, _, rfl, _, _, rfl, rfl, p, r - 1 - f, rfl, p4, by omega, by omega, by omega, fun v2 t2 H5 d2 g2 o5 p5 => ?_⟩
          refine ⟨(by show 2 ≤ sizeLine; decide), fun c hc => ?_⟩
          have s5 : Same H5 (upd H5 c (.tup [v1, v2])) := same_upd hc
          have d1' : Dq K H5 v1 t1.toD := Dq.tups (p4.tups o5) _ _ (Th.ok_tup g1.2.1) d1
          refine q _ (.pr t1 t2) _ (.tup (SqT.of upd_same) (.cons (d1'.same s5) (.cons (d2.same s5) .nil))) ⟨⟨g1.1, g2.1⟩, ?_, ?_, ?_⟩ ((o03.trans (o4.trans o5)).new hc) (p5.new hc)
          · show (t1.okL && t2.okL) = true
            rw [g1.2.1, g2.2.1]
            rfl
          · show (fine t1.toD && (fine t2.toD && true)) = true
            rw [g1.2.2.1, g2.2.2.1]
            rfl
          · have e1 := g1.2.2.2
            have e2 := g2.2.2.2
            show ((1 + t1.parts + t2.parts : Nat) : Int) ≤ r
            omega
def sp_l_room (K : PySem.W.Frag) : Sp := fun vs H Q _ => ∃ p, vs = [.ref p] ∧ Pu H p ∧ ∀ r H', 1 ≤ r → r ≤ 100 → Off p H H' → Pu H' p → Q (.int r) H'
theorem ok_l_room (T : Env K mg) : FnOk P w K mg base CX0 2 T.a_l_room T.d_l_room ["_law_purse_here"] (sp_l_room K) := by
  have G_l_take : FnOk P w K mg base CX0 1 T.a_l_take T.d_l_take ["_law_purse_here", "_law_many"] (sp_l_take K) := ok_l_take T
  refine T.F_l_room.ok sc_l_room (fun vs H Q E h => ?_) (fun cdv A outer s H vs Q E hr h => ?_)
  · obtain ⟨p, rfl, _⟩ := h
    rfl
  · obtain ⟨p, rfl, hp, q⟩ := h
    have hr_l_take := hr
    refine ⟨_, (pss_one (ps_ret (pe_ix ix_list (pe_lst (pa_cons pe_int (pa_cons pe_int (pa_cons pe_int (pa_cons pe_int (pa_cons pe_int (pa_cons pe_int (pa_cons pe_int (pa_cons (pe_op op_add pe_int (pe_call G_l_take hr_l_take (by rfl) T.g_l_take T.F_l_take.kp T.b_l_take .nil pass0 (pa_cons (pv 0) (pa_cons pe_int pa_nil)))) pa_nil))))))))) (pe_call G_l_take hr_l_take (by rfl) T.g_l_take T.F_l_take.kp T.b_l_take .nil pass0 (pa_cons (pv 0) (pa_cons pe_int pa_nil))) (fun _ _ => rfl)))), ?_⟩
    refine ⟨_, rfl, p, 100, rfl, hp, by decide, lt9000 (by decide), fun k H1 k0 k1 o1 p1 => ⟨_, _, rfl, rfl, (by show 8 ≤ sizeLine; decide), fun l hl => ?_⟩⟩
    refine ⟨_, rfl, p, 8, rfl, p1.new hl, by decide, lt9000 (by decide), fun j H3 j0 j1 o3 p3 => ?_⟩
    obtain ⟨y, hL, hy, hm⟩ := lst_at (o3 l _ (p1.nne hl) upd_same) j0 j1
    have hy2 : ∃ f : Int, y = .int f ∧ 1 ≤ f ∧ f ≤ 100 := by
      simp only [List.mem_cons, List.not_mem_nil, or_false] at hm
      rcases hm with rfl | rfl | rfl | rfl | rfl | rfl | rfl | rfl
      · exact ⟨_, rfl, by decide, by decide⟩
      · exact ⟨_, rfl, by decide, by decide⟩
      · exact ⟨_, rfl, by decide, by decide⟩
      · exact ⟨_, rfl, by decide, by decide⟩
      · exact ⟨_, rfl, by decide, by decide⟩
      · exact ⟨_, rfl, by decide, by decide⟩
      · exact ⟨_, rfl, by decide, by decide⟩
      · exact ⟨_, rfl, by omega, by omega⟩
    obtain ⟨f, rfl, f1, f2⟩ := hy2
    exact ⟨l, _, j, _, rfl, rfl, SqL.of hL, hy, q f H3 f1 f2 ((o1.new hl).trans o3) p3⟩
end


/-! ### the law's own count and places -/
theorem Th.deep_pos (t : Th) : 0 < t.deep := by
  cases t with
  | lf d => exact Nat.one_pos
  | pr a b =>
    show 0 < 1 + max a.deep b.deep
    omega
theorem Th.deep_half (t : Th) : 2 * t.deep ≤ t.parts + 1 := by
  induction t with
  | lf d => exact Nat.le_refl _
  | pr a b iha ihb =>
    have h1 := a.parts_pos
    have h2 := b.parts_pos
    show 2 * (1 + max a.deep b.deep) ≤ 1 + a.parts + b.parts + 1
    omega
theorem Th.pre_fine {t u : Th} (h : fine t.toD = true) (hu : u ∈ t.pre) : fine u.toD = true ∧ u.parts ≤ t.parts := by
  induction t with
  | lf d =>
    rw [List.mem_singleton.mp hu]
    exact ⟨h, Nat.le_refl _⟩
  | pr a b iha ihb =>
    rcases List.mem_cons.mp hu with e | hu
    · rw [e]
      exact ⟨h, Nat.le_refl _⟩
    · obtain ⟨h1, h2⟩ := Th.fine_pr h
      rcases List.mem_append.mp hu with hu | hu
      · obtain ⟨k1, k2⟩ := iha h1 hu
        exact ⟨k1, by show u.parts ≤ 1 + a.parts + b.parts; omega⟩
      · obtain ⟨k1, k2⟩ := ihb h2 hu
        exact ⟨k1, by show u.parts ≤ 1 + a.parts + b.parts; omega⟩
section
variable {P : Program} {w : World} {K : PySem.W.Frag} {mg : Str → Option Value} {base : Heap}
/-- the deed of a raising def where nothing is raised -/
def calm (sp : Sp) : Sp := fun vs H Q _ => sp vs H Q E0
theorem calm_ok {k : Nat} {f : Addr} {fd : FuncData} {ps : List Str} {sp : Sp} (F : FnOk P w K mg base (L2.CX P w) k f fd ps sp) : FnOk P w K mg base CX0 k f fd ps (calm sp) :=
  ⟨fun vs H Q E h => F.len vs H Q E0 h, fun A outer s H args us vs Q E hr he hb hv h => codeAny_mono (F.run A outer s H args us vs Q E0 hr he hb hv h) fun r s' hq => by
    match r, hq with
    | .ok x, hq =>
      cases x with
      | ret u => exact hq
      | _ => exact hq
    | .error e, hq =>
      obtain ⟨_, _, _, _, _, _, _, _, _, _, _, _, z⟩ := hq
      exact z.elim⟩
def sp_l_parts (K : PySem.W.Frag) (n : Nat) : Sp := fun vs H Q _ => ∃ (x : V) (t : Th), vs = [x] ∧ Dq K H x t.toD ∧ t.nf ∧ t.deep ≤ n ∧ Q (.int t.parts) H
theorem ok_l_parts (T : Env K mg) : ∀ n : Nat, FnOk P w K mg base CX0 (n + 1) T.a_l_parts T.d_l_parts ["_law_term_here"] (sp_l_parts K n)
  | 0 => by
    have no : ∀ vs H Q E, ¬ sp_l_parts K 0 vs H Q E := fun vs H Q E h => by
      obtain ⟨x, t, _, _, _, h1, _⟩ := h
      have := t.deep_pos
      omega
    exact ⟨fun vs H Q E h => absurd h (no vs H Q E), fun A outer s H args us vs Q E _ _ _ _ h => absurd h (no vs H Q E)⟩
  | n + 1 => by
    have G_l_parts : FnOk P w K mg base CX0 (n + 1) T.a_l_parts T.d_l_parts ["_law_term_here"] (sp_l_parts K n) := ok_l_parts T n
    refine T.F_l_parts.ok sc_l_parts (fun vs H Q E h => ?_) (fun cdv A outer s H vs Q E hr h => ?_)
    · obtain ⟨x, t, rfl, _⟩ := h
      rfl
    · obtain ⟨x, t, rfl, hd, hn, hdp, q⟩ := h
      have hr_l_parts := hr
      refine ⟨_, (pss_cons (ps_if (PW.pt (pw_and (pt_val (pe_callB call_isi (by rfl) T.m_isinstance PyProof.Rows.boot_isinstance (pa_cons (pv 0) (pa_cons (pe_bltn (v := .ty "tuple") (by rfl) T.m_tuple PyProof.Rows.boot_tuple rfl) pa_nil)))) (pw_and1 (pt_cmpR op_eq (pe_callB call_len_seq (by rfl) T.m_len PySem.boot_len (pa_cons (pv 0) pa_nil)) pe_int (nomark _))))) (pss_one (ps_ret (pe_op op_add (pe_op op_add pe_int (pe_call G_l_parts hr_l_parts (by rfl) T.g_l_parts T.F_l_parts.kp T.b_l_parts .nil pass0 (pa_cons (pe_ix ix_tup (pv 0) pe_int (fun _ _ => rfl)) pa_nil))) (pe_call G_l_parts hr_l_parts (by rfl) T.g_l_parts T.F_l_parts.kp T.b_l_parts .nil pass0 (pa_cons (pe_ix ix_tup (pv 0) pe_int (fun _ _ => rfl)) pa_nil))))) pss_nil)
      (pss_one (ps_ret pe_int))), ?_⟩
      refine ⟨x, rfl, x, .ty "tuple", _, .type "tuple", _, rfl, .ty _, hd.knd, kit_tup _, _, rfl, ?_⟩
      cases t with
      | pr a b =>
        obtain ⟨pa, y0, y1, rfl, hs, h0, h1⟩ := hd.pr
        have hdp : 1 + max a.deep b.deep ≤ n + 1 := hdp
        refine ⟨_, rfl, pa, _, rfl, .inr hs, rfl, true, rfl, ?_⟩
        refine ⟨_, rfl, pa, _, 0, y0, rfl, rfl, hs, atI_nat (j := 0) rfl, y0, a, rfl, h0, hn.1, by omega, _, _, rfl, rfl, ?_⟩
        refine ⟨_, rfl, pa, _, 1, y1, rfl, rfl, hs, atI_nat (j := 1) rfl, y1, b, rfl, h1, hn.2, by omega, _, _, rfl, rfl, ?_⟩
        have e : ((Th.pr a b).parts : Int) = 1 + (a.parts : Int) + (b.parts : Int) := by
          show ((1 + a.parts + b.parts : Nat) : Int) = _
          omega
        rw [e] at q
        exact q
      | lf d =>
        cases d with
        | tuple ds =>
          obtain ⟨a, xs, rfl, hs, hr'⟩ := Dq.tupOf (ds := ds) hd
          have e : decide (V.int (xs.length : Int) = V.int 2) = false := by
            rw [hr'.length, ← isPair_tup]
            exact hn
          exact ⟨_, rfl, a, xs, rfl, .inr hs, rfl, false, congrArg V.bl e, q⟩
        | _ => exact q
def sp_l_places (K : PySem.W.Frag) (n : Nat) : Sp := fun vs H Q _ => ∃ (x : V) (t : Th) (b : Addr) (pl : List Int) (H0 : Hp), vs = [x, .ref b] ∧ Same H0 H ∧ Dq K H0 x t.toD ∧ t.nf ∧ t.deep ≤ n ∧ pl.length + n ≤ 900 ∧ t.parts ≤ 400000 ∧ SqT K H b (pl.map V.int) ∧
  ∀ l es H', H l = none → Same H H' → H' l = some (.lst es) → PpAll K H0 H' es (t.pls pl) → Q (.ref l) H'
theorem Th.pls_snd : ∀ (t : Th) (pl : List Int), (t.pls pl).map Prod.snd = t.pre
  | .lf _, _ => rfl
  | .pr a b, pl => by
    show Th.pr a b :: (a.pls _ ++ b.pls _).map Prod.snd = Th.pr a b :: (a.pre ++ b.pre)
    rw [List.map_append, pls_snd a, pls_snd b]
theorem PpAll.get {H0 H : Hp} : ∀ {es : List V} {ps : List (List Int × Th)} {i : Nat} {v : V}, PpAll K H0 H es ps → es[i]? = some v → ∃ p, ps[i]? = some p ∧ Pp K H0 H v p
  | _ :: _, p :: _, 0, _, ⟨h, _⟩, e => by
    cases e
    exact ⟨p, rfl, h⟩
  | _ :: _, _ :: _, i + 1, _, ⟨_, r⟩, e => PpAll.get (i := i) r e
theorem single_cases {d : PyData} (h : singleD d = true) : (∃ z, d = .str z) ∨ (∃ i, d = .int i) ∨ ∃ i, d = .tuple [.int i] ∧ unkNum d = some i := by
  unfold singleD at h
  rcases Bool.or_eq_true_iff.mp h with h | h
  · left
    cases d with
    | str z => exact ⟨z, rfl⟩
    | _ => cases h
  · right
    rcases Bool.or_eq_true_iff.mp h with h | h
    · left
      cases d with
      | int z => exact ⟨z, rfl⟩
      | _ => cases h
    · right
      rw [unkD_num] at h
      obtain ⟨i, hi⟩ := Option.isSome_iff_exists.mp h
      exact ⟨i, unkNum_some hi, hi⟩
theorem Th.ok_pre {t u : Th} (h : t.okL = true) (hu : u ∈ t.pre) : u.okL = true := by
  induction t with
  | lf d =>
    rw [List.mem_singleton.mp hu]
    exact h
  | pr a b iha ihb =>
    rcases List.mem_cons.mp hu with e | hu
    · rw [e]
      exact h
    · obtain ⟨h1, h2⟩ := Bool.and_eq_true_iff.mp (show (a.okL && b.okL) = true from h)
      rcases List.mem_append.mp hu with hu | hu
      · exact iha h1 hu
      · exact ihb h2 hu
theorem inV_ints (i : Int) : ∀ acc : List Int, inV (.int i) (acc.map V.int) = decide (i ∈ acc)
  | [] => rfl
  | a :: r => by
    have ih := inV_ints i r
    show ((a == i) || inV (.int i) (r.map V.int)) = decide (i ∈ a :: r)
    rw [ih]
    by_cases e : a = i
    · subst e
      simp
    · have e' : i ≠ a := fun z => e z.symm
      simp [e, e']
theorem flat_ints : ∀ acc : List Int, (acc.map V.int).all flatV = true
  | [] => rfl
  | _ :: r => flat_ints r
theorem unkNum_two {x y : PyData} {r : List PyData} : unkNum (.tuple (x :: y :: r)) = none := by
  cases x <;> rfl
theorem stepU_some {acc : List Int} {u : Th} {j : Int} (h : unkNum u.toD = some j) : stepU acc u = addU acc j := by
  unfold stepU
  rw [h]
end


/-! ### unknowns renamed -/
/-- the place of a number in a list -/
def idxI (us : List Int) (i : Int) : Nat := us.idxOf i
/-- each unknown that stands in us by its place there -/
def Th.ren (us : List Int) : Th → Th
  | .lf d => match unkNum d with
    | some i => if i ∈ us then .lf (.tuple [.int (idxI us i)]) else .lf d
    | none => .lf d
  | .pr a b => .pr (a.ren us) (b.ren us)
theorem mem_addU {acc : List Int} {i j : Int} : j ∈ addU acc i ↔ j ∈ acc ∨ j = i := by
  unfold addU
  split
  · rename_i h
    constructor
    · exact fun z => .inl z
    · rintro (z | rfl)
      · exact z
      · exact h
  · rw [List.mem_append, List.mem_singleton]
theorem addU_nodup {acc : List Int} {i : Int} (h : acc.Nodup) : (addU acc i).Nodup := by
  unfold addU
  split
  · exact h
  · rename_i hn
    rw [List.nodup_append]
    refine ⟨h, by simp, ?_⟩
    intro a ha b hb
    rw [List.mem_singleton.mp hb]
    rintro rfl
    exact hn ha
/-- one list of numbers goes on from another -/
def Ext (us ws : List Int) : Prop := ∃ r, ws = us ++ r
theorem Ext.refl (us : List Int) : Ext us us := ⟨[], (List.append_nil _).symm⟩
theorem Ext.trans {a b c : List Int} (h1 : Ext a b) (h2 : Ext b c) : Ext a c := by
  obtain ⟨r, rfl⟩ := h1
  obtain ⟨s, rfl⟩ := h2
  exact ⟨r ++ s, List.append_assoc ..⟩
theorem Ext.mem {a b : List Int} (h : Ext a b) {i : Int} (hi : i ∈ a) : i ∈ b := by
  obtain ⟨r, rfl⟩ := h
  exact List.mem_append_left _ hi
theorem Ext.idx {a b : List Int} (h : Ext a b) {i : Int} (hi : i ∈ a) : idxI b i = idxI a i := by
  obtain ⟨r, rfl⟩ := h
  unfold idxI
  rw [List.idxOf_append, if_pos hi]
theorem ext_addU (acc : List Int) (i : Int) : Ext acc (addU acc i) := by
  unfold addU
  split
  · exact Ext.refl _
  · exact ⟨[i], rfl⟩
/-- all unknowns of t stand in us -/
def Th.within (us : List Int) : Th → Prop
  | .lf d => ∀ i, unkNum d = some i → i ∈ us
  | .pr a b => a.within us ∧ b.within us
theorem Th.within_ext {us ws : List Int} (h : Ext us ws) : ∀ t : Th, t.within us → t.within ws
  | .lf _, z => fun i e => h.mem (z i e)
  | .pr a b, ⟨z1, z2⟩ => ⟨within_ext h a z1, within_ext h b z2⟩
theorem Th.ren_ext {us ws : List Int} (h : Ext us ws) : ∀ t : Th, t.within us → t.ren ws = t.ren us
  | .lf d, z => by
    show (match unkNum d with | some i => if i ∈ ws then Th.lf (.tuple [.int (idxI ws i)]) else .lf d | none => .lf d) = (match unkNum d with | some i => if i ∈ us then Th.lf (.tuple [.int (idxI us i)]) else .lf d | none => .lf d)
    cases e : unkNum d with
    | none => rfl
    | some i =>
      have hi := z i e
      dsimp only
      rw [if_pos (h.mem hi), if_pos hi, h.idx hi]
  | .pr a b, ⟨z1, z2⟩ => by
    show Th.pr (a.ren ws) (b.ren ws) = .pr (a.ren us) (b.ren us)
    rw [ren_ext h a z1, ren_ext h b z2]
theorem stepU_ext (acc : List Int) (u : Th) : Ext acc (stepU acc u) := by
  unfold stepU
  split
  · exact ext_addU _ _
  · exact Ext.refl _
theorem foldU_ext : ∀ (l : List Th) (acc : List Int), Ext acc (l.foldl stepU acc)
  | [], acc => Ext.refl _
  | u :: r, acc => (stepU_ext acc u).trans (foldU_ext r _)
/-- the numbers after a term's parts -/
def Th.gone (us : List Int) (t : Th) : List Int := t.pre.foldl stepU us
theorem Th.gone_lf (us : List Int) (d : PyData) : (Th.lf d).gone us = stepU us (.lf d) := rfl
theorem Th.gone_pr (us : List Int) (a b : Th) : (Th.pr a b).gone us = b.gone (a.gone us) := by
  show ((Th.pr a b) :: (a.pre ++ b.pre)).foldl stepU us = _
  rw [List.foldl_cons, List.foldl_append]
  have e : stepU us (.pr a b) = us := by
    unfold stepU
    rw [show unkNum (Th.pr a b).toD = none from unkNum_two]
  rw [e]
  rfl
theorem Th.gone_within : ∀ (t : Th) (us : List Int), t.within (t.gone us)
  | .lf d, us => fun i e => by
    rw [Th.gone_lf, stepU_some (u := .lf d) e]
    exact mem_addU.mpr (.inr rfl)
  | .pr a b, us => by
    rw [Th.gone_pr]
    exact ⟨Th.within_ext (foldU_ext b.pre _) a (gone_within a us), gone_within b _⟩
theorem Th.ren_nf (us : List Int) : ∀ t : Th, t.nf → (t.ren us).nf
  | .lf d, h => by
    show Th.nf (match unkNum d with | some i => if i ∈ us then Th.lf (.tuple [.int (idxI us i)]) else .lf d | none => .lf d)
    cases unkNum d with
    | none => exact h
    | some i =>
      dsimp only
      split
      · rfl
      · exact h
  | .pr a b, h => ⟨ren_nf us a h.1, ren_nf us b h.2⟩
theorem addU_fold (i : Int) : ∀ (acc us : List Int), (addU acc i).foldl addU us = addU (acc.foldl addU us) i := by
  intro acc us
  by_cases h : i ∈ acc
  · have e : addU acc i = acc := if_pos h
    rw [e]
    have hm : i ∈ acc.foldl addU us := by
      clear e
      induction acc generalizing us with
      | nil => cases h
      | cons a r ih =>
        rw [List.foldl_cons]
        rcases List.mem_cons.mp h with rfl | h
        · clear ih
          have : ∀ (r : List Int) (us : List Int), i ∈ us → i ∈ r.foldl addU us := by
            intro r
            induction r with
            | nil => exact fun us h => h
            | cons b q ihq => exact fun us h => ihq _ (mem_addU.mpr (.inl h))
          exact this r _ (mem_addU.mpr (.inr rfl))
        · exact ih _ h
    exact (if_pos hm).symm
  · have e : addU acc i = acc ++ [i] := if_neg h
    rw [e, List.foldl_append]
    rfl
theorem fold_unks : ∀ (l : List Th) (acc us : List Int), (l.foldl stepU acc).foldl addU us = l.foldl stepU (acc.foldl addU us)
  | [], _, _ => rfl
  | u :: r, acc, us => by
    rw [List.foldl_cons, List.foldl_cons, fold_unks r]
    have e : (stepU acc u).foldl addU us = stepU (acc.foldl addU us) u := by
      unfold stepU
      cases unkNum u.toD with
      | none => rfl
      | some i => exact addU_fold i acc us
    rw [e]
theorem Th.gone_unks (t : Th) (us : List Int) : t.unks.foldl addU us = t.gone us := fold_unks t.pre [] us
/-- the numbers after many terms -/
def goneAll (us : List Int) (ts : List Th) : List Int := ts.foldl (fun a t => t.gone a) us
theorem goneAll_ext : ∀ (ts : List Th) (us : List Int), Ext us (goneAll us ts)
  | [], us => Ext.refl _
  | t :: r, us => (foldU_ext t.pre us).trans (goneAll_ext r _)
theorem goneAll_within : ∀ (ts : List Th) (us : List Int) (t : Th), t ∈ ts → t.within (goneAll us ts)
  | u :: r, us, t, h => by
    rcases List.mem_cons.mp h with rfl | h
    · exact Th.within_ext (goneAll_ext r _) t (Th.gone_within t us)
    · exact goneAll_within r _ t h
theorem gone_len (t : Th) (us : List Int) : (t.gone us).length ≤ us.length + t.parts := by
  have h := foldU_len t.pre us
  rw [t.pre_length] at h
  exact h
/-! ### dicts by numbers -/
def KvR (Pv : Nat → V → Prop) : Nat → List (Key × V) → List Int → Prop
  | _, [], [] => True
  | n, kv :: kvs, i :: us => (∃ v, kv = (Sum.inl i, v) ∧ Pv n v) ∧ KvR Pv (n + 1) kvs us
  | _, _, _ => False
theorem KvR.imp {Pv Pw : Nat → V → Prop} (h : ∀ n v, Pv n v → Pw n v) : ∀ {n : Nat} {kvs : List (Key × V)} {us : List Int}, KvR Pv n kvs us → KvR Pw n kvs us
  | _, [], [], _ => trivial
  | _, _ :: _, _ :: _, ⟨⟨v, e, p⟩, r⟩ => ⟨⟨v, e, h _ v p⟩, KvR.imp h r⟩
theorem KvR.length {Pv : Nat → V → Prop} : ∀ {n : Nat} {kvs : List (Key × V)} {us : List Int}, KvR Pv n kvs us → kvs.length = us.length
  | _, [], [], _ => rfl
  | _, _ :: _, _ :: _, ⟨_, r⟩ => congrArg Nat.succ (KvR.length r)
theorem KvR.val {Pv : Nat → V → Prop} {i : Int} : ∀ {n : Nat} {kvs : List (Key × V)} {us : List Int}, KvR Pv n kvs us → i ∈ us → ∃ v, valV kvs (Sum.inl i : Key) = some v ∧ Pv (n + idxI us i) v
  | _, [], [], _, h => by cases h
  | n, kv :: kvs, j :: us, ⟨⟨v, e, p⟩, r⟩, h => by
    subst e
    by_cases ej : j = i
    · subst ej
      refine ⟨v, valV_pos rfl, ?_⟩
      have : idxI (j :: us) j = 0 := by
        unfold idxI
        exact List.idxOf_cons_self
      rw [this]
      exact p
    · rcases List.mem_cons.mp h with rfl | h
      · exact absurd rfl ej
      · obtain ⟨w, hw, pw⟩ := KvR.val r h
        refine ⟨w, ?_, ?_⟩
        · rw [← hw]
          unfold valV
          rw [List.find?_cons_of_neg (by simp [ej])]
        · have : idxI (j :: us) i = idxI us i + 1 := by
            unfold idxI
            rw [List.idxOf_cons, show (j == i) = false from beq_false_of_ne ej]
            rfl
          rw [this, show n + (idxI us i + 1) = n + 1 + idxI us i by omega]
          exact pw
theorem KvR.none {Pv : Nat → V → Prop} {i : Int} : ∀ {n : Nat} {kvs : List (Key × V)} {us : List Int}, KvR Pv n kvs us → i ∉ us → valV kvs (Sum.inl i : Key) = none ∧ (kvs.any fun kv => decide (kv.1 = (Sum.inl i : Key))) = false
  | _, [], [], _, _ => ⟨rfl, rfl⟩
  | n, kv :: kvs, j :: us, ⟨⟨v, e, p⟩, r⟩, h => by
    subst e
    have ej : ¬ j = i := fun z => h (by rw [z]; exact List.mem_cons_self)
    obtain ⟨h1, h2⟩ := KvR.none r fun z => h (List.mem_cons_of_mem _ z)
    constructor
    · rw [← h1]
      unfold valV
      rw [List.find?_cons_of_neg (by simp [ej])]
    · rw [List.any_cons, h2]
      simp [ej]
theorem KvR.snoc {Pv : Nat → V → Prop} {i : Int} {v : V} : ∀ {n : Nat} {kvs : List (Key × V)} {us : List Int}, KvR Pv n kvs us → Pv (n + us.length) v → KvR Pv n (kvs ++ [(Sum.inl i, v)]) (us ++ [i])
  | n, [], [], _, p => ⟨⟨v, rfl, p⟩, trivial⟩
  | n, _ :: _, j :: us, ⟨a, r⟩, p => ⟨a, KvR.snoc r (by
      have e : n + (j :: us).length = n + 1 + us.length := by
        rw [List.length_cons]
        omega
      rw [e] at p
      exact p)⟩
theorem KvR.put {Pv : Nat → V → Prop} {i : Int} {v : V} {kvs : List (Key × V)} {us : List Int} (h : KvR Pv 0 kvs us) (hn : i ∉ us) (p : Pv us.length v) : KvR Pv 0 (putK kvs (Sum.inl i : Key) v) (us ++ [i]) := by
  have e : putK kvs (Sum.inl i : Key) v = kvs ++ [(Sum.inl i, v)] := by
    unfold putK
    rw [(KvR.none h hn).2]
    rfl
  rw [e]
  refine KvR.snoc h ?_
  rw [Nat.zero_add]
  exact p


section
variable {P : Program} {w : World} {K : PySem.W.Frag} {mg : Str → Option Value} {base : Heap}
/-- the values of by_coming's dict -/
abbrev PvT (K : PySem.W.Frag) (H : Hp) : Nat → V → Prop := fun n v => Dq K H v (.tuple [.int n])
theorem PvT.same {H H' : Hp} (s : Same H H') (n : Nat) (v : V) (h : PvT K H n v) : PvT K H' n v := Dq.same s h
def sp_turned_into (K : PySem.W.Frag) (n : Nat) : Sp := fun vs H Q _ => ∃ (x : V) (t : Th) (dv : Addr) (kvs : List (Key × V)) (us : List Int), vs = [x, .ref dv] ∧ Dq K H x t.toD ∧ t.nf ∧ t.deep ≤ n ∧ H dv = some (.dK kvs) ∧ KvR (PvT K H) 0 kvs us ∧
  ∀ v H', Same H H' → Dq K H' v (t.ren us).toD → Q v H'
theorem ok_turned_into (T : Env K mg) : ∀ n : Nat, FnOk P w K mg base CX0 (n + 4) T.a_turned_into T.d_turned_into ["term", "values"] (sp_turned_into K n)
  | 0 => by
    have no : ∀ vs H Q E, ¬ sp_turned_into K 0 vs H Q E := fun vs H Q E h => by
      obtain ⟨x, t, dv, kvs, us, _, _, _, h1, _⟩ := h
      have := t.deep_pos
      omega
    exact ⟨fun vs H Q E h => absurd h (no vs H Q E), fun A outer s H args us vs Q E _ _ _ _ h => absurd h (no vs H Q E)⟩
  | n + 1 => by
    have G_turned_into : FnOk P w K mg base CX0 (n + 4) T.a_turned_into T.d_turned_into ["term", "values"] (sp_turned_into K n) := ok_turned_into T n
    have G_is_pair : FnOk P w K mg base CX0 (n + 4) T.a_is_pair T.d_is_pair ["term"] (sp_is_pair K) := (ok_is_pair T).mono (by omega)
    have G_is_unknown : FnOk P w K mg base CX0 (n + 4) T.a_is_unknown T.d_is_unknown ["thing"] (sp_is_unknown K) := (ok_is_unknown T).mono (by omega)
    refine T.F_turned_into.ok sc_turned_into (fun vs H Q E h => ?_) (fun cdv A outer s H vs Q E hr h => ?_)
    · obtain ⟨x, t, dv, kvs, us, rfl, _⟩ := h
      rfl
    · obtain ⟨x, t, dv, kvs, us, rfl, hd, hn, hdp, hD, hK, q⟩ := h
      have hr_turned_into := hr
      have hr_is_pair := hr
      have hr_is_unknown := hr
      have hu := hu_of hr
      refine ⟨_, (pss_cons (ps_if (pt_val (pe_call G_is_pair hr_is_pair (by rfl) T.g_is_pair T.F_is_pair.kp T.b_is_pair .nil pass0 (pa_cons (pv 0) pa_nil))) (pss_one (ps_ret (pe_tup (pa_cons (pe_call G_turned_into hr_turned_into (by rfl) T.g_turned_into T.F_turned_into.kp T.b_turned_into .nil pass0 (pa_cons (pe_ix ix_tup (pv 0) pe_int (fun _ _ => rfl)) (pa_cons (pv 1) pa_nil))) (pa_cons (pe_call G_turned_into hr_turned_into (by rfl) T.g_turned_into T.F_turned_into.kp T.b_turned_into .nil pass0 (pa_cons (pe_ix ix_tup (pv 0) pe_int (fun _ _ => rfl)) (pa_cons (pv 1) pa_nil))) pa_nil))))) pss_nil)
      (pss_cons (ps_if (pt_val (pe_call G_is_unknown hr_is_unknown (by rfl) T.g_is_unknown T.F_is_unknown.kp T.b_is_unknown .nil pass0 (pa_cons (pv 0) pa_nil))) (pss_one (ps_ret (pe_dget2 hu (pv 1) (pe_ix ix_tup (pv 0) pe_int (fun _ _ => rfl)) (pv 0) ⟨rfl, rfl, rfl, rfl⟩))) pss_nil)
      (pss_one (ps_ret (pv 0))))), ?_⟩
      refine ⟨_, rfl, x, t.toD, rfl, hd, _, rfl, ?_⟩
      rw [Th.pairD hn]
      cases t with
      | pr a b =>
        obtain ⟨pa, y0, y1, rfl, hs, h0, h1⟩ := hd.pr
        have hdp : 1 + max a.deep b.deep ≤ n + 1 := hdp
        refine ⟨_, rfl, pa, _, 0, y0, rfl, rfl, hs, atI_nat (j := 0) rfl, _, rfl, y0, a, dv, kvs, us, rfl, h0, hn.1, by omega, hD, hK, fun v1 H1 s1 hv1 => ?_⟩
        refine ⟨_, rfl, pa, _, 1, y1, rfl, rfl, seqT s1 hs, atI_nat (j := 1) rfl, _, rfl, y1, b, dv, kvs, us, rfl, h1.same s1, hn.2, by omega, s1 _ _ hD, hK.imp (PvT.same s1), fun v2 H2 s2 hv2 => ?_⟩
        refine ⟨(by show 2 ≤ sizeLine; decide), fun c hc => ?_⟩
        have s_H3 : Same H2 (upd H2 c (.tup [v1, v2])) := same_upd hc
        have g_H3 : (upd H2 c (.tup [v1, v2])) c = some (.tup [v1, v2]) := upd_same
        generalize upd H2 c (.tup [v1, v2]) = H3 at s_H3 g_H3 ⊢
        exact q _ H3 (s1.trans (s2.trans s_H3)) (.tup (SqT.of g_H3) (.cons (hv1.same (s2.trans s_H3)) (.cons (hv2.same s_H3) .nil)))
      | lf d =>
        have q : ∀ v H', Same H H' → Dq K H' v (match unkNum d with | some i => if i ∈ us then Th.lf (.tuple [.int (idxI us i)]) else .lf d | none => .lf d).toD → Q v H' := q
        refine ⟨_, rfl, x, d, rfl, hd, _, rfl, ?_⟩
        rw [unkD_num]
        cases e : unkNum d with
        | none =>
          rw [e] at q
          exact ⟨_, rfl, q x H (Same.refl H) hd⟩
        | some i =>
          rw [e] at q
          dsimp only at q
          have ed := unkNum_some e
          subst ed
          obtain ⟨pa, xs, rfl, hs, hr'⟩ := Dq.tupOf (ds := [.int i]) hd
          obtain ⟨z, rfl, hz⟩ := hr'.one
          cases hz
          refine ⟨_, rfl, dv, rfl, .inl ⟨kvs, .inl hD⟩, _, rfl, pa, _, 0, _, rfl, rfl, hs, atI_nat (j := 0) rfl, _, rfl, _, DGet.k (k := Sum.inl i) hD, ?_⟩
          by_cases hm : i ∈ us
          · rw [if_pos hm] at q
            obtain ⟨v, hv, pv⟩ := KvR.val hK hm
            rw [hv]
            rw [Nat.zero_add] at pv
            exact q v H (Same.refl H) pv
          · rw [if_neg hm] at q
            rw [(KvR.none hK hm).1]
            exact q _ H (Same.refl H) hd
/-! ### by_coming -/
/-- x is the first of xs that is no term -/
def FirstBad (xs : List V) (ts : List Th) (x : V) : Prop := ∃ (j : Nat) (t : Th), xs[j]? = some x ∧ ts[j]? = some t ∧ t.isTerm = false ∧ ∀ u ∈ ts.take j, u.isTerm = true
def NoTermE (E : XK) (CT : Addr) (H : Hp) (x : V) : Prop := ∀ H' d, Same H H' → H' d = none → E (.ref CT) (some d) (upd H' d (.xd [("found", x)]))
def sp_by_coming (K : PySem.W.Frag) (CT : Addr) : Sp := fun vs H Q E => ∃ v, vs = [v] ∧
  ((∃ (a : Addr) (xs : List V) (b : Bool) (ts : List Th), v = .ref a ∧ SeqB b K H a xs ∧ DqAll K H xs (ts.map Th.toD) ∧ (∀ t ∈ ts, OkTh t) ∧ ts.length ≤ 5000 ∧ (∀ x, FirstBad xs ts x → NoTermE E CT H x) ∧
    ((∀ t ∈ ts, t.isTerm = true) → ∀ l ys H', H l = none → Same H H' → H' l = some (.lst ys) → DqAll K H' ys ((ts.map (Th.ren (goneAll [] ts))).map Th.toD) → Q (.ref l) H')) ∨
   (∃ k : Kn, Knd K H v k ∧ (k.isLst || k.isTup) = false ∧ NoTermE E CT H v))
theorem goneAll_len : ∀ (ts : List Th) (us : List Int), (∀ t ∈ ts, t.isTerm = true) → (goneAll us ts).length ≤ us.length + 100 * ts.length
  | [], us, _ => Nat.le_refl _
  | t :: r, us, h => by
    have h1 := goneAll_len r (t.gone us) fun u hu => h u (List.mem_cons_of_mem _ hu)
    have h2 := gone_len t us
    have h3 := Th.term_parts (h t List.mem_cons_self)
    show (goneAll (t.gone us) r).length ≤ us.length + 100 * (r.length + 1)
    omega
theorem goneAll_snoc (ts : List Th) (t : Th) (us : List Int) : goneAll us (ts ++ [t]) = t.gone (goneAll us ts) := by
  unfold goneAll
  rw [List.foldl_append]
  rfl
theorem take_snoc {α : Type} {l : List α} {i : Nat} {x : α} (h : l[i]? = some x) : l.take (i + 1) = l.take i ++ [x] := by
  rw [List.take_succ, h]
  rfl
theorem addU_not {acc : List Int} {i : Int} (h : i ∉ acc) : addU acc i = acc ++ [i] := if_neg h
theorem addU_in {acc : List Int} {i : Int} (h : i ∈ acc) : addU acc i = acc := if_pos h
theorem Th.ren_tup (us : List Int) : ∀ t : Th, t.okL = true → tupOnly (t.ren us).toD = true
  | .lf d, h => by
    have h : singleD d = true := h
    show tupOnly (match unkNum d with | some i => if i ∈ us then Th.lf (.tuple [.int (idxI us i)]) else .lf d | none => .lf d).toD = true
    cases unkNum d with
    | none => exact single_tup h
    | some i =>
      dsimp only
      split
      · rfl
      · exact single_tup h
  | .pr a b, h => by
    obtain ⟨h1, h2⟩ := Bool.and_eq_true_iff.mp (show (a.okL && b.okL) = true from h)
    show (tupOnly (a.ren us).toD && (tupOnly (b.ren us).toD && true)) = true
    rw [ren_tup us a h1, ren_tup us b h2]
    rfl
theorem Th.term_ok {t : Th} (h : t.isTerm = true) : t.okL = true := (Bool.and_eq_true_iff.mp h).1
theorem tupAll_of : ∀ (l : List PyData), (∀ d ∈ l, tupOnly d = true) → tupOnlyAll l = true
  | [], _ => rfl
  | d :: r, h => Bool.and_eq_true_iff.mpr ⟨h d List.mem_cons_self, tupAll_of r fun z hz => h z (List.mem_cons_of_mem _ hz)⟩
theorem ok_by_coming (T : Env K mg) : FnOk P w K mg base (L2.CX P w) 106 T.a_by_coming T.d_by_coming ["terms"] (sp_by_coming K T.a_NoTerm) := by
  have G_need_term : FnOk P w K mg base (L2.CX P w) 105 T.a_need_term T.d_need_term ["thing"] (sp_need_term K T.a_NoTerm) := (ok_need_term T).mono (by decide)
  have G_numbers_in : FnOk P w K mg base CX0 105 T.a_numbers_in T.d_numbers_in ["term"] (sp_numbers_in K) := (ok_numbers_in T).mono (by decide)
  have G_turned_into : FnOk P w K mg base CX0 105 T.a_turned_into T.d_turned_into ["term", "values"] (sp_turned_into K 101) := ok_turned_into T 101
  have G_NoTerm : FnOk P w K mg base CX0 104 T.i_NoTerm T.di_NoTerm ["self", "found"] (sp_init1 T.a_NoTerm "found") := (ok_NoTerm T).mono (by decide)
  refine T.F_by_coming.okX sc_by_coming (fun vs H Q E h => ?_) (fun cdv A outer s H vs Q E hr h => ?_)
  · obtain ⟨v, rfl, _⟩ := h
    rfl
  · obtain ⟨v, rfl, h⟩ := h
    have hr_need_term := hr
    have hr_numbers_in := hr
    have hr_turned_into := hr
    have hu := hu_of hr
    refine ⟨_, (pss_cons (ps_if (pt_not (pt_val (pe_callB call_isiT (by rfl) T.m_isinstance PyProof.Rows.boot_isinstance (pa_cons (pv 0) (pa_cons (pe_tup (pa_cons (pe_bltn (v := .ty "list") (by rfl) T.m_list PyProof.Rows.boot_list rfl) (pa_cons (pe_bltn (v := .ty "tuple") (by rfl) T.m_tuple PyProof.Rows.boot_tuple rfl) pa_nil))) pa_nil))))) (pss_one (ps_raise (by rfl) (takes_of rfl rfl rfl rfl) (pmk_oex T.x_NoTerm T.ii_NoTerm T.ti_NoTerm G_NoTerm hr T.bi_NoTerm .nil pass0 (by rfl) T.g_NoTerm (pa_cons (pv 0) pa_nil)))) pss_nil)
      (pss_cons (ps_set (i := 1) sc_by_coming.nd rfl (Or.inr rfl) pe_dnewK)
      (pss_cons (ps_for (passes_of rfl) (by rfl) (pi_seqA (pv 0)) (pg_name (i := 2) sc_by_coming.nd rfl (Or.inl rfl)) (pss_cons (ps_expr (pe_callS G_need_term hr_need_term (by rfl) T.g_need_term T.F_need_term.kp T.b_need_term (fun σ => passAt (takes_of rfl rfl rfl rfl) σ) (pa_cons (pv 2) pa_nil)))
      (pss_one (ps_for (passes_of rfl) (by rfl) (pi_list (pe_call G_numbers_in hr_numbers_in (by rfl) T.g_numbers_in T.F_numbers_in.kp T.b_numbers_in .nil pass0 (pa_cons (pv 2) pa_nil))) (pg_name (i := 3) sc_by_coming.nd rfl (Or.inl rfl)) (pss_one (ps_if (pt_cmp (pc_dnotin hu (pv 3) (pv 1))) (pss_one (ps_dput hu (pv 1) (pv 3) (pe_tup (pa_cons (pe_callB call_lenD (by rfl) T.m_len PySem.boot_len (pa_cons (pv 1) pa_nil)) pa_nil)) rfl)) pss_nil))))))
      (pss_one (ps_ret (pe_lc (own := [("term", 2)]) (g := gName 2) (tt := tYes) (by rfl) sc_by_coming.nd (pi_seqA (pv 0)) (blkOk_by (own := [("term", 2)]) (N := ["terms", "values", "term", "number"]) (sc := defScope s_by_coming) (by decide +kernel)) (fun _ _ _ _ _ => (pg_name (i := 2) sc_by_coming.nd rfl (Or.inl rfl))) (fun _ _ _ _ _ => pts_nil) (fun _ _ _ _ _ => (pe_call G_turned_into hr_turned_into (by rfl) T.g_turned_into T.F_turned_into.kp T.b_turned_into .nil pass0 (pa_cons (pv 2) (pa_cons (pv 1) pa_nil)))))))))), ?_⟩
    refine ⟨_, rfl, (by show 2 ≤ sizeLine; decide), fun tp htp => ?_⟩
    have s_H1 : Same H (upd H tp (.tup [.ty "list", .ty "tuple"])) := same_upd htp
    have g_H1 : (upd H tp (.tup [.ty "list", .ty "tuple"])) tp = some (.tup [.ty "list", .ty "tuple"]) := upd_same
    generalize upd H tp (.tup [.ty "list", .ty "tuple"]) = H1 at s_H1 g_H1 ⊢
    rcases h with ⟨a, xs, b, ts, rfl, hS, hX, hO, hL, qe, q⟩ | ⟨k, hk, hk2, qe⟩
    · obtain ⟨k, hk, hk2⟩ := (hS.same s_H1).knd
      refine ⟨_, tp, _, _, _, _, rfl, g_H1, .cons (.ty _) (.cons (.ty _) .nil), hk, kit_lt k, ?_⟩
      rw [hk2]
      refine ⟨_, rfl, fun dv hdv => ?_⟩
      have hd0 : H dv = none := s_H1.free hdv
      have s_H2 : Same H1 (upd H1 dv (.dK [])) := same_upd hdv
      have g_H2 : (upd H1 dv (.dK [])) dv = some (.dK []) := upd_same
      generalize upd H1 dv (.dK []) = H2 at s_H2 g_H2 ⊢
      have s02 : Same H H2 := s_H1.trans s_H2
      refine ⟨_, rfl, a, xs, b, rfl, hS.same s02, fun J wJ => ?_⟩
      refine for_it wJ (fun i σ H' => ∃ y z kvs, σ = [some (.ref a), some (.ref dv), y, z] ∧ Same H H' ∧ H' dv = some (.dK kvs) ∧ KvR (PvT K H') 0 kvs (goneAll [] (ts.take i)) ∧ ∀ u ∈ ts.take i, u.isTerm = true)
        ⟨none, none, [], rfl, s02, g_H2, trivial, fun u hu => by cases hu⟩ (fun i σ H' _ ⟨_, _, _, _, z, _⟩ => hS.same z) ?_ ?_
      · rintro i x σ H3 H3' hi ⟨y, z, kvs, rfl, s3, hD, hK, hT⟩ ⟨rfl, hx⟩
        obtain ⟨t, ht, hxt⟩ := hX.getTh hx
        have etake := take_snoc ht
        have htO := hO t (List.mem_of_getElem? ht)
        refine ⟨_, rfl, x, t, rfl, hxt.same s3, htO, fun eT H4 s4 => ?_, fun eF H4 d s4 hd => qe x ⟨i, t, hx, ht, eF, hT⟩ H4 d (s3.trans s4) hd⟩
        have tp := Th.term_parts eT
        have s04 := s3.trans s4
        have hT' : ∀ u ∈ ts.take (i + 1), u.isTerm = true := fun u hu => by
          rw [etake] at hu
          rcases List.mem_append.mp hu with hu | hu
          · exact hT u hu
          · rw [List.mem_singleton.mp hu]
            exact eT
        have glen := goneAll_len (ts.take i) [] hT
        rw [List.length_take] at glen
        simp only [List.length_nil] at glen
        refine ⟨_, rfl, x, t, rfl, hxt.same s04, htO.1, by omega, fun l H5 hl s5 gL => ?_⟩
        have hK5 := hK.imp (PvT.same (s4.trans s5))
        have hD5 := s5 _ _ (s4 _ _ hD)
        have nld : dv ≠ l := ne_of_none (s4 _ _ hD) hl
        refine ⟨l, rfl, ⟨_, SqL.of gL⟩, for_list (K := K) (a := l) (xs := t.unks.map V.int) (fun m σ H' => ∃ z kvs, σ = [some (.ref a), some (.ref dv), some x, z] ∧ Same H H' ∧ H' l = some (.lst (t.unks.map V.int)) ∧ H' dv = some (.dK kvs) ∧ KvR (PvT K H') 0 kvs ((t.unks.take m).foldl addU (goneAll [] (ts.take i))))
          ⟨z, kvs, rfl, s04.trans s5, gL, hD5, hK5⟩ (fun m σ H' _ ⟨_, _, _, _, z, _⟩ => SqL.of z) ?_ ?_⟩
        · rintro m nv σ H6 hm ⟨z, kvs, rfl, s6, gL6, hD6, hK6⟩
          obtain ⟨n, hn, rfl⟩ : ∃ n, t.unks[m]? = some n ∧ nv = .int n := by
            rw [List.getElem?_map] at hm
            cases e : t.unks[m]? with
            | none =>
              rw [e] at hm
              cases hm
            | some n =>
              rw [e] at hm
              cases hm
              exact ⟨n, rfl, rfl⟩
          have ef : (t.unks.take (m + 1)).foldl addU (goneAll [] (ts.take i)) = addU ((t.unks.take m).foldl addU (goneAll [] (ts.take i))) n := by
            rw [take_snoc hn, List.foldl_append]
            rfl
          refine ⟨_, rfl, _, rfl, dv, _, rfl, DGet.k (k := Sum.inl n) hD6, _, rfl, ?_⟩
          by_cases hm' : n ∈ (t.unks.take m).foldl addU (goneAll [] (ts.take i))
          · obtain ⟨v, hv, _⟩ := KvR.val hK6 hm'
            rw [hv]
            refine ⟨_, kvs, rfl, s6, gL6, hD6, ?_⟩
            rw [ef, addU_in hm']
            exact hK6
          · rw [(KvR.none hK6 hm').1]
            refine ⟨_, rfl, dv, kvs, rfl, hD6, (by show 1 ≤ sizeLine; decide), fun tv htv => ?_⟩
            have klen := hK6.length
            have s_H7 : Same H6 (upd H6 tv (.tup [.int (kvs.length : Int)])) := same_upd htv
            have g_H7 : (upd H6 tv (.tup [.int (kvs.length : Int)])) tv = some (.tup [.int (kvs.length : Int)]) := upd_same
            generalize upd H6 tv (.tup [.int (kvs.length : Int)]) = H7 at s_H7 g_H7 ⊢
            have s07 := s6.trans s_H7
            have hD7 := s_H7 _ _ hD6
            have hlen : kvs.length < sizeLine := by
              rw [klen]
              have k1 : ∀ (l us : List Int), (l.foldl addU us).length ≤ us.length + l.length := by
                intro l
                induction l with
                | nil => exact fun us => Nat.le_refl _
                | cons b r ih =>
                  intro us
                  have h1 := ih (addU us b)
                  have h2 := addU_len us b
                  rw [List.foldl_cons, List.length_cons]
                  omega
              have k2 := k1 (t.unks.take m) (goneAll [] (ts.take i))
              rw [List.length_take] at k2
              have k3 := foldU_len t.pre []
              rw [t.pre_length] at k3
              simp only [List.length_nil] at k3
              have k4 : t.unks.length ≤ 100 := by
                unfold Th.unks
                omega
              rw [sizeLine_eq]
              omega
            refine ⟨_, rfl, _, rfl, dv, _, rfl, DPut.k (k := Sum.inl n) hD7 hlen, ?_⟩
            have t78 : Same H (upd H7 dv (.dK (putK kvs (Sum.inl n) (.ref tv)))) := same_mut s07 hd0
            have dqs : ∀ (j : Nat) (v : V), PvT K H7 j v → PvT K (upd H7 dv (.dK (putK kvs (Sum.inl n) (.ref tv)))) j v := fun j v hv => by
              obtain ⟨pa, ys, rfl, hs, hr'⟩ := Dq.tupOf (ds := [.int j]) hv
              obtain ⟨z, rfl, hz⟩ := hr'.one
              cases hz
              refine .tup ?_ (.cons (.int _) .nil)
              rcases hs with (h | ⟨o, h⟩) | h
              · refine .inl (.inl ((upd_ne ?_).trans h))
                rintro rfl
                rw [hD7] at h
                cases h
              · refine .inl (.inr ⟨o, (upd_ne ?_).trans h⟩)
                rintro rfl
                rw [hD7] at h
                cases h
              · exact .inr h
            refine ⟨_, _, rfl, t78, (upd_ne (Ne.symm nld)).trans (s_H7 _ _ gL6), upd_same, ?_⟩
            rw [ef, addU_not hm']
            refine KvR.imp dqs (KvR.put (hK6.imp (PvT.same s_H7)) hm' ?_)
            rw [← klen]
            exact .tup (SqT.of g_H7) (.cons (.int _) .nil)
        · rintro σ H6 ⟨z, kvs, rfl, s6, gL6, hD6, hK6⟩
          refine ⟨_, _, kvs, rfl, s6, hD6, ?_, hT'⟩
          rw [List.length_map, List.take_length, Th.gone_unks] at hK6
          rw [etake, goneAll_snoc]
          exact hK6
      · rintro σ H3 ⟨y, z, kvs, rfl, s3, hD, hK, hT⟩
        have el : xs.length = ts.length := by
          rw [hX.length, List.length_map]
        rw [el, List.take_length] at hK hT
        refine ⟨_, rfl, a, xs, b, rfl, hS.same s3, fun J wJ D hDn => ?_⟩
        have nDd : dv ≠ D := ne_of_none hD hDn
        have hDn0 : H D = none := s3.free hDn
        refine lc_it wJ (fun i H' => Same H H' ∧ H' dv = some (.dK kvs) ∧ KvR (PvT K H') 0 kvs (goneAll [] ts) ∧ ∃ ys, H' D = some (.lst ys) ∧ ys.length = i ∧ DqAll K H' ys (((ts.take i).map (Th.ren (goneAll [] ts))).map Th.toD))
          ⟨s3.trans (same_upd hDn), (upd_ne nDd).trans hD, hK.imp (PvT.same (same_upd hDn)), [], upd_same, rfl, .nil⟩ (fun i H' _ ⟨z, _⟩ => hS.same z) ?_ ?_
        · rintro i x H4 H4' hi ⟨s4, hD4, hK4, ys, gD, yl, hY⟩ ⟨rfl, hx⟩
          obtain ⟨t, ht, hxt⟩ := hX.getTh hx
          have htm := List.mem_of_getElem? ht
          have tp := Th.term_parts (hT t htm)
          have td := t.deep_half
          refine ⟨rfl, ?_⟩
          refine ⟨_, rfl, _, rfl, x, t, dv, kvs, _, rfl, hxt.same s4, (hO t htm).1, by omega, hD4, hK4, fun v H5 s5 hv => ?_⟩
          have gD5 := s5 _ _ gD
          have tt : Tups K H5 (upd H5 D (.lst (ys ++ [v]))) := Tups.put gD5
          refine ⟨ys, gD5, sz_lt (by omega), same_mut (s4.trans s5) hDn0, (upd_ne nDd).trans (s5 _ _ hD4), ?_, _, upd_same, ?_, ?_⟩
          · exact hK4.imp fun j v hv => Dq.tups tt _ _ rfl (Dq.same s5 hv)
          · rw [List.length_append, yl]
            rfl
          · have hY5 : DqAll K H5 (ys ++ [v]) (((ts.take (i + 1)).map (Th.ren (goneAll [] ts))).map Th.toD) := by
              rw [take_snoc ht, List.map_append, List.map_append]
              exact (hY.same s5).snoc hv
            refine DqAll.tups tt _ _ (tupAll_of _ fun d hd => ?_) hY5
            obtain ⟨u, hu, rfl⟩ := List.mem_map.mp hd
            obtain ⟨t', ht', rfl⟩ := List.mem_map.mp hu
            exact Th.ren_tup _ t' (Th.term_ok (hT t' (List.mem_of_mem_take ht')))
        · rintro H4 ⟨s4, hD4, hK4, ys, gD, yl, hY⟩
          rw [el, List.take_length] at hY
          exact q hT D ys H4 hDn0 s4 gD hY
    · refine ⟨_, tp, _, _, _, _, rfl, g_H1, .cons (.ty _) (.cons (.ty _) .nil), hk.same s_H1, kit_lt k, ?_⟩
      rw [hk2]
      exact ⟨_, rfl, _, rfl, raise1 fun d hd => qe H1 d s_H1 hd⟩
end


/-! ### rows -/
def rowOf (ts : List Th) (r : Th) : Th := ts.foldr Th.pr r
def sumR (ts : List Th) : Nat := (ts.map fun t => 1 + t.parts).sum
theorem rowOf_parts (ts : List Th) (r : Th) : (rowOf ts r).parts = sumR ts + r.parts := by
  induction ts with
  | nil => exact (Nat.zero_add _).symm
  | cons t q ih =>
    show 1 + t.parts + (rowOf q r).parts = (1 + t.parts + sumR q) + r.parts
    rw [ih]
    omega
theorem rowOf_nf : ∀ (ts : List Th) (r : Th), (∀ t ∈ ts, OkTh t) → OkTh r → OkTh (rowOf ts r)
  | [], _, _, h => h
  | t :: q, r, h, hr => by
    have h1 := h t List.mem_cons_self
    have h2 := rowOf_nf q r (fun u hu => h u (List.mem_cons_of_mem _ hu)) hr
    refine ⟨⟨h1.1, h2.1⟩, ?_⟩
    show (fine t.toD && (fine (rowOf q r).toD && true)) = true
    rw [h1.2, h2.2]
    rfl
theorem rowOf_ok : ∀ (ts : List Th) (r : Th), (∀ t ∈ ts, t.okL = true) → r.okL = true → (rowOf ts r).okL = true
  | [], _, _, h => h
  | t :: q, r, h, hr => Bool.and_eq_true_iff.mpr ⟨h t List.mem_cons_self, rowOf_ok q r (fun u hu => h u (List.mem_cons_of_mem _ hu)) hr⟩
def rowItems : Th → List Th
  | .pr a b => a :: rowItems b
  | .lf _ => []
def rowRest : Th → Th
  | .pr _ b => rowRest b
  | .lf d => .lf d
theorem row_again : ∀ t : Th, rowOf (rowItems t) (rowRest t) = t
  | .lf _ => rfl
  | .pr a b => congrArg (Th.pr a) (row_again b)
theorem sum_ints : ∀ ts : List Th, ((ts.map fun t => ((1 + t.parts : Nat) : Int)).sum) = ((sumR ts : Nat) : Int)
  | [] => rfl
  | t :: q => by
    have ih := sum_ints q
    show ((1 + t.parts : Nat) : Int) + (q.map fun t => ((1 + t.parts : Nat) : Int)).sum = ((1 + t.parts + sumR q : Nat) : Int)
    rw [ih]
    omega
section
variable {P : Program} {w : World} {K : PySem.W.Frag} {mg : Str → Option Value} {base : Heap}
def sp_listed (K : PySem.W.Frag) (CT CG : Addr) : Sp := fun vs H Q E => ∃ (v rv : V), vs = [v, rv] ∧
  ((∃ (a : Addr) (xs : List V) (b : Bool) (ts : List Th) (rt : Th), v = .ref a ∧ SeqB b K H a xs ∧ DqAll K H xs (ts.map Th.toD) ∧ (∀ t ∈ ts, OkTh t) ∧ ts.length ≤ 5000 ∧ Dq K H rv rt.toD ∧ OkTh rt ∧ (∀ x, FirstBad xs ts x → NoTermE E CT H x) ∧
    ((∀ t ∈ ts, t.isTerm = true) → rt.isTerm = false → NoTermE E CT H rv) ∧
    ((∀ t ∈ ts, t.isTerm = true) → rt.isTerm = true → 100 < sumR ts + rt.parts → ∀ H' d, Same H H' → H' d = none → E (.ref CG) (some d) (upd H' d (.xd [("parts", .int ((sumR ts + rt.parts : Nat) : Int))]))) ∧
    ((∀ t ∈ ts, t.isTerm = true) → rt.isTerm = true → sumR ts + rt.parts ≤ 100 → ∀ v H', Same H H' → Dq K H' v (rowOf ts rt).toD → Q v H')) ∨
   (∃ k : Kn, Knd K H v k ∧ (k.isLst || k.isTup) = false ∧ NoTermE E CT H v))
theorem ok_listed (T : Env K mg) : FnOk P w K mg base (L2.CX P w) 7 T.a_listed T.d_listed ["items", "rest"] (sp_listed K T.a_NoTerm T.a_TooGreat) := by
  have G_need_term : FnOk P w K mg base (L2.CX P w) 6 T.a_need_term T.d_need_term ["thing"] (sp_need_term K T.a_NoTerm) := ok_need_term T
  have G_parts_within : FnOk P w K mg base CX0 6 T.a_parts_within T.d_parts_within ["term"] (sp_parts_within K) := (ok_parts_within T).mono (by decide)
  have G_NoTerm : FnOk P w K mg base CX0 5 T.i_NoTerm T.di_NoTerm ["self", "found"] (sp_init1 T.a_NoTerm "found") := (ok_NoTerm T).mono (by decide)
  have G_TooGreat : FnOk P w K mg base CX0 5 T.i_TooGreat T.di_TooGreat ["self", "parts"] (sp_init1 T.a_TooGreat "parts") := (ok_TooGreat T).mono (by decide)
  refine T.F_listed.ok sc_listed (fun vs H Q E h => ?_) (fun cdv A outer s H vs Q E hr h => ?_)
  · obtain ⟨v, rv, rfl, _⟩ := h
    rfl
  · obtain ⟨v, rv, rfl, h⟩ := h
    have hr_need_term := hr
    have hr_parts_within := hr
    refine ⟨_, (pss_cons (ps_if (pt_not (pt_val (pe_callB call_isiT (by rfl) T.m_isinstance PyProof.Rows.boot_isinstance (pa_cons (pv 0) (pa_cons (pe_tup (pa_cons (pe_bltn (v := .ty "list") (by rfl) T.m_list PyProof.Rows.boot_list rfl) (pa_cons (pe_bltn (v := .ty "tuple") (by rfl) T.m_tuple PyProof.Rows.boot_tuple rfl) pa_nil))) pa_nil))))) (pss_one (ps_raise (by rfl) (takes_of rfl rfl rfl rfl) (pmk_oex T.x_NoTerm T.ii_NoTerm T.ti_NoTerm G_NoTerm hr T.bi_NoTerm .nil pass0 (by rfl) T.g_NoTerm (pa_cons (pv 0) pa_nil)))) pss_nil)
      (pss_cons (ps_for (passes_of rfl) (by rfl) (pi_seqA (pv 0)) (pg_name (i := 2) sc_listed.nd rfl (Or.inl rfl)) (pss_one (ps_expr (pe_callS G_need_term hr_need_term (by rfl) T.g_need_term T.F_need_term.kp T.b_need_term (fun σ => passAt (takes_of rfl rfl rfl rfl) σ) (pa_cons (pv 2) pa_nil)))))
      (pss_cons (ps_expr (pe_callS G_need_term hr_need_term (by rfl) T.g_need_term T.F_need_term.kp T.b_need_term (fun σ => passAt (takes_of rfl rfl rfl rfl) σ) (pa_cons (pv 1) pa_nil)))
      (pss_cons (ps_set (i := 3) sc_listed.nd rfl (Or.inl rfl) (pe_op op_add (pe_callB (cr_sum (by rfl)) (by rfl) T.m_sum PyProof.Rows.boot_sum (pa_cons (pe_lc (own := [("item", 2)]) (g := gName 2) (tt := tYes) (by rfl) sc_listed.nd (pi_seqA (pv 0)) (blkOk_by (own := [("item", 2)]) (N := ["items", "rest", "item", "many", "found"]) (sc := defScope s_listed) (by decide +kernel)) (fun _ _ _ _ _ => (pg_name (i := 2) sc_listed.nd rfl (Or.inl rfl))) (fun _ _ _ _ _ => pts_nil) (fun _ _ _ _ _ => (pe_op op_add pe_int (pe_callB (call_lenS : CallR _ _ (rLenS K)) (by rfl) T.m_len PySem.boot_len (pa_cons (pe_call G_parts_within hr_parts_within (by rfl) T.g_parts_within T.F_parts_within.kp T.b_parts_within .nil pass0 (pa_cons (pv 2) pa_nil)) pa_nil))))) pa_nil)) (pe_callB call_len_seq (by rfl) T.m_len PySem.boot_len (pa_cons (pe_call G_parts_within hr_parts_within (by rfl) T.g_parts_within T.F_parts_within.kp T.b_parts_within .nil pass0 (pa_cons (pv 1) pa_nil)) pa_nil))))
      (pss_cons (ps_if (pt_cmpR op_gt (pv 3) (pe_glob (v := V.int 100) (by rfl) T.g_MOST_PARTS ⟨_, rfl⟩) (nomark _)) (pss_one (ps_raise (by rfl) (takes_of rfl rfl rfl rfl) (pmk_oex T.x_TooGreat T.ii_TooGreat T.ti_TooGreat G_TooGreat hr T.bi_TooGreat .nil pass0 (by rfl) T.g_TooGreat (pa_cons (pv 3) pa_nil)))) pss_nil)
      (pss_cons (ps_set (i := 4) sc_listed.nd rfl (Or.inl rfl) (pv 1))
      (pss_cons (ps_for (passes_of rfl) (by rfl) (pi_revS (by rfl) T.m_reversed (pv 0)) (pg_name (i := 2) sc_listed.nd rfl (Or.inl rfl)) (pss_one (ps_set (i := 4) sc_listed.nd rfl (Or.inl rfl) (pe_tup (pa_cons (pv 2) (pa_cons (pv 4) pa_nil))))))
      (pss_one (ps_ret (pv 4)))))))))), ?_⟩
    refine ⟨_, rfl, (by show 2 ≤ sizeLine; decide), fun tp htp => ?_⟩
    have s_H1 : Same H (upd H tp (.tup [.ty "list", .ty "tuple"])) := same_upd htp
    have g_H1 : (upd H tp (.tup [.ty "list", .ty "tuple"])) tp = some (.tup [.ty "list", .ty "tuple"]) := upd_same
    generalize upd H tp (.tup [.ty "list", .ty "tuple"]) = H1 at s_H1 g_H1 ⊢
    rcases h with ⟨a, xs, b, ts, rt, rfl, hS, hX, hO, hL, hR, hRO, qe, qr, qg, q⟩ | ⟨k, hk, hk2, qe⟩
    · obtain ⟨k, hk, hk2⟩ := (hS.same s_H1).knd
      refine ⟨_, tp, _, _, _, _, rfl, g_H1, .cons (.ty _) (.cons (.ty _) .nil), hk, kit_lt k, ?_⟩
      rw [hk2]
      have el : xs.length = ts.length := by
        rw [hX.length, List.length_map]
      refine ⟨_, rfl, ?_⟩
      refine ⟨_, rfl, a, xs, b, rfl, hS.same s_H1, fun J wJ => ?_⟩
      refine for_it wJ (fun i σ H' => ∃ y, σ = [some (.ref a), some rv, y, none, none] ∧ Same H H' ∧ ∀ u ∈ ts.take i, u.isTerm = true)
        ⟨none, rfl, s_H1, fun u hu => by cases hu⟩ (fun i σ H' _ ⟨_, _, z, _⟩ => hS.same z) ?_ ?_
      · rintro i x σ H3 H3' hi ⟨y, rfl, s3, hT⟩ ⟨rfl, hx⟩
        obtain ⟨t, ht, hxt⟩ := hX.getTh hx
        refine ⟨_, rfl, x, t, rfl, hxt.same s3, hO t (List.mem_of_getElem? ht), fun eT H4 s4 => ?_, fun eF H4 d s4 hd => qe x ⟨i, t, hx, ht, eF, hT⟩ H4 d (s3.trans s4) hd⟩
        refine ⟨_, rfl, s3.trans s4, fun u hu => ?_⟩
        rw [take_snoc ht] at hu
        rcases List.mem_append.mp hu with hu | hu
        · exact hT u hu
        · rw [List.mem_singleton.mp hu]
          exact eT
      · rintro σ H3 ⟨y, rfl, s3, hT⟩
        rw [el, List.take_length] at hT
        refine ⟨_, rfl, rv, rt, rfl, hR.same s3, hRO, fun eR H4 s4 => ?_, fun eF H4 d s4 hd => qr hT eF H4 d (s3.trans s4) hd⟩
        have rp := Th.term_parts eR
        have s04 := s3.trans s4
        refine ⟨_, rfl, a, xs, b, rfl, hS.same s04, fun J wJ D hDn => ?_⟩
        have hDn0 : H D = none := s04.free hDn
        refine lc_it wJ (fun i H' => Same H H' ∧ H' D = some (.lst (((ts.take i).map fun t => ((1 + t.parts : Nat) : Int)).map V.int)))
          ⟨s04.trans (same_upd hDn), upd_same⟩ (fun i H' _ ⟨z, _⟩ => hS.same z) ?_ ?_
        · rintro i x H5 H5' hi ⟨s5, gD⟩ ⟨rfl, hx⟩
          obtain ⟨t, ht, hxt⟩ := hX.getTh hx
          have htm := List.mem_of_getElem? ht
          have tp := Th.term_parts (hT t htm)
          refine ⟨rfl, ?_⟩
          refine ⟨_, rfl, x, t, H, rfl, s5, hxt, (hO t htm).1, by omega, fun l ws H6 hl s6 hLl hq => ?_⟩
          have len : ws.length = t.parts := by
            rw [hq.length, List.length_map, t.pre_length]
          refine ⟨l, _, rfl, .inl (SqL.of hLl), _, _, rfl, rfl, ?_⟩
          refine ⟨_, s6 _ _ gD, ?_, same_mut (s5.trans s6) hDn0, ?_⟩
          · rw [List.length_map, List.length_map, List.length_take]
            exact sz_lt (by omega)
          · rw [upd_same, take_snoc ht, List.map_append, List.map_append, len]
            have e : (1 : Int) + (t.parts : Int) = ((1 + t.parts : Nat) : Int) := by omega
            show some (HO.lst (List.map V.int (List.map (fun t : Th => ((1 + t.parts : Nat) : Int)) (ts.take i)) ++ [V.int ((1 : Int) + (t.parts : Int))])) = _
            rw [e]
            rfl
        · rintro H5 ⟨s5, gD⟩
          rw [el, List.take_length] at gD
          refine ⟨D, _, rfl, SqL.of gD, ?_⟩
          rw [sum_ints]
          refine ⟨_, rfl, rv, rt, H, rfl, s5, hR, hRO.1, by omega, fun l ws H6 hl s6 hLl hq => ?_⟩
          have len : ws.length = rt.parts := by
            rw [hq.length, List.length_map, rt.pre_length]
          refine ⟨l, _, rfl, .inl (SqL.of hLl), _, _, rfl, rfl, ?_⟩
          rw [len]
          have s06 := s5.trans s6
          refine ⟨_, rfl, _, _, rfl, rfl, _, rfl, ite2 (fun c => ?_) (fun c => ?_)⟩
          · have c := of_decide_eq_true c
            refine ⟨_, rfl, raise1 fun d hd => ?_⟩
            have e : (sumR ts : Int) + (rt.parts : Int) = ((sumR ts + rt.parts : Nat) : Int) := by omega
            show E (.ref T.a_TooGreat) (some d) (upd H6 d (.xd [("parts", .int ((sumR ts : Int) + (rt.parts : Int)))]))
            rw [e]
            exact qg hT eR (by omega) H6 d s06 hd
          · have c := of_decide_eq_false (Bool.eq_false_iff.mpr c)
            refine ⟨_, rfl, ?_⟩
            refine ⟨_, rfl, a, xs, b, rfl, hS.same s06, fun J wJ => ?_⟩
            refine for_it wJ (fun i σ H' => ∃ y f, σ = [some (.ref a), some rv, y, some (.int ((sumR ts : Int) + (rt.parts : Int))), some f] ∧ Same H H' ∧ Dq K H' f (rowOf (ts.drop (ts.length - i)) rt).toD)
              ⟨_, rv, rfl, s06, ?_⟩ (fun i σ H' _ ⟨_, _, _, z, _⟩ => hS.same z) ?_ ?_
            · rw [Nat.sub_zero, List.drop_length]
              exact hR.same s06
            · rintro i x σ H7 H7' hi ⟨y, f, rfl, s7, hf⟩ ⟨rfl, hx⟩
              obtain ⟨t, ht, hxt⟩ := hX.getTh hx
              rw [el] at ht hi
              refine ⟨_, rfl, _, rfl, (by show 2 ≤ sizeLine; decide), fun c hc => ?_⟩
              have s_H8 : Same H7' (upd H7' c (.tup [x, f])) := same_upd hc
              have g_H8 : (upd H7' c (.tup [x, f])) c = some (.tup [x, f]) := upd_same
              generalize upd H7' c (.tup [x, f]) = H8 at s_H8 g_H8 ⊢
              refine ⟨_, _, rfl, s7.trans s_H8, ?_⟩
              have e : ts.drop (ts.length - (i + 1)) = t :: ts.drop (ts.length - i) := by
                obtain ⟨hlt, hget⟩ := List.getElem?_eq_some_iff.mp ht
                have e1 : ts.length - (i + 1) = ts.length - 1 - i := by omega
                have e2 : ts.length - i = ts.length - 1 - i + 1 := by omega
                rw [e1, e2, List.drop_eq_getElem_cons hlt, hget]
              rw [e]
              exact .tup (SqT.of g_H8) (.cons (hxt.same (s7.trans s_H8)) (.cons (hf.same s_H8) .nil))
            · rintro σ H7 ⟨y, f, rfl, s7, hf⟩
              rw [el, Nat.sub_self] at hf
              exact ⟨_, rfl, q hT eR (by omega) f H7 s7 hf⟩
    · refine ⟨_, tp, _, _, _, _, rfl, g_H1, .cons (.ty _) (.cons (.ty _) .nil), hk.same s_H1, kit_lt k, ?_⟩
      rw [hk2]
      exact ⟨_, rfl, _, rfl, raise1 fun d hd => qe H1 d s_H1 hd⟩
/-! ### items_of -/
def sp_items_of (K : PySem.W.Frag) (CT : Addr) : Sp := fun vs H Q E => ∃ (x : V) (t : Th), vs = [x] ∧ Dq K H x t.toD ∧ OkTh t ∧ (t.isTerm = false → NoTermE E CT H x) ∧
  (t.isTerm = true → ∀ p l ws xv H', H l = none → Same H H' → H' p = some (.tup [.ref l, xv]) → H' l = some (.lst ws) → DqAll K H ws ((rowItems t).map Th.toD) → Dq K H xv (rowRest t).toD → Q (.ref p) H')
theorem rowItems_len : ∀ t : Th, (rowItems t).length ≤ t.parts
  | .lf _ => Nat.zero_le _
  | .pr a b => by
    have := rowItems_len b
    show (rowItems b).length + 1 ≤ 1 + a.parts + b.parts
    omega
def WI (K : PySem.W.Frag) (H : Hp) (f : Addr) (t : Th) (m : Nat) (σ : L2.St) (H' : Hp) : Prop := ∃ (x : V) (u : Th) (ws : List V) (done : List Th), σ = [some x, some (.ref f)] ∧ m = u.parts ∧ Dq K H x u.toD ∧ u.nf ∧ Same H H' ∧ H' f = some (.lst ws) ∧ DqAll K H ws (done.map Th.toD) ∧ done ++ rowItems u = rowItems t ∧ rowRest u = rowRest t
theorem ok_items_of (T : Env K mg) : FnOk P w K mg base (L2.CX P w) 7 T.a_items_of T.d_items_of ["term"] (sp_items_of K T.a_NoTerm) := by
  have G_need_term : FnOk P w K mg base (L2.CX P w) 6 T.a_need_term T.d_need_term ["thing"] (sp_need_term K T.a_NoTerm) := ok_need_term T
  have G_is_pair : FnOk P w K mg base CX0 6 T.a_is_pair T.d_is_pair ["term"] (sp_is_pair K) := (ok_is_pair T).mono (by decide)
  refine T.F_items_of.okX sc_items_of (fun vs H Q E h => ?_) (fun cdv A outer s H vs Q E hr h => ?_)
  · obtain ⟨x, t, rfl, _⟩ := h
    rfl
  · obtain ⟨x, t, rfl, hd, hO, qe, q⟩ := h
    have hr_need_term := hr
    have hr_is_pair := hr
    refine ⟨_, (pss_cons (ps_expr (pe_callS G_need_term hr_need_term (by rfl) T.g_need_term T.F_need_term.kp T.b_need_term (fun σ => passAt (takes_of rfl rfl rfl rfl) σ) (pa_cons (pv 0) pa_nil)))
      (pss_cons (ps_set (i := 1) sc_items_of.nd rfl (Or.inl rfl) (pe_lst pa_nil))
      (pss_cons (ps_while (passes_of rfl) (pt_val (pe_call G_is_pair hr_is_pair (by rfl) T.g_is_pair T.F_is_pair.kp T.b_is_pair .nil pass0 (pa_cons (pv 0) pa_nil))) (pss_cons (ps_expr (pe_bm PySem.F.plainAttrs_list PySem.F.slot_list_append PySem.F.type_list_append mt_append (pv 1) (pa_cons (pe_ix ix_tup (pv 0) pe_int (fun _ _ => rfl)) pa_nil)))
      (pss_one (ps_set (i := 0) sc_items_of.nd rfl (Or.inl rfl) (pe_ix ix_tup (pv 0) pe_int (fun _ _ => rfl))))))
      (pss_one (ps_ret (pe_tup (pa_cons (pv 1) (pa_cons (pv 0) pa_nil)))))))), ?_⟩
    refine ⟨_, rfl, x, t, rfl, hd, hO, fun eT H1 s1 => ?_, fun eF H1 d s1 hd => qe eF H1 d s1 hd⟩
    have tp := Th.term_parts eT
    refine ⟨Nat.zero_le _, fun f hf => ?_⟩
    have hf0 : H f = none := s1.free hf
    have s_H2 : Same H1 (upd H1 f (.lst [])) := same_upd hf
    have g_H2 : (upd H1 f (.lst [])) f = some (.lst []) := upd_same
    generalize upd H1 f (.lst []) = H2 at s_H2 g_H2 ⊢
    refine ⟨WI K H f t, ⟨t.parts, x, t, [], [], rfl, rfl, hd, hO.1, s1.trans s_H2, g_H2, .nil, rfl, rfl⟩, fun m σ H3 hW => ?_⟩
    obtain ⟨y, u, ws, done, rfl, rfl, hy, hn, s3, gf, hw, e1, e2⟩ := hW
    refine ⟨_, rfl, y, u.toD, rfl, hy.same s3, _, rfl, ?_⟩
    rw [Th.pairD hn]
    cases u with
    | lf d =>
      refine ⟨_, rfl, _, rfl, (by show 2 ≤ sizeLine; decide), fun p hp => ?_⟩
      have s_H4 : Same H3 (upd H3 p (.tup [.ref f, y])) := same_upd hp
      have g_H4 : (upd H3 p (.tup [.ref f, y])) p = some (.tup [.ref f, y]) := upd_same
      generalize upd H3 p (.tup [.ref f, y]) = H4 at s_H4 g_H4 ⊢
      have e1 : done = rowItems t := by
        rw [← e1]
        exact (List.append_nil _).symm
      rw [e1] at hw
      refine q eT p f ws y H4 hf0 (s3.trans s_H4) g_H4 (s_H4 _ _ gf) hw ?_
      rw [← e2]
      exact hy
    | pr c d =>
      obtain ⟨pa, y0, y1, rfl, hs, h0, h1⟩ := hy.pr
      have hs3 := seqT s3 hs
      refine ⟨fun σ' H' => ∃ m', m' < (Th.pr c d).parts ∧ WI K H f t m' σ' H', fun σ' H' z => z, ?_⟩
      have lenw : ws.length < 1000000 := by
        have h1 := congrArg List.length e1
        rw [List.length_append] at h1
        have h2 := rowItems_len t
        have h3 := hw.length
        rw [List.length_map] at h3
        omega
      refine ⟨_, rfl, .inl ⟨rfl, _, SqL.of gf⟩, _, rfl, pa, _, 0, y0, rfl, rfl, hs3, atI_nat (j := 0) rfl, f, _, _, rfl, rfl, gf, sz_lt lenw, ?_⟩
      have s4 : Same H (upd H3 f (.lst (ws ++ [y0]))) := same_mut s3 hf0
      refine ⟨_, rfl, pa, _, 1, y1, rfl, rfl, seqT s4 hs, atI_nat (j := 1) rfl, ?_⟩
      refine ⟨d.parts, ?_, y1, d, ws ++ [y0], done ++ [c], rfl, rfl, h1, hn.2, s4, upd_same, ?_, ?_, e2⟩
      · have := c.parts_pos
        show d.parts < 1 + c.parts + d.parts
        omega
      · rw [List.map_append]
        exact hw.snoc h0
      · rw [← e1, List.append_assoc]
        rfl
end


/-! ### putting a part into a term -/
def Th.At : Th → List Int → Prop
  | _, [] => True
  | .pr a b, k :: r => (k = 0 ∧ a.At r) ∨ (k = 1 ∧ b.At r)
  | .lf _, _ :: _ => False
def Th.put : Th → List Int → Th → Th
  | _, [], u => u
  | .pr a b, k :: r, u => if k = 0 then .pr (a.put r u) b else .pr a (b.put r u)
  | .lf d, _ :: _, _ => .lf d
theorem Th.put_nil (t u : Th) : t.put [] u = u := by
  cases t <;> rfl
theorem Th.pls_at : ∀ (t : Th) (pl : List Int) (p : List Int × Th), p ∈ t.pls pl → ∃ r, p.1 = pl ++ r ∧ t.At r ∧ r.length ≤ t.deep
  | .lf d, pl, p, h => by
    rw [List.mem_singleton.mp h]
    exact ⟨[], (List.append_nil _).symm, trivial, Nat.zero_le _⟩
  | .pr a b, pl, p, h => by
    rcases List.mem_cons.mp h with e | h
    · rw [e]
      exact ⟨[], (List.append_nil _).symm, trivial, Nat.zero_le _⟩
    · rcases List.mem_append.mp h with h | h
      · obtain ⟨r, e, ha, hl⟩ := pls_at a _ p h
        refine ⟨0 :: r, ?_, .inl ⟨rfl, ha⟩, ?_⟩
        · rw [e, List.append_assoc]
          rfl
        · show r.length + 1 ≤ 1 + max a.deep b.deep
          omega
      · obtain ⟨r, e, ha, hl⟩ := pls_at b _ p h
        refine ⟨1 :: r, ?_, .inr ⟨rfl, ha⟩, ?_⟩
        · rw [e, List.append_assoc]
          rfl
        · show r.length + 1 ≤ 1 + max a.deep b.deep
          omega
theorem bulk2 (x y : PyData) : (PyData.tuple [x, y]).bulk = x.bulk + y.bulk + 2 := by
  show x.bulk + 1 + (y.bulk + 1 + 0) = _
  omega
theorem depth2 (x y : PyData) : (PyData.tuple [x, y]).depth = max x.depth y.depth + 1 := by
  show max x.depth (max y.depth 0) + 1 = _
  omega
/-- what putting a bad part in does -/
theorem Th.put_facts : ∀ (t : Th) (r : List Int) (u : Th), t.At r → t.nf → fine t.toD = true → u.nf → fine u.toD = true → u.okL = false →
    (t.put r u).nf ∧ fine (t.put r u).toD = true ∧ (t.put r u).okL = false ∧ (t.put r u).toD.bulk ≤ t.toD.bulk + u.toD.bulk ∧ (t.put r u).toD.depth ≤ t.toD.depth + u.toD.depth
  | t, [], u, _, _, _, hn, hf, hk => by
    rw [Th.put_nil]
    exact ⟨hn, hf, hk, by omega, by omega⟩
  | .lf _, _ :: _, _, h, _, _, _, _, _ => h.elim
  | .pr a b, k :: r, u, h, hn, hf, un, uf, uk => by
    obtain ⟨fa, fb⟩ := Th.fine_pr hf
    have eb : (Th.pr a b).toD.bulk = a.toD.bulk + b.toD.bulk + 2 := bulk2 _ _
    have ed : (Th.pr a b).toD.depth = max a.toD.depth b.toD.depth + 1 := depth2 _ _
    rcases h with ⟨rfl, h⟩ | ⟨rfl, h⟩
    · obtain ⟨h1, h2, h3, h4, h5⟩ := put_facts a r u h hn.1 fa un uf uk
      show (Th.pr (a.put r u) b).nf ∧ _
      refine ⟨⟨h1, hn.2⟩, ?_, ?_, ?_, ?_⟩
      · show (fine (a.put r u).toD && (fine b.toD && true)) = true
        rw [h2, fb]
        rfl
      · show ((a.put r u).okL && b.okL) = false
        rw [h3]
        rfl
      · have e : (Th.pr (a.put r u) b).toD.bulk = (a.put r u).toD.bulk + b.toD.bulk + 2 := bulk2 _ _
        rw [eb]
        show (Th.pr (a.put r u) b).toD.bulk ≤ _
        omega
      · have e : (Th.pr (a.put r u) b).toD.depth = max (a.put r u).toD.depth b.toD.depth + 1 := depth2 _ _
        rw [ed]
        show (Th.pr (a.put r u) b).toD.depth ≤ _
        omega
    · obtain ⟨h1, h2, h3, h4, h5⟩ := put_facts b r u h hn.2 fb un uf uk
      show (Th.pr a (b.put r u)).nf ∧ _
      refine ⟨⟨hn.1, h1⟩, ?_, ?_, ?_, ?_⟩
      · show (fine a.toD && (fine (b.put r u).toD && true)) = true
        rw [h2, fa]
        rfl
      · show (a.okL && (b.put r u).okL) = false
        rw [h3, Bool.and_false]
      · have e : (Th.pr a (b.put r u)).toD.bulk = a.toD.bulk + (b.put r u).toD.bulk + 2 := bulk2 _ _
        rw [eb]
        show (Th.pr a (b.put r u)).toD.bulk ≤ _
        omega
      · have e : (Th.pr a (b.put r u)).toD.depth = max a.toD.depth (b.put r u).toD.depth + 1 := depth2 _ _
        rw [ed]
        show (Th.pr a (b.put r u)).toD.depth ≤ _
        omega
section
variable {P : Program} {w : World} {K : PySem.W.Frag} {mg : Str → Option Value} {base : Heap}
theorem dpInts {H : Hp} : ∀ l : List Int, DpAll K H (l.map V.int) (l.map PyData.int)
  | [] => .nil
  | i :: r => .cons (.int i) (dpInts r)
theorem layInts : ∀ l : List Int, PyData.canLayAll0 (l.map PyData.int) = true
  | [] => rfl
  | _ :: r => layInts r
theorem depthInts : ∀ l : List Int, PyData.depthAll (l.map PyData.int) = 0
  | [] => rfl
  | _ :: r => by
    show max 0 (PyData.depthAll (r.map PyData.int)) = 0
    rw [depthInts r]
    rfl
theorem shapedInts (l : List Int) : SeqAt.shaped (.tuple (l.map PyData.int)) = true := by
  show (PyData.canLayAll0 (l.map PyData.int) && decide (PyData.depthAll (l.map PyData.int) + 1 ≤ 64)) = true
  rw [layInts, depthInts]
  rfl
theorem shapedIntsL (l : List Int) : SeqAt.shaped (.list (l.map PyData.int)) = true := by
  show (PyData.canLayAll0 (l.map PyData.int) && decide (PyData.depthAll (l.map PyData.int) + 1 ≤ 64)) = true
  rw [layInts, depthInts]
  rfl
theorem eq_unit {H : Hp} {b q : Addr} {pl : List Int} {Q : VK} (hb : SqT K H b (pl.map V.int)) (hq : SqT K H q []) (h : Q (.bl pl.isEmpty) H) : rEqD K (.ref b) (.ref q) H Q := by
  refine ⟨.tuple (pl.map .int), .tuple [], .tup hb (dpInts pl), .tup hq .nil, shapedInts pl, rfl, ?_⟩
  cases pl <;> exact h
theorem cut_one {x : V} {xs : List V} : cutV (x :: xs) (some 1) none = xs := by
  have e : HT.sIx (x :: xs).length 0 (some 1) = 1 := by
    show min 1 (xs.length + 1) = 1
    omega
  have e2 : HT.sIx (x :: xs).length (x :: xs).length none = xs.length + 1 := rfl
  unfold cutV
  rw [e, e2]
  show xs.take xs.length = xs
  exact List.take_length
theorem no_cut {k : Int} {r : List Int} : ¬ (HT.sIx ((k :: r).map V.int).length 0 (some 1) = 0 ∧ HT.sIx ((k :: r).map V.int).length ((k :: r).map V.int).length none = ((k :: r).map V.int).length) := fun e => by
  have e1 : min 1 ((r.map V.int).length + 1) = 0 := e.1
  omega
theorem cut_int {H : Hp} {b : Addr} {k : Int} {r : List Int} (h : H b = some (.tup (cutV ((k :: r).map V.int) (some 1) none))) : SqT K H b (r.map V.int) := by
  refine SqT.of (h.trans ?_)
  exact congrArg (fun z => some (HO.tup z)) cut_one
def sp_l_put (K : PySem.W.Frag) (n : Nat) : Sp := fun vs H Q _ => ∃ (x : V) (t : Th) (b : Addr) (pl : List Int) (y : V) (u : Th), vs = [x, .ref b, y] ∧ Dq K H x t.toD ∧ SqT K H b (pl.map V.int) ∧ Dq K H y u.toD ∧ t.At pl ∧ pl.length < n ∧
  ∀ v H', Same H H' → Dq K H' v (t.put pl u).toD → Q v H'
end

/-! ### bad things -/
def isTrip : List PyData → Bool
  | [.int _, .int _, .int _] => true
  | _ => false
mutual
/-- no list of three numbers in it -/
def noTrip : PyData → Bool
  | .none | .bool _ | .int _ | .str _ | .dict _ => true
  | .list ds => !isTrip ds && noTripAll ds
  | .tuple ds => noTripAll ds
def noTripAll : List PyData → Bool
  | [] => true
  | d :: ds => noTrip d && noTripAll ds
end
section
variable {K : PySem.W.Frag} {H H' : Hp} {p : Addr}
theorem ints3 {x y z : Int} {ds : List PyData} (h : DqAll K H [.int x, .int y, .int z] ds) : isTrip ds = true := by
  cases h with
  | cons h1 h =>
    cases h with
    | cons h2 h =>
      cases h with
      | cons h3 h =>
        cases h
        cases h1
        cases h2
        cases h3
        rfl
mutual
theorem Dq.off (hp : Pu H p) (o : Off p H H') : ∀ (d : PyData) (v : V), noTrip d = true → Dq K H v d → Dq K H' v d
  | .none, _, _, h => by
    cases h
    exact .non
  | .bool b, _, _, h => by
    cases h
    exact .bl b
  | .int i, _, _, h => by
    cases h
    exact .int i
  | .str i, _, _, h => by
    cases h
    exact .str i
  | .list ds, _, e, h => by
    obtain ⟨e1, e2⟩ := Bool.and_eq_true_iff.mp (show (!isTrip ds && noTripAll ds) = true from e)
    cases h with
    | @lst a xs _ hq r =>
      refine .lst ?_ (DqAll.off hp o ds _ e2 r)
      obtain ⟨x, y, z, hp⟩ := hp
      rcases hq with (h | ⟨ob, h⟩) | h
      · refine .inl (.inl (o _ _ ?_ h))
        rintro rfl
        rw [hp] at h
        cases h
        rw [ints3 r] at e1
        cases e1
      · refine .inl (.inr ⟨ob, o _ _ ?_ h⟩)
        rintro rfl
        rw [hp] at h
        cases h
      · exact .inr h
  | .dict kvs, _, e, h => by
    cases h with
    | @dct a h =>
      obtain ⟨x, y, z, hp⟩ := hp
      refine .dct (o _ _ ?_ h)
      rintro rfl
      rw [hp] at h
      cases h
  | .tuple ds, _, e, h => by
    cases h with
    | tup h r => exact .tup (hp.tups o _ _ h) (DqAll.off hp o ds _ e r)
theorem DqAll.off (hp : Pu H p) (o : Off p H H') : ∀ (ds : List PyData) (vs : List V), noTripAll ds = true → DqAll K H vs ds → DqAll K H' vs ds
  | [], _, _, h => by
    cases h
    exact .nil
  | d :: ds, _, e, h => by
    cases h with
    | cons h r => exact .cons (Dq.off hp o d _ (Bool.and_eq_true_iff.mp e).1 h) (DqAll.off hp o ds _ (Bool.and_eq_true_iff.mp e).2 r)
end
/-- a bad thing of no great size -/
def BadV (K : PySem.W.Frag) (H : Hp) (v : V) : Prop := ∃ u : Th, Dq K H v u.toD ∧ u.nf ∧ u.okL = false ∧ fine u.toD = true ∧ noTrip u.toD = true ∧ u.toD.bulk ≤ 20 ∧ u.toD.depth ≤ 3
theorem badLf {v : V} (d : PyData) (h : Dq K H v d) (h1 : isPairD d = false) (h2 : singleD d = false) (h3 : fine d = true) (h4 : noTrip d = true) (h5 : d.bulk ≤ 20) (h6 : d.depth ≤ 3) : BadV K H v := ⟨.lf d, h, h1, h2, h3, h4, h5, h6⟩
theorem badPr {v : V} (d e : PyData) (h : Dq K H v (.tuple [d, e])) (h1 : isPairD d = false) (h1' : isPairD e = false) (h2 : (singleD d && singleD e) = false) (h3 : fine (.tuple [d, e]) = true) (h4 : noTrip (.tuple [d, e]) = true) (h5 : (PyData.tuple [d, e]).bulk ≤ 20) (h6 : (PyData.tuple [d, e]).depth ≤ 3) : BadV K H v :=
  ⟨.pr (.lf d) (.lf e), h, ⟨h1, h1'⟩, h2, h3, h4, h5, h6⟩
theorem fine_int {i : Int} (h : i.natAbs < 2 ^ 128) : fine (.int i) = true := decide_eq_true (Nat.lt_of_lt_of_le h (Nat.pow_le_pow_right (by decide) (by decide)))
theorem fine_int1 {i : Int} (h : i.natAbs < 2 ^ 128) : fine (.tuple [.int i]) = true := by
  show (fine (.int i) && true) = true
  rw [fine_int h]
  rfl
end
/-! ### sizes of good terms -/
theorem single_bulk {d : PyData} (h : singleD d = true) : d.bulk ≤ 8 ∧ d.depth ≤ 1 := by
  rcases single_cases h with ⟨z, rfl⟩ | ⟨j, rfl⟩ | ⟨j, rfl, hj⟩
  · refine ⟨?_, Nat.zero_le _⟩
    have h : (isName z || (false || false)) = true := h
    rw [Bool.or_false, Bool.or_false] at h
    unfold isName at h
    have h2 := of_decide_eq_true (Bool.and_eq_true_iff.mp (Bool.and_eq_true_iff.mp h).2).1
    show z.cps.size ≤ 8
    have e : z.length = z.cps.size := rfl
    omega
  · exact ⟨Nat.zero_le _, Nat.zero_le _⟩
  · exact ⟨by show 0 + 1 + 0 ≤ 8; omega, by show max 0 0 + 1 ≤ 1; omega⟩
theorem Th.ok_bulk {t : Th} (h : t.okL = true) : t.toD.bulk ≤ 10 * t.parts ∧ t.toD.depth ≤ t.deep := by
  induction t with
  | lf d =>
    obtain ⟨h1, h2⟩ := single_bulk h
    exact ⟨by show d.bulk ≤ 10 * 1; omega, h2⟩
  | pr a b iha ihb =>
    obtain ⟨h1, h2⟩ := Bool.and_eq_true_iff.mp (show (a.okL && b.okL) = true from h)
    obtain ⟨a1, a2⟩ := iha h1
    obtain ⟨b1, b2⟩ := ihb h2
    have eb : (Th.pr a b).toD.bulk = a.toD.bulk + b.toD.bulk + 2 := bulk2 _ _
    have ed : (Th.pr a b).toD.depth = max a.toD.depth b.toD.depth + 1 := depth2 _ _
    rw [eb, ed]
    refine ⟨?_, ?_⟩
    · show _ ≤ 10 * (1 + a.parts + b.parts)
      omega
    · show _ ≤ 1 + max a.deep b.deep
      omega
/-- a thing that is no term, of no great size -/
def NoT (u : Th) : Prop := OkTh u ∧ u.isTerm = false ∧ u.toD.bulk ≤ 2000 ∧ u.toD.depth ≤ 98

/-! ### how bad things are shown -/
mutual
theorem fine_show : ∀ d : PyData, fine d = true → d.showable = true ∧ d.leavesShort 1001 = true
  | .none, _ => ⟨rfl, rfl⟩
  | .bool _, _ => ⟨rfl, rfl⟩
  | .int i, h => by
    have h : i.natAbs < 2 ^ 1000 := of_decide_eq_true h
    refine ⟨decide_eq_true ?_, decide_eq_true ?_⟩
    · by_cases h0 : i.natAbs = 0
      · rw [h0]
        decide
      · exact Nat.lt_trans ((Nat.log2_lt h0).mpr h) (by decide)
    · show (Str.ofString (toString i)).length ≤ 1001
      rw [PySem.ofString_length]
      exact int_text_length_le10 (k := 1000) (by decide) (Nat.lt_of_lt_of_le h (Nat.pow_le_pow_left (show 2 ≤ 10 by decide) 1000))
  | .str x, h => by
    refine ⟨rfl, ?_⟩
    have h2 := (Bool.and_eq_true_iff.mp (show (decide (x.length ≤ 1000) && x.cps.toList.all (fun c => decide (c < 1114112))) = true from h)).2
    show (x.cps.toList.all fun c => decide (c < 16 ^ 8)) = true
    rw [List.all_eq_true] at h2 ⊢
    exact fun c hc => decide_eq_true (Nat.lt_trans (of_decide_eq_true (h2 c hc)) (by decide))
  | .list ds, h => fine_showAll ds h
  | .tuple ds, h => fine_showAll ds h
  | .dict kvs, h => by
    cases kvs with
    | nil => exact ⟨rfl, rfl⟩
    | cons a b => exact no_ft h
theorem fine_showAll : ∀ ds : List PyData, fineAll ds = true → PyData.showableAll ds = true ∧ PyData.leavesShortAll 1001 ds = true
  | [], _ => ⟨rfl, rfl⟩
  | d :: ds, h => by
    obtain ⟨h1, h2⟩ := Bool.and_eq_true_iff.mp (show (fine d && fineAll ds) = true from h)
    obtain ⟨a1, a2⟩ := fine_show d h1
    obtain ⟨b1, b2⟩ := fine_showAll ds h2
    exact ⟨Bool.and_eq_true_iff.mpr ⟨a1, b1⟩, Bool.and_eq_true_iff.mpr ⟨a2, b2⟩⟩
end
theorem show3 {u : Th} (h : NoT u) : PyData.showable (.list [.bool false, .bool true, u.toD]) = true ∧ (PyData.shown (.list [.bool false, .bool true, u.toD])).length ≤ sizeLine ∧ PyData.depth (.list [.bool false, .bool true, u.toD]) ≤ 190 := by
  obtain ⟨⟨_, hf⟩, _, hb, hd⟩ := h
  obtain ⟨h1, h2⟩ := fine_show _ hf
  refine ⟨?_, ?_, ?_⟩
  · show (true && (true && (u.toD.showable && true))) = true
    rw [h1]
    rfl
  · have hl : PyData.leavesShort 1001 (.list [.bool false, .bool true, u.toD]) = true := by
      show (true && (true && (u.toD.leavesShort 1001 && true))) = true
      rw [h2]
      rfl
    have k := PyData.shown_le_bulk 1001 (by decide) _ hl
    have e : (PyData.list [.bool false, .bool true, u.toD]).bulk = u.toD.bulk + 3 := by
      show 0 + 1 + (0 + 1 + (u.toD.bulk + 1 + 0)) = _
      omega
    rw [e] at k
    rw [sizeLine_eq]
    omega
  · show max 0 (max 0 (max u.toD.depth 0)) + 1 ≤ 190
    omega
theorem kit2 {K : PySem.W.Frag} {t c d : Value} (h1 : PySem.W.kitOne K t c = some false) (h2 : PySem.W.kitOne K t d = some false) : PySem.W.kitAny K t [c, d] = some false := by
  unfold PySem.W.kitAny
  rw [h1]
  show PySem.W.kitAny K t [d] = _
  unfold PySem.W.kitAny
  rw [h2]
  rfl

/-! ### how lists are shown -/
theorem showL {ds : List PyData} (hf : fineAll ds = true) (hb : PyData.bulkAll ds ≤ 10000) (hd : PyData.depthAll ds ≤ 180) : PyData.showable (.list ds) = true ∧ (PyData.shown (.list ds)).length ≤ sizeLine ∧ PyData.depth (.list ds) ≤ 190 := by
  obtain ⟨h1, h2⟩ := fine_showAll ds hf
  refine ⟨h1, ?_, ?_⟩
  · have k := PyData.shown_le_bulk 1001 (by decide) (.list ds) h2
    have e : (PyData.list ds).bulk = PyData.bulkAll ds := rfl
    rw [e] at k
    rw [sizeLine_eq]
    omega
  · show PyData.depthAll ds + 1 ≤ 190
    omega
/-- fine, and of no great size -/
def Sm (d : PyData) : Prop := fine d = true ∧ d.bulk ≤ 3000 ∧ d.depth ≤ 120
theorem Sm.bool (b : Bool) : Sm (.bool b) := ⟨rfl, Nat.zero_le _, Nat.zero_le _⟩
theorem Sm.int {i : Int} (h : i.natAbs < 2 ^ 128) : Sm (.int i) := ⟨fine_int h, Nat.zero_le _, Nat.zero_le _⟩
theorem sm2 {x y : PyData} (hx : Sm x) (hy : Sm y) : PyData.showable (.list [x, y]) = true ∧ (PyData.shown (.list [x, y])).length ≤ sizeLine ∧ PyData.depth (.list [x, y]) ≤ 190 := by
  obtain ⟨a1, a2, a3⟩ := hx
  obtain ⟨b1, b2, b3⟩ := hy
  refine showL ?_ ?_ ?_
  · show (fine x && (fine y && true)) = true
    rw [a1, b1]
    rfl
  · show x.bulk + 1 + (y.bulk + 1 + 0) ≤ 10000
    omega
  · show max x.depth (max y.depth 0) ≤ 180
    omega
theorem sm3 {x y z : PyData} (hx : Sm x) (hy : Sm y) (hz : Sm z) : PyData.showable (.list [x, y, z]) = true ∧ (PyData.shown (.list [x, y, z])).length ≤ sizeLine ∧ PyData.depth (.list [x, y, z]) ≤ 190 := by
  obtain ⟨a1, a2, a3⟩ := hx
  obtain ⟨b1, b2, b3⟩ := hy
  obtain ⟨c1, c2, c3⟩ := hz
  refine showL ?_ ?_ ?_
  · show (fine x && (fine y && (fine z && true))) = true
    rw [a1, b1, c1]
    rfl
  · show x.bulk + 1 + (y.bulk + 1 + (z.bulk + 1 + 0)) ≤ 10000
    omega
  · show max x.depth (max y.depth (max z.depth 0)) ≤ 180
    omega
theorem smTerm {t : Th} (hn : OkTh t) (h : t.isTerm = true) : Sm t.toD ∧ t.toD.bulk ≤ 1000 ∧ t.toD.depth ≤ 50 := by
  have tk : t.okL = true := (Bool.and_eq_true_iff.mp h).1
  have tp := Th.term_parts h
  have td := t.deep_half
  obtain ⟨b1, b2⟩ := Th.ok_bulk tk
  exact ⟨⟨hn.2, by omega, by omega⟩, by omega, by omega⟩
theorem NoT.sm {u : Th} (h : NoT u) : Sm u.toD := ⟨h.1.2, by have := h.2.2.1; omega, by have := h.2.2.2; omega⟩
theorem smS (s : Str) (h : fine (.str s) = true) (h2 : s.cps.size ≤ 3000) : Sm (.str s) := ⟨h, h2, Nat.zero_le _⟩

/-! ### the heap without the purse -/
def hide (H : Hp) (p : Addr) : Hp := fun a => if a = p then none else H a
theorem hide_get {H : Hp} {p a : Addr} {o : HO} (n : a ≠ p) (h : H a = some o) : hide H p a = some o := (if_neg n).trans h
theorem hide_of {H : Hp} {p a : Addr} {o : HO} (h : hide H p a = some o) : a ≠ p ∧ H a = some o := by
  by_cases e : a = p
  · have h' := (if_pos e).symm.trans h
    cases h'
  · exact ⟨e, (if_neg e).symm.trans h⟩
theorem hide_sub (H : Hp) (p : Addr) : Same (hide H p) H := fun _ _ h => (hide_of h).2
theorem hide_off {H H' : Hp} {p : Addr} (o : Off p H H') : Same (hide H p) (hide H' p) := fun b u h => hide_get (hide_of h).1 (o b u (hide_of h).1 (hide_of h).2)
theorem off_hide {H : Hp} {p : Addr} : Off p H (hide H p) := fun _ _ n h => hide_get n h

mutual
theorem fine_lay : ∀ d : PyData, tupOnly d = true → fine d = true → d.canLay0 = true
  | .none, _, _ => rfl
  | .bool _, _, _ => rfl
  | .int _, _, _ => rfl
  | .str x, _, h => OkS.strOk (OkS.dec (Bool.and_eq_true_iff.mp (show (decide (x.length ≤ 1000) && x.cps.toList.all (fun c => decide (c < 1114112))) = true from h)).2)
  | .list _, e, _ => no_ft e
  | .dict _, e, _ => no_ft e
  | .tuple ds, e, h => fine_layAll ds e h
theorem fine_layAll : ∀ ds : List PyData, tupOnlyAll ds = true → fineAll ds = true → PyData.canLayAll0 ds = true
  | [], _, _ => rfl
  | d :: ds, e, h => by
    obtain ⟨h1, h2⟩ := Bool.and_eq_true_iff.mp (show (fine d && fineAll ds) = true from h)
    obtain ⟨e1, e2⟩ := Bool.and_eq_true_iff.mp (show (tupOnly d && tupOnlyAll ds) = true from e)
    exact Bool.and_eq_true_iff.mpr ⟨fine_lay d e1 h1, fine_layAll ds e2 h2⟩
end
theorem shaped_refl {d : PyData} (h : SeqAt.shaped d = true) : (!PyData.eqv d d) = false := by
  rw [SeqAt.eqv_refl d (SeqAt.canLay_of_shaped h)]
  rfl
section
variable {K : PySem.W.Frag} {H : Hp}
mutual
theorem Dq.dp : ∀ (d : PyData) (v : V), tupOnly d = true → Dq K H v d → Dp K H v d
  | .none, _, _, h => by
    cases h
    exact .non
  | .bool b, _, _, h => by
    cases h
    exact .bl b
  | .int i, _, _, h => by
    cases h
    exact .int i
  | .str i, _, _, h => by
    cases h
    exact .str i
  | .list _, _, e, _ => no_ft e
  | .dict _, _, e, _ => no_ft e
  | .tuple ds, _, e, h => by
    cases h with
    | tup h r => exact .tup h (DqAll.dp ds _ e r)
theorem DqAll.dp : ∀ (ds : List PyData) (vs : List V), tupOnlyAll ds = true → DqAll K H vs ds → DpAll K H vs ds
  | [], _, _, h => by
    cases h
    exact .nil
  | d :: ds, _, e, h => by
    cases h with
    | cons h r => exact .cons (Dq.dp d _ (Bool.and_eq_true_iff.mp e).1 h) (DqAll.dp ds _ (Bool.and_eq_true_iff.mp e).2 r)
end
end


section
variable {P : Program} {w : World} {K : PySem.W.Frag} {mg : Str → Option Value} {base : Heap}
theorem Tups.offd {H H' : Hp} {l : Addr} {kvs : List (Key × V)} (h : H l = some (.dK kvs)) (o : Off l H H') : Tups K H H' := fun a xs ha => by
  rcases ha with (e | ⟨ob, e⟩) | e
  · refine .inl (.inl (o _ _ ?_ e))
    rintro rfl
    rw [h] at e
    cases e
  · refine .inl (.inr ⟨ob, o _ _ ?_ e⟩)
    rintro rfl
    rw [h] at e
    cases e
  · exact .inr e
theorem Th.ren_some {d : PyData} {i : Int} {ws : List Int} (e : unkNum d = some i) (hm : i ∈ ws) : (Th.lf d).ren ws = .lf (.tuple [.int (idxI ws i)]) := by
  show (match unkNum d with | some i => if i ∈ ws then Th.lf (.tuple [.int (idxI ws i)]) else .lf d | none => .lf d) = _
  rw [e]
  dsimp only
  rw [if_pos hm]
/-! ### the law's own renaming -/
abbrev PvI : Nat → V → Prop := fun n v => v = .int n
def sp_l_renamed (K : PySem.W.Frag) (n : Nat) : Sp := fun vs H Q _ => ∃ (x : V) (t : Th) (dv : Addr) (kvs : List (Key × V)) (us : List Int), vs = [x, .ref dv] ∧ Dq K H x t.toD ∧ t.nf ∧ t.okL = true ∧ t.deep ≤ n ∧ H dv = some (.dK kvs) ∧ KvR PvI 0 kvs us ∧ us.length + t.parts ≤ 100000 ∧
  ∀ v kvs' H', Off dv H H' → H' dv = some (.dK kvs') → KvR PvI 0 kvs' (t.gone us) → Dq K H' v (t.ren (t.gone us)).toD → Q v H'
theorem ok_l_renamed (T : Env K mg) : ∀ n : Nat, FnOk P w K mg base CX0 (n + 1) T.a_l_renamed T.d_l_renamed ["_law_term_here", "_law_known"] (sp_l_renamed K n)
  | 0 => by
    have no : ∀ vs H Q E, ¬ sp_l_renamed K 0 vs H Q E := fun vs H Q E h => by
      obtain ⟨x, t, dv, kvs, us, _, _, _, _, h1, _⟩ := h
      have := t.deep_pos
      omega
    exact ⟨fun vs H Q E h => absurd h (no vs H Q E), fun A outer s H args us vs Q E _ _ _ _ h => absurd h (no vs H Q E)⟩
  | n + 1 => by
    have G_l_renamed : FnOk P w K mg base CX0 (n + 1) T.a_l_renamed T.d_l_renamed ["_law_term_here", "_law_known"] (sp_l_renamed K n) := ok_l_renamed T n
    refine T.F_l_renamed.ok sc_l_renamed (fun vs H Q E h => ?_) (fun cdv A outer s H vs Q E hr h => ?_)
    · obtain ⟨x, t, dv, kvs, us, rfl, _⟩ := h
      rfl
    · obtain ⟨x, t, dv, kvs, us, rfl, hd, hn, hk, hdp, hD, hK, hl, q⟩ := h
      have hr_l_renamed := hr
      have hu := hu_of hr
      refine ⟨_, (pss_cons (ps_if (PW.pt (pw_and (pt_val (pe_callB call_isi (by rfl) T.m_isinstance PyProof.Rows.boot_isinstance (pa_cons (pv 0) (pa_cons (pe_bltn (v := .ty "tuple") (by rfl) T.m_tuple PyProof.Rows.boot_tuple rfl) pa_nil)))) (pw_and1 (pt_cmpR op_eq (pe_callB call_len_seq (by rfl) T.m_len PySem.boot_len (pa_cons (pv 0) pa_nil)) pe_int (nomark _))))) (pss_one (ps_ret (pe_tup (pa_cons (pe_call G_l_renamed hr_l_renamed (by rfl) T.g_l_renamed T.F_l_renamed.kp T.b_l_renamed .nil pass0 (pa_cons (pe_ix ix_tup (pv 0) pe_int (fun _ _ => rfl)) (pa_cons (pv 1) pa_nil))) (pa_cons (pe_call G_l_renamed hr_l_renamed (by rfl) T.g_l_renamed T.F_l_renamed.kp T.b_l_renamed .nil pass0 (pa_cons (pe_ix ix_tup (pv 0) pe_int (fun _ _ => rfl)) (pa_cons (pv 1) pa_nil))) pa_nil))))) pss_nil)
      (pss_cons (ps_if (pt_val (pe_callB call_isi (by rfl) T.m_isinstance PyProof.Rows.boot_isinstance (pa_cons (pv 0) (pa_cons (pe_bltn (v := .ty "tuple") (by rfl) T.m_tuple PyProof.Rows.boot_tuple rfl) pa_nil)))) (pss_cons (ps_if (pt_cmp (pc_dnotin hu (pe_ix ix_tup (pv 0) pe_int (fun _ _ => rfl)) (pv 1))) (pss_one (ps_dput hu (pv 1) (pe_ix ix_tup (pv 0) pe_int (fun _ _ => rfl)) (pe_callB call_lenD (by rfl) T.m_len PySem.boot_len (pa_cons (pv 1) pa_nil)) rfl)) pss_nil)
      (pss_one (ps_ret (pe_tup (pa_cons (pe_dget hu (pv 1) (pe_ix ix_tup (pv 0) pe_int (fun _ _ => rfl)) (fun _ _ => rfl)) pa_nil))))) pss_nil)
      (pss_one (ps_ret (pv 0))))), ?_⟩
      refine ⟨x, rfl, x, .ty "tuple", _, .type "tuple", _, rfl, .ty _, hd.knd, kit_tup _, _, rfl, ?_⟩
      cases t with
      | pr a b =>
        obtain ⟨pa, y0, y1, rfl, hs, h0, h1⟩ := hd.pr
        have hdp : 1 + max a.deep b.deep ≤ n + 1 := hdp
        have hl : us.length + (1 + a.parts + b.parts) ≤ 100000 := hl
        obtain ⟨ka, kb⟩ := Bool.and_eq_true_iff.mp (show (a.okL && b.okL) = true from hk)
        have ga := gone_len a us
        rw [Th.gone_pr] at q
        refine ⟨_, rfl, pa, _, rfl, .inr hs, rfl, true, rfl, ?_⟩
        refine ⟨_, rfl, pa, _, 0, y0, rfl, rfl, hs, atI_nat (j := 0) rfl, _, rfl, y0, a, dv, kvs, us, rfl, h0, hn.1, ka, by omega, hD, hK, by omega, fun v1 kvs1 H1 o1 hD1 hK1 hv1 => ?_⟩
        have t1 : Tups K H H1 := Tups.offd hD o1
        refine ⟨_, rfl, pa, _, 1, y1, rfl, rfl, t1 _ _ hs, atI_nat (j := 1) rfl, _, rfl, y1, b, dv, kvs1, _, rfl, Dq.tups t1 _ _ (Th.ok_tup kb) h1, hn.2, kb, by omega, hD1, hK1, by omega, fun v2 kvs2 H2 o2 hD2 hK2 hv2 => ?_⟩
        have t2 : Tups K H1 H2 := Tups.offd hD1 o2
        refine ⟨(by show 2 ≤ sizeLine; decide), fun c hc => ?_⟩
        have nd : dv ≠ c := ne_of_none hD2 hc
        have s_H3 : Same H2 (upd H2 c (.tup [v1, v2])) := same_upd hc
        have g_H3 : (upd H2 c (.tup [v1, v2])) c = some (.tup [v1, v2]) := upd_same
        generalize upd H2 c (.tup [v1, v2]) = H3 at s_H3 g_H3 ⊢
        have e : a.ren (b.gone (a.gone us)) = a.ren (a.gone us) := Th.ren_ext (foldU_ext b.pre _) a (Th.gone_within a us)
        refine q _ kvs2 H3 ((o1.trans o2).trans (Off.of s_H3)) (s_H3 _ _ hD2) hK2 (.tup (SqT.of g_H3) (.cons ?_ (.cons (hv2.same s_H3) .nil)))
        show Dq K H3 v1 (a.ren (b.gone (a.gone us))).toD
        rw [e]
        exact (Dq.tups t2 _ _ (Th.ren_tup _ a ka) hv1).same s_H3
      | lf d =>
        have hk : singleD d = true := hk
        have skip : unkNum d = none → Q x H := fun e => by
          have eg : (Th.lf d).gone us = us := by
            rw [Th.gone_lf]
            unfold stepU
            rw [show unkNum (Th.lf d).toD = none from e]
          have er : (Th.lf d).ren us = .lf d := by
            show (match unkNum d with | some i => if i ∈ us then Th.lf (.tuple [.int (idxI us i)]) else .lf d | none => .lf d) = _
            rw [e]
          rw [eg, er] at q
          exact q x kvs H (Off.refl dv H) hD hK hd
        rcases single_cases hk with ⟨z, rfl⟩ | ⟨j, rfl⟩ | ⟨i, rfl, hi⟩
        · exact ⟨x, rfl, x, .ty "tuple", _, .type "tuple", _, rfl, .ty _, hd.knd, kit_tup _, _, rfl, _, rfl, skip rfl⟩
        · exact ⟨x, rfl, x, .ty "tuple", _, .type "tuple", _, rfl, .ty _, hd.knd, kit_tup _, _, rfl, _, rfl, skip rfl⟩
        · obtain ⟨pa, xs, rfl, hs, hr'⟩ := Dq.tupOf (ds := [.int i]) hd
          obtain ⟨z, rfl, hz⟩ := hr'.one
          cases hz
          have eg : (Th.lf (.tuple [.int i])).gone us = addU us i := by
            rw [Th.gone_lf]
            exact stepU_some (u := .lf (.tuple [.int i])) hi
          rw [eg, Th.ren_some hi (mem_addU.mpr (.inr rfl))] at q
          refine ⟨_, rfl, pa, _, rfl, .inr hs, rfl, false, rfl, ?_⟩
          refine ⟨_, rfl, _, .ty "tuple", _, .type "tuple", _, rfl, .ty _, hd.knd, kit_tup _, _, rfl, ?_⟩
          refine ⟨_, rfl, pa, _, 0, _, rfl, rfl, hs, atI_nat (j := 0) rfl, _, rfl, dv, _, rfl, DGet.k (k := Sum.inl i) hD, _, rfl, ?_⟩
          by_cases hm : i ∈ us
          · obtain ⟨v, hv, pv⟩ := KvR.val hK hm
            rw [hv]
            rw [addU_in hm] at q
            have pv : v = .int (idxI us i) := by
              rw [Nat.zero_add] at pv
              exact pv
            subst pv
            refine ⟨_, rfl, _, rfl, pa, _, 0, _, rfl, rfl, hs, atI_nat (j := 0) rfl, dv, _, rfl, hv ▸ DGet.k (k := Sum.inl i) hD, (by show 1 ≤ sizeLine; decide), fun c hc => ?_⟩
            have s_H3 : Same H (upd H c (.tup [.int (idxI us i)])) := same_upd hc
            have g_H3 : (upd H c (.tup [.int (idxI us i)])) c = some (.tup [.int (idxI us i)]) := upd_same
            generalize upd H c (.tup [.int (idxI us i)]) = H3 at s_H3 g_H3 ⊢
            exact q _ kvs H3 (Off.of s_H3) (s_H3 _ _ hD) hK (.tup (SqT.of g_H3) (.cons (.int _) .nil))
          · rw [(KvR.none hK hm).1]
            rw [addU_not hm] at q
            have klen := hK.length
            have hl : us.length + 1 ≤ 100000 := hl
            refine ⟨_, rfl, dv, kvs, rfl, hD, _, rfl, _, rfl, pa, _, 0, _, rfl, rfl, hs, atI_nat (j := 0) rfl, dv, _, rfl, DPut.k (k := Sum.inl i) hD (sz_lt (by omega)), ?_⟩
            have hK2 : KvR PvI 0 (putK kvs (Sum.inl i) (.int (kvs.length : Int))) (us ++ [i]) := KvR.put hK hm (by rw [klen])
            have o2 : Off dv H (upd H dv (.dK (putK kvs (Sum.inl i) (.int (kvs.length : Int))))) := Off.put
            have g2 : (upd H dv (.dK (putK kvs (Sum.inl i) (.int (kvs.length : Int))))) dv = some (.dK (putK kvs (Sum.inl i) (.int (kvs.length : Int)))) := upd_same
            generalize upd H dv (.dK (putK kvs (Sum.inl i) (.int (kvs.length : Int)))) = H2 at o2 g2 ⊢
            have hs2 := (Tups.offd (K := K) hD o2) _ _ hs
            obtain ⟨v, hv, pv⟩ := KvR.val hK2 (show i ∈ us ++ [i] from List.mem_append_right _ (List.mem_singleton.mpr rfl))
            have pv : v = .int (idxI (us ++ [i]) i) := by
              rw [Nat.zero_add] at pv
              exact pv
            subst pv
            refine ⟨_, rfl, _, rfl, pa, _, 0, _, rfl, rfl, hs2, atI_nat (j := 0) rfl, dv, _, rfl, hv ▸ DGet.k (k := Sum.inl i) g2, (by show 1 ≤ sizeLine; decide), fun c hc => ?_⟩
            have s_H3 : Same H2 (upd H2 c (.tup [.int (idxI (us ++ [i]) i)])) := same_upd hc
            have g_H3 : (upd H2 c (.tup [.int (idxI (us ++ [i]) i)])) c = some (.tup [.int (idxI (us ++ [i]) i)]) := upd_same
            generalize upd H2 c (.tup [.int (idxI (us ++ [i]) i)]) = H3 at s_H3 g_H3 ⊢
            exact q _ _ H3 (o2.trans (Off.of s_H3)) (s_H3 _ _ g2) hK2 (.tup (SqT.of g_H3) (.cons (.int _) .nil))
/-! ### the law's own row -/
def sp_l_pairs (K : PySem.W.Frag) : Sp := fun vs H Q _ => ∃ (a : Addr) (xs : List V) (ts : List Th) (rv : V) (rt : Th), vs = [.ref a, rv] ∧ SqL K H a xs ∧ DqAll K H xs (ts.map Th.toD) ∧ Dq K H rv rt.toD ∧ ∀ v H', Same H H' → Dq K H' v (rowOf ts rt).toD → Q v H'
theorem ok_l_pairs (T : Env K mg) : FnOk P w K mg base CX0 1 T.a_l_pairs T.d_l_pairs ["_law_items", "_law_last"] (sp_l_pairs K) := by
  refine T.F_l_pairs.ok sc_l_pairs (fun vs H Q E h => ?_) (fun cdv A outer s H vs Q E hr h => ?_)
  · obtain ⟨a, xs, ts, rv, rt, rfl, _⟩ := h
    rfl
  · obtain ⟨a, xs, ts, rv, rt, rfl, hS, hX, hR, q⟩ := h
    have el : xs.length = ts.length := by
      rw [hX.length, List.length_map]
    refine ⟨_, (pss_cons (ps_for PassesOwn.never (by rfl) (pi_list (pe_revL (pv 0))) (pg_name (i := 2) sc_l_pairs.nd rfl (Or.inl rfl)) (pss_one (ps_set (i := 1) sc_l_pairs.nd rfl (Or.inl rfl) (pe_tup (pa_cons (pv 2) (pa_cons (pv 1) pa_nil))))))
      (pss_one (ps_ret (pv 1)))), ?_⟩
    refine ⟨_, rfl, a, xs, rfl, hS, fun p hp => ?_⟩
    have s_H1 : Same H (upd H p (.lst xs.reverse)) := same_upd hp
    have g_H1 : (upd H p (.lst xs.reverse)) p = some (.lst xs.reverse) := upd_same
    generalize upd H p (.lst xs.reverse) = H1 at s_H1 g_H1 ⊢
    refine ⟨p, rfl, ⟨_, SqL.of g_H1⟩, for_list (K := K) (a := p) (xs := xs.reverse) (fun i σ H' => ∃ f y, σ = [some (.ref a), some f, y] ∧ Same H H' ∧ H' p = some (.lst xs.reverse) ∧ Dq K H' f (rowOf (ts.drop (ts.length - i)) rt).toD)
      ⟨rv, none, rfl, s_H1, g_H1, ?_⟩ (fun i σ H' _ ⟨_, _, _, _, z, _⟩ => SqL.of z) ?_ ?_⟩
    · rw [Nat.sub_zero, List.drop_length]
      exact hR.same s_H1
    · rintro i x σ H2 hi ⟨f, y, rfl, s2, gp, hf⟩
      have hlt : i < xs.length := by
        obtain ⟨h, _⟩ := List.getElem?_eq_some_iff.mp hi
        rw [List.length_reverse] at h
        exact h
      rw [List.getElem?_reverse hlt] at hi
      obtain ⟨t, ht, hxt⟩ := hX.getTh hi
      rw [el] at ht hlt
      refine ⟨_, rfl, _, rfl, (by show 2 ≤ sizeLine; decide), fun c hc => ?_⟩
      have s_H3 : Same H2 (upd H2 c (.tup [x, f])) := same_upd hc
      have g_H3 : (upd H2 c (.tup [x, f])) c = some (.tup [x, f]) := upd_same
      generalize upd H2 c (.tup [x, f]) = H3 at s_H3 g_H3 ⊢
      refine ⟨_, _, rfl, s2.trans s_H3, s_H3 _ _ gp, ?_⟩
      have e : ts.drop (ts.length - (i + 1)) = t :: ts.drop (ts.length - i) := by
        obtain ⟨hlt', hget⟩ := List.getElem?_eq_some_iff.mp ht
        have e1 : ts.length - (i + 1) = ts.length - 1 - i := by omega
        have e2 : ts.length - i = ts.length - 1 - i + 1 := by omega
        rw [e1, e2, List.drop_eq_getElem_cons hlt', hget]
      rw [e]
      exact .tup (SqT.of g_H3) (.cons (hxt.same (s2.trans s_H3)) (.cons (hf.same s_H3) .nil))
    · rintro σ H2 ⟨f, y, rfl, s2, gp, hf⟩
      rw [List.length_reverse, el, Nat.sub_self] at hf
      exact ⟨_, rfl, q f H2 s2 hf⟩
end


theorem FirstBad.no {xs : List V} {ts : List Th} {x : V} (h : FirstBad xs ts x) (all : ∀ t ∈ ts, t.isTerm = true) : False := by
  obtain ⟨j, t, _, ht, hf, _⟩ := h
  rw [all t (List.mem_of_getElem? ht)] at hf
  cases hf
theorem FirstBad.uniq {xs : List V} {ts : List Th} {x y : V} (h : FirstBad xs ts x) (h' : FirstBad xs ts y) : x = y := by
  obtain ⟨j, t, hx, ht, hf, hb⟩ := h
  obtain ⟨j', t', hx', ht', hf', hb'⟩ := h'
  rcases Nat.lt_trichotomy j j' with h | h | h
  · have hm : t ∈ ts.take j' := by
      refine List.mem_of_getElem? (i := j) ?_
      rw [List.getElem?_take_of_lt h]
      exact ht
    rw [hb' t hm] at hf
    cases hf
  · subst h
    rw [hx] at hx'
    exact Option.some.inj hx'
  · have hm : t' ∈ ts.take j := by
      refine List.mem_of_getElem? (i := j') ?_
      rw [List.getElem?_take_of_lt h]
      exact ht'
    rw [hb t' hm] at hf'
    cases hf'
/-- what listed says -/
def rowSays (ts : List Th) (rt : Th) : List PyData := if 100 < sumR ts + rt.parts then [.str "great", .int ((sumR ts + rt.parts : Nat) : Int), .bool false] else [.str "told", (rowOf ts rt).toD]
/-- a list that can be shown -/
def Shw (ds : List PyData) : Prop := fineAll ds = true ∧ PyData.bulkAll ds ≤ 10000 ∧ PyData.depthAll ds ≤ 180
theorem sumR_le : ∀ ts : List Th, (∀ t ∈ ts, t.isTerm = true) → sumR ts ≤ 101 * ts.length
  | [], _ => Nat.le_refl _
  | t :: r, h => by
    have h1 := sumR_le r fun u hu => h u (List.mem_cons_of_mem _ hu)
    have h2 := Th.term_parts (h t List.mem_cons_self)
    show 1 + t.parts + sumR r ≤ 101 * (r.length + 1)
    omega
theorem rowOf_term {ts : List Th} {rt : Th} (hO : ∀ t ∈ ts, OkTh t) (hT : ∀ t ∈ ts, t.isTerm = true) (rO : OkTh rt) (rT : rt.isTerm = true) (h : sumR ts + rt.parts ≤ 100) : OkTh (rowOf ts rt) ∧ (rowOf ts rt).isTerm = true := by
  refine ⟨rowOf_nf ts rt hO rO, ?_⟩
  show ((rowOf ts rt).okL && decide ((rowOf ts rt).parts ≤ 100)) = true
  rw [rowOf_ok ts rt (fun t ht => Th.term_ok (hT t ht)) (Th.term_ok rT), rowOf_parts, decide_eq_true h]
  rfl
section
variable {P : Program} {w : World} {K : PySem.W.Frag} {mg : Str → Option Value} {base : Heap}
/-- v is a list or a tuple of things xs, ts -/
def RowV (K : PySem.W.Frag) (H : Hp) (v : V) (xs : List V) (ts : List Th) : Prop := ∃ (a : Addr) (b : Bool), v = .ref a ∧ SeqB b K H a xs ∧ DqAll K H xs (ts.map Th.toD) ∧ (∀ t ∈ ts, OkTh t) ∧ ts.length ≤ 5000
def TermQ (Q : VK) (H : Hp) (d : PyData) : Prop := ∀ H', Same H H' → Q (.str (PyData.shown (.list [.str "term", d, .bool false]))) H'
def sp_l_said (K : PySem.W.Frag) : Sp := fun vs H Q _ => ∃ (k : Int) (v rv : V), vs = [.int k, v, rv] ∧
  (((k = 0 ∨ k = 1 ∨ k = 2) ∧ ∃ d, Dq K H v d ∧ ((knD d).isLst || (knD d).isTup) = false ∧ Sm d ∧ TermQ Q H d) ∨
   ((k = 0 ∨ k = 1) ∧ ∃ xs ts x u rt, RowV K H v xs ts ∧ FirstBad xs ts x ∧ Dq K H x (Th.toD u) ∧ Sm u.toD ∧ Dq K H rv (Th.toD rt) ∧ OkTh rt ∧ TermQ Q H u.toD) ∨
   (k = 1 ∧ ∃ xs ts rt, RowV K H v xs ts ∧ (∀ t ∈ ts, t.isTerm = true) ∧ Dq K H rv (Th.toD rt) ∧ OkTh rt ∧ rt.isTerm = false ∧ Sm rt.toD ∧ TermQ Q H rt.toD) ∨
   (k = 0 ∧ ∃ xs ts, RowV K H v xs ts ∧ (∀ t ∈ ts, t.isTerm = true) ∧ Shw [.str "told", .list ((ts.map (Th.ren (goneAll [] ts))).map Th.toD)] ∧ ∀ H', Same H H' → Q (.str (PyData.shown (.list [.str "told", .list ((ts.map (Th.ren (goneAll [] ts))).map Th.toD)]))) H') ∨
   ((k = 1 ∨ k = 2) ∧ ∃ xs ts rt, RowV K H v xs ts ∧ (∀ t ∈ ts, t.isTerm = true) ∧ (k = 1 → Dq K H rv (Th.toD rt)) ∧ (k = 2 → rt = .lf (.str "nil")) ∧ OkTh rt ∧ rt.isTerm = true ∧ ∀ H', Same H H' → Q (.str (PyData.shown (.list (rowSays ts rt)))) H') ∨
   (k = 3 ∧ ∃ t, Dq K H v (Th.toD t) ∧ NoT t ∧ TermQ Q H t.toD))
theorem ok_l_said (T : Env K mg) : FnG P w K mg base CX0 107 T.a_l_said T.d_l_said ["_law_way", "_law_thing", "_law_last"] (sp_l_said K) := by
  have G_by_coming : FnOk P w K mg base (L2.CX P w) 106 T.a_by_coming T.d_by_coming ["terms"] (sp_by_coming K T.a_NoTerm) := ok_by_coming T
  have G_listed : FnOk P w K mg base (L2.CX P w) 106 T.a_listed T.d_listed ["items", "rest"] (sp_listed K T.a_NoTerm T.a_TooGreat) := (ok_listed T).mono (by decide)
  have G_items_of : FnOk P w K mg base (L2.CX P w) 106 T.a_items_of T.d_items_of ["term"] (sp_items_of K T.a_NoTerm) := (ok_items_of T).mono (by decide)
  refine okG T.F_l_said sc_l_said (fun vs H Q E h => ?_) (fun cdv A outer s H vs Q E hr hgd h => ?_)
  · obtain ⟨k, v, rv, rfl, _⟩ := h
    rfl
  · obtain ⟨k, v, rv, rfl, h⟩ := h
    have hr_by_coming := hr
    have hr_listed := hr
    have hr_items_of := hr
    have sT : Sm (.str "term") := smS _ (by decide +kernel) (by decide +kernel)
    have sG : Sm (.str "great") := smS _ (by decide +kernel) (by decide +kernel)
    have sO : Sm (.str "told") := smS _ (by decide +kernel) (by decide +kernel)
    refine ⟨_, (pss_cons (ps_set (i := 3) sc_l_said.nd rfl (Or.inl rfl) (pe_lst (pa_cons pe_str pa_nil)))
      (pss_cons (ps_try_mix rfl rfl takes0 (fun W pn xe tk po => (pss_one (ps_if (pt_cmpR op_eq (pv 0) pe_int (nomark _)) (pss_one (ps_set (i := 3) sc_l_said.nd rfl (Or.inl rfl) (pe_lst (pa_cons pe_str (pa_cons (pe_callS G_by_coming hr_by_coming (by rfl) T.g_by_coming T.F_by_coming.kp T.b_by_coming (fun σ => passAt tk σ) (pa_cons (pv 1) pa_nil)) pa_nil))))) (pss_one (ps_if (pt_cmpR op_eq (pv 0) pe_int (nomark _)) (pss_one (ps_set (i := 3) sc_l_said.nd rfl (Or.inl rfl) (pe_lst (pa_cons pe_str (pa_cons (pe_callS G_listed hr_listed (by rfl) T.g_listed T.F_listed.kp T.b_listed (fun σ => passAt tk σ) (pa_cons (pv 1) (pa_cons (pv 2) pa_nil))) pa_nil))))) (pss_one (ps_if (pt_cmpR op_eq (pv 0) pe_int (nomark _)) (pss_one (ps_set (i := 3) sc_l_said.nd rfl (Or.inl rfl) (pe_lst (pa_cons pe_str (pa_cons (pe_callSD G_listed hr_listed (by rfl) T.g_listed T.F_listed.kp T.bd_listed T.vd_listed (fun σ => passAt tk σ) (pa_cons (pv 1) pa_nil)) pa_nil))))) (pss_one (ps_set (i := 3) sc_l_said.nd rfl (Or.inl rfl) (pe_lst (pa_cons pe_str (pa_cons (pe_callS G_items_of hr_items_of (by rfl) T.g_items_of T.F_items_of.kp T.b_items_of (fun σ => passAt tk σ) (pa_cons (pv 1) pa_nil)) pa_nil)))))))))))) (.named (i := 4) ⟨rfl, by decide, .inl T.g_NoTerm⟩ sc_l_said.nd rfl rfl (fun a oe cls d pn hz hf => (pss_one (ps_set (i := 3) sc_l_said.nd rfl (Or.inl rfl) (pe_lst (pa_cons pe_str (pa_cons (pe_xf T.f_NoTerm T.n_NoTerm_found hz hf (pv 4)) (pa_cons (pe_callB (call_isX hz hf) (by rfl) T.m_isinstance PyProof.Rows.boot_isinstance (pa_cons (pv 4) (pa_cons (pe_tup (pa_cons (pe_glob (v := .ref T.a_NoPlace) (by rfl) T.g_NoPlace rfl) (pa_cons (pe_glob (v := .ref T.a_TooGreat) (by rfl) T.g_TooGreat rfl) pa_nil))) pa_nil))) pa_nil))))))) (.named (i := 4) ⟨rfl, by decide, .inl T.g_TooGreat⟩ sc_l_said.nd rfl rfl (fun a oe cls d pn hz hf => (pss_one (ps_set (i := 3) sc_l_said.nd rfl (Or.inl rfl) (pe_lst (pa_cons pe_str (pa_cons (pe_xf T.f_TooGreat T.n_TooGreat_parts hz hf (pv 4)) (pa_cons (pe_callB (call_isX hz hf) (by rfl) T.m_isinstance PyProof.Rows.boot_isinstance (pa_cons (pv 4) (pa_cons (pe_glob (v := .ref T.a_NoPlace) (by rfl) T.g_NoPlace rfl) pa_nil))) pa_nil))))))) (.bare ⟨rfl, by decide, .inl T.g_SeekError⟩ (fun a oe cls d pn hz hf => (pss_one (ps_set (i := 3) sc_l_said.nd rfl (Or.inl rfl) (pe_lst (pa_cons pe_str pa_nil))))) .nil))))
      (pss_one (ps_ret (pe_callB (call_reprL hgd (un2 hr)) (by rfl) T.m_repr PyProof.Rows.boot_repr (pa_cons (pv 3) pa_nil)))))), ?_⟩
    refine ⟨(by show 1 ≤ sizeLine; decide), fun l0 hl0 => ?_⟩
    have s_H0 : Same H (upd H l0 (.lst [.str "other"])) := same_upd hl0
    have g_H0 : (upd H l0 (.lst [.str "other"])) l0 = some (.lst [.str "other"]) := upd_same
    generalize upd H l0 (.lst [.str "other"]) = H0 at s_H0 g_H0 ⊢
    rcases h with ⟨hk, d, hd, hkd, sm, q⟩ | ⟨hk, xs, ts, x, u, rt, ⟨a, b, rfl, hS, hX, hO, hL⟩, hF, hxu, su, hrt, hrO, q⟩ | ⟨rfl, xs, ts, rt, ⟨a, b, rfl, hS, hX, hO, hL⟩, hT, hrt, hrO, hrT, sr, q⟩ | ⟨rfl, xs, ts, ⟨a, b, rfl, hS, hX, hO, hL⟩, hT, sw, q⟩ | ⟨hk, xs, ts, rt, ⟨a, b, rfl, hS, hX, hO, hL⟩, hT, hr1, hr2, hrO, hrT, q⟩ | ⟨rfl, t, hd, nt, q⟩
    · rcases hk with rfl | rfl | rfl
      · refine ⟨_, rfl, rfl, true, rfl, _, rfl, v, rfl, .inr ⟨_, hd.knd.same s_H0, hkd, fun H1 d1 s1 hd1 => ?_⟩⟩
        refine ⟨true, T.em_NoTerm_NoTerm, fun _ e he => ?_, (fun z => nomatch z)⟩
        have s_H2 : Same H1 (upd H1 d1 (.xd [("found", v)])) := same_upd hd1
        have g_H2 : (upd H1 d1 (.xd [("found", v)])) d1 = some (.xd [("found", v)]) := upd_same
        generalize upd H1 d1 (.xd [("found", v)]) = H2 at s_H2 g_H2 ⊢
        refine ⟨_, rfl, rfl, rfl, d1, _, v, rfl, g_H2, rfl, ?_⟩
        refine ⟨_, rfl, (by show 2 ≤ sizeLine; decide), fun tp htp => ?_⟩
        have s_H3 : Same H2 (upd H2 tp (.tup [.ref T.a_NoPlace, .ref T.a_TooGreat])) := same_upd htp
        have g_H3 : (upd H2 tp (.tup [.ref T.a_NoPlace, .ref T.a_TooGreat])) tp = some (.tup [.ref T.a_NoPlace, .ref T.a_TooGreat]) := upd_same
        generalize upd H2 tp (.tup [.ref T.a_NoPlace, .ref T.a_TooGreat]) = H3 at s_H3 g_H3 ⊢
        refine ⟨T.a_NoTerm, d1, _, false, rfl, rfl, s_H3 _ _ g_H2, T.y_NoTerm, .inr ⟨tp, _, _, rfl, g_H3, .cons (.own _) (.cons (.own _) .nil), kit2 T.km_NoTerm_NoPlace T.km_NoTerm_TooGreat⟩, (by show 3 ≤ sizeLine; decide), fun l hl => ?_⟩
        have s_H4 : Same H3 (upd H3 l (.lst [.str "term", v, .bl false])) := same_upd hl
        have g_H4 : (upd H3 l (.lst [.str "term", v, .bl false])) l = some (.lst [.str "term", v, .bl false]) := upd_same
        generalize upd H3 l (.lst [.str "term", v, .bl false]) = H4 at s_H4 g_H4 ⊢
        have s4 := s_H0.trans (s1.trans (s_H2.trans (s_H3.trans s_H4)))
        obtain ⟨w1, w2, w3⟩ := sm3 sT sm (Sm.bool false)
        exact ⟨_, rfl, l, _, _, rfl, Dq.lst (SqL.of g_H4) (.cons (.str _) (.cons (hd.same s4) (.cons (.bl _) .nil))), w1, w2, w3, q H4 s4⟩
      · refine ⟨_, rfl, rfl, false, rfl, _, rfl, rfl, true, rfl, _, rfl, _, rfl, v, rv, rfl, .inr ⟨_, hd.knd.same s_H0, hkd, fun H1 d1 s1 hd1 => ?_⟩⟩
        refine ⟨true, T.em_NoTerm_NoTerm, fun _ e he => ?_, (fun z => nomatch z)⟩
        have s_H2 : Same H1 (upd H1 d1 (.xd [("found", v)])) := same_upd hd1
        have g_H2 : (upd H1 d1 (.xd [("found", v)])) d1 = some (.xd [("found", v)]) := upd_same
        generalize upd H1 d1 (.xd [("found", v)]) = H2 at s_H2 g_H2 ⊢
        refine ⟨_, rfl, rfl, rfl, d1, _, v, rfl, g_H2, rfl, ?_⟩
        refine ⟨_, rfl, (by show 2 ≤ sizeLine; decide), fun tp htp => ?_⟩
        have s_H3 : Same H2 (upd H2 tp (.tup [.ref T.a_NoPlace, .ref T.a_TooGreat])) := same_upd htp
        have g_H3 : (upd H2 tp (.tup [.ref T.a_NoPlace, .ref T.a_TooGreat])) tp = some (.tup [.ref T.a_NoPlace, .ref T.a_TooGreat]) := upd_same
        generalize upd H2 tp (.tup [.ref T.a_NoPlace, .ref T.a_TooGreat]) = H3 at s_H3 g_H3 ⊢
        refine ⟨T.a_NoTerm, d1, _, false, rfl, rfl, s_H3 _ _ g_H2, T.y_NoTerm, .inr ⟨tp, _, _, rfl, g_H3, .cons (.own _) (.cons (.own _) .nil), kit2 T.km_NoTerm_NoPlace T.km_NoTerm_TooGreat⟩, (by show 3 ≤ sizeLine; decide), fun l hl => ?_⟩
        have s_H4 : Same H3 (upd H3 l (.lst [.str "term", v, .bl false])) := same_upd hl
        have g_H4 : (upd H3 l (.lst [.str "term", v, .bl false])) l = some (.lst [.str "term", v, .bl false]) := upd_same
        generalize upd H3 l (.lst [.str "term", v, .bl false]) = H4 at s_H4 g_H4 ⊢
        have s4 := s_H0.trans (s1.trans (s_H2.trans (s_H3.trans s_H4)))
        obtain ⟨w1, w2, w3⟩ := sm3 sT sm (Sm.bool false)
        exact ⟨_, rfl, l, _, _, rfl, Dq.lst (SqL.of g_H4) (.cons (.str _) (.cons (hd.same s4) (.cons (.bl _) .nil))), w1, w2, w3, q H4 s4⟩
      · refine ⟨_, rfl, rfl, false, rfl, _, rfl, rfl, false, rfl, _, rfl, rfl, true, rfl, _, rfl, v, .str "nil", rfl, .inr ⟨_, hd.knd.same s_H0, hkd, fun H1 d1 s1 hd1 => ?_⟩⟩
        refine ⟨true, T.em_NoTerm_NoTerm, fun _ e he => ?_, (fun z => nomatch z)⟩
        have s_H2 : Same H1 (upd H1 d1 (.xd [("found", v)])) := same_upd hd1
        have g_H2 : (upd H1 d1 (.xd [("found", v)])) d1 = some (.xd [("found", v)]) := upd_same
        generalize upd H1 d1 (.xd [("found", v)]) = H2 at s_H2 g_H2 ⊢
        refine ⟨_, rfl, rfl, rfl, d1, _, v, rfl, g_H2, rfl, ?_⟩
        refine ⟨_, rfl, (by show 2 ≤ sizeLine; decide), fun tp htp => ?_⟩
        have s_H3 : Same H2 (upd H2 tp (.tup [.ref T.a_NoPlace, .ref T.a_TooGreat])) := same_upd htp
        have g_H3 : (upd H2 tp (.tup [.ref T.a_NoPlace, .ref T.a_TooGreat])) tp = some (.tup [.ref T.a_NoPlace, .ref T.a_TooGreat]) := upd_same
        generalize upd H2 tp (.tup [.ref T.a_NoPlace, .ref T.a_TooGreat]) = H3 at s_H3 g_H3 ⊢
        refine ⟨T.a_NoTerm, d1, _, false, rfl, rfl, s_H3 _ _ g_H2, T.y_NoTerm, .inr ⟨tp, _, _, rfl, g_H3, .cons (.own _) (.cons (.own _) .nil), kit2 T.km_NoTerm_NoPlace T.km_NoTerm_TooGreat⟩, (by show 3 ≤ sizeLine; decide), fun l hl => ?_⟩
        have s_H4 : Same H3 (upd H3 l (.lst [.str "term", v, .bl false])) := same_upd hl
        have g_H4 : (upd H3 l (.lst [.str "term", v, .bl false])) l = some (.lst [.str "term", v, .bl false]) := upd_same
        generalize upd H3 l (.lst [.str "term", v, .bl false]) = H4 at s_H4 g_H4 ⊢
        have s4 := s_H0.trans (s1.trans (s_H2.trans (s_H3.trans s_H4)))
        obtain ⟨w1, w2, w3⟩ := sm3 sT sm (Sm.bool false)
        exact ⟨_, rfl, l, _, _, rfl, Dq.lst (SqL.of g_H4) (.cons (.str _) (.cons (hd.same s4) (.cons (.bl _) .nil))), w1, w2, w3, q H4 s4⟩
    · rcases hk with rfl | rfl
      · refine ⟨_, rfl, rfl, true, rfl, _, rfl, _, rfl, .inl ⟨a, xs, b, ts, rfl, hS.same s_H0, hX.same s_H0, hO, hL, fun y hy H1 d1 s1 hd1 => ?_, fun all => (hF.no all).elim⟩⟩
        have ey := hy.uniq hF
        subst ey
        refine ⟨true, T.em_NoTerm_NoTerm, fun _ e he => ?_, (fun z => nomatch z)⟩
        have s_H2 : Same H1 (upd H1 d1 (.xd [("found", y)])) := same_upd hd1
        have g_H2 : (upd H1 d1 (.xd [("found", y)])) d1 = some (.xd [("found", y)]) := upd_same
        generalize upd H1 d1 (.xd [("found", y)]) = H2 at s_H2 g_H2 ⊢
        refine ⟨_, rfl, rfl, rfl, d1, _, y, rfl, g_H2, rfl, ?_⟩
        refine ⟨_, rfl, (by show 2 ≤ sizeLine; decide), fun tp htp => ?_⟩
        have s_H3 : Same H2 (upd H2 tp (.tup [.ref T.a_NoPlace, .ref T.a_TooGreat])) := same_upd htp
        have g_H3 : (upd H2 tp (.tup [.ref T.a_NoPlace, .ref T.a_TooGreat])) tp = some (.tup [.ref T.a_NoPlace, .ref T.a_TooGreat]) := upd_same
        generalize upd H2 tp (.tup [.ref T.a_NoPlace, .ref T.a_TooGreat]) = H3 at s_H3 g_H3 ⊢
        refine ⟨T.a_NoTerm, d1, _, false, rfl, rfl, s_H3 _ _ g_H2, T.y_NoTerm, .inr ⟨tp, _, _, rfl, g_H3, .cons (.own _) (.cons (.own _) .nil), kit2 T.km_NoTerm_NoPlace T.km_NoTerm_TooGreat⟩, (by show 3 ≤ sizeLine; decide), fun l hl => ?_⟩
        have s_H4 : Same H3 (upd H3 l (.lst [.str "term", y, .bl false])) := same_upd hl
        have g_H4 : (upd H3 l (.lst [.str "term", y, .bl false])) l = some (.lst [.str "term", y, .bl false]) := upd_same
        generalize upd H3 l (.lst [.str "term", y, .bl false]) = H4 at s_H4 g_H4 ⊢
        have s4 := s_H0.trans (s1.trans (s_H2.trans (s_H3.trans s_H4)))
        obtain ⟨w1, w2, w3⟩ := sm3 sT su (Sm.bool false)
        exact ⟨_, rfl, l, _, _, rfl, Dq.lst (SqL.of g_H4) (.cons (.str _) (.cons (hxu.same s4) (.cons (.bl _) .nil))), w1, w2, w3, q H4 s4⟩
      · refine ⟨_, rfl, rfl, false, rfl, _, rfl, rfl, true, rfl, _, rfl, _, rfl, _, rv, rfl, .inl ⟨a, xs, b, ts, rt, rfl, hS.same s_H0, hX.same s_H0, hO, hL, hrt.same s_H0, hrO, fun y hy H1 d1 s1 hd1 => ?_, (fun all => (hF.no all).elim), (fun all => (hF.no all).elim), fun all => (hF.no all).elim⟩⟩
        have ey := hy.uniq hF
        subst ey
        refine ⟨true, T.em_NoTerm_NoTerm, fun _ e he => ?_, (fun z => nomatch z)⟩
        have s_H2 : Same H1 (upd H1 d1 (.xd [("found", y)])) := same_upd hd1
        have g_H2 : (upd H1 d1 (.xd [("found", y)])) d1 = some (.xd [("found", y)]) := upd_same
        generalize upd H1 d1 (.xd [("found", y)]) = H2 at s_H2 g_H2 ⊢
        refine ⟨_, rfl, rfl, rfl, d1, _, y, rfl, g_H2, rfl, ?_⟩
        refine ⟨_, rfl, (by show 2 ≤ sizeLine; decide), fun tp htp => ?_⟩
        have s_H3 : Same H2 (upd H2 tp (.tup [.ref T.a_NoPlace, .ref T.a_TooGreat])) := same_upd htp
        have g_H3 : (upd H2 tp (.tup [.ref T.a_NoPlace, .ref T.a_TooGreat])) tp = some (.tup [.ref T.a_NoPlace, .ref T.a_TooGreat]) := upd_same
        generalize upd H2 tp (.tup [.ref T.a_NoPlace, .ref T.a_TooGreat]) = H3 at s_H3 g_H3 ⊢
        refine ⟨T.a_NoTerm, d1, _, false, rfl, rfl, s_H3 _ _ g_H2, T.y_NoTerm, .inr ⟨tp, _, _, rfl, g_H3, .cons (.own _) (.cons (.own _) .nil), kit2 T.km_NoTerm_NoPlace T.km_NoTerm_TooGreat⟩, (by show 3 ≤ sizeLine; decide), fun l hl => ?_⟩
        have s_H4 : Same H3 (upd H3 l (.lst [.str "term", y, .bl false])) := same_upd hl
        have g_H4 : (upd H3 l (.lst [.str "term", y, .bl false])) l = some (.lst [.str "term", y, .bl false]) := upd_same
        generalize upd H3 l (.lst [.str "term", y, .bl false]) = H4 at s_H4 g_H4 ⊢
        have s4 := s_H0.trans (s1.trans (s_H2.trans (s_H3.trans s_H4)))
        obtain ⟨w1, w2, w3⟩ := sm3 sT su (Sm.bool false)
        exact ⟨_, rfl, l, _, _, rfl, Dq.lst (SqL.of g_H4) (.cons (.str _) (.cons (hxu.same s4) (.cons (.bl _) .nil))), w1, w2, w3, q H4 s4⟩
    · refine ⟨_, rfl, rfl, false, rfl, _, rfl, rfl, true, rfl, _, rfl, _, rfl, _, rv, rfl, .inl ⟨a, xs, b, ts, rt, rfl, hS.same s_H0, hX.same s_H0, hO, hL, hrt.same s_H0, hrO, (fun y hy => (hy.no hT).elim), fun _ _ H1 d1 s1 hd1 => ?_, (fun _ e => by rw [hrT] at e; cases e), fun _ e => by rw [hrT] at e; cases e⟩⟩
      refine ⟨true, T.em_NoTerm_NoTerm, fun _ e he => ?_, (fun z => nomatch z)⟩
      have s_H2 : Same H1 (upd H1 d1 (.xd [("found", rv)])) := same_upd hd1
      have g_H2 : (upd H1 d1 (.xd [("found", rv)])) d1 = some (.xd [("found", rv)]) := upd_same
      generalize upd H1 d1 (.xd [("found", rv)]) = H2 at s_H2 g_H2 ⊢
      refine ⟨_, rfl, rfl, rfl, d1, _, rv, rfl, g_H2, rfl, ?_⟩
      refine ⟨_, rfl, (by show 2 ≤ sizeLine; decide), fun tp htp => ?_⟩
      have s_H3 : Same H2 (upd H2 tp (.tup [.ref T.a_NoPlace, .ref T.a_TooGreat])) := same_upd htp
      have g_H3 : (upd H2 tp (.tup [.ref T.a_NoPlace, .ref T.a_TooGreat])) tp = some (.tup [.ref T.a_NoPlace, .ref T.a_TooGreat]) := upd_same
      generalize upd H2 tp (.tup [.ref T.a_NoPlace, .ref T.a_TooGreat]) = H3 at s_H3 g_H3 ⊢
      refine ⟨T.a_NoTerm, d1, _, false, rfl, rfl, s_H3 _ _ g_H2, T.y_NoTerm, .inr ⟨tp, _, _, rfl, g_H3, .cons (.own _) (.cons (.own _) .nil), kit2 T.km_NoTerm_NoPlace T.km_NoTerm_TooGreat⟩, (by show 3 ≤ sizeLine; decide), fun l hl => ?_⟩
      have s_H4 : Same H3 (upd H3 l (.lst [.str "term", rv, .bl false])) := same_upd hl
      have g_H4 : (upd H3 l (.lst [.str "term", rv, .bl false])) l = some (.lst [.str "term", rv, .bl false]) := upd_same
      generalize upd H3 l (.lst [.str "term", rv, .bl false]) = H4 at s_H4 g_H4 ⊢
      have s4 := s_H0.trans (s1.trans (s_H2.trans (s_H3.trans s_H4)))
      obtain ⟨w1, w2, w3⟩ := sm3 sT sr (Sm.bool false)
      exact ⟨_, rfl, l, _, _, rfl, Dq.lst (SqL.of g_H4) (.cons (.str _) (.cons (hrt.same s4) (.cons (.bl _) .nil))), w1, w2, w3, q H4 s4⟩
    · refine ⟨_, rfl, rfl, true, rfl, _, rfl, _, rfl, .inl ⟨a, xs, b, ts, rfl, hS.same s_H0, hX.same s_H0, hO, hL, (fun y hy => (hy.no hT).elim), fun _ l1 ys H1 hl1 s1 g1 hY => ?_⟩⟩
      refine ⟨(by show 2 ≤ sizeLine; decide), fun l hl => ?_⟩
      have s_H4 : Same H1 (upd H1 l (.lst [.str "told", .ref l1])) := same_upd hl
      have g_H4 : (upd H1 l (.lst [.str "told", .ref l1])) l = some (.lst [.str "told", .ref l1]) := upd_same
      generalize upd H1 l (.lst [.str "told", .ref l1]) = H4 at s_H4 g_H4 ⊢
      obtain ⟨w1, w2, w3⟩ := showL sw.1 sw.2.1 sw.2.2
      exact ⟨_, rfl, l, _, _, rfl, Dq.lst (SqL.of g_H4) (.cons (.str _) (.cons (.lst (SqL.of (s_H4 _ _ g1)) (hY.same s_H4)) .nil)), w1, w2, w3, q H4 (s_H0.trans (s1.trans s_H4))⟩
    · rcases hk with rfl | rfl
      · have hrt := hr1 rfl
        refine ⟨_, rfl, rfl, false, rfl, _, rfl, rfl, true, rfl, _, rfl, _, rfl, _, rv, rfl, .inl ⟨a, xs, b, ts, rt, rfl, hS.same s_H0, hX.same s_H0, hO, hL, hrt.same s_H0, hrO, (fun y hy => (hy.no hT).elim), (fun _ e => by rw [hrT] at e; cases e), fun _ _ hg H1 d1 s1 hd1 => ?_, fun _ _ hg y H1 s1 hy => ?_⟩⟩
        · have eS : rowSays ts rt = [.str "great", .int ((sumR ts + rt.parts : Nat) : Int), .bool false] := if_pos hg
          rw [eS] at q
          refine ⟨false, T.em_TooGreat_NoTerm, (fun z => nomatch z), fun _ => ⟨true, T.em_TooGreat_TooGreat, fun _ e he => ?_, (fun z => nomatch z)⟩⟩
          have s_H2 : Same H1 (upd H1 d1 (.xd [("parts", .int ((sumR ts + rt.parts : Nat) : Int))])) := same_upd hd1
          have g_H2 : (upd H1 d1 (.xd [("parts", .int ((sumR ts + rt.parts : Nat) : Int))])) d1 = some (.xd [("parts", .int ((sumR ts + rt.parts : Nat) : Int))]) := upd_same
          generalize upd H1 d1 (.xd [("parts", .int ((sumR ts + rt.parts : Nat) : Int))]) = H2 at s_H2 g_H2 ⊢
          refine ⟨_, rfl, rfl, rfl, d1, _, _, rfl, g_H2, rfl, ?_⟩
          refine ⟨_, rfl, T.a_TooGreat, d1, _, false, rfl, rfl, g_H2, T.y_TooGreat, .inl ⟨_, _, rfl, .own _, T.km_TooGreat_NoPlace⟩, (by show 3 ≤ sizeLine; decide), fun l hl => ?_⟩
          have s_H4 : Same H2 (upd H2 l (.lst [.str "great", .int ((sumR ts + rt.parts : Nat) : Int), .bl false])) := same_upd hl
          have g_H4 : (upd H2 l (.lst [.str "great", .int ((sumR ts + rt.parts : Nat) : Int), .bl false])) l = some (.lst [.str "great", .int ((sumR ts + rt.parts : Nat) : Int), .bl false]) := upd_same
          generalize upd H2 l (.lst [.str "great", .int ((sumR ts + rt.parts : Nat) : Int), .bl false]) = H4 at s_H4 g_H4 ⊢
          have s4 := s_H0.trans (s1.trans (s_H2.trans s_H4))
          have k1 := sumR_le ts hT
          have k2 := Th.term_parts hrT
          obtain ⟨w1, w2, w3⟩ := sm3 sG (Sm.int (i := ((sumR ts + rt.parts : Nat) : Int)) (Nat.lt_of_le_of_lt (m := 1000000) (by omega) (by decide))) (Sm.bool false)
          exact ⟨_, rfl, l, _, _, rfl, Dq.lst (SqL.of g_H4) (.cons (.str _) (.cons (.int _) (.cons (.bl _) .nil))), w1, w2, w3, q H4 s4⟩
        · have eS : rowSays ts rt = [.str "told", (rowOf ts rt).toD] := if_neg (by omega)
          rw [eS] at q
          refine ⟨(by show 2 ≤ sizeLine; decide), fun l hl => ?_⟩
          have s_H4 : Same H1 (upd H1 l (.lst [.str "told", y])) := same_upd hl
          have g_H4 : (upd H1 l (.lst [.str "told", y])) l = some (.lst [.str "told", y]) := upd_same
          generalize upd H1 l (.lst [.str "told", y]) = H4 at s_H4 g_H4 ⊢
          obtain ⟨o1, o2⟩ := rowOf_term hO hT hrO hrT hg
          obtain ⟨w1, w2, w3⟩ := sm2 sO (smTerm o1 o2).1
          exact ⟨_, rfl, l, _, _, rfl, Dq.lst (SqL.of g_H4) (.cons (.str _) (.cons (hy.same s_H4) .nil)), w1, w2, w3, q H4 (s_H0.trans (s1.trans s_H4))⟩
      · have ert := hr2 rfl
        have hrt : Dq K H0 (.str "nil") rt.toD := by
          rw [ert]
          exact .str _
        refine ⟨_, rfl, rfl, false, rfl, _, rfl, rfl, false, rfl, _, rfl, rfl, true, rfl, _, rfl, _, .str "nil", rfl, .inl ⟨a, xs, b, ts, rt, rfl, hS.same s_H0, hX.same s_H0, hO, hL, hrt, hrO, (fun y hy => (hy.no hT).elim), (fun _ e => by rw [hrT] at e; cases e), fun _ _ hg H1 d1 s1 hd1 => ?_, fun _ _ hg y H1 s1 hy => ?_⟩⟩
        · have eS : rowSays ts rt = [.str "great", .int ((sumR ts + rt.parts : Nat) : Int), .bool false] := if_pos hg
          rw [eS] at q
          refine ⟨false, T.em_TooGreat_NoTerm, (fun z => nomatch z), fun _ => ⟨true, T.em_TooGreat_TooGreat, fun _ e he => ?_, (fun z => nomatch z)⟩⟩
          have s_H2 : Same H1 (upd H1 d1 (.xd [("parts", .int ((sumR ts + rt.parts : Nat) : Int))])) := same_upd hd1
          have g_H2 : (upd H1 d1 (.xd [("parts", .int ((sumR ts + rt.parts : Nat) : Int))])) d1 = some (.xd [("parts", .int ((sumR ts + rt.parts : Nat) : Int))]) := upd_same
          generalize upd H1 d1 (.xd [("parts", .int ((sumR ts + rt.parts : Nat) : Int))]) = H2 at s_H2 g_H2 ⊢
          refine ⟨_, rfl, rfl, rfl, d1, _, _, rfl, g_H2, rfl, ?_⟩
          refine ⟨_, rfl, T.a_TooGreat, d1, _, false, rfl, rfl, g_H2, T.y_TooGreat, .inl ⟨_, _, rfl, .own _, T.km_TooGreat_NoPlace⟩, (by show 3 ≤ sizeLine; decide), fun l hl => ?_⟩
          have s_H4 : Same H2 (upd H2 l (.lst [.str "great", .int ((sumR ts + rt.parts : Nat) : Int), .bl false])) := same_upd hl
          have g_H4 : (upd H2 l (.lst [.str "great", .int ((sumR ts + rt.parts : Nat) : Int), .bl false])) l = some (.lst [.str "great", .int ((sumR ts + rt.parts : Nat) : Int), .bl false]) := upd_same
          generalize upd H2 l (.lst [.str "great", .int ((sumR ts + rt.parts : Nat) : Int), .bl false]) = H4 at s_H4 g_H4 ⊢
          have s4 := s_H0.trans (s1.trans (s_H2.trans s_H4))
          have k1 := sumR_le ts hT
          have k2 := Th.term_parts hrT
          obtain ⟨w1, w2, w3⟩ := sm3 sG (Sm.int (i := ((sumR ts + rt.parts : Nat) : Int)) (Nat.lt_of_le_of_lt (m := 1000000) (by omega) (by decide))) (Sm.bool false)
          exact ⟨_, rfl, l, _, _, rfl, Dq.lst (SqL.of g_H4) (.cons (.str _) (.cons (.int _) (.cons (.bl _) .nil))), w1, w2, w3, q H4 s4⟩
        · have eS : rowSays ts rt = [.str "told", (rowOf ts rt).toD] := if_neg (by omega)
          rw [eS] at q
          refine ⟨(by show 2 ≤ sizeLine; decide), fun l hl => ?_⟩
          have s_H4 : Same H1 (upd H1 l (.lst [.str "told", y])) := same_upd hl
          have g_H4 : (upd H1 l (.lst [.str "told", y])) l = some (.lst [.str "told", y]) := upd_same
          generalize upd H1 l (.lst [.str "told", y]) = H4 at s_H4 g_H4 ⊢
          obtain ⟨o1, o2⟩ := rowOf_term hO hT hrO hrT hg
          obtain ⟨w1, w2, w3⟩ := sm2 sO (smTerm o1 o2).1
          exact ⟨_, rfl, l, _, _, rfl, Dq.lst (SqL.of g_H4) (.cons (.str _) (.cons (hy.same s_H4) .nil)), w1, w2, w3, q H4 (s_H0.trans (s1.trans s_H4))⟩
    · refine ⟨_, rfl, rfl, false, rfl, _, rfl, rfl, false, rfl, _, rfl, rfl, false, rfl, _, rfl, v, t, rfl, hd.same s_H0, nt.1, fun _ H1 d1 s1 hd1 => ?_, fun e => by rw [nt.2.1] at e; cases e⟩
      have ns := nt.sm
      refine ⟨true, T.em_NoTerm_NoTerm, fun _ e he => ?_, (fun z => nomatch z)⟩
      have s_H2 : Same H1 (upd H1 d1 (.xd [("found", v)])) := same_upd hd1
      have g_H2 : (upd H1 d1 (.xd [("found", v)])) d1 = some (.xd [("found", v)]) := upd_same
      generalize upd H1 d1 (.xd [("found", v)]) = H2 at s_H2 g_H2 ⊢
      refine ⟨_, rfl, rfl, rfl, d1, _, v, rfl, g_H2, rfl, ?_⟩
      refine ⟨_, rfl, (by show 2 ≤ sizeLine; decide), fun tp htp => ?_⟩
      have s_H3 : Same H2 (upd H2 tp (.tup [.ref T.a_NoPlace, .ref T.a_TooGreat])) := same_upd htp
      have g_H3 : (upd H2 tp (.tup [.ref T.a_NoPlace, .ref T.a_TooGreat])) tp = some (.tup [.ref T.a_NoPlace, .ref T.a_TooGreat]) := upd_same
      generalize upd H2 tp (.tup [.ref T.a_NoPlace, .ref T.a_TooGreat]) = H3 at s_H3 g_H3 ⊢
      refine ⟨T.a_NoTerm, d1, _, false, rfl, rfl, s_H3 _ _ g_H2, T.y_NoTerm, .inr ⟨tp, _, _, rfl, g_H3, .cons (.own _) (.cons (.own _) .nil), kit2 T.km_NoTerm_NoPlace T.km_NoTerm_TooGreat⟩, (by show 3 ≤ sizeLine; decide), fun l hl => ?_⟩
      have s_H4 : Same H3 (upd H3 l (.lst [.str "term", v, .bl false])) := same_upd hl
      have g_H4 : (upd H3 l (.lst [.str "term", v, .bl false])) l = some (.lst [.str "term", v, .bl false]) := upd_same
      generalize upd H3 l (.lst [.str "term", v, .bl false]) = H4 at s_H4 g_H4 ⊢
      have s4 := s_H0.trans (s1.trans (s_H2.trans (s_H3.trans s_H4)))
      obtain ⟨w1, w2, w3⟩ := sm3 sT ns (Sm.bool false)
      exact ⟨_, rfl, l, _, _, rfl, Dq.lst (SqL.of g_H4) (.cons (.str _) (.cons (hd.same s4) (.cons (.bl _) .nil))), w1, w2, w3, q H4 s4⟩
def sp_l_due (K : PySem.W.Frag) : Sp := fun vs H Q _ => ∃ (a : Addr) (xs : List V) (ts : List Th) (rv : V) (rt : Th), vs = [.ref a, rv] ∧ SqL K H a xs ∧ DqAll K H xs (ts.map Th.toD) ∧ (∀ t ∈ ts, OkTh t) ∧ (∀ t ∈ ts, t.isTerm = true) ∧ ts.length ≤ 5000 ∧ Dq K H rv rt.toD ∧ OkTh rt ∧ rt.isTerm = true ∧
  ∀ H', Same H H' → Q (.str (PyData.shown (.list (rowSays ts rt)))) H'
theorem ok_l_due (T : Env K mg) : FnG P w K mg base CX0 107 T.a_l_due T.d_l_due ["_law_items", "_law_last"] (sp_l_due K) := by
  have G_l_parts : FnOk P w K mg base CX0 106 T.a_l_parts T.d_l_parts ["_law_term_here"] (sp_l_parts K 101) := (ok_l_parts T 101).mono (by decide)
  have G_l_pairs : FnOk P w K mg base CX0 106 T.a_l_pairs T.d_l_pairs ["_law_items", "_law_last"] (sp_l_pairs K) := (ok_l_pairs T).mono (by decide)
  refine okG T.F_l_due sc_l_due (fun vs H Q E h => ?_) (fun cdv A outer s H vs Q E hr hgd h => ?_)
  · obtain ⟨a, xs, ts, rv, rt, rfl, _⟩ := h
    rfl
  · obtain ⟨a, xs, ts, rv, rt, rfl, hS, hX, hO, hT, hL, hR, hRO, hRT, q⟩ := h
    have hr_l_parts := hr
    have hr_l_pairs := hr
    have sG : Sm (.str "great") := smS _ (by decide +kernel) (by decide +kernel)
    have sO : Sm (.str "told") := smS _ (by decide +kernel) (by decide +kernel)
    have el : xs.length = ts.length := by
      rw [hX.length, List.length_map]
    have rp := Th.term_parts hRT
    have rd := rt.deep_half
    refine ⟨_, (pss_cons (ps_set (i := 2) sc_l_due.nd rfl (Or.inl rfl) (pe_op op_add (pe_callB (cr_sum (by rfl)) (by rfl) T.m_sum PyProof.Rows.boot_sum (pa_cons (pe_lc (own := [("_law_item", 3)]) (g := gName 3) (tt := tYes) (by rfl) sc_l_due.nd (pi_list (pv 0)) (blkOk_by (own := [("_law_item", 3)]) (N := ["_law_items", "_law_last", "_law_many", "_law_item"]) (sc := defScope s_l_due) (by decide +kernel)) (fun _ _ _ _ _ => (pg_name (i := 3) sc_l_due.nd rfl (Or.inl rfl))) (fun _ _ _ _ _ => pts_nil) (fun _ _ _ _ _ => (pe_op op_add pe_int (pe_call G_l_parts hr_l_parts (by rfl) T.g_l_parts T.F_l_parts.kp T.b_l_parts .nil pass0 (pa_cons (pv 3) pa_nil))))) pa_nil)) (pe_call G_l_parts hr_l_parts (by rfl) T.g_l_parts T.F_l_parts.kp T.b_l_parts .nil pass0 (pa_cons (pv 1) pa_nil))))
      (pss_cons (ps_if (pt_cmpR op_gt (pv 2) pe_int (nomark _)) (pss_one (ps_ret (pe_callB (call_reprL hgd (un2 hr)) (by rfl) T.m_repr PyProof.Rows.boot_repr (pa_cons (pe_lst (pa_cons pe_str (pa_cons (pv 2) (pa_cons pe_bl pa_nil)))) pa_nil)))) pss_nil)
      (pss_one (ps_ret (pe_callB (call_reprL hgd (un2 hr)) (by rfl) T.m_repr PyProof.Rows.boot_repr (pa_cons (pe_lst (pa_cons pe_str (pa_cons (pe_call G_l_pairs hr_l_pairs (by rfl) T.g_l_pairs T.F_l_pairs.kp T.b_l_pairs .nil pass0 (pa_cons (pv 0) (pa_cons (pv 1) pa_nil))) pa_nil))) pa_nil)))))), ?_⟩
    refine ⟨_, rfl, a, rfl, ⟨_, hS⟩, fun D hDn => ?_⟩
    refine lc_list (K := K) (a := a) (xs := xs) (fun i H' => Same H H' ∧ H' D = some (.lst (((ts.take i).map fun t => ((1 + t.parts : Nat) : Int)).map V.int)))
      ⟨same_upd hDn, upd_same⟩ (fun i H' _ ⟨z, _⟩ => z.seq hS) ?_ ?_
    · rintro i x H5 hx ⟨s5, gD⟩
      obtain ⟨t, ht, hxt⟩ := hX.getTh hx
      have htm := List.mem_of_getElem? ht
      have tp := Th.term_parts (hT t htm)
      have td := t.deep_half
      refine ⟨rfl, ?_⟩
      refine ⟨_, rfl, x, t, rfl, hxt.same s5, (hO t htm).1, by omega, _, _, rfl, rfl, ?_⟩
      refine ⟨_, gD, ?_, same_mut s5 hDn, ?_⟩
      · rw [List.length_map, List.length_map, List.length_take]
        exact sz_lt (by omega)
      · rw [upd_same, take_snoc ht, List.map_append, List.map_append]
        have e : (1 : Int) + (t.parts : Int) = ((1 + t.parts : Nat) : Int) := by omega
        show some (HO.lst (List.map V.int (List.map (fun t : Th => ((1 + t.parts : Nat) : Int)) (ts.take i)) ++ [V.int ((1 : Int) + (t.parts : Int))])) = _
        rw [e]
        rfl
    · rintro H5 ⟨s5, gD⟩
      rw [el, List.take_length] at gD
      refine ⟨D, _, rfl, SqL.of gD, ?_⟩
      rw [sum_ints]
      refine ⟨_, rfl, rv, rt, rfl, hR.same s5, hRO.1, by omega, _, _, rfl, rfl, ?_⟩
      have e : (sumR ts : Int) + (rt.parts : Int) = ((sumR ts + rt.parts : Nat) : Int) := by omega
      refine ⟨_, rfl, _, _, rfl, rfl, _, rfl, ite2 (fun c => ?_) (fun c => ?_)⟩
      · have c := of_decide_eq_true c
        have eS : rowSays ts rt = [.str "great", .int ((sumR ts + rt.parts : Nat) : Int), .bool false] := if_pos (by omega)
        rw [eS, ← e] at q
        refine ⟨_, rfl, (by show 3 ≤ sizeLine; decide), fun l hl => ?_⟩
        have s_H6 : Same H5 (upd H5 l (.lst [.str "great", .int ((sumR ts : Int) + (rt.parts : Int)), .bl false])) := same_upd hl
        have g_H6 : (upd H5 l (.lst [.str "great", .int ((sumR ts : Int) + (rt.parts : Int)), .bl false])) l = some (.lst [.str "great", .int ((sumR ts : Int) + (rt.parts : Int)), .bl false]) := upd_same
        generalize upd H5 l (.lst [.str "great", .int ((sumR ts : Int) + (rt.parts : Int)), .bl false]) = H6 at s_H6 g_H6 ⊢
        have k1 := sumR_le ts hT
        obtain ⟨w1, w2, w3⟩ := sm3 sG (Sm.int (i := (sumR ts : Int) + (rt.parts : Int)) (Nat.lt_of_le_of_lt (m := 1000000) (by omega) (by decide))) (Sm.bool false)
        exact ⟨l, _, _, rfl, Dq.lst (SqL.of g_H6) (.cons (.str _) (.cons (.int _) (.cons (.bl _) .nil))), w1, w2, w3, q H6 (s5.trans s_H6)⟩
      · have c := of_decide_eq_false (Bool.eq_false_iff.mpr c)
        have hg : sumR ts + rt.parts ≤ 100 := by omega
        have eS : rowSays ts rt = [.str "told", (rowOf ts rt).toD] := if_neg (by omega)
        rw [eS] at q
        refine ⟨_, rfl, _, rfl, a, xs, ts, rv, rt, rfl, s5.seq hS, hX.same s5, hR.same s5, fun v H6 s6 hv => ⟨(by show 2 ≤ sizeLine; decide), fun l hl => ?_⟩⟩
        have s_H7 : Same H6 (upd H6 l (.lst [.str "told", v])) := same_upd hl
        have g_H7 : (upd H6 l (.lst [.str "told", v])) l = some (.lst [.str "told", v]) := upd_same
        generalize upd H6 l (.lst [.str "told", v]) = H7 at s_H7 g_H7 ⊢
        obtain ⟨o1, o2⟩ := rowOf_term hO hT hRO hRT hg
        obtain ⟨w1, w2, w3⟩ := sm2 sO (smTerm o1 o2).1
        exact ⟨l, _, _, rfl, Dq.lst (SqL.of g_H7) (.cons (.str _) (.cons (hv.same s_H7) .nil)), w1, w2, w3, q H7 (s5.trans (s6.trans s_H7))⟩
end


theorem idx_lt {us : List Int} {i : Int} (h : i ∈ us) : idxI us i < us.length := List.idxOf_lt_length_iff.mpr h
theorem Th.ren_good (us : List Int) (hl : us.length ≤ 900000) : ∀ t : Th, t.okL = true → OkTh t → (t.ren us).okL = true ∧ OkTh (t.ren us) ∧ (t.ren us).parts = t.parts
  | .lf d, hk, hO => by
    cases e : unkNum d with
    | none =>
      have er : (Th.lf d).ren us = .lf d := by
        show (match unkNum d with | some i => if i ∈ us then Th.lf (.tuple [.int (idxI us i)]) else .lf d | none => .lf d) = _
        rw [e]
      rw [er]
      exact ⟨hk, hO, rfl⟩
    | some i =>
      by_cases hm : i ∈ us
      · rw [Th.ren_some e hm]
        have hi := idx_lt hm
        obtain ⟨k1, k2⟩ := single_unk (i := (idxI us i : Int)) (by omega) (by omega)
        exact ⟨k1, ⟨rfl, k2⟩, rfl⟩
      · have er : (Th.lf d).ren us = .lf d := by
          show (match unkNum d with | some i => if i ∈ us then Th.lf (.tuple [.int (idxI us i)]) else .lf d | none => .lf d) = _
          rw [e]
          dsimp only
          rw [if_neg hm]
        rw [er]
        exact ⟨hk, hO, rfl⟩
  | .pr a b, hk, hO => by
    obtain ⟨h1, h2⟩ := Bool.and_eq_true_iff.mp (show (a.okL && b.okL) = true from hk)
    obtain ⟨a1, a2, a3⟩ := ren_good us hl a h1 hO.pr.1
    obtain ⟨b1, b2, b3⟩ := ren_good us hl b h2 hO.pr.2
    refine ⟨Bool.and_eq_true_iff.mpr ⟨a1, b1⟩, ⟨⟨a2.1, b2.1⟩, ?_⟩, ?_⟩
    · show (fine (a.ren us).toD && (fine (b.ren us).toD && true)) = true
      rw [a2.2, b2.2]
      rfl
    · show 1 + (a.ren us).parts + (b.ren us).parts = 1 + a.parts + b.parts
      rw [a3, b3]
theorem Th.ren_term {us : List Int} (hl : us.length ≤ 900000) {t : Th} (hO : OkTh t) (hT : t.isTerm = true) : OkTh (t.ren us) ∧ (t.ren us).isTerm = true := by
  obtain ⟨h1, h2, h3⟩ := Th.ren_good us hl t (Th.term_ok hT) hO
  refine ⟨h2, ?_⟩
  show ((t.ren us).okL && decide ((t.ren us).parts ≤ 100)) = true
  rw [h1, h3, decide_eq_true (Th.term_parts hT)]
  rfl
/-- lists of terms: sizes -/
theorem terms_small : ∀ ts : List Th, (∀ t ∈ ts, OkTh t ∧ t.isTerm = true) → fineAll (ts.map Th.toD) = true ∧ PyData.bulkAll (ts.map Th.toD) ≤ 1001 * ts.length ∧ PyData.depthAll (ts.map Th.toD) ≤ 50 ∧ tupOnlyAll (ts.map Th.toD) = true
  | [], _ => ⟨rfl, Nat.le_refl _, Nat.zero_le _, rfl⟩
  | t :: r, h => by
    obtain ⟨h1, h2⟩ := h t List.mem_cons_self
    obtain ⟨i1, i2, i3, i4⟩ := terms_small r fun u hu => h u (List.mem_cons_of_mem _ hu)
    obtain ⟨s1, s2, s3⟩ := smTerm h1 h2
    refine ⟨Bool.and_eq_true_iff.mpr ⟨h1.2, i1⟩, ?_, ?_, Bool.and_eq_true_iff.mpr ⟨Th.ok_tup (Th.term_ok h2), i4⟩⟩
    · show t.toD.bulk + 1 + PyData.bulkAll (r.map Th.toD) ≤ 1001 * (r.length + 1)
      omega
    · show max t.toD.depth (PyData.depthAll (r.map Th.toD)) ≤ 50
      omega
theorem terms_shaped {ts : List Th} (h : ∀ t ∈ ts, OkTh t ∧ t.isTerm = true) : SeqAt.shaped (.list (ts.map Th.toD)) = true := by
  obtain ⟨i1, i2, i3, i4⟩ := terms_small ts h
  show (PyData.canLayAll0 (ts.map Th.toD) && decide (PyData.depthAll (ts.map Th.toD) + 1 ≤ 64)) = true
  rw [fine_layAll _ i4 i1, decide_eq_true (by omega)]
  rfl
theorem ren_take {ts : List Th} {i : Nat} {t : Th} (ht : ts[i]? = some t) : (ts.take i).map (Th.ren (goneAll [] (ts.take i))) = (ts.take i).map (Th.ren (goneAll [] (ts.take (i + 1)))) := by
  refine List.map_congr_left fun u hu => ?_
  rw [take_snoc ht, goneAll_snoc]
  exact (Th.ren_ext (foldU_ext t.pre _) u (goneAll_within _ _ u hu)).symm
section
variable {P : Program} {w : World} {K : PySem.W.Frag} {mg : Str → Option Value} {base : Heap}
def sp_l_rows_right (K : PySem.W.Frag) : Sp := fun vs H Q _ => ∃ (a : Addr) (xs : List V) (ts : List Th) (rv : V) (rt : Th), vs = [.ref a, rv] ∧ SqL K H a xs ∧ DqAll K H xs (ts.map Th.toD) ∧ (∀ t ∈ ts, OkTh t ∧ t.isTerm = true) ∧ ts.length ≤ 8 ∧ Dq K H rv rt.toD ∧ OkTh rt ∧ rt.isTerm = true ∧
  ∀ H', Same H H' → Q (.bl true) H'
theorem ok_l_rows_right (T : Env K mg) : FnG P w K mg base CX0 108 T.a_l_rows_right T.d_l_rows_right ["_law_items", "_law_last"] (sp_l_rows_right K) := by
  have G_l_said : FnG P w K mg base CX0 107 T.a_l_said T.d_l_said ["_law_way", "_law_thing", "_law_last"] (sp_l_said K) := ok_l_said T
  have G_l_due : FnG P w K mg base CX0 107 T.a_l_due T.d_l_due ["_law_items", "_law_last"] (sp_l_due K) := ok_l_due T
  have G_l_renamed : FnOk P w K mg base CX0 107 T.a_l_renamed T.d_l_renamed ["_law_term_here", "_law_known"] (sp_l_renamed K 101) := (ok_l_renamed T 101).mono (by decide)
  refine okG T.F_l_rows_right sc_l_rows_right (fun vs H Q E h => ?_) (fun cdv A outer s H vs Q E hr hgd h => ?_)
  · obtain ⟨a, xs, ts, rv, rt, rfl, _⟩ := h
    rfl
  · obtain ⟨a, xs, ts, rv, rt, rfl, hS, hX, hG, hL, hR, hRO, hRT, q⟩ := h
    have hr_l_said := hr
    have hr_l_due := hr
    have hr_l_renamed := hr
    have hu := hu_of hr
    have hO : ∀ t ∈ ts, OkTh t := fun t ht => (hG t ht).1
    have hT : ∀ t ∈ ts, t.isTerm = true := fun t ht => (hG t ht).2
    have nilO : OkTh (Th.lf (.str "nil")) := ⟨rfl, by decide +kernel⟩
    have nilT : (Th.lf (.str "nil")).isTerm = true := by decide +kernel
    have el : xs.length = ts.length := by
      rw [hX.length, List.length_map]
    refine ⟨_, (pss_cons (ps_for PassesOwn.never (by rfl) (pi_list (pe_lst (pa_cons (pe_callTy call_list_of (by rfl) T.m_list PyProof.Rows.boot_list (pa_cons (pv 0) pa_nil)) (pa_cons (pe_callTy call_tuple_of (by rfl) T.m_tuple PyProof.Rows.boot_tuple (pa_cons (pv 0) pa_nil)) pa_nil)))) (pg_name (i := 2) sc_l_rows_right.nd rfl (Or.inl rfl)) (pss_cons (ps_if (PW.pt (pw_or (pt_cmpR op_ne (pe_callG G_l_said hr_l_said hgd (by rfl) T.g_l_said T.F_l_said.kp T.b_l_said pass0 (pa_cons pe_int (pa_cons (pv 2) (pa_cons (pv 1) pa_nil)))) (pe_callG G_l_due hr_l_due hgd (by rfl) T.g_l_due T.F_l_due.kp T.b_l_due pass0 (pa_cons (pv 0) (pa_cons (pv 1) pa_nil))) (nomark _)) (pw_or1 (pt_cmpR op_ne (pe_callG G_l_said hr_l_said hgd (by rfl) T.g_l_said T.F_l_said.kp T.b_l_said pass0 (pa_cons pe_int (pa_cons (pv 2) (pa_cons pe_str pa_nil)))) (pe_callG G_l_due hr_l_due hgd (by rfl) T.g_l_due T.F_l_due.kp T.b_l_due pass0 (pa_cons (pv 0) (pa_cons pe_str pa_nil))) (nomark _))))) (pss_one (ps_ret pe_bl)) pss_nil)
      (pss_cons (ps_set (i := 3) sc_l_rows_right.nd rfl (Or.inr rfl) pe_dnewK)
      (pss_cons (ps_setLc (i := 4) (own := [("_law_item", 5)]) (g := gName 5) (tt := tYes) (by rfl) sc_l_rows_right.nd rfl rfl (sw_true rfl rfl rfl (by decide +kernel)) (pi_list (pv 0)) (blkOk_by (own := [("_law_item", 5)]) (N := ["_law_items", "_law_last", "_law_handed", "_law_known", "_law_due_here", "_law_item"]) (sc := defScope s_l_rows_right) (by decide +kernel)) (fun _ _ _ _ _ => (pg_name (i := 5) sc_l_rows_right.nd rfl (Or.inl rfl))) (fun _ _ _ _ _ => pts_nil) (fun _ _ _ _ _ => (pe_call G_l_renamed hr_l_renamed (by rfl) T.g_l_renamed T.F_l_renamed.kp T.b_l_renamed .nil pass0 (pa_cons (pv 5) (pa_cons (pv 3) pa_nil)))))
      (pss_one (ps_if (PW.pt (pw_or (pt_cmpR op_ne (pe_callG G_l_said hr_l_said hgd (by rfl) T.g_l_said T.F_l_said.kp T.b_l_said pass0 (pa_cons pe_int (pa_cons (pv 2) (pa_cons pe_non pa_nil)))) (pe_callB (call_reprL hgd (un2 hr)) (by rfl) T.m_repr PyProof.Rows.boot_repr (pa_cons (pe_lst (pa_cons pe_str (pa_cons (pv 4) pa_nil))) pa_nil)) (nomark _)) (pw_or1 (pt_cmpR (op_neD hr.units) (pe_callTy call_list_of (by rfl) T.m_list PyProof.Rows.boot_list (pa_cons (pv 2) pa_nil)) (pv 0) (nomark _))))) (pss_one (ps_ret pe_bl)) pss_nil))))))
      (pss_one (ps_ret pe_bl))), ?_⟩
    refine ⟨_, rfl, a, xs, rfl, .inl hS, fun l1 hl1 => ?_⟩
    have s_H1 : Same H (upd H l1 (.lst xs)) := same_upd hl1
    have g_H1 : (upd H l1 (.lst xs)) l1 = some (.lst xs) := upd_same
    generalize upd H l1 (.lst xs) = H1 at s_H1 g_H1 ⊢
    refine ⟨_, rfl, a, xs, rfl, .inl ⟨s_H1.seq hS, fun t1 ht1 => ?_⟩⟩
    have s_H2 : Same H1 (upd H1 t1 (.tup xs)) := same_upd ht1
    have g_H2 : (upd H1 t1 (.tup xs)) t1 = some (.tup xs) := upd_same
    generalize upd H1 t1 (.tup xs) = H2 at s_H2 g_H2 ⊢
    refine ⟨(by show 2 ≤ sizeLine; decide), fun l3 hl3 => ?_⟩
    have s_H3 : Same H2 (upd H2 l3 (.lst [.ref l1, .ref t1])) := same_upd hl3
    have g_H3 : (upd H2 l3 (.lst [.ref l1, .ref t1])) l3 = some (.lst [.ref l1, .ref t1]) := upd_same
    generalize upd H2 l3 (.lst [.ref l1, .ref t1]) = H3 at s_H3 g_H3 ⊢
    have s03 := s_H1.trans (s_H2.trans s_H3)
    refine ⟨l3, rfl, ⟨_, SqL.of g_H3⟩, for_list (K := K) (a := l3) (xs := [.ref l1, .ref t1]) (fun i σ H' => ∃ y1 y2 y3, σ = [some (.ref a), some rv, y1, y2, y3, none] ∧ Same H3 H') ⟨none, none, none, rfl, Same.refl H3⟩ (fun i σ H' _ ⟨_, _, _, _, z⟩ => z.seq (SqL.of g_H3)) ?_ ?_⟩
    · rintro i hv σ H4 hi ⟨y1, y2, y3, rfl, s4⟩
      have hrow : ∃ (c : Addr) (b : Bool), hv = .ref c ∧ SeqB b K H3 c xs := by
        have hm := List.mem_of_getElem? hi
        simp only [List.mem_cons, List.not_mem_nil, or_false] at hm
        rcases hm with rfl | rfl
        · exact ⟨l1, true, rfl, SqL.of (s_H3 _ _ (s_H2 _ _ g_H1))⟩
        · exact ⟨t1, false, rfl, SqT.of (s_H3 _ _ g_H2)⟩
      obtain ⟨c, b, rfl, hc⟩ := hrow
      have s04 := s03.trans s4
      have row : ∀ H', Same H4 H' → RowV K H' (.ref c) xs ts := fun H' s => ⟨c, b, rfl, (hc.same s4).same s, hX.same (s04.trans s), hO, by omega⟩
      refine ⟨_, rfl, _, rfl, 1, _, rv, rfl, .inr (.inr (.inr (.inr (.inl ⟨.inl rfl, xs, ts, rt, row H4 (Same.refl H4), hT, (fun _ => hR.same s04), (fun e => by cases e), hRO, hRT, fun H5 s5 => ?_⟩))))⟩
      refine ⟨_, rfl, _, rfl, a, xs, ts, rv, rt, rfl, (s04.trans s5).seq hS, hX.same (s04.trans s5), hO, hT, by omega, hR.same (s04.trans s5), hRO, hRT, fun H6 s6 => ?_⟩
      refine ⟨rfl, false, congrArg V.bl (congrArg Bool.not (decide_eq_true rfl)), ?_⟩
      have s46 := s5.trans s6
      refine ⟨_, rfl, 2, _, _, rfl, .inr (.inr (.inr (.inr (.inl ⟨.inr rfl, xs, ts, .lf (.str "nil"), row H6 s46, hT, (fun e => by cases e), (fun _ => rfl), nilO, nilT, fun H7 s7 => ?_⟩))))⟩
      have s47 := s46.trans s7
      refine ⟨_, rfl, a, xs, ts, .str "nil", .lf (.str "nil"), rfl, (s04.trans s47).seq hS, hX.same (s04.trans s47), hO, hT, by omega, .str _, nilO, nilT, fun H8 s8 => ?_⟩
      refine ⟨rfl, false, congrArg V.bl (congrArg Bool.not (decide_eq_true rfl)), ?_⟩
      have s48 := s47.trans s8
      intro dv hdv
      have hd0 : H dv = none := (s04.trans s48).free hdv
      have hd3 : H3 dv = none := (s4.trans s48).free hdv
      have s_H9 : Same H8 (upd H8 dv (.dK [])) := same_upd hdv
      have g_H9 : (upd H8 dv (.dK [])) dv = some (.dK []) := upd_same
      generalize upd H8 dv (.dK []) = H9 at s_H9 g_H9 ⊢
      have s49 := s48.trans s_H9
      refine ⟨_, rfl, a, rfl, ⟨_, (s04.trans s49).seq hS⟩, fun D hDn => ?_⟩
      have nDd : D ≠ dv := (ne_of_none g_H9 hDn).symm
      have hD8 : H8 D = none := s_H9.free hDn
      have hS8 := (s04.trans s48).seq hS
      have hX8 := hX.same (s04.trans s48)
      refine lc_list (K := K) (a := a) (xs := xs) (fun i H' => Same H8 H' ∧ (∃ kvs, H' dv = some (.dK kvs) ∧ KvR PvI 0 kvs (goneAll [] (ts.take i))) ∧ ∃ ys, H' D = some (.lst ys) ∧ ys.length = i ∧ DqAll K H' ys (((ts.take i).map (Th.ren (goneAll [] (ts.take i)))).map Th.toD))
        ⟨s_H9.trans (same_upd hDn), ⟨[], (upd_ne (Ne.symm nDd)).trans g_H9, trivial⟩, [], upd_same, rfl, .nil⟩ (fun i H' _ ⟨z, _⟩ => z.seq hS8) ?_ ?_
      · rintro j x H10 hx ⟨s10, ⟨kvs, hD10, hK10⟩, ys, gD, yl, hY⟩
        obtain ⟨t, ht, hxt⟩ := hX8.getTh hx
        have htm := List.mem_of_getElem? ht
        have tp := Th.term_parts (hT t htm)
        have td := t.deep_half
        have hj : j < ts.length := (List.getElem?_eq_some_iff.mp ht).1
        have hTj : ∀ u ∈ ts.take j, u.isTerm = true := fun u hu => hT u (List.mem_of_mem_take hu)
        have gl := goneAll_len (ts.take j) [] hTj
        rw [List.length_take] at gl
        simp only [List.length_nil] at gl
        refine ⟨rfl, ?_⟩
        refine ⟨_, rfl, _, rfl, x, t, dv, kvs, _, rfl, hxt.same s10, (hO t htm).1, Th.term_ok (hT t htm), by omega, hD10, hK10, by omega, fun v kvs' H11 o11 hD11 hK11 hv => ?_⟩
        have gD11 := o11 D _ nDd gD
        have t1 : Tups K H10 H11 := Tups.offd hD10 o11
        have s11 : Same H8 H11 := Off.same s10 hdv o11
        have tt : Tups K H11 (upd H11 D (.lst (ys ++ [v]))) := Tups.put gD11
        have eg : t.gone (goneAll [] (ts.take j)) = goneAll [] (ts.take (j + 1)) := by
          rw [take_snoc ht, goneAll_snoc]
        rw [eg] at hK11 hv
        have tu : ∀ (us : List Int) (l : List Th), (∀ u ∈ l, u ∈ ts) → tupOnlyAll ((l.map (Th.ren us)).map Th.toD) = true := fun us l hl => tupAll_of _ fun d hd => by
          obtain ⟨u, hu, rfl⟩ := List.mem_map.mp hd
          obtain ⟨t', ht', rfl⟩ := List.mem_map.mp hu
          exact Th.ren_tup _ t' (Th.term_ok (hT t' (hl t' ht')))
        refine ⟨ys, gD11, sz_lt (by omega), same_mut s11 hD8, ⟨kvs', (upd_ne (Ne.symm nDd)).trans hD11, hK11⟩, _, upd_same, ?_, ?_⟩
        · rw [List.length_append, yl]
          rfl
        · have hY11 : DqAll K H11 (ys ++ [v]) (((ts.take (j + 1)).map (Th.ren (goneAll [] (ts.take (j + 1))))).map Th.toD) := by
            have e2 : ((ts.take (j + 1)).map (Th.ren (goneAll [] (ts.take (j + 1))))).map Th.toD = ((ts.take j).map (Th.ren (goneAll [] (ts.take j)))).map Th.toD ++ [(t.ren (goneAll [] (ts.take (j + 1)))).toD] := by
              rw [ren_take ht]
              have e3 : (ts.take (j + 1)).map (Th.ren (goneAll [] (ts.take (j + 1)))) = (ts.take j).map (Th.ren (goneAll [] (ts.take (j + 1)))) ++ [t.ren (goneAll [] (ts.take (j + 1)))] := by
                have e4 : (ts.take (j + 1)).map (Th.ren (goneAll [] (ts.take (j + 1)))) = (ts.take j ++ [t]).map (Th.ren (goneAll [] (ts.take (j + 1)))) := congrArg (List.map _) (take_snoc ht)
                rw [e4, List.map_append]
                rfl
              rw [e3, List.map_append]
              rfl
            rw [e2]
            exact (DqAll.tups t1 _ _ (tu _ _ fun u hu => List.mem_of_mem_take hu) hY).snoc hv
          exact DqAll.tups tt _ _ (tu _ _ fun u hu => List.mem_of_mem_take hu) hY11
      · rintro H10 ⟨s10, ⟨kvs, hD10, hK10⟩, ys, gD, yl, hY⟩
        rw [el, List.take_length] at hY
        have gl := goneAll_len ts [] hT
        simp only [List.length_nil] at gl
        have small := terms_small (ts.map (Th.ren (goneAll [] ts))) fun u hu => by
          obtain ⟨t, ht, rfl⟩ := List.mem_map.mp hu
          exact Th.ren_term (by omega) (hO t ht) (hT t ht)
        obtain ⟨m1, m2, m3, m4⟩ := small
        rw [List.length_map] at m2
        have shw : Shw [.str "told", .list ((ts.map (Th.ren (goneAll [] ts))).map Th.toD)] := by
          refine ⟨?_, ?_, ?_⟩
          · show (fine (.str "told") && (fineAll ((ts.map (Th.ren (goneAll [] ts))).map Th.toD) && true)) = true
            rw [m1]
            decide +kernel
          · have e1 : (PyData.str "told").bulk = 4 := by decide +kernel
            show (PyData.str "told").bulk + 1 + (PyData.bulkAll ((ts.map (Th.ren (goneAll [] ts))).map Th.toD) + 1 + 0) ≤ 10000
            omega
          · show max 0 (max (PyData.depthAll ((ts.map (Th.ren (goneAll [] ts))).map Th.toD) + 1) 0) ≤ 180
            omega
        have s410 := s48.trans s10
        refine ⟨_, rfl, 0, _, .non, rfl, .inr (.inr (.inr (.inl ⟨rfl, xs, ts, row H10 s410, hT, shw, fun H11 s11 => ?_⟩)))⟩
        refine ⟨_, rfl, (by show 2 ≤ sizeLine; decide), fun l12 hl12 => ?_⟩
        have s_H12 : Same H11 (upd H11 l12 (.lst [.str "told", .ref D])) := same_upd hl12
        have g_H12 : (upd H11 l12 (.lst [.str "told", .ref D])) l12 = some (.lst [.str "told", .ref D]) := upd_same
        generalize upd H11 l12 (.lst [.str "told", .ref D]) = H12 at s_H12 g_H12 ⊢
        obtain ⟨w1, w2, w3⟩ := showL shw.1 shw.2.1 shw.2.2
        have s1012 := s11.trans s_H12
        refine ⟨l12, _, _, rfl, Dq.lst (SqL.of g_H12) (.cons (.str _) (.cons (.lst (SqL.of (s1012 _ _ gD)) (hY.same s1012)) .nil)), w1, w2, w3, rfl, false, congrArg V.bl (congrArg Bool.not (decide_eq_true rfl)), ?_⟩
        have s412 := s410.trans s1012
        refine ⟨_, rfl, c, xs, rfl, ((hc.same s4).same s412).or, fun l13 hl13 => ?_⟩
        have s_H13 : Same H12 (upd H12 l13 (.lst xs)) := same_upd hl13
        have g_H13 : (upd H12 l13 (.lst xs)) l13 = some (.lst xs) := upd_same
        generalize upd H12 l13 (.lst xs) = H13 at s_H13 g_H13 ⊢
        have s013 := (s04.trans s412).trans s_H13
        obtain ⟨n1, n2, n3, n4⟩ := terms_small ts hG
        have dp := DqAll.dp _ _ n4 (hX.same s013)
        refine ⟨_, rfl, _, _, .lst (SqL.of g_H13) dp, .lst (s013.seq hS) dp, terms_shaped hG, terms_shaped hG, false, congrArg V.bl (shaped_refl (terms_shaped hG)), ?_⟩
        exact ⟨_, _, _, rfl, (s4.trans s412).trans s_H13⟩
    · rintro σ H4 ⟨y1, y2, y3, rfl, s4⟩
      exact q H4 (s03.trans s4)
/-! ### items_of told right -/
def sp_l_items_right (K : PySem.W.Frag) : Sp := fun vs H Q _ => ∃ (x : V) (t : Th), vs = [x] ∧ Dq K H x t.toD ∧ OkTh t ∧ t.isTerm = true ∧ ∀ H', Same H H' → Q (.bl true) H'
theorem row_terms : ∀ t : Th, OkTh t → t.okL = true → t.parts ≤ 100 → (∀ u ∈ rowItems t, OkTh u ∧ u.isTerm = true) ∧ OkTh (rowRest t) ∧ (rowRest t).isTerm = true
  | .lf d, h, hk, hp => by
    refine ⟨(fun u hu => by cases hu), h, ?_⟩
    show ((Th.lf d).okL && decide ((Th.lf d).parts ≤ 100)) = true
    rw [hk, decide_eq_true hp]
    rfl
  | .pr a b, h, hk, hp => by
    obtain ⟨k1, k2⟩ := Bool.and_eq_true_iff.mp (show (a.okL && b.okL) = true from hk)
    have hp : 1 + a.parts + b.parts ≤ 100 := hp
    obtain ⟨i1, i2, i3⟩ := row_terms b h.pr.2 k2 (by omega)
    refine ⟨fun u hu => ?_, i2, i3⟩
    rcases List.mem_cons.mp hu with rfl | hu
    · refine ⟨h.pr.1, ?_⟩
      show (Th.okL _ && decide _) = true
      rw [k1, decide_eq_true (show Th.parts _ ≤ 100 by omega)]
      rfl
    · exact i1 u hu
def WR (K : PySem.W.Frag) (H : Hp) (x : V) (f : Addr) (t : Th) (m : Nat) (σ : L2.St) (H' : Hp) : Prop := ∃ (y : V) (u : Th) (ws : List V) (done : List Th), σ = [some x, some (.ref f), some y, none, none, none] ∧ m = u.parts ∧ Dq K H y u.toD ∧ u.nf ∧ Same H H' ∧ H' f = some (.lst ws) ∧ DqAll K H ws (done.map Th.toD) ∧ done ++ rowItems u = rowItems t ∧ rowRest u = rowRest t
theorem ok_l_items_right (T : Env K mg) : FnG P w K mg base CX0 108 T.a_l_items_right T.d_l_items_right ["_law_term_here"] (sp_l_items_right K) := by
  have G_l_said : FnG P w K mg base CX0 107 T.a_l_said T.d_l_said ["_law_way", "_law_thing", "_law_last"] (sp_l_said K) := ok_l_said T
  have G_by_coming : FnOk P w K mg base CX0 107 T.a_by_coming T.d_by_coming ["terms"] (calm (sp_by_coming K T.a_NoTerm)) := (calm_ok (ok_by_coming T)).mono (by decide)
  have G_items_of : FnOk P w K mg base CX0 107 T.a_items_of T.d_items_of ["term"] (calm (sp_items_of K T.a_NoTerm)) := (calm_ok (ok_items_of T)).mono (by decide)
  refine okG T.F_l_items_right sc_l_items_right (fun vs H Q E h => ?_) (fun cdv A outer s H vs Q E hr hgd h => ?_)
  · obtain ⟨x, t, rfl, _⟩ := h
    rfl
  · obtain ⟨x, t, rfl, hd, hO, hT, q⟩ := h
    have hr_l_said := hr
    have hr_by_coming := hr
    have hr_items_of := hr
    have tp := Th.term_parts hT
    obtain ⟨rG, rO, rT⟩ := row_terms t hO (Th.term_ok hT) tp
    have ril := rowItems_len t
    obtain ⟨n1, n2, n3, n4⟩ := terms_small (rowItems t) rG
    have sO : Sm (.str "told") := smS _ (by decide +kernel) (by decide +kernel)
    refine ⟨_, (pss_cons (ps_set (i := 1) sc_l_items_right.nd rfl (Or.inl rfl) (pe_lst pa_nil))
      (pss_cons (ps_set (i := 2) sc_l_items_right.nd rfl (Or.inl rfl) (pv 0))
      (pss_cons (ps_while PassesOwn.never (PW.pt (pw_and (pt_val (pe_callB call_isi (by rfl) T.m_isinstance PyProof.Rows.boot_isinstance (pa_cons (pv 2) (pa_cons (pe_bltn (v := .ty "tuple") (by rfl) T.m_tuple PyProof.Rows.boot_tuple rfl) pa_nil)))) (pw_and1 (pt_cmpR op_eq (pe_callB call_len_seq (by rfl) T.m_len PySem.boot_len (pa_cons (pv 2) pa_nil)) pe_int (nomark _))))) (pss_cons (ps_expr (pe_bm PySem.F.plainAttrs_list PySem.F.slot_list_append PySem.F.type_list_append mt_append (pv 1) (pa_cons (pe_ix ix_tup (pv 2) pe_int (fun _ _ => rfl)) pa_nil)))
      (pss_one (ps_set (i := 2) sc_l_items_right.nd rfl (Or.inl rfl) (pe_ix ix_tup (pv 2) pe_int (fun _ _ => rfl))))))
      (pss_cons (ps_for PassesOwn.never (by rfl) (pi_range1 (by rfl) T.m_range (pa_cons pe_int pa_nil)) (pg_name (i := 3) sc_l_items_right.nd rfl (Or.inl rfl)) (pss_cons (ps_set (i := 4) sc_l_items_right.nd rfl (Or.inl rfl) (pe_call G_items_of hr_items_of (by rfl) T.g_items_of T.F_items_of.kp T.b_items_of .nil pass0 (pa_cons (pv 0) pa_nil)))
      (pss_cons (ps_if (PW.pt (pw_or (pt_not (pt_val (pe_callB call_isi (by rfl) T.m_isinstance PyProof.Rows.boot_isinstance (pa_cons (pv 4) (pa_cons (pe_bltn (v := .ty "tuple") (by rfl) T.m_tuple PyProof.Rows.boot_tuple rfl) pa_nil))))) (pw_or (pt_cmpR (op_neD hr.units) (pv 4) (pe_tup (pa_cons (pv 1) (pa_cons (pv 2) pa_nil))) (nomark _)) (pw_or1 (pt_not (pt_val (pe_callB call_isi (by rfl) T.m_isinstance PyProof.Rows.boot_isinstance (pa_cons (pe_ix ix_tup (pv 4) pe_int (fun _ _ => rfl)) (pa_cons (pe_bltn (v := .ty "list") (by rfl) T.m_list PyProof.Rows.boot_list rfl) pa_nil))))))))) (pss_one (ps_ret pe_bl)) pss_nil)
      (pss_cons (ps_expr (pe_bm PySem.F.plainAttrs_list PySem.F.slot_list_append PySem.F.type_list_append mt_append (pe_ix ix_tup (pv 4) pe_int (fun _ _ => rfl)) (pa_cons pe_str pa_nil)))
      (pss_cons (ps_set (i := 5) sc_l_items_right.nd rfl (Or.inl rfl) (pe_call G_by_coming hr_by_coming (by rfl) T.g_by_coming T.F_by_coming.kp T.b_by_coming .nil pass0 (pa_cons (pe_lst (pa_cons (pv 0) pa_nil)) pa_nil)))
      (pss_one (ps_expr (pe_bm PySem.F.plainAttrs_list PySem.F.slot_list_append PySem.F.type_list_append mt_append (pv 5) (pa_cons pe_str pa_nil)))))))))
      (pss_one (ps_ret (pe_cmpR op_eq (pe_callG G_l_said hr_l_said hgd (by rfl) T.g_l_said T.F_l_said.kp T.b_l_said pass0 (pa_cons pe_int (pa_cons (pv 1) (pa_cons (pv 2) pa_nil)))) (pe_callB (call_reprL hgd (un2 hr)) (by rfl) T.m_repr PyProof.Rows.boot_repr (pa_cons (pe_lst (pa_cons pe_str (pa_cons (pv 0) pa_nil))) pa_nil)) (nomark _)))))))), ?_⟩
    refine ⟨Nat.zero_le _, fun f hf => ?_⟩
    have s_H1 : Same H (upd H f (.lst [])) := same_upd hf
    have g_H1 : (upd H f (.lst [])) f = some (.lst []) := upd_same
    generalize upd H f (.lst []) = H1 at s_H1 g_H1 ⊢
    refine ⟨_, rfl, ?_⟩
    refine ⟨WR K H x f t, ⟨t.parts, x, t, [], [], rfl, rfl, hd, hO.1, s_H1, g_H1, .nil, rfl, rfl⟩, fun m σ H2 hW => ?_⟩
    obtain ⟨y, u, ws, done, rfl, rfl, hy, hn, s2, gf, hw, e1, e2⟩ := hW
    have hy2 := hy.same s2
    refine ⟨_, rfl, y, .ty "tuple", _, .type "tuple", _, rfl, .ty _, hy2.knd, kit_tup _, _, rfl, ?_⟩
    cases u with
    | pr c d =>
      obtain ⟨pa, y0, y1, rfl, hs, h0, h1⟩ := hy.pr
      have hs2 := seqT s2 hs
      refine ⟨_, rfl, pa, _, rfl, .inr hs2, rfl, true, rfl, ?_⟩
      refine ⟨fun σ' H' => ∃ m', m' < (Th.pr c d).parts ∧ WR K H x f t m' σ' H', fun σ' H' z => z, ?_⟩
      have lenw : ws.length < 1000000 := by
        have h1 := congrArg List.length e1
        rw [List.length_append] at h1
        have h3 := hw.length
        rw [List.length_map] at h3
        omega
      refine ⟨_, rfl, .inl ⟨rfl, _, SqL.of gf⟩, _, rfl, pa, _, 0, y0, rfl, rfl, hs2, atI_nat (j := 0) rfl, f, _, _, rfl, rfl, gf, sz_lt lenw, ?_⟩
      have s4 : Same H (upd H2 f (.lst (ws ++ [y0]))) := same_mut s2 hf
      refine ⟨_, rfl, pa, _, 1, y1, rfl, rfl, seqT s4 hs, atI_nat (j := 1) rfl, ?_⟩
      refine ⟨d.parts, ?_, y1, d, ws ++ [y0], done ++ [c], rfl, rfl, h1, hn.2, s4, upd_same, ?_, ?_, e2⟩
      · have := c.parts_pos
        show d.parts < 1 + c.parts + d.parts
        omega
      · rw [List.map_append]
        exact hw.snoc h0
      · rw [← e1, List.append_assoc]
        rfl
    | lf d =>
      have ed : done = rowItems t := by
        rw [← e1]
        exact (List.append_nil _).symm
      rw [ed] at hw
      have hyr : Dq K H y (rowRest t).toD := by
        rw [← e2]
        exact hy
      have hdk : singleD d = true := by
        have e3 : rowRest t = .lf d := e2.symm
        rw [e3] at rT
        exact Th.term_ok rT
      have shp : SeqAt.shaped (.tuple [.list ((rowItems t).map Th.toD), (rowRest t).toD]) = true := by
        obtain ⟨z1, z2, z3⟩ := smTerm rO rT
        show ((PyData.canLayAll0 ((rowItems t).map Th.toD) && ((rowRest t).toD.canLay0 && true)) && decide (max (PyData.depthAll ((rowItems t).map Th.toD) + 1) (max (rowRest t).toD.depth 0) + 1 ≤ 64)) = true
        rw [fine_layAll _ n4 n1, fine_lay _ (Th.ok_tup (Th.term_ok rT)) rO.2, decide_eq_true (by omega)]
        rfl
      rcases single_cases hdk with ⟨z, rfl⟩ | ⟨j, rfl⟩ | ⟨j, rfl, hj⟩
      · skip
        refine ⟨2, rfl, by decide, by decide, for_range (fun i σ H' => ∃ a b c, σ = [some x, some (.ref f), some y, a, b, c] ∧ Same H2 H') ⟨none, none, none, rfl, Same.refl H2⟩ ?_ ?_⟩
        · rintro i σ H3 hi ⟨a, b, c, rfl, s3⟩
          have s03 := s2.trans s3
          refine ⟨_, rfl, x, t, rfl, hd.same s03, hO, (fun e => by rw [hT] at e; cases e), fun _ p l ws2 xv H4 hl s4 gp gl hw2 hxv => ?_⟩
          have s04 := s03.trans s4
          have hl2 : H2 l = none := s3.free hl
          have s24 := s3.trans s4
          refine ⟨_, rfl, _, .ty "tuple", _, .type "tuple", _, rfl, .ty _, kn_tup gp, kit_tup .tup, _, rfl, ?_⟩
          refine ⟨_, rfl, _, rfl, _, rfl, (by show 2 ≤ sizeLine; decide), fun p5 hp5 => ?_⟩
          have s_H5 : Same H4 (upd H4 p5 (.tup [.ref f, y])) := same_upd hp5
          have g_H5 : (upd H4 p5 (.tup [.ref f, y])) p5 = some (.tup [.ref f, y]) := upd_same
          generalize upd H4 p5 (.tup [.ref f, y]) = H5 at s_H5 g_H5 ⊢
          have s35 := s4.trans s_H5
          have s05 := s04.trans s_H5
          have dA : DpAll K H5 ws2 ((rowItems t).map Th.toD) := DqAll.dp _ _ n4 (hw2.same s35)
          have dB : DpAll K H5 ws ((rowItems t).map Th.toD) := DqAll.dp _ _ n4 (hw.same s05)
          have dC : Dp K H5 xv (rowRest t).toD := Dq.dp _ _ (Th.ok_tup (Th.term_ok rT)) (hxv.same s35)
          have dD : Dp K H5 y (rowRest t).toD := Dq.dp _ _ (Th.ok_tup (Th.term_ok rT)) (hyr.same s05)
          have gf5 := (s24.trans s_H5) _ _ gf
          refine ⟨.tuple [.list ((rowItems t).map Th.toD), (rowRest t).toD], .tuple [.list ((rowItems t).map Th.toD), (rowRest t).toD], .tup (SqT.of (s_H5 _ _ gp)) (.cons (.lst (SqL.of (s_H5 _ _ gl)) dA) (.cons dC .nil)), .tup (SqT.of g_H5) (.cons (.lst (SqL.of gf5) dB) (.cons dD .nil)), shp, shp, false, congrArg V.bl (shaped_refl shp), ?_⟩
          refine ⟨_, rfl, p, _, 0, .ref l, rfl, rfl, SqT.of (s_H5 _ _ gp), atI_nat (j := 0) rfl, _, .ty "list", _, .type "list", _, rfl, .ty _, kn_lst (s_H5 _ _ gl), kit_lst .lst, _, rfl, ?_⟩
          have lw2 : ws2.length < 1000000 := by
            have := hw2.length
            rw [List.length_map] at this
            omega
          refine ⟨_, rfl, p, _, 0, .ref l, rfl, rfl, SqT.of (s_H5 _ _ gp), atI_nat (j := 0) rfl, .inl ⟨rfl, _, SqL.of (s_H5 _ _ gl)⟩, l, _, _, rfl, rfl, s_H5 _ _ gl, sz_lt lw2, ?_⟩
          have s6 : Same H2 (upd H5 l (.lst (ws2 ++ [.str "a"]))) := same_mut (s24.trans s_H5) hl2
          generalize upd H5 l (.lst (ws2 ++ [.str "a"])) = H6 at s6 ⊢
          have s06 := s2.trans s6
          refine ⟨_, rfl, (by show 1 ≤ sizeLine; decide), fun l7 hl7 => ?_⟩
          have s_H7 : Same H6 (upd H6 l7 (.lst [x])) := same_upd hl7
          have g_H7 : (upd H6 l7 (.lst [x])) l7 = some (.lst [x]) := upd_same
          generalize upd H6 l7 (.lst [x]) = H7 at s_H7 g_H7 ⊢
          have s07 := s06.trans s_H7
          refine ⟨_, rfl, .inl ⟨l7, [x], true, [t], rfl, SqL.of g_H7, .cons (hd.same s07) .nil, (fun u hu => by rw [List.mem_singleton.mp hu]; exact hO), (by show 1 ≤ 5000; decide), (fun z hz => (hz.no (fun u hu => by rw [List.mem_singleton.mp hu]; exact hT)).elim), fun _ l8 ys H8 hl8 s8 g8 hY => ?_⟩⟩
          have ly : ys.length < 1000000 := by
            have := hY.length
            rw [List.length_map, List.length_map] at this
            rw [this]
            show 1 < 1000000
            decide
          refine ⟨_, rfl, .inl ⟨rfl, _, SqL.of g8⟩, l8, _, _, rfl, rfl, g8, sz_lt ly, ?_⟩
          exact ⟨_, _, _, rfl, same_mut (s6.trans (s_H7.trans s8)) ((s6.trans s_H7).free hl8)⟩
        · rintro σ H3 ⟨a, b, c, rfl, s3⟩
          have s03 := s2.trans s3
          refine ⟨_, rfl, _, rfl, 1, _, y, rfl, .inr (.inr (.inr (.inr (.inl ⟨.inl rfl, ws, rowItems t, rowRest t, ⟨f, true, rfl, SqL.of (s3 _ _ gf), hw.same s03, (fun u hu => (rG u hu).1), by omega⟩, (fun u hu => (rG u hu).2), (fun _ => hyr.same s03), (fun e => by cases e), rO, rT, fun H4 s4 => ?_⟩))))⟩
          have eR : rowSays (rowItems t) (rowRest t) = [.str "told", t.toD] := by
            have e3 : sumR (rowItems t) + (rowRest t).parts = t.parts := by
              rw [← rowOf_parts, row_again]
            unfold rowSays
            rw [e3, if_neg (by omega), row_again]
          rw [eR]
          refine ⟨_, rfl, (by show 2 ≤ sizeLine; decide), fun l5 hl5 => ?_⟩
          have s_H5 : Same H4 (upd H4 l5 (.lst [.str "told", x])) := same_upd hl5
          have g_H5 : (upd H4 l5 (.lst [.str "told", x])) l5 = some (.lst [.str "told", x]) := upd_same
          generalize upd H4 l5 (.lst [.str "told", x]) = H5 at s_H5 g_H5 ⊢
          have s05 := s03.trans (s4.trans s_H5)
          obtain ⟨w1, w2, w3⟩ := sm2 sO (smTerm hO hT).1
          refine ⟨l5, _, _, rfl, Dq.lst (SqL.of g_H5) (.cons (.str _) (.cons (hd.same s05) .nil)), w1, w2, w3, rfl, ?_⟩
          have fin := q H5 s05
          rw [← (decide_eq_true rfl : decide (V.str (PyData.shown (.list [.str "told", t.toD])) = V.str (PyData.shown (.list [.str "told", t.toD]))) = true)] at fin
          exact fin
      · skip
        refine ⟨2, rfl, by decide, by decide, for_range (fun i σ H' => ∃ a b c, σ = [some x, some (.ref f), some y, a, b, c] ∧ Same H2 H') ⟨none, none, none, rfl, Same.refl H2⟩ ?_ ?_⟩
        · rintro i σ H3 hi ⟨a, b, c, rfl, s3⟩
          have s03 := s2.trans s3
          refine ⟨_, rfl, x, t, rfl, hd.same s03, hO, (fun e => by rw [hT] at e; cases e), fun _ p l ws2 xv H4 hl s4 gp gl hw2 hxv => ?_⟩
          have s04 := s03.trans s4
          have hl2 : H2 l = none := s3.free hl
          have s24 := s3.trans s4
          refine ⟨_, rfl, _, .ty "tuple", _, .type "tuple", _, rfl, .ty _, kn_tup gp, kit_tup .tup, _, rfl, ?_⟩
          refine ⟨_, rfl, _, rfl, _, rfl, (by show 2 ≤ sizeLine; decide), fun p5 hp5 => ?_⟩
          have s_H5 : Same H4 (upd H4 p5 (.tup [.ref f, y])) := same_upd hp5
          have g_H5 : (upd H4 p5 (.tup [.ref f, y])) p5 = some (.tup [.ref f, y]) := upd_same
          generalize upd H4 p5 (.tup [.ref f, y]) = H5 at s_H5 g_H5 ⊢
          have s35 := s4.trans s_H5
          have s05 := s04.trans s_H5
          have dA : DpAll K H5 ws2 ((rowItems t).map Th.toD) := DqAll.dp _ _ n4 (hw2.same s35)
          have dB : DpAll K H5 ws ((rowItems t).map Th.toD) := DqAll.dp _ _ n4 (hw.same s05)
          have dC : Dp K H5 xv (rowRest t).toD := Dq.dp _ _ (Th.ok_tup (Th.term_ok rT)) (hxv.same s35)
          have dD : Dp K H5 y (rowRest t).toD := Dq.dp _ _ (Th.ok_tup (Th.term_ok rT)) (hyr.same s05)
          have gf5 := (s24.trans s_H5) _ _ gf
          refine ⟨.tuple [.list ((rowItems t).map Th.toD), (rowRest t).toD], .tuple [.list ((rowItems t).map Th.toD), (rowRest t).toD], .tup (SqT.of (s_H5 _ _ gp)) (.cons (.lst (SqL.of (s_H5 _ _ gl)) dA) (.cons dC .nil)), .tup (SqT.of g_H5) (.cons (.lst (SqL.of gf5) dB) (.cons dD .nil)), shp, shp, false, congrArg V.bl (shaped_refl shp), ?_⟩
          refine ⟨_, rfl, p, _, 0, .ref l, rfl, rfl, SqT.of (s_H5 _ _ gp), atI_nat (j := 0) rfl, _, .ty "list", _, .type "list", _, rfl, .ty _, kn_lst (s_H5 _ _ gl), kit_lst .lst, _, rfl, ?_⟩
          have lw2 : ws2.length < 1000000 := by
            have := hw2.length
            rw [List.length_map] at this
            omega
          refine ⟨_, rfl, p, _, 0, .ref l, rfl, rfl, SqT.of (s_H5 _ _ gp), atI_nat (j := 0) rfl, .inl ⟨rfl, _, SqL.of (s_H5 _ _ gl)⟩, l, _, _, rfl, rfl, s_H5 _ _ gl, sz_lt lw2, ?_⟩
          have s6 : Same H2 (upd H5 l (.lst (ws2 ++ [.str "a"]))) := same_mut (s24.trans s_H5) hl2
          generalize upd H5 l (.lst (ws2 ++ [.str "a"])) = H6 at s6 ⊢
          have s06 := s2.trans s6
          refine ⟨_, rfl, (by show 1 ≤ sizeLine; decide), fun l7 hl7 => ?_⟩
          have s_H7 : Same H6 (upd H6 l7 (.lst [x])) := same_upd hl7
          have g_H7 : (upd H6 l7 (.lst [x])) l7 = some (.lst [x]) := upd_same
          generalize upd H6 l7 (.lst [x]) = H7 at s_H7 g_H7 ⊢
          have s07 := s06.trans s_H7
          refine ⟨_, rfl, .inl ⟨l7, [x], true, [t], rfl, SqL.of g_H7, .cons (hd.same s07) .nil, (fun u hu => by rw [List.mem_singleton.mp hu]; exact hO), (by show 1 ≤ 5000; decide), (fun z hz => (hz.no (fun u hu => by rw [List.mem_singleton.mp hu]; exact hT)).elim), fun _ l8 ys H8 hl8 s8 g8 hY => ?_⟩⟩
          have ly : ys.length < 1000000 := by
            have := hY.length
            rw [List.length_map, List.length_map] at this
            rw [this]
            show 1 < 1000000
            decide
          refine ⟨_, rfl, .inl ⟨rfl, _, SqL.of g8⟩, l8, _, _, rfl, rfl, g8, sz_lt ly, ?_⟩
          exact ⟨_, _, _, rfl, same_mut (s6.trans (s_H7.trans s8)) ((s6.trans s_H7).free hl8)⟩
        · rintro σ H3 ⟨a, b, c, rfl, s3⟩
          have s03 := s2.trans s3
          refine ⟨_, rfl, _, rfl, 1, _, y, rfl, .inr (.inr (.inr (.inr (.inl ⟨.inl rfl, ws, rowItems t, rowRest t, ⟨f, true, rfl, SqL.of (s3 _ _ gf), hw.same s03, (fun u hu => (rG u hu).1), by omega⟩, (fun u hu => (rG u hu).2), (fun _ => hyr.same s03), (fun e => by cases e), rO, rT, fun H4 s4 => ?_⟩))))⟩
          have eR : rowSays (rowItems t) (rowRest t) = [.str "told", t.toD] := by
            have e3 : sumR (rowItems t) + (rowRest t).parts = t.parts := by
              rw [← rowOf_parts, row_again]
            unfold rowSays
            rw [e3, if_neg (by omega), row_again]
          rw [eR]
          refine ⟨_, rfl, (by show 2 ≤ sizeLine; decide), fun l5 hl5 => ?_⟩
          have s_H5 : Same H4 (upd H4 l5 (.lst [.str "told", x])) := same_upd hl5
          have g_H5 : (upd H4 l5 (.lst [.str "told", x])) l5 = some (.lst [.str "told", x]) := upd_same
          generalize upd H4 l5 (.lst [.str "told", x]) = H5 at s_H5 g_H5 ⊢
          have s05 := s03.trans (s4.trans s_H5)
          obtain ⟨w1, w2, w3⟩ := sm2 sO (smTerm hO hT).1
          refine ⟨l5, _, _, rfl, Dq.lst (SqL.of g_H5) (.cons (.str _) (.cons (hd.same s05) .nil)), w1, w2, w3, rfl, ?_⟩
          have fin := q H5 s05
          rw [← (decide_eq_true rfl : decide (V.str (PyData.shown (.list [.str "told", t.toD])) = V.str (PyData.shown (.list [.str "told", t.toD]))) = true)] at fin
          exact fin
      · obtain ⟨pa, xs, ey, hs, hr'⟩ := Dq.tupOf (ds := [.int j]) hy2
        obtain ⟨w1, rfl, hw1⟩ := hr'.one
        refine ⟨_, rfl, pa, _, congrArg (fun z => [z]) ey, .inr hs, rfl, false, rfl, ?_⟩
        refine ⟨2, rfl, by decide, by decide, for_range (fun i σ H' => ∃ a b c, σ = [some x, some (.ref f), some y, a, b, c] ∧ Same H2 H') ⟨none, none, none, rfl, Same.refl H2⟩ ?_ ?_⟩
        · rintro i σ H3 hi ⟨a, b, c, rfl, s3⟩
          have s03 := s2.trans s3
          refine ⟨_, rfl, x, t, rfl, hd.same s03, hO, (fun e => by rw [hT] at e; cases e), fun _ p l ws2 xv H4 hl s4 gp gl hw2 hxv => ?_⟩
          have s04 := s03.trans s4
          have hl2 : H2 l = none := s3.free hl
          have s24 := s3.trans s4
          refine ⟨_, rfl, _, .ty "tuple", _, .type "tuple", _, rfl, .ty _, kn_tup gp, kit_tup .tup, _, rfl, ?_⟩
          refine ⟨_, rfl, _, rfl, _, rfl, (by show 2 ≤ sizeLine; decide), fun p5 hp5 => ?_⟩
          have s_H5 : Same H4 (upd H4 p5 (.tup [.ref f, y])) := same_upd hp5
          have g_H5 : (upd H4 p5 (.tup [.ref f, y])) p5 = some (.tup [.ref f, y]) := upd_same
          generalize upd H4 p5 (.tup [.ref f, y]) = H5 at s_H5 g_H5 ⊢
          have s35 := s4.trans s_H5
          have s05 := s04.trans s_H5
          have dA : DpAll K H5 ws2 ((rowItems t).map Th.toD) := DqAll.dp _ _ n4 (hw2.same s35)
          have dB : DpAll K H5 ws ((rowItems t).map Th.toD) := DqAll.dp _ _ n4 (hw.same s05)
          have dC : Dp K H5 xv (rowRest t).toD := Dq.dp _ _ (Th.ok_tup (Th.term_ok rT)) (hxv.same s35)
          have dD : Dp K H5 y (rowRest t).toD := Dq.dp _ _ (Th.ok_tup (Th.term_ok rT)) (hyr.same s05)
          have gf5 := (s24.trans s_H5) _ _ gf
          refine ⟨.tuple [.list ((rowItems t).map Th.toD), (rowRest t).toD], .tuple [.list ((rowItems t).map Th.toD), (rowRest t).toD], .tup (SqT.of (s_H5 _ _ gp)) (.cons (.lst (SqL.of (s_H5 _ _ gl)) dA) (.cons dC .nil)), .tup (SqT.of g_H5) (.cons (.lst (SqL.of gf5) dB) (.cons dD .nil)), shp, shp, false, congrArg V.bl (shaped_refl shp), ?_⟩
          refine ⟨_, rfl, p, _, 0, .ref l, rfl, rfl, SqT.of (s_H5 _ _ gp), atI_nat (j := 0) rfl, _, .ty "list", _, .type "list", _, rfl, .ty _, kn_lst (s_H5 _ _ gl), kit_lst .lst, _, rfl, ?_⟩
          have lw2 : ws2.length < 1000000 := by
            have := hw2.length
            rw [List.length_map] at this
            omega
          refine ⟨_, rfl, p, _, 0, .ref l, rfl, rfl, SqT.of (s_H5 _ _ gp), atI_nat (j := 0) rfl, .inl ⟨rfl, _, SqL.of (s_H5 _ _ gl)⟩, l, _, _, rfl, rfl, s_H5 _ _ gl, sz_lt lw2, ?_⟩
          have s6 : Same H2 (upd H5 l (.lst (ws2 ++ [.str "a"]))) := same_mut (s24.trans s_H5) hl2
          generalize upd H5 l (.lst (ws2 ++ [.str "a"])) = H6 at s6 ⊢
          have s06 := s2.trans s6
          refine ⟨_, rfl, (by show 1 ≤ sizeLine; decide), fun l7 hl7 => ?_⟩
          have s_H7 : Same H6 (upd H6 l7 (.lst [x])) := same_upd hl7
          have g_H7 : (upd H6 l7 (.lst [x])) l7 = some (.lst [x]) := upd_same
          generalize upd H6 l7 (.lst [x]) = H7 at s_H7 g_H7 ⊢
          have s07 := s06.trans s_H7
          refine ⟨_, rfl, .inl ⟨l7, [x], true, [t], rfl, SqL.of g_H7, .cons (hd.same s07) .nil, (fun u hu => by rw [List.mem_singleton.mp hu]; exact hO), (by show 1 ≤ 5000; decide), (fun z hz => (hz.no (fun u hu => by rw [List.mem_singleton.mp hu]; exact hT)).elim), fun _ l8 ys H8 hl8 s8 g8 hY => ?_⟩⟩
          have ly : ys.length < 1000000 := by
            have := hY.length
            rw [List.length_map, List.length_map] at this
            rw [this]
            show 1 < 1000000
            decide
          refine ⟨_, rfl, .inl ⟨rfl, _, SqL.of g8⟩, l8, _, _, rfl, rfl, g8, sz_lt ly, ?_⟩
          exact ⟨_, _, _, rfl, same_mut (s6.trans (s_H7.trans s8)) ((s6.trans s_H7).free hl8)⟩
        · rintro σ H3 ⟨a, b, c, rfl, s3⟩
          have s03 := s2.trans s3
          refine ⟨_, rfl, _, rfl, 1, _, y, rfl, .inr (.inr (.inr (.inr (.inl ⟨.inl rfl, ws, rowItems t, rowRest t, ⟨f, true, rfl, SqL.of (s3 _ _ gf), hw.same s03, (fun u hu => (rG u hu).1), by omega⟩, (fun u hu => (rG u hu).2), (fun _ => hyr.same s03), (fun e => by cases e), rO, rT, fun H4 s4 => ?_⟩))))⟩
          have eR : rowSays (rowItems t) (rowRest t) = [.str "told", t.toD] := by
            have e3 : sumR (rowItems t) + (rowRest t).parts = t.parts := by
              rw [← rowOf_parts, row_again]
            unfold rowSays
            rw [e3, if_neg (by omega), row_again]
          rw [eR]
          refine ⟨_, rfl, (by show 2 ≤ sizeLine; decide), fun l5 hl5 => ?_⟩
          have s_H5 : Same H4 (upd H4 l5 (.lst [.str "told", x])) := same_upd hl5
          have g_H5 : (upd H4 l5 (.lst [.str "told", x])) l5 = some (.lst [.str "told", x]) := upd_same
          generalize upd H4 l5 (.lst [.str "told", x]) = H5 at s_H5 g_H5 ⊢
          have s05 := s03.trans (s4.trans s_H5)
          obtain ⟨w1, w2, w3⟩ := sm2 sO (smTerm hO hT).1
          refine ⟨l5, _, _, rfl, Dq.lst (SqL.of g_H5) (.cons (.str _) (.cons (hd.same s05) .nil)), w1, w2, w3, rfl, ?_⟩
          have fin := q H5 s05
          rw [← (decide_eq_true rfl : decide (V.str (PyData.shown (.list [.str "told", t.toD])) = V.str (PyData.shown (.list [.str "told", t.toD]))) = true)] at fin
          exact fin
end


theorem cut_take {xs : List V} {n : Nat} (h : n ≤ xs.length) : cutV xs none (some (n : Int)) = xs.take n := by
  unfold cutV
  rw [HT.sIx_none, HT.sIx_nat, Nat.min_eq_left h]
  simp
theorem cut_drop {xs : List V} {n : Nat} (h : n ≤ xs.length) : cutV xs (some (n : Int)) none = xs.drop n := by
  unfold cutV
  rw [HT.sIx_none, HT.sIx_nat, Nat.min_eq_left h]
  exact List.take_of_length_le (by rw [List.length_drop]; omega)
section
variable {P : Program} {w : World} {K : PySem.W.Frag} {mg : Str → Option Value} {base : Heap}
theorem sqL_off {H H' : Hp} {a p : Addr} {xs : List V} (n : a ≠ p) (o : Off p H H') (h : SqL K H a xs) : SqL K H' a xs := by
  rcases h with (h | ⟨ob, h⟩) | h
  · exact .inl (.inl (o _ _ n h))
  · exact .inl (.inr ⟨ob, o _ _ n h⟩)
  · exact .inr h
theorem DqAll.takeN {H : Hp} : ∀ (n : Nat) {vs : List V} {ds : List PyData}, DqAll K H vs ds → DqAll K H (vs.take n) (ds.take n)
  | 0, _, _, _ => .nil
  | _ + 1, _, _, .nil => .nil
  | n + 1, _, _, .cons h r => .cons h (DqAll.takeN n r)
theorem DqAll.dropN {H : Hp} : ∀ (n : Nat) {vs : List V} {ds : List PyData}, DqAll K H vs ds → DqAll K H (vs.drop n) (ds.drop n)
  | 0, _, _, h => h
  | _ + 1, _, _, .nil => .nil
  | n + 1, _, _, .cons _ r => DqAll.dropN n r
theorem DqAll.app5 {H : Hp} : ∀ {vs ws : List V} {ds es : List PyData}, DqAll K H vs ds → DqAll K H ws es → DqAll K H (vs ++ ws) (ds ++ es)
  | _, _, _, _, .nil, h => h
  | _, _, _, _, .cons a r, h => .cons a (r.app5 h)
theorem BadV.noT5 {H : Hp} {v : V} {p : Addr} (hp : Pu H p) (h : BadV K H v) : ∃ u, Dq K (hide H p) v u.toD ∧ NoT u := by
  obtain ⟨u, hu, un, uk, uf, ut, ub, ud⟩ := h
  refine ⟨u, Dq.off hp off_hide _ _ ut hu, ⟨un, uf⟩, ?_, by omega, by omega⟩
  show (u.okL && _) = false
  rw [uk]
  rfl
/-- a thing that is no row, of no great size -/
def NoRow (K : PySem.W.Frag) (H : Hp) (v : V) : Prop := ∃ d, Dq K H v d ∧ ((knD d).isLst || (knD d).isTup) = false ∧ Sm d
def sp_l_refused (K : PySem.W.Frag) : Sp := fun vs H Q _ => ∃ (p a : Addr) (xs : List V) (ts : List Th) (rv : V), vs = [.ref p, .ref a, rv] ∧ Pu H p ∧ a ≠ p ∧ SqL K H a xs ∧ DqAll K H xs (ts.map Th.toD) ∧ (∀ t ∈ ts, OkTh t ∧ t.isTerm = true) ∧ ts.length ≤ 8 ∧ ∀ H', Off p H H' → Pu H' p → Q (.bl true) H'
theorem ok_l_refused (T : Env K mg) : FnG P w K mg base CX0 108 T.a_l_refused T.d_l_refused ["_law_purse_here", "_law_items", "_law_last"] (sp_l_refused K) := by
  have G_l_take : FnOk P w K mg base CX0 107 T.a_l_take T.d_l_take ["_law_purse_here", "_law_many"] (sp_l_take K) := (ok_l_take T).mono (by decide)
  have G_l_said : FnG P w K mg base CX0 107 T.a_l_said T.d_l_said ["_law_way", "_law_thing", "_law_last"] (sp_l_said K) := ok_l_said T
  refine okG T.F_l_refused sc_l_refused (fun vs H Q E h => ?_) (fun cdv A outer s H vs Q E hr hgd h => ?_)
  · obtain ⟨p, a, xs, ts, rv, rfl, _⟩ := h
    rfl
  · obtain ⟨p, a, xs, ts, rv, rfl, hp, nap, hS, hX, hG, hL, q⟩ := h
    have hr_l_take := hr
    have hr_l_said := hr
    have hO : ∀ t ∈ ts, OkTh t := fun t ht => (hG t ht).1
    have hT : ∀ t ∈ ts, t.isTerm = true := fun t ht => (hG t ht).2
    have el : xs.length = ts.length := by
      rw [hX.length, List.length_map]
    obtain ⟨_, _, _, tup⟩ := terms_small ts hG
    have sT : Sm (.str "term") := smS _ (by decide +kernel) (by decide +kernel)
    refine ⟨_, (pss_cons (ps_set (i := 3) sc_l_refused.nd rfl (Or.inl rfl) (pe_lst (pa_cons pe_non (pa_cons pe_bl (pa_cons (pe_un un_neg pe_int) (pa_cons pe_str (pa_cons pe_str (pa_cons (pe_tup pa_nil) (pa_cons (pe_tup (pa_cons pe_str pa_nil)) (pa_cons (pe_tup (pa_cons pe_str (pa_cons pe_str (pa_cons pe_int pa_nil)))) (pa_cons (pe_lst (pa_cons pe_str (pa_cons pe_str pa_nil))) (pa_cons pe_dnewK (pa_cons (pe_tup (pa_cons pe_int (pa_cons pe_non pa_nil))) (pa_cons (pe_un un_neg pe_int) pa_nil))))))))))))))
      (pss_cons (ps_set (i := 4) sc_l_refused.nd rfl (Or.inl rfl) (pe_ix ix_list (pv 3) (pe_call G_l_take hr_l_take (by rfl) T.g_l_take T.F_l_take.kp T.b_l_take .nil pass0 (pa_cons (pv 0) (pa_cons pe_int pa_nil))) (fun _ _ => rfl)))
      (pss_cons (ps_set (i := 5) sc_l_refused.nd rfl (Or.inl rfl) (pe_ix ix_list (pv 3) (pe_call G_l_take hr_l_take (by rfl) T.g_l_take T.F_l_take.kp T.b_l_take .nil pass0 (pa_cons (pv 0) (pa_cons pe_int pa_nil))) (fun _ _ => rfl)))
      (pss_cons (ps_set (i := 6) sc_l_refused.nd rfl (Or.inl rfl) (pe_call G_l_take hr_l_take (by rfl) T.g_l_take T.F_l_take.kp T.b_l_take .nil pass0 (pa_cons (pv 0) (pa_cons (pe_op op_add (pe_callB call_len_seq (by rfl) T.m_len PySem.boot_len (pa_cons (pv 1) pa_nil)) pe_int) pa_nil))))
      (pss_cons (ps_set (i := 7) sc_l_refused.nd rfl (Or.inl rfl) (pe_op op_cat (pe_op op_cat (pe_op op_cat (pe_slice sl_list (pv 1) po_none (po_some (pv 6))) (pe_lst (pa_cons (pv 4) pa_nil))) (pe_slice sl_list (pv 1) (po_some (pv 6)) po_none)) (pe_lst (pa_cons (pv 5) pa_nil))))
      (pss_cons (ps_for PassesOwn.never (by rfl) (pi_range1 (by rfl) T.m_range (pa_cons pe_int pa_nil)) (pg_name (i := 8) sc_l_refused.nd rfl (Or.inl rfl)) (pss_one (ps_if (pt_cmpR op_ne (pe_callG G_l_said hr_l_said hgd (by rfl) T.g_l_said T.F_l_said.kp T.b_l_said pass0 (pa_cons (pv 8) (pa_cons (pv 7) (pa_cons (pv 5) pa_nil)))) (pe_callB (call_reprL hgd (un2 hr)) (by rfl) T.m_repr PyProof.Rows.boot_repr (pa_cons (pe_lst (pa_cons pe_str (pa_cons (pv 4) (pa_cons pe_bl pa_nil)))) pa_nil)) (nomark _)) (pss_one (ps_ret pe_bl)) pss_nil)))
      (pss_cons (ps_if (PW.pt (pw_or (pt_cmpR op_ne (pe_callG G_l_said hr_l_said hgd (by rfl) T.g_l_said T.F_l_said.kp T.b_l_said pass0 (pa_cons pe_int (pa_cons (pv 1) (pa_cons (pv 4) pa_nil)))) (pe_callB (call_reprL hgd (un2 hr)) (by rfl) T.m_repr PyProof.Rows.boot_repr (pa_cons (pe_lst (pa_cons pe_str (pa_cons (pv 4) (pa_cons pe_bl pa_nil)))) pa_nil)) (nomark _)) (pw_or1 (pt_cmpR op_ne (pe_callG G_l_said hr_l_said hgd (by rfl) T.g_l_said T.F_l_said.kp T.b_l_said pass0 (pa_cons pe_int (pa_cons (pv 4) (pa_cons pe_int pa_nil)))) (pe_callB (call_reprL hgd (un2 hr)) (by rfl) T.m_repr PyProof.Rows.boot_repr (pa_cons (pe_lst (pa_cons pe_str (pa_cons (pv 4) (pa_cons pe_bl pa_nil)))) pa_nil)) (nomark _))))) (pss_one (ps_ret pe_bl)) pss_nil)
      (pss_cons (ps_set (i := 9) sc_l_refused.nd rfl (Or.inl rfl) (pe_ix ix_list (pe_lst (pa_cons pe_non (pa_cons pe_str (pa_cons pe_int (pa_cons pe_dnewK (pa_cons pe_bl (pa_cons pe_str pa_nil))))))) (pe_call G_l_take hr_l_take (by rfl) T.g_l_take T.F_l_take.kp T.b_l_take .nil pass0 (pa_cons (pv 0) (pa_cons pe_int pa_nil))) (fun _ _ => rfl)))
      (pss_cons (ps_for PassesOwn.never (by rfl) (pi_range1 (by rfl) T.m_range (pa_cons pe_int pa_nil)) (pg_name (i := 8) sc_l_refused.nd rfl (Or.inl rfl)) (pss_one (ps_if (pt_cmpR op_ne (pe_callG G_l_said hr_l_said hgd (by rfl) T.g_l_said T.F_l_said.kp T.b_l_said pass0 (pa_cons (pv 8) (pa_cons (pv 9) (pa_cons (pv 5) pa_nil)))) (pe_callB (call_reprL hgd (un2 hr)) (by rfl) T.m_repr PyProof.Rows.boot_repr (pa_cons (pe_lst (pa_cons pe_str (pa_cons (pv 9) (pa_cons pe_bl pa_nil)))) pa_nil)) (nomark _)) (pss_one (ps_ret pe_bl)) pss_nil)))
      (pss_one (ps_ret pe_bl))))))))))), ?_⟩
    refine ⟨_, rfl, Nat.zero_le _, fun t1 ht1 => ?_⟩
    have s_J1 : Same H (upd H t1 (.tup [])) := same_upd ht1
    have g_J1 : (upd H t1 (.tup [])) t1 = some (.tup []) := upd_same
    generalize upd H t1 (.tup []) = J1 at s_J1 g_J1 ⊢
    refine ⟨(by show 1 ≤ sizeLine; decide), fun t2 ht2 => ?_⟩
    have s_J2 : Same J1 (upd J1 t2 (.tup [.str "x"])) := same_upd ht2
    have g_J2 : (upd J1 t2 (.tup [.str "x"])) t2 = some (.tup [.str "x"]) := upd_same
    generalize upd J1 t2 (.tup [.str "x"]) = J2 at s_J2 g_J2 ⊢
    refine ⟨(by show 3 ≤ sizeLine; decide), fun t3 ht3 => ?_⟩
    have s_J3 : Same J2 (upd J2 t3 (.tup [.str "a", .str "b", .int 1])) := same_upd ht3
    have g_J3 : (upd J2 t3 (.tup [.str "a", .str "b", .int 1])) t3 = some (.tup [.str "a", .str "b", .int 1]) := upd_same
    generalize upd J2 t3 (.tup [.str "a", .str "b", .int 1]) = J3 at s_J3 g_J3 ⊢
    refine ⟨(by show 2 ≤ sizeLine; decide), fun l1 hl1 => ?_⟩
    have s_J4 : Same J3 (upd J3 l1 (.lst [.str "a", .str "b"])) := same_upd hl1
    have g_J4 : (upd J3 l1 (.lst [.str "a", .str "b"])) l1 = some (.lst [.str "a", .str "b"]) := upd_same
    generalize upd J3 l1 (.lst [.str "a", .str "b"]) = J4 at s_J4 g_J4 ⊢
    intro d1 hd1
    have s_J5 : Same J4 (upd J4 d1 (.dK [])) := same_upd hd1
    have g_J5 : (upd J4 d1 (.dK [])) d1 = some (.dK []) := upd_same
    generalize upd J4 d1 (.dK []) = J5 at s_J5 g_J5 ⊢
    refine ⟨(by show 2 ≤ sizeLine; decide), fun t4 ht4 => ?_⟩
    have s_J6 : Same J5 (upd J5 t4 (.tup [.int 1, .non])) := same_upd ht4
    have g_J6 : (upd J5 t4 (.tup [.int 1, .non])) t4 = some (.tup [.int 1, .non]) := upd_same
    generalize upd J5 t4 (.tup [.int 1, .non]) = J6 at s_J6 g_J6 ⊢
    refine ⟨_, rfl, (by show 12 ≤ sizeLine; decide), fun L hL => ?_⟩
    have s_J7 : Same J6 (upd J6 L (.lst [.non, .bl true, .int (-1), .str "", .str "same", .ref t1, .ref t2, .ref t3, .ref l1, .ref d1, .ref t4, .int (-7)])) := same_upd hL
    have g_J7 : (upd J6 L (.lst [.non, .bl true, .int (-1), .str "", .str "same", .ref t1, .ref t2, .ref t3, .ref l1, .ref d1, .ref t4, .int (-7)])) L = some (.lst [.non, .bl true, .int (-1), .str "", .str "same", .ref t1, .ref t2, .ref t3, .ref l1, .ref d1, .ref t4, .int (-7)]) := upd_same
    generalize upd J6 L (.lst [.non, .bl true, .int (-1), .str "", .str "same", .ref t1, .ref t2, .ref t3, .ref l1, .ref d1, .ref t4, .int (-7)]) = J7 at s_J7 g_J7 ⊢
    have c6 := s_J7
    have c5 := s_J6.trans c6
    have c4 := s_J5.trans c5
    have c3 := s_J4.trans c4
    have c2 := s_J3.trans c3
    have c1 := s_J2.trans c2
    have c0 := s_J1.trans c1
    have bad : ∀ v ∈ [V.non, .bl true, .int (-1), .str "", .str "same", .ref t1, .ref t2, .ref t3, .ref l1, .ref d1, .ref t4, .int (-7)], BadV K J7 v := by
      intro v hv
      simp only [List.mem_cons, List.not_mem_nil, or_false] at hv
      rcases hv with rfl | rfl | rfl | rfl | rfl | rfl | rfl | rfl | rfl | rfl | rfl | rfl
      · exact badLf _ .non rfl rfl rfl rfl (by decide) (by decide)
      · exact badLf _ (.bl _) rfl rfl rfl rfl (by decide) (by decide)
      · exact badLf _ (.int _) rfl (by decide) (fine_int (by decide)) rfl (by decide) (by decide)
      · exact badLf _ (.str _) rfl (by decide +kernel) (by decide +kernel) rfl (by decide +kernel) (by decide)
      · exact badLf _ (.str _) rfl (by decide +kernel) (by decide +kernel) rfl (by decide +kernel) (by decide)
      · exact badLf _ (.tup (SqT.of (c1 _ _ g_J1)) .nil) rfl rfl rfl rfl (by decide) (by decide)
      · exact badLf _ (.tup (SqT.of (c2 _ _ g_J2)) (.cons (.str _) .nil)) rfl (by decide +kernel) (by decide +kernel) rfl (by decide +kernel) (by decide)
      · exact badLf _ (.tup (SqT.of (c3 _ _ g_J3)) (.cons (.str _) (.cons (.str _) (.cons (.int _) .nil)))) rfl (by decide +kernel) (by decide +kernel) rfl (by decide +kernel) (by decide)
      · exact badLf _ (.lst (SqL.of (c4 _ _ g_J4)) (.cons (.str _) (.cons (.str _) .nil))) rfl (by decide +kernel) (by decide +kernel) rfl (by decide +kernel) (by decide)
      · exact badLf _ (.dct (c5 _ _ g_J5)) rfl rfl rfl rfl (by decide) (by decide)
      · exact badPr _ _ (.tup (SqT.of (c6 _ _ g_J6)) (.cons (.int _) (.cons .non .nil))) rfl rfl (by decide +kernel) (by decide +kernel) rfl (by decide +kernel) (by decide)
      · exact badLf _ (.int _) rfl (by decide) (fine_int (by decide)) rfl (by decide) (by decide)
    have p6 : Pu J6 p := hp.same (s_J1.trans (s_J2.trans (s_J3.trans (s_J4.trans (s_J5.trans s_J6)))))
    have p7 : Pu J7 p := p6.same s_J7
    have nL : L ≠ p := p6.nne hL
    generalize hbs : [V.non, .bl true, .int (-1), .str "", .str "same", .ref t1, .ref t2, .ref t3, .ref l1, .ref d1, .ref t4, .int (-7)] = bs at bad g_J7
    have blen : bs.length = 12 := by
      rw [← hbs]
      rfl
    refine ⟨_, rfl, _, rfl, p, 12, rfl, p7, by decide, lt9000 (by decide), fun r1 H1 r10 r11 o1 p1 => ?_⟩
    obtain ⟨v1, hL1, hy1, hm1⟩ := lst_at (o1 L _ nL g_J7) r10 (by rw [blen]; exact r11)
    obtain ⟨u1, hu1, nu1⟩ := (bad v1 hm1).noT5 p7
    refine ⟨L, _, r1, v1, rfl, rfl, SqL.of hL1, hy1, ?_⟩
    refine ⟨_, rfl, _, rfl, p, 12, rfl, p1, by decide, lt9000 (by decide), fun r2 H2 r20 r21 o2 p2 => ?_⟩
    obtain ⟨v2, hL2, hy2, hm2⟩ := lst_at (o2 L _ nL hL1) r20 (by rw [blen]; exact r21)
    obtain ⟨u2, hu2, nu2⟩ := (bad v2 hm2).noT5 p7
    refine ⟨L, _, r2, v2, rfl, rfl, SqL.of hL2, hy2, ?_⟩
    have o72 : Off p J7 H2 := o1.trans o2
    have o02 : Off p H H2 := (Off.of c0).trans o72
    have hS2 : SqL K H2 a xs := sqL_off nap o02 hS
    have t02 : Tups K H H2 := hp.tups o02
    refine ⟨_, rfl, _, rfl, a, _, rfl, .inl hS2, _, _, rfl, rfl, p, _, rfl, p2, by omega, lt9000 (Nat.lt_of_le_of_lt (m := 100) (by omega) (by decide)), fun at_ H3 at0 at1 o3 p3 => ?_⟩
    obtain ⟨n, rfl⟩ : ∃ n : Nat, at_ = (n : Int) := ⟨at_.toNat, by omega⟩
    have hn : n ≤ xs.length := by omega
    have o73 := o72.trans o3
    have o03 := o02.trans o3
    have hS3 : SqL K H3 a xs := sqL_off nap o3 hS2
    have hX3 : DqAll K H3 xs (ts.map Th.toD) := DqAll.tups (hp.tups o03) _ _ tup hX
    have hv1 : Dq K H3 v1 u1.toD := (hu1.same (hide_off o73)).same (hide_sub H3 p)
    have hv2 : Dq K H3 v2 u2.toD := (hu2.same (hide_off o73)).same (hide_sub H3 p)
    refine ⟨_, rfl, _, rfl, _, rfl, a, _, rfl, hS3, fun a1 ha1 => ?_⟩
    rw [cut_take hn]
    have s_B1 : Same H3 (upd H3 a1 (.lst (xs.take n))) := same_upd ha1
    have g_B1 : (upd H3 a1 (.lst (xs.take n))) a1 = some (.lst (xs.take n)) := upd_same
    generalize upd H3 a1 (.lst (xs.take n)) = B1 at s_B1 g_B1 ⊢
    refine ⟨_, rfl, (by show 1 ≤ sizeLine; decide), fun a2 ha2 => ?_⟩
    have s_B2 : Same B1 (upd B1 a2 (.lst [v1])) := same_upd ha2
    have g_B2 : (upd B1 a2 (.lst [v1])) a2 = some (.lst [v1]) := upd_same
    generalize upd B1 a2 (.lst [v1]) = B2 at s_B2 g_B2 ⊢
    have ltk : (xs.take n).length ≤ 8 := by
      rw [List.length_take]
      omega
    have ldr : (xs.drop n).length ≤ 8 := by
      rw [List.length_drop]
      omega
    refine ⟨a1, a2, _, _, rfl, rfl, s_B2 _ _ g_B1, g_B2, sz_le (by show _ + 1 ≤ 1000000; omega), fun a3 ha3 => ?_⟩
    have s_B3 : Same B2 (upd B2 a3 (.lst (xs.take n ++ [v1]))) := same_upd ha3
    have g_B3 : (upd B2 a3 (.lst (xs.take n ++ [v1]))) a3 = some (.lst (xs.take n ++ [v1])) := upd_same
    generalize upd B2 a3 (.lst (xs.take n ++ [v1])) = B3 at s_B3 g_B3 ⊢
    have b03 := s_B1.trans (s_B2.trans s_B3)
    refine ⟨_, rfl, _, rfl, _, rfl, a, _, rfl, b03.seq hS3, fun a4 ha4 => ?_⟩
    rw [cut_drop hn]
    have s_B4 : Same B3 (upd B3 a4 (.lst (xs.drop n))) := same_upd ha4
    have g_B4 : (upd B3 a4 (.lst (xs.drop n))) a4 = some (.lst (xs.drop n)) := upd_same
    generalize upd B3 a4 (.lst (xs.drop n)) = B4 at s_B4 g_B4 ⊢
    refine ⟨a3, a4, _, _, rfl, rfl, s_B4 _ _ g_B3, g_B4, ?_, fun a5 ha5 => ?_⟩
    · rw [List.length_append]
      exact sz_le (by show _ + 1 + _ ≤ 1000000; omega)
    have s_B5 : Same B4 (upd B4 a5 (.lst (xs.take n ++ [v1] ++ xs.drop n))) := same_upd ha5
    have g_B5 : (upd B4 a5 (.lst (xs.take n ++ [v1] ++ xs.drop n))) a5 = some (.lst (xs.take n ++ [v1] ++ xs.drop n)) := upd_same
    generalize upd B4 a5 (.lst (xs.take n ++ [v1] ++ xs.drop n)) = B5 at s_B5 g_B5 ⊢
    refine ⟨_, rfl, (by show 1 ≤ sizeLine; decide), fun a6 ha6 => ?_⟩
    have s_B6 : Same B5 (upd B5 a6 (.lst [v2])) := same_upd ha6
    have g_B6 : (upd B5 a6 (.lst [v2])) a6 = some (.lst [v2]) := upd_same
    generalize upd B5 a6 (.lst [v2]) = B6 at s_B6 g_B6 ⊢
    refine ⟨a5, a6, _, _, rfl, rfl, s_B6 _ _ g_B5, g_B6, ?_, fun a7 ha7 => ?_⟩
    · rw [List.length_append, List.length_append]
      exact sz_le (by show _ + 1 + _ + 1 ≤ 1000000; omega)
    have s_B7 : Same B6 (upd B6 a7 (.lst (xs.take n ++ [v1] ++ xs.drop n ++ [v2]))) := same_upd ha7
    have g_B7 : (upd B6 a7 (.lst (xs.take n ++ [v1] ++ xs.drop n ++ [v2]))) a7 = some (.lst (xs.take n ++ [v1] ++ xs.drop n ++ [v2])) := upd_same
    generalize upd B6 a7 (.lst (xs.take n ++ [v1] ++ xs.drop n ++ [v2])) = B7 at s_B7 g_B7 ⊢
    have b37 : Same H3 B7 := b03.trans (s_B4.trans (s_B5.trans (s_B6.trans s_B7)))
    have hXX : DqAll K H3 (xs.take n ++ [v1] ++ xs.drop n ++ [v2]) ((ts.take n ++ [u1] ++ ts.drop n ++ [u2]).map Th.toD) := by
      rw [List.map_append, List.map_append, List.map_append, List.map_take, List.map_drop]
      exact (((hX3.takeN n).app5 (.cons hv1 .nil)).app5 (hX3.dropN n)).app5 (.cons hv2 .nil)
    have oXX : ∀ t ∈ ts.take n ++ [u1] ++ ts.drop n ++ [u2], OkTh t := fun t ht => by
      simp only [List.mem_append, List.mem_singleton] at ht
      rcases ht with ((ht | rfl) | ht) | rfl
      · exact hO t (List.mem_of_mem_take ht)
      · exact nu1.1
      · exact hO t (List.mem_of_mem_drop ht)
      · exact nu2.1
    have lXX : (ts.take n ++ [u1] ++ ts.drop n ++ [u2]).length ≤ 5000 := by
      simp only [List.length_append, List.length_take, List.length_drop, List.length_singleton]
      omega
    have fb : FirstBad (xs.take n ++ [v1] ++ xs.drop n ++ [v2]) (ts.take n ++ [u1] ++ ts.drop n ++ [u2]) v1 := by
      have hnt : n ≤ ts.length := by omega
      refine ⟨n, u1, ?_, ?_, nu1.2.1, fun u hu => ?_⟩
      · have e1 : (xs.take n).length = n := by
          rw [List.length_take]
          omega
        rw [List.append_assoc, List.append_assoc, List.getElem?_append_right (by omega), e1, Nat.sub_self]
        rfl
      · have e1 : (ts.take n).length = n := by
          rw [List.length_take]
          omega
        rw [List.append_assoc, List.append_assoc, List.getElem?_append_right (by omega), e1, Nat.sub_self]
        rfl
      · have e1 : (ts.take n).length = n := by
          rw [List.length_take]
          omega
        rw [List.append_assoc, List.append_assoc, List.take_append_of_le_length (by omega), List.take_take, Nat.min_self] at hu
        exact hT u (List.mem_of_mem_take hu)
    have o37 : Off p H B7 := o03.trans (Off.of b37)
    have p37 : Pu B7 p := p3.same b37
    -- the first two ways
    refine ⟨2, rfl, by decide, by decide, for_range (fun i σ H' => ∃ y, σ = [some (.ref p), some (.ref a), some rv, some (.ref L), some v1, some v2, some (.int n), some (.ref a7), y, none] ∧ Same B7 H') ⟨none, rfl, Same.refl B7⟩ ?_ ?_⟩
    · rintro i σ H4 hi ⟨y, rfl, s4⟩
      have s34 := b37.trans s4
      refine ⟨_, rfl, _, rfl, _, rfl, _, _, v2, rfl, .inr (.inl ⟨?_, _, _, v1, u1, u2, ⟨a7, true, rfl, SqL.of (s4 _ _ g_B7), hXX.same s34, oXX, lXX⟩, fb, hv1.same s34, nu1.sm, hv2.same s34, nu2.1, fun H5 s5 => ?_⟩)⟩
      · omega
      · refine ⟨_, rfl, (by show 3 ≤ sizeLine; decide), fun l6 hl6 => ?_⟩
        have s_H6 : Same H5 (upd H5 l6 (.lst [.str "term", v1, .bl false])) := same_upd hl6
        have g_H6 : (upd H5 l6 (.lst [.str "term", v1, .bl false])) l6 = some (.lst [.str "term", v1, .bl false]) := upd_same
        generalize upd H5 l6 (.lst [.str "term", v1, .bl false]) = H6 at s_H6 g_H6 ⊢
        have s36 := s34.trans (s5.trans s_H6)
        obtain ⟨w1, w2, w3⟩ := sm3 sT nu1.sm (Sm.bool false)
        refine ⟨l6, _, _, rfl, Dq.lst (SqL.of g_H6) (.cons (.str _) (.cons (hv1.same s36) (.cons (.bl _) .nil))), w1, w2, w3, rfl, false, congrArg V.bl (congrArg Bool.not (decide_eq_true rfl)), ?_⟩
        exact ⟨_, rfl, s4.trans (s5.trans s_H6)⟩
    · rintro σ H4 ⟨y, rfl, s4⟩
      have s34 := b37.trans s4
      refine ⟨_, rfl, _, rfl, 1, _, v1, rfl, .inr (.inr (.inl ⟨rfl, xs, ts, u1, ⟨a, true, rfl, s34.seq hS3, hX3.same s34, hO, by omega⟩, hT, hv1.same s34, nu1.1, nu1.2.1, nu1.sm, fun H5 s5 => ?_⟩))⟩
      refine ⟨_, rfl, (by show 3 ≤ sizeLine; decide), fun l6 hl6 => ?_⟩
      have s_H6 : Same H5 (upd H5 l6 (.lst [.str "term", v1, .bl false])) := same_upd hl6
      have g_H6 : (upd H5 l6 (.lst [.str "term", v1, .bl false])) l6 = some (.lst [.str "term", v1, .bl false]) := upd_same
      generalize upd H5 l6 (.lst [.str "term", v1, .bl false]) = H6 at s_H6 g_H6 ⊢
      have s36 := s34.trans (s5.trans s_H6)
      obtain ⟨w1, w2, w3⟩ := sm3 sT nu1.sm (Sm.bool false)
      refine ⟨l6, _, _, rfl, Dq.lst (SqL.of g_H6) (.cons (.str _) (.cons (hv1.same s36) (.cons (.bl _) .nil))), w1, w2, w3, rfl, false, congrArg V.bl (congrArg Bool.not (decide_eq_true rfl)), ?_⟩
      refine ⟨_, rfl, 3, v1, .int 0, rfl, .inr (.inr (.inr (.inr (.inr ⟨rfl, u1, hv1.same s36, nu1, fun H7 s7 => ?_⟩))))⟩
      refine ⟨_, rfl, (by show 3 ≤ sizeLine; decide), fun l8 hl8 => ?_⟩
      have s_H8 : Same H7 (upd H7 l8 (.lst [.str "term", v1, .bl false])) := same_upd hl8
      have g_H8 : (upd H7 l8 (.lst [.str "term", v1, .bl false])) l8 = some (.lst [.str "term", v1, .bl false]) := upd_same
      generalize upd H7 l8 (.lst [.str "term", v1, .bl false]) = H8 at s_H8 g_H8 ⊢
      have s38 := s36.trans (s7.trans s_H8)
      refine ⟨l8, _, _, rfl, Dq.lst (SqL.of g_H8) (.cons (.str _) (.cons (hv1.same s38) (.cons (.bl _) .nil))), w1, w2, w3, rfl, false, congrArg V.bl (congrArg Bool.not (decide_eq_true rfl)), ?_⟩
      -- things that are no rows
      have p38 : Pu H8 p := p3.same s38
      intro d2 hd2
      have nd2 : d2 ≠ p := p38.nne hd2
      have s_H9 : Same H8 (upd H8 d2 (.dK [])) := same_upd hd2
      have g_H9 : (upd H8 d2 (.dK [])) d2 = some (.dK []) := upd_same
      generalize upd H8 d2 (.dK []) = H9 at s_H9 g_H9 ⊢
      refine ⟨(by show 6 ≤ sizeLine; decide), fun l10 hl10 => ?_⟩
      have p9 : Pu H9 p := p38.same s_H9
      have n10 : l10 ≠ p := p9.nne hl10
      have s_H10 : Same H9 (upd H9 l10 (.lst [.non, .str "a", .int 3, .ref d2, .bl true, .str "nil"])) := same_upd hl10
      have g_H10 : (upd H9 l10 (.lst [.non, .str "a", .int 3, .ref d2, .bl true, .str "nil"])) l10 = some (.lst [.non, .str "a", .int 3, .ref d2, .bl true, .str "nil"]) := upd_same
      generalize upd H9 l10 (.lst [.non, .str "a", .int 3, .ref d2, .bl true, .str "nil"]) = H10 at s_H10 g_H10 ⊢
      have p10 : Pu H10 p := p9.same s_H10
      have nor : ∀ v ∈ [V.non, .str "a", .int 3, .ref d2, .bl true, .str "nil"], NoRow K (hide H10 p) v := by
        intro v hv
        simp only [List.mem_cons, List.not_mem_nil, or_false] at hv
        rcases hv with rfl | rfl | rfl | rfl | rfl | rfl
        · exact ⟨_, .non, rfl, rfl, by decide, by decide⟩
        · exact ⟨_, .str _, rfl, smS _ (by decide +kernel) (by decide +kernel)⟩
        · exact ⟨_, .int _, rfl, Sm.int (by decide)⟩
        · exact ⟨_, .dct (hide_get nd2 (s_H10 _ _ g_H9)), rfl, rfl, by decide, by decide⟩
        · exact ⟨_, .bl _, rfl, Sm.bool _⟩
        · exact ⟨_, .str _, rfl, smS _ (by decide +kernel) (by decide +kernel)⟩
      refine ⟨_, rfl, p, 6, rfl, p10, by decide, lt9000 (by decide), fun r3 H11 r30 r31 o11 p11 => ?_⟩
      obtain ⟨v3, hL11, hy3, hm3⟩ := lst_at (o11 l10 _ n10 g_H10) r30 r31
      obtain ⟨d3, hd3, kd3, sd3⟩ := nor v3 hm3
      refine ⟨l10, _, r3, v3, rfl, rfl, SqL.of hL11, hy3, ?_⟩
      have hd11 : Dq K H11 v3 d3 := (hd3.same (hide_off o11)).same (hide_sub H11 p)
      have o0 : Off p H H11 := (o03.trans (Off.of (s38.trans (s_H9.trans s_H10)))).trans o11
      refine ⟨3, rfl, by decide, by decide, for_range (fun i σ H' => ∃ y, σ = [some (.ref p), some (.ref a), some rv, some (.ref L), some v1, some v2, some (.int n), some (.ref a7), y, some v3] ∧ Same H11 H') ⟨_, rfl, Same.refl H11⟩ ?_ ?_⟩
      · rintro i σ H12 hi ⟨y, rfl, s12⟩
        refine ⟨_, rfl, _, rfl, _, rfl, _, v3, v2, rfl, .inl ⟨?_, d3, hd11.same s12, kd3, sd3, fun H13 s13 => ?_⟩⟩
        · omega
        · refine ⟨_, rfl, (by show 3 ≤ sizeLine; decide), fun l14 hl14 => ?_⟩
          have s_H14 : Same H13 (upd H13 l14 (.lst [.str "term", v3, .bl false])) := same_upd hl14
          have g_H14 : (upd H13 l14 (.lst [.str "term", v3, .bl false])) l14 = some (.lst [.str "term", v3, .bl false]) := upd_same
          generalize upd H13 l14 (.lst [.str "term", v3, .bl false]) = H14 at s_H14 g_H14 ⊢
          have s14 := s12.trans (s13.trans s_H14)
          obtain ⟨w1, w2, w3⟩ := sm3 sT sd3 (Sm.bool false)
          refine ⟨l14, _, _, rfl, Dq.lst (SqL.of g_H14) (.cons (.str _) (.cons (hd11.same s14) (.cons (.bl _) .nil))), w1, w2, w3, rfl, false, congrArg V.bl (congrArg Bool.not (decide_eq_true rfl)), ?_⟩
          exact ⟨_, rfl, s14⟩
      · rintro σ H12 ⟨y, rfl, s12⟩
        exact q H12 (o0.trans (Off.of s12)) (p11.same s12)
end


/-! ### two thousand terms -/
def unkTh (c : Int) (k : Nat) : Th := .lf (.tuple [.int (c * k)])
def manyTs (c : Int) : List Th := (List.range 1000).map (unkTh c) ++ List.replicate 1000 (.lf (.str "a"))
theorem unk_in {i : Int} (h0 : 0 ≤ i) (h1 : i ≤ 999999999) : unkNum (.tuple [.int i]) = some i := by
  show (if withinD (.int i) 0 999999999 then some i else none) = some i
  refine if_pos ?_
  show (decide (0 ≤ i) && decide (i ≤ 999999999)) = true
  rw [decide_eq_true h0, decide_eq_true h1]
  rfl
theorem gone_range (n : Nat) (hn : n ≤ 1000) : goneAll [] ((List.range n).map (unkTh 3)) = (List.range n).map fun k : Nat => 3 * (k : Int) := by
  induction n with
  | zero => rfl
  | succ n ih =>
    rw [List.range_succ, List.map_append, List.map_append, List.map_singleton, List.map_singleton, goneAll_snoc, ih (by omega)]
    unfold unkTh
    rw [Th.gone_lf, stepU_some (u := .lf (.tuple [.int (3 * (n : Int))])) (unk_in (by omega) (by omega))]
    unfold addU
    rw [if_neg]
    intro h
    obtain ⟨k, hk, e⟩ := List.mem_map.mp h
    rw [List.mem_range] at hk
    omega
theorem gone_names : ∀ (n : Nat) (us : List Int), goneAll us (List.replicate n (.lf (.str "a"))) = us
  | 0, _ => rfl
  | n + 1, us => by
    show goneAll us (List.replicate n (.lf (.str "a"))) = us
    exact gone_names n us
theorem gone_many : goneAll [] (manyTs 3) = (List.range 1000).map fun k : Nat => 3 * (k : Int) := by
  have e : goneAll [] (manyTs 3) = goneAll (goneAll [] ((List.range 1000).map (unkTh 3))) (List.replicate 1000 (.lf (.str "a"))) := by
    unfold goneAll manyTs
    rw [List.foldl_append]
  rw [e, gone_names, gone_range _ (Nat.le_refl _)]
theorem ren_many : (manyTs 3).map (Th.ren (goneAll [] (manyTs 3))) = manyTs 1 := by
  rw [gone_many]
  unfold manyTs
  rw [List.map_append, List.map_map, List.map_replicate]
  have h1 : (List.range 1000).map (Th.ren ((List.range 1000).map fun k : Nat => 3 * (k : Int)) ∘ unkTh 3) = (List.range 1000).map (unkTh 1) := by
    refine List.map_congr_left fun k hk => ?_
    rw [List.mem_range] at hk
    have hm : 3 * (k : Int) ∈ (List.range 1000).map fun k : Nat => 3 * (k : Int) := List.mem_map.mpr ⟨k, List.mem_range.mpr hk, rfl⟩
    have hi : idxI ((List.range 1000).map fun k : Nat => 3 * (k : Int)) (3 * (k : Int)) = k := by
      unfold idxI
      have nd : ((List.range 1000).map fun k : Nat => 3 * (k : Int)).Nodup := by
        refine List.Pairwise.map _ ?_ List.nodup_range
        intro a b hab e
        exact hab (by omega)
      have g : ((List.range 1000).map fun k : Nat => 3 * (k : Int))[k]'(by rw [List.length_map, List.length_range]; exact hk) = 3 * (k : Int) := by
        rw [List.getElem_map, List.getElem_range]
      rw [← g]
      exact nd.idxOf_getElem k _
    show (unkTh 3 k).ren _ = unkTh 1 k
    unfold unkTh
    rw [Th.ren_some (i := 3 * (k : Int)) (unk_in (by omega) (by omega)) hm, hi, Int.one_mul]
  rw [h1]
  rfl
theorem many_ok {c : Int} (h0 : 0 ≤ c) (h3 : c ≤ 3) : ∀ t ∈ manyTs c, OkTh t ∧ t.isTerm = true := by
  intro t ht
  unfold manyTs at ht
  rcases List.mem_append.mp ht with ht | ht
  · obtain ⟨k, hk, rfl⟩ := List.mem_map.mp ht
    rw [List.mem_range] at hk
    have hc : c * k ≤ 3 * k := Int.mul_le_mul_of_nonneg_right h3 (by omega)
    have hz : 0 ≤ c * k := Int.mul_nonneg h0 (by omega)
    obtain ⟨k1, k2⟩ := single_unk (i := c * (k : Int)) hz (by omega)
    refine ⟨⟨rfl, k2⟩, ?_⟩
    show ((unkTh c k).okL && decide ((unkTh c k).parts ≤ 100)) = true
    rw [show (unkTh c k).okL = true from k1]
    rfl
  · rw [(List.mem_replicate.mp ht).2]
    exact ⟨⟨rfl, by decide +kernel⟩, by decide +kernel⟩
theorem sum_const : ∀ ts : List Th, (∀ t ∈ ts, t.parts = 1) → sumR ts = 2 * ts.length
  | [], _ => rfl
  | t :: r, h => by
    have e := sum_const r fun u hu => h u (List.mem_cons_of_mem _ hu)
    have e1 := h t List.mem_cons_self
    show (1 + t.parts) + sumR r = 2 * (r.length + 1)
    omega
theorem many_sum (c : Int) : sumR (manyTs c) = 4000 := by
  rw [sum_const]
  · unfold manyTs
    rw [List.length_append, List.length_map, List.length_range, List.length_replicate]
  · intro t ht
    unfold manyTs at ht
    rcases List.mem_append.mp ht with ht | ht
    · obtain ⟨k, _, rfl⟩ := List.mem_map.mp ht
      rfl
    · rw [(List.mem_replicate.mp ht).2]
      rfl
section
variable {P : Program} {w : World} {K : PySem.W.Frag} {mg : Str → Option Value} {base : Heap}
theorem rep_flat {n : Nat} {x : V} : (List.replicate n [x]).flatten = List.replicate n x := by
  induction n with
  | zero => rfl
  | succ n ih =>
    rw [List.replicate_succ, List.flatten_cons, ih]
    rfl
theorem DqAll.rep {H : Hp} {x : V} {d : PyData} (h : Dq K H x d) : ∀ n : Nat, DqAll K H (List.replicate n x) (List.replicate n d)
  | 0 => .nil
  | n + 1 => .cons h (DqAll.rep h n)
def sp_l_great_right : Sp := fun vs H Q _ => vs = [] ∧ ∀ H', Same H H' → Q (.bl true) H'
theorem many_toD (c : Int) : (manyTs c).map Th.toD = ((List.range 1000).map fun k : Nat => PyData.tuple [.int (c * k)]) ++ List.replicate 1000 (.str "a") := by
  unfold manyTs
  rw [List.map_append, List.map_map, List.map_replicate]
  rfl
theorem ok_l_great_right (T : Env K mg) : FnG P w K mg base CX0 108 T.a_l_great_right T.d_l_great_right [] sp_l_great_right := by
  have G_l_said : FnG P w K mg base CX0 107 T.a_l_said T.d_l_said ["_law_way", "_law_thing", "_law_last"] (sp_l_said K) := ok_l_said T
  have G_by_coming : FnOk P w K mg base CX0 107 T.a_by_coming T.d_by_coming ["terms"] (calm (sp_by_coming K T.a_NoTerm)) := (calm_ok (ok_by_coming T)).mono (by decide)
  have G_listed : FnOk P w K mg base CX0 107 T.a_listed T.d_listed ["items", "rest"] (calm (sp_listed K T.a_NoTerm T.a_TooGreat)) := (calm_ok (ok_listed T)).mono (by decide)
  refine okG T.F_l_great_right sc_l_great_right (fun vs H Q E h => ?_) (fun cdv A outer s H vs Q E hr hgd h => ?_)
  · obtain ⟨rfl, _⟩ := h
    rfl
  · obtain ⟨rfl, q⟩ := h
    have hr_l_said := hr
    have hr_by_coming := hr
    have hr_listed := hr
    have many3 := many_ok (c := 3) (by decide) (by decide)
    have many1 := many_ok (c := 1) (by decide) (by decide)
    refine ⟨_, (pss_cons (ps_set (i := 0) sc_l_great_right.nd rfl (Or.inl rfl) (pe_op op_cat (pe_lc (own := [("_law_k", 1)]) (g := gName 1) (tt := tYes) (by rfl) sc_l_great_right.nd (pi_range1 (by rfl) T.m_range (pa_cons pe_int pa_nil)) (blkOk_by (own := [("_law_k", 1)]) (N := ["_law_many", "_law_k"]) (sc := defScope s_l_great_right) (by decide +kernel)) (fun _ _ _ _ _ => (pg_name (i := 1) sc_l_great_right.nd rfl (Or.inl rfl))) (fun _ _ _ _ _ => pts_nil) (fun _ _ _ _ _ => (pe_tup (pa_cons (pe_op op_mul pe_int (pv 1)) pa_nil)))) (pe_op op_rep (pe_lst (pa_cons pe_str pa_nil)) pe_int)))
      (pss_cons (ps_if (pt_cmpR (op_neD hr.units) (pe_call G_by_coming hr_by_coming (by rfl) T.g_by_coming T.F_by_coming.kp T.b_by_coming .nil pass0 (pa_cons (pv 0) pa_nil)) (pe_op op_cat (pe_lc (own := [("_law_k", 1)]) (g := gName 1) (tt := tYes) (by rfl) sc_l_great_right.nd (pi_range1 (by rfl) T.m_range (pa_cons pe_int pa_nil)) (blkOk_by (own := [("_law_k", 1)]) (N := ["_law_many", "_law_k"]) (sc := defScope s_l_great_right) (by decide +kernel)) (fun _ _ _ _ _ => (pg_name (i := 1) sc_l_great_right.nd rfl (Or.inl rfl))) (fun _ _ _ _ _ => pts_nil) (fun _ _ _ _ _ => (pe_tup (pa_cons (pv 1) pa_nil)))) (pe_op op_rep (pe_lst (pa_cons pe_str pa_nil)) pe_int)) (nomark _)) (pss_one (ps_ret pe_bl)) pss_nil)
      (pss_cons (ps_if (pt_cmpR op_ne (pe_callG G_l_said hr_l_said hgd (by rfl) T.g_l_said T.F_l_said.kp T.b_l_said pass0 (pa_cons pe_int (pa_cons (pv 0) (pa_cons pe_non pa_nil)))) (pe_callB (call_reprL hgd (un2 hr)) (by rfl) T.m_repr PyProof.Rows.boot_repr (pa_cons (pe_lst (pa_cons pe_str (pa_cons pe_int (pa_cons pe_bl pa_nil)))) pa_nil)) (nomark _)) (pss_one (ps_ret pe_bl)) pss_nil)
      (pss_one (ps_ret (pe_and (pe_cmpR (op_eqD hr.units) (pe_callN G_listed hr_listed (by rfl) T.g_listed T.F_listed.kp T.kb_listed pass0 (pa_cons (pe_lst (pa_cons pe_str (pa_cons pe_int pa_nil))) pa_nil) (pk_cons (pe_tup (pa_cons pe_int pa_nil)) pk_nil)) (pe_tup (pa_cons pe_str (pa_cons (pe_tup (pa_cons pe_int (pa_cons (pe_tup (pa_cons pe_int pa_nil)) pa_nil))) pa_nil))) (nomark _)) (pe_one (pe_cmpR (op_eqD hr.units) (pe_callN G_listed hr_listed (by rfl) T.g_listed T.F_listed.kp T.kb_listed pass0 (pa_cons (pe_lst pa_nil) pa_nil) (pk_cons pe_str pk_nil)) pe_str (nomark _))))))))), ?_⟩
    refine ⟨1000, rfl, by decide, by decide, fun D1 hD1 => lc_range (fun i H' => Same H H' ∧ ∃ ys, H' D1 = some (.lst ys) ∧ ys.length = i ∧ DqAll K H' ys ((List.range i).map fun k : Nat => PyData.tuple [.int (3 * (k : Int))])) ⟨same_upd hD1, [], upd_same, rfl, .nil⟩ ?_ ?_⟩
    · rintro i H1 hi ⟨s1, ys, g1, l1, hy⟩
      refine ⟨rfl, ?_⟩
      refine ⟨_, rfl, _, _, rfl, rfl, .inl (by decide), (by show 1 ≤ sizeLine; decide), fun a2 ha2 => ?_⟩
      have s_H2 : Same H1 (upd H1 a2 (.tup [.int (3 * (0 + (i : Int)))])) := same_upd ha2
      have g_H2 : (upd H1 a2 (.tup [.int (3 * (0 + (i : Int)))])) a2 = some (.tup [.int (3 * (0 + (i : Int)))]) := upd_same
      generalize upd H1 a2 (.tup [.int (3 * (0 + (i : Int)))]) = H2 at s_H2 g_H2 ⊢
      have hi' : i < 1000 := hi
      refine ⟨ys, s_H2 _ _ g1, sz_lt (by omega), same_mut (s1.trans s_H2) hD1, _, upd_same, ?_, ?_⟩
      · rw [List.length_append, l1]
        rfl
      · have tt : Tups K H2 (upd H2 D1 (.lst (ys ++ [.ref a2]))) := Tups.put (s_H2 _ _ g1)
        rw [List.range_succ, List.map_append]
        refine DqAll.tups tt _ _ ?_ ((hy.same s_H2).snoc (.tup (SqT.of g_H2) (.cons ?_ .nil)))
        · refine tupAll_of _ fun d hd => ?_
          rcases List.mem_append.mp hd with hd | hd
          · obtain ⟨k, _, rfl⟩ := List.mem_map.mp hd
            rfl
          · obtain ⟨k, _, rfl⟩ := List.mem_map.mp hd
            rfl
        · rw [Int.zero_add]
          exact .int _
    rintro H1 ⟨s1, ys, g1, l1, hy⟩
    refine ⟨(by show 1 ≤ sizeLine; decide), fun a2 ha2 => ?_⟩
    have s_H2 : Same H1 (upd H1 a2 (.lst [.str "a"])) := same_upd ha2
    have g_H2 : (upd H1 a2 (.lst [.str "a"])) a2 = some (.lst [.str "a"]) := upd_same
    generalize upd H1 a2 (.lst [.str "a"]) = H2 at s_H2 g_H2 ⊢
    refine ⟨a2, 1000, _, rfl, rfl, g_H2, by decide, by decide, (by show 1 * 1000 ≤ sizeLine; decide), fun a3 ha3 => ?_⟩
    rw [show (1000 : Int).toNat = 1000 from rfl, rep_flat]
    have s_H3 : Same H2 (upd H2 a3 (.lst (List.replicate 1000 (V.str "a")))) := same_upd ha3
    have g_H3 : (upd H2 a3 (.lst (List.replicate 1000 (V.str "a")))) a3 = some (.lst (List.replicate 1000 (V.str "a"))) := upd_same
    generalize upd H2 a3 (.lst (List.replicate 1000 (V.str "a"))) = H3 at s_H3 g_H3 ⊢
    have l1 : ys.length = 1000 := l1
    refine ⟨D1, a3, _, _, rfl, rfl, s_H3 _ _ (s_H2 _ _ g1), g_H3, ?_, fun a4 ha4 => ?_⟩
    · rw [l1, List.length_replicate]
      exact sz_le (by decide)
    have s_H4 : Same H3 (upd H3 a4 (.lst (ys ++ List.replicate 1000 (V.str "a")))) := same_upd ha4
    have g_H4 : (upd H3 a4 (.lst (ys ++ List.replicate 1000 (V.str "a")))) a4 = some (.lst (ys ++ List.replicate 1000 (V.str "a"))) := upd_same
    generalize upd H3 a4 (.lst (ys ++ List.replicate 1000 (V.str "a"))) = H4 at s_H4 g_H4 ⊢
    have s14 := s_H2.trans (s_H3.trans s_H4)
    have s04 := s1.trans s14
    have hX : DqAll K H4 (ys ++ List.replicate 1000 (V.str "a")) ((manyTs 3).map Th.toD) := by
      rw [many_toD]
      exact (hy.same s14).app5 (DqAll.rep (.str _) 1000)
    have lts : ∀ c, (manyTs c).length = 2000 := fun c => by
      unfold manyTs
      rw [List.length_append, List.length_map, List.length_range, List.length_replicate]
    have xlen : (ys ++ List.replicate 1000 (V.str "a")).length = 2000 := by
      rw [List.length_append, l1, List.length_replicate]
    generalize (ys ++ List.replicate 1000 (V.str "a")) = xs at hX g_H4 xlen s_H4 ⊢
    have hO3 : ∀ t ∈ manyTs 3, OkTh t := fun t ht => (many3 t ht).1
    have hT3 : ∀ t ∈ manyTs 3, t.isTerm = true := fun t ht => (many3 t ht).2
    refine ⟨_, rfl, _, rfl, .inl ⟨a4, xs, true, manyTs 3, rfl, SqL.of g_H4, hX, hO3, (by rw [lts]; decide), (fun z hz => (hz.no hT3).elim), fun _ l5 zs H5 hl5 s5 g5 hY => ?_⟩⟩
    rw [ren_many] at hY
    refine ⟨1000, rfl, by decide, by decide, fun D6 hD6 => lc_range (fun i H' => Same H5 H' ∧ ∃ ys, H' D6 = some (.lst ys) ∧ ys.length = i ∧ DqAll K H' ys ((List.range i).map fun k : Nat => PyData.tuple [.int (1 * (k : Int))])) ⟨same_upd hD6, [], upd_same, rfl, .nil⟩ ?_ ?_⟩
    · rintro i H1 hi ⟨s1, ys, g1, l1, hy⟩
      refine ⟨rfl, ?_⟩
      refine ⟨_, rfl, (by show 1 ≤ sizeLine; decide), fun a2 ha2 => ?_⟩
      have s_H2 : Same H1 (upd H1 a2 (.tup [.int (0 + (i : Int))])) := same_upd ha2
      have g_H2 : (upd H1 a2 (.tup [.int (0 + (i : Int))])) a2 = some (.tup [.int (0 + (i : Int))]) := upd_same
      generalize upd H1 a2 (.tup [.int (0 + (i : Int))]) = H2 at s_H2 g_H2 ⊢
      have hi' : i < 1000 := hi
      refine ⟨ys, s_H2 _ _ g1, sz_lt (by omega), same_mut (s1.trans s_H2) hD6, _, upd_same, ?_, ?_⟩
      · rw [List.length_append, l1]
        rfl
      · have tt : Tups K H2 (upd H2 D6 (.lst (ys ++ [.ref a2]))) := Tups.put (s_H2 _ _ g1)
        rw [List.range_succ, List.map_append]
        refine DqAll.tups tt _ _ ?_ ((hy.same s_H2).snoc (.tup (SqT.of g_H2) (.cons ?_ .nil)))
        · refine tupAll_of _ fun d hd => ?_
          rcases List.mem_append.mp hd with hd | hd
          · obtain ⟨k, _, rfl⟩ := List.mem_map.mp hd
            rfl
          · obtain ⟨k, _, rfl⟩ := List.mem_map.mp hd
            rfl
        · rw [Int.zero_add, Int.one_mul]
          exact .int _
    rintro H6 ⟨s6, ys, g6, l6, hy⟩
    refine ⟨(by show 1 ≤ sizeLine; decide), fun a7 ha7 => ?_⟩
    have s_H7 : Same H6 (upd H6 a7 (.lst [.str "a"])) := same_upd ha7
    have g_H7 : (upd H6 a7 (.lst [.str "a"])) a7 = some (.lst [.str "a"]) := upd_same
    generalize upd H6 a7 (.lst [.str "a"]) = H7 at s_H7 g_H7 ⊢
    refine ⟨a7, 1000, _, rfl, rfl, g_H7, by decide, by decide, (by show 1 * 1000 ≤ sizeLine; decide), fun a8 ha8 => ?_⟩
    rw [show (1000 : Int).toNat = 1000 from rfl, rep_flat]
    have s_H8 : Same H7 (upd H7 a8 (.lst (List.replicate 1000 (V.str "a")))) := same_upd ha8
    have g_H8 : (upd H7 a8 (.lst (List.replicate 1000 (V.str "a")))) a8 = some (.lst (List.replicate 1000 (V.str "a"))) := upd_same
    generalize upd H7 a8 (.lst (List.replicate 1000 (V.str "a"))) = H8 at s_H8 g_H8 ⊢
    have l6 : ys.length = 1000 := l6
    refine ⟨D6, a8, _, _, rfl, rfl, s_H8 _ _ (s_H7 _ _ g6), g_H8, ?_, fun a9 ha9 => ?_⟩
    · rw [l6, List.length_replicate]
      exact sz_le (by decide)
    have s_H9 : Same H8 (upd H8 a9 (.lst (ys ++ List.replicate 1000 (V.str "a")))) := same_upd ha9
    have g_H9 : (upd H8 a9 (.lst (ys ++ List.replicate 1000 (V.str "a")))) a9 = some (.lst (ys ++ List.replicate 1000 (V.str "a"))) := upd_same
    generalize upd H8 a9 (.lst (ys ++ List.replicate 1000 (V.str "a"))) = H9 at s_H9 g_H9 ⊢
    have s69 := s_H7.trans (s_H8.trans s_H9)
    have s59 := s6.trans s69
    have hZ : DqAll K H9 (ys ++ List.replicate 1000 (V.str "a")) ((manyTs 1).map Th.toD) := by
      rw [many_toD]
      exact (hy.same s69).app5 (DqAll.rep (.str _) 1000)
    obtain ⟨n1, n2, n3, n4⟩ := terms_small _ many1
    refine ⟨_, _, .lst (SqL.of (s59 _ _ g5)) (DqAll.dp _ _ n4 (hY.same s59)), .lst (SqL.of g_H9) (DqAll.dp _ _ n4 hZ), terms_shaped many1, terms_shaped many1, false, congrArg V.bl (shaped_refl (terms_shaped many1)), ?_⟩
    have nilO : OkTh (Th.lf (.str "nil")) := ⟨rfl, by decide +kernel⟩
    have nilT : (Th.lf (.str "nil")).isTerm = true := by decide +kernel
    have s49 := s5.trans s59
    refine ⟨_, rfl, 2, _, _, rfl, .inr (.inr (.inr (.inr (.inl ⟨.inr rfl, xs, manyTs 3, .lf (.str "nil"), ⟨a4, true, rfl, SqL.of (s49 _ _ g_H4), hX.same s49, hO3, (by rw [lts]; decide)⟩, hT3, (fun e => by cases e), (fun _ => rfl), nilO, nilT, fun H10 s10 => ?_⟩))))⟩
    have eR : rowSays (manyTs 3) (.lf (.str "nil")) = [.str "great", .int 4001, .bool false] := by
      unfold rowSays
      rw [many_sum]
      rfl
    rw [eR]
    refine ⟨(by show 3 ≤ sizeLine; decide), fun l11 hl11 => ?_⟩
    have s_H11 : Same H10 (upd H10 l11 (.lst [.str "great", .int 4001, .bl false])) := same_upd hl11
    have g_H11 : (upd H10 l11 (.lst [.str "great", .int 4001, .bl false])) l11 = some (.lst [.str "great", .int 4001, .bl false]) := upd_same
    generalize upd H10 l11 (.lst [.str "great", .int 4001, .bl false]) = H11 at s_H11 g_H11 ⊢
    obtain ⟨w1, w2, w3⟩ := sm3 (smS "great" (by decide +kernel) (by decide +kernel)) (Sm.int (i := 4001) (by decide)) (Sm.bool false)
    refine ⟨l11, _, _, rfl, Dq.lst (SqL.of g_H11) (.cons (.str _) (.cons (.int _) (.cons (.bl _) .nil))), w1, w2, w3, rfl, false, congrArg V.bl (congrArg Bool.not (decide_eq_true rfl)), ?_⟩
    refine ⟨(by show 2 ≤ sizeLine; decide), fun l12 hl12 => ?_⟩
    have s_H12 : Same H11 (upd H11 l12 (.lst [.str "a", .int 7])) := same_upd hl12
    have g_H12 : (upd H11 l12 (.lst [.str "a", .int 7])) l12 = some (.lst [.str "a", .int 7]) := upd_same
    generalize upd H11 l12 (.lst [.str "a", .int 7]) = H12 at s_H12 g_H12 ⊢
    refine ⟨(by show 1 ≤ sizeLine; decide), fun t13 ht13 => ?_⟩
    have s_H13 : Same H12 (upd H12 t13 (.tup [.int 0])) := same_upd ht13
    have g_H13 : (upd H12 t13 (.tup [.int 0])) t13 = some (.tup [.int 0]) := upd_same
    generalize upd H12 t13 (.tup [.int 0]) = H13 at s_H13 g_H13 ⊢
    have aO : OkTh (Th.lf (.str "a")) ∧ (Th.lf (.str "a")).isTerm = true := ⟨⟨rfl, by decide +kernel⟩, by decide +kernel⟩
    have sO : OkTh (Th.lf (.int 7)) ∧ (Th.lf (.int 7)).isTerm = true := ⟨⟨rfl, by decide +kernel⟩, by decide +kernel⟩
    have uO : OkTh (Th.lf (.tuple [.int 0])) ∧ (Th.lf (.tuple [.int 0])).isTerm = true := ⟨⟨rfl, by decide +kernel⟩, by decide +kernel⟩
    have bO : OkTh (Th.lf (.str "b")) ∧ (Th.lf (.str "b")).isTerm = true := ⟨⟨rfl, by decide +kernel⟩, by decide +kernel⟩
    have two : ∀ t ∈ [Th.lf (.str "a"), .lf (.int 7)], OkTh t ∧ t.isTerm = true := by
      intro t ht
      simp only [List.mem_cons, List.not_mem_nil, or_false] at ht
      rcases ht with rfl | rfl
      · exact aO
      · exact sO
    refine ⟨rfl, rfl, _, _, rfl, .inl ⟨l12, [.str "a", .int 7], true, [Th.lf (.str "a"), .lf (.int 7)], .lf (.tuple [.int 0]), rfl, SqL.of (s_H13 _ _ g_H12), .cons (.str _) (.cons (.int _) .nil), (fun t ht => (two t ht).1), (by show 2 ≤ 5000; decide), .tup (SqT.of g_H13) (.cons (.int _) .nil), uO.1, (fun z hz => (hz.no fun t ht => (two t ht).2).elim), (fun _ e => by rw [uO.2] at e; cases e), (fun _ _ e => absurd e (by decide)), fun _ _ _ v14 H14 s14 hv14 => ?_⟩⟩
    refine ⟨(by show 1 ≤ sizeLine; decide), fun t15 ht15 => ?_⟩
    have s_H15 : Same H14 (upd H14 t15 (.tup [.int 0])) := same_upd ht15
    have g_H15 : (upd H14 t15 (.tup [.int 0])) t15 = some (.tup [.int 0]) := upd_same
    generalize upd H14 t15 (.tup [.int 0]) = H15 at s_H15 g_H15 ⊢
    refine ⟨(by show 2 ≤ sizeLine; decide), fun t16 ht16 => ?_⟩
    have s_H16 : Same H15 (upd H15 t16 (.tup [.int 7, .ref t15])) := same_upd ht16
    have g_H16 : (upd H15 t16 (.tup [.int 7, .ref t15])) t16 = some (.tup [.int 7, .ref t15]) := upd_same
    generalize upd H15 t16 (.tup [.int 7, .ref t15]) = H16 at s_H16 g_H16 ⊢
    refine ⟨(by show 2 ≤ sizeLine; decide), fun t17 ht17 => ?_⟩
    have s_H17 : Same H16 (upd H16 t17 (.tup [.str "a", .ref t16])) := same_upd ht17
    have g_H17 : (upd H16 t17 (.tup [.str "a", .ref t16])) t17 = some (.tup [.str "a", .ref t16]) := upd_same
    generalize upd H16 t17 (.tup [.str "a", .ref t16]) = H17 at s_H17 g_H17 ⊢
    have s1417 := s_H15.trans (s_H16.trans s_H17)
    have shp : SeqAt.shaped (rowOf [Th.lf (.str "a"), .lf (.int 7)] (.lf (.tuple [.int 0]))).toD = true := by decide +kernel
    have d17 : Dp K H17 (.ref t17) (rowOf [Th.lf (.str "a"), .lf (.int 7)] (.lf (.tuple [.int 0]))).toD := .tup (SqT.of g_H17) (.cons (.str _) (.cons (.tup (SqT.of (s_H17 _ _ g_H16)) (.cons (.int _) (.cons (.tup (SqT.of (s_H17 _ _ (s_H16 _ _ g_H15))) (.cons (.int _) .nil)) .nil))) .nil))
    refine ⟨_, _, Dq.dp _ _ (by decide) (hv14.same s1417), d17, shp, shp, true, congrArg V.bl (SeqAt.eqv_refl _ (SeqAt.canLay_of_shaped shp)), ?_⟩
    refine ⟨Nat.zero_le _, fun l18 hl18 => ?_⟩
    have s_H18 : Same H17 (upd H17 l18 (.lst [])) := same_upd hl18
    have g_H18 : (upd H17 l18 (.lst [])) l18 = some (.lst []) := upd_same
    generalize upd H17 l18 (.lst []) = H18 at s_H18 g_H18 ⊢
    refine ⟨rfl, rfl, _, _, rfl, .inl ⟨l18, [], true, [], .lf (.str "b"), rfl, SqL.of g_H18, .nil, (fun t ht => by cases ht), (by show 0 ≤ 5000; decide), .str _, bO.1, (fun z hz => (hz.no fun t ht => by cases ht).elim), (fun _ e => by rw [bO.2] at e; cases e), (fun _ _ e => absurd e (by decide)), fun _ _ _ v19 H19 s19 hv19 => ?_⟩⟩
    have shb : SeqAt.shaped (.str "b") = true := by decide +kernel
    refine ⟨.str "b", .str "b", Dq.dp _ _ rfl hv19, .str _, shb, shb, ?_⟩
    rw [SeqAt.eqv_refl _ (SeqAt.canLay_of_shaped shb)]
    refine q H19 (s04.trans (s49.trans (s10.trans (s_H11.trans (s_H12.trans (s_H13.trans (s14.trans (s1417.trans (s_H18.trans s19)))))))))
end


theorem funD_kb {K : PySem.W.Frag} {x qual : Str} {params : Arguments} {body : List Stmt} {scope : Scope} {dvs : List V} {kws : List (Str × V)} {f : Addr} {fd : FuncData} {ps : List Str} (F : FunD K x qual params body scope dvs kws f fd) (n : Nat) (ks : List Str) (hd : dvs ≠ [])
    (h : ∀ (T : Addr) (kV doc pm : Value) (an : Option Addr) (cdv ct : Value) (us its ws : List Value), us.length = n → its.length = dvs.length → ws.length = ks.length →
      ∃ k, bindArgs (PySem.W.fnOf x qual params body scope (.ref T) kV doc pm an cdv ct) ⟨us, ks.zip ws⟩ = seqItems? (.ref T) >>= k ∧ k (some its.toArray) = pure (ps.zip (us ++ ws))) : KBn K fd ps n ks (fun us ws => us ++ ws) (fun vs zs => vs ++ zs) := by
  obtain ⟨oc, od, dV, kV, doc, pm, an, cdv, ct, osl, rfl, lk, hcd, hD, hK⟩ := F.ex
  rcases hD with ⟨e, _⟩ | ⟨_, T, o, its, m, rfl, lT, oT, rT⟩
  · exact absurd e hd
  · refine ⟨fun s us ws X l1 l2 => ?_, fun r1 r2 => r1.append r2⟩
    obtain ⟨k, e1, e2⟩ := h T kV doc pm an cdv ct us its ws l1 rT.length.symm l2
    refine BindsTo.of_looks fun M => ?_
    rw [e1]
    exact looks_items X lT oT (.of_pure e2)
theorem GoodT.term {t : Th} (h : GoodT t 100) : t.isTerm = true ∧ OkTh t ∧ t.parts ≤ 100 := by
  have hp : t.parts ≤ 100 := by
    have := h.2.2.2
    omega
  refine ⟨?_, ⟨h.1, h.2.2.1⟩, hp⟩
  show (t.okL && decide (t.parts ≤ 100)) = true
  rw [h.2.1, decide_eq_true hp]
  rfl
section
variable {P : Program} {w : World} {K : PySem.W.Frag} {mg : Str → Option Value} {base : Heap}
def sp_law (K : PySem.W.Frag) : Sp := fun vs H Q _ => ∃ (a : Addr) (ns : List Int), vs = [.ref a] ∧ SqL K H a (ns.map V.int) ∧ ns.length ≤ 63 ∧ ∀ H', Q (.bl true) H'
theorem ok_law (T : Env K mg) : FnG P w K mg base CX0 109 T.a_law T.d_law ["_law_script"] (sp_law K) := by
  have G_l_cell : FnOk P w K mg base CX0 108 T.a_l_cell T.d_l_cell ["_law_script", "_law_k"] (sp_l_cell K) := (ok_l_cell T).mono (by decide)
  have G_l_purse : FnOk P w K mg base CX0 108 T.a_l_purse T.d_l_purse ["_law_cell_here"] (sp_l_purse K) := (ok_l_purse T).mono (by decide)
  have G_l_take : FnOk P w K mg base CX0 108 T.a_l_take T.d_l_take ["_law_purse_here", "_law_many"] (sp_l_take K) := (ok_l_take T).mono (by decide)
  have G_l_room : FnOk P w K mg base CX0 108 T.a_l_room T.d_l_room ["_law_purse_here"] (sp_l_room K) := (ok_l_room T).mono (by decide)
  have G_l_term : FnOk P w K mg base CX0 108 T.a_l_term T.d_l_term ["_law_purse_here", "_law_room_here"] (sp_l_term K 100) := (ok_l_term T 100).mono (by decide)
  have G_l_rows_right : FnG P w K mg base CX0 108 T.a_l_rows_right T.d_l_rows_right ["_law_items", "_law_last"] (sp_l_rows_right K) := ok_l_rows_right T
  have G_l_refused : FnG P w K mg base CX0 108 T.a_l_refused T.d_l_refused ["_law_purse_here", "_law_items", "_law_last"] (sp_l_refused K) := ok_l_refused T
  have G_l_items_right : FnG P w K mg base CX0 108 T.a_l_items_right T.d_l_items_right ["_law_term_here"] (sp_l_items_right K) := ok_l_items_right T
  have G_l_great_right : FnG P w K mg base CX0 108 T.a_l_great_right T.d_l_great_right [] sp_l_great_right := ok_l_great_right T
  refine okG T.F_law sc_law (fun vs H Q E h => ?_) (fun cdv A outer s H vs Q E hr hgd h => ?_)
  · obtain ⟨a, ns, rfl, _⟩ := h
    rfl
  · obtain ⟨a, ns, rfl, hS, hn, q⟩ := h
    have hr_l_cell := hr
    have hr_l_purse := hr
    have hr_l_take := hr
    have hr_l_room := hr
    have hr_l_term := hr
    have hr_l_rows_right := hr
    have hr_l_refused := hr
    have hr_l_items_right := hr
    have hr_l_great_right := hr
    refine ⟨_, (pss_cons (ps_for PassesOwn.never (by rfl) (pi_list (pe_op op_cat (pe_slice sl_list (pv 0) po_none (po_some pe_int)) (pe_lst (pa_cons (pe_call G_l_cell hr_l_cell (by rfl) T.g_l_cell T.F_l_cell.kp T.b_l_cell .nil pass0 (pa_cons (pv 0) (pa_cons pe_int pa_nil))) pa_nil)))) (pg_name (i := 1) sc_law.nd rfl (Or.inl rfl)) (pss_cons (ps_set (i := 2) sc_law.nd rfl (Or.inr rfl) (pe_call G_l_purse hr_l_purse (by rfl) T.g_l_purse T.F_l_purse.kp T.b_l_purse .nil pass0 (pa_cons (pv 1) pa_nil)))
      (pss_cons (ps_setLc (i := 3) (own := [("_law_k", 6)]) (g := gName 6) (tt := tYes) (by rfl) sc_law.nd rfl rfl (sw_true rfl rfl rfl (by decide +kernel)) (pi_range1 (by rfl) T.m_range (pa_cons (pe_call G_l_take hr_l_take (by rfl) T.g_l_take T.F_l_take.kp T.b_l_take .nil pass0 (pa_cons (pv 2) (pa_cons pe_int pa_nil))) pa_nil)) (blkOk_by (own := [("_law_k", 6)]) (N := ["_law_script", "_law_cell_here", "_law_purse_here", "_law_items", "_law_last", "_law_term_here", "_law_k"]) (sc := defScope s_law) (by decide +kernel)) (fun _ _ _ _ _ => (pg_name (i := 6) sc_law.nd rfl (Or.inl rfl))) (fun _ _ _ _ _ => pts_nil) (fun _ _ _ _ _ => (pe_call G_l_term hr_l_term (by rfl) T.g_l_term T.F_l_term.kp T.b_l_term .nil pass0 (pa_cons (pv 2) (pa_cons (pe_call G_l_room hr_l_room (by rfl) T.g_l_room T.F_l_room.kp T.b_l_room .nil pass0 (pa_cons (pv 2) pa_nil)) pa_nil)))))
      (pss_cons (ps_set (i := 4) sc_law.nd rfl (Or.inl rfl) (pe_ix ix_list (pe_lst (pa_cons (pe_call G_l_term hr_l_term (by rfl) T.g_l_term T.F_l_term.kp T.b_l_term .nil pass0 (pa_cons (pv 2) (pa_cons (pe_call G_l_room hr_l_room (by rfl) T.g_l_room T.F_l_room.kp T.b_l_room .nil pass0 (pa_cons (pv 2) pa_nil)) pa_nil))) (pa_cons pe_str (pa_cons (pe_tup (pa_cons pe_int pa_nil)) pa_nil)))) (pe_call G_l_take hr_l_take (by rfl) T.g_l_take T.F_l_take.kp T.b_l_take .nil pass0 (pa_cons (pv 2) (pa_cons pe_int pa_nil))) (fun _ _ => rfl)))
      (pss_cons (ps_if (PW.pt (pw_or (pt_not (pt_val (pe_callG G_l_rows_right hr_l_rows_right hgd (by rfl) T.g_l_rows_right T.F_l_rows_right.kp T.b_l_rows_right pass0 (pa_cons (pv 3) (pa_cons (pv 4) pa_nil))))) (pw_or1 (pt_not (pt_val (pe_callG G_l_refused hr_l_refused hgd (by rfl) T.g_l_refused T.F_l_refused.kp T.b_l_refused pass0 (pa_cons (pv 2) (pa_cons (pv 3) (pa_cons (pv 4) pa_nil))))))))) (pss_one (ps_ret pe_bl)) pss_nil)
      (pss_one (ps_for PassesOwn.never (by rfl) (pi_list (pe_op op_cat (pv 3) (pe_lst (pa_cons (pv 4) pa_nil)))) (pg_name (i := 5) sc_law.nd rfl (Or.inl rfl)) (pss_one (ps_if (pt_not (pt_val (pe_callG G_l_items_right hr_l_items_right hgd (by rfl) T.g_l_items_right T.F_l_items_right.kp T.b_l_items_right pass0 (pa_cons (pv 5) pa_nil)))) (pss_one (ps_ret pe_bl)) pss_nil)))))))))
      (pss_one (ps_ret (pe_callG0 G_l_great_right hr_l_great_right hgd (by rfl) T.g_l_great_right T.F_l_great_right.kp T.b_l_great_right pass0)))), ?_⟩
    refine ⟨_, rfl, 10, rfl, a, _, rfl, hS, fun p1 hp1 => ?_⟩
    refine ⟨_, rfl, a, ns, 10, rfl, (same_upd hp1).seq hS, by decide, fun c => ⟨(by show 1 ≤ sizeLine; decide), fun p2 hp2 => ?_⟩⟩
    have n12 : p1 ≠ p2 := ne_of_none upd_same hp2
    refine ⟨p1, p2, _, _, rfl, rfl, (upd_ne n12).trans upd_same, upd_same, ?_, fun p3 hp3 => ?_⟩
    · have e := cutV_length (ns.map V.int) none (some 10)
      rw [List.length_map] at e
      refine sz_le ?_
      rw [List.length_singleton]
      omega
    obtain ⟨xs, ex⟩ : ∃ xs, xs = cutV (ns.map V.int) none (some 10) ++ [V.int c] := ⟨_, rfl⟩
    rw [← ex]
    have hx : ∀ x ∈ xs, ∃ i : Int, x = .int i := fun x hx => by
      rw [ex] at hx
      rcases List.mem_append.mp hx with h | h
      · obtain ⟨n, _, rfl⟩ := List.mem_map.mp (cutV_mem h)
        exact ⟨n, rfl⟩
      · exact ⟨c, List.mem_singleton.mp h⟩
    have h3 : (upd (upd (upd H p1 (HO.lst (cutV (ns.map V.int) none (some 10)))) p2 (HO.lst [V.int c])) p3 (HO.lst xs)) p3 = some (.lst xs) := upd_same
    refine ⟨p3, rfl, ⟨_, SqL.of h3⟩, ?_⟩
    generalize (upd (upd (upd H p1 (HO.lst (cutV (ns.map V.int) none (some 10)))) p2 (HO.lst [V.int c])) p3 (HO.lst xs)) = H0 at h3 ⊢
    refine for_list (K := K) (a := p3) (xs := xs) (fun i σ H' => ∃ v1 v2 v3 v4 v5, σ = [some (.ref a), v1, v2, v3, v4, v5, none] ∧ Same H0 H') ⟨none, none, none, none, none, rfl, Same.refl H0⟩ (fun i σ H' _ ⟨_, _, _, _, _, _, sm⟩ => sm.seq (SqL.of h3)) ?_ ?_
    · rintro i x σ H1 hi ⟨v1, v2, v3, v4, v5, rfl, s1⟩
      obtain ⟨c, rfl⟩ := hx x (List.mem_of_getElem? hi)
      refine ⟨_, rfl, c, rfl, fun p H2 np s2 p2 => ?_⟩
      have f0 : H0 p = none := s1.free np
      refine ⟨_, rfl, p, 7, rfl, p2, by decide, lt9000 (by decide), fun r H3 r0 r1 o3 p3 => ?_⟩
      refine ⟨r, rfl, by omega, by omega, fun D hD => ?_⟩
      have nD : D ≠ p := p3.nne hD
      refine lc_range (fun i H' => Off p H3 H' ∧ Pu H' p ∧ ∃ ys ts, H' D = some (.lst ys) ∧ ys.length = i ∧ ts.length = i ∧ DqAll K H' ys (ts.map Th.toD) ∧ ∀ t ∈ ts, OkTh t ∧ t.isTerm = true) ⟨Off.of (same_upd hD), p3.same (same_upd hD), [], [], upd_same, rfl, rfl, .nil, fun t ht => by cases ht⟩ ?_ ?_
      · rintro j H4 hj ⟨o4, p4, ys, ts, gD, ly, lt, hY, hG⟩
        refine ⟨rfl, ?_⟩
        refine ⟨_, rfl, _, rfl, p, rfl, p4, fun r' H5 r1' r2' o5 p5 => ?_⟩
        refine ⟨p, r', rfl, p5, r1', by omega, by omega, fun v t H6 hv ht o6 p6 => ?_⟩
        have gt : GoodT t 100 := ⟨ht.1, ht.2.1, ht.2.2.1, by have := ht.2.2.2; omega⟩
        have gD6 := (o5.trans o6) D _ nD gD
        have hG' : ∀ u ∈ ts ++ [t], OkTh u ∧ u.isTerm = true := fun u hu => by
          rcases List.mem_append.mp hu with hu | hu
          · exact hG u hu
          · rw [List.mem_singleton.mp hu]
            exact ⟨gt.term.2.1, gt.term.1⟩
        have hY6 : DqAll K H6 (ys ++ [v]) ((ts ++ [t]).map Th.toD) := by
          rw [List.map_append]
          exact (DqAll.tups (p4.tups (o5.trans o6)) _ _ (terms_small ts hG).2.2.2 hY).snoc hv
        have tt : Tups K H6 (upd H6 D (.lst (ys ++ [v]))) := Tups.put gD6
        refine ⟨ys, gD6, sz_lt (by omega), ((o4.trans (o5.trans o6)).mut hD), (let ⟨x, y, z, e⟩ := p6; ⟨x, y, z, (upd_ne (Ne.symm nD)).trans e⟩), ys ++ [v], ts ++ [t], upd_same, ?_, ?_, DqAll.tups tt _ _ (terms_small _ hG').2.2.2 hY6, hG'⟩
        · rw [List.length_append, ly]
          rfl
        · rw [List.length_append, lt]
          rfl
      rintro H4 ⟨o4, p4, ys, ts, gD, ly, lt, hY, hG⟩
      refine ⟨_, rfl, _, rfl, p, rfl, p4, fun r' H5 r1' r2' o5 p5 => ?_⟩
      refine ⟨p, r', rfl, p5, r1', by omega, by omega, fun v t H6 hv ht o6 p6 => ?_⟩
      have gt : GoodT t 100 := ⟨ht.1, ht.2.1, ht.2.2.1, by have := ht.2.2.2; omega⟩
      have hG6 : OkTh t ∧ t.isTerm = true := ⟨gt.term.2.1, gt.term.1⟩
      refine ⟨(by show 1 ≤ sizeLine; decide), fun t7 ht7 => ?_⟩
      have n7 : t7 ≠ p := p6.nne ht7
      have s_H7 : Same H6 (upd H6 t7 (.tup [.int 0])) := same_upd ht7
      have g_H7 : (upd H6 t7 (.tup [.int 0])) t7 = some (.tup [.int 0]) := upd_same
      generalize upd H6 t7 (.tup [.int 0]) = H7 at s_H7 g_H7 ⊢
      have p7 : Pu H7 p := p6.same s_H7
      refine ⟨(by show 3 ≤ sizeLine; decide), fun l8 hl8 => ?_⟩
      have n8 : l8 ≠ p := p7.nne hl8
      have s_H8 : Same H7 (upd H7 l8 (.lst [v, .str "nil", .ref t7])) := same_upd hl8
      have g_H8 : (upd H7 l8 (.lst [v, .str "nil", .ref t7])) l8 = some (.lst [v, .str "nil", .ref t7]) := upd_same
      generalize upd H7 l8 (.lst [v, .str "nil", .ref t7]) = H8 at s_H8 g_H8 ⊢
      have p8 : Pu H8 p := p7.same s_H8
      have lasts : ∀ x ∈ [v, V.str "nil", V.ref t7], ∃ u, Dq K H8 x (Th.toD u) ∧ OkTh u ∧ u.isTerm = true := by
        intro x hx
        simp only [List.mem_cons, List.not_mem_nil, or_false] at hx
        rcases hx with rfl | rfl | rfl
        · exact ⟨t, (hv.same s_H7).same s_H8, hG6⟩
        · exact ⟨.lf (.str "nil"), .str _, ⟨rfl, by decide +kernel⟩, by decide +kernel⟩
        · exact ⟨.lf (.tuple [.int 0]), .tup (SqT.of (s_H8 _ _ g_H7)) (.cons (.int _) .nil), ⟨rfl, by decide +kernel⟩, by decide +kernel⟩
      refine ⟨_, rfl, p, 3, rfl, p8, by decide, lt9000 (by decide), fun r9 H9 r90 r91 o9 p9 => ?_⟩
      obtain ⟨x, hL9, hy9, hm9⟩ := lst_at (o9 l8 _ n8 g_H8) r90 r91
      obtain ⟨u, hu8, hGu⟩ := lasts x hm9
      have hu9 : Dq K H9 x u.toD := Dq.tups (p8.tups o9) _ _ (Th.ok_tup (Th.term_ok hGu.2)) hu8
      refine ⟨l8, _, r9, x, rfl, rfl, SqL.of hL9, hy9, ?_⟩
      have o49 : Off p H4 H9 := (o5.trans o6).trans ((Off.of (s_H7.trans s_H8)).trans o9)
      have gD9 := o49 D _ nD gD
      have tup4 := (terms_small ts hG).2.2.2
      have hY9 : DqAll K H9 ys (ts.map Th.toD) := DqAll.tups (p4.tups o49) _ _ tup4 hY
      refine ⟨_, rfl, _, rfl, D, ys, ts, x, u, rfl, SqL.of gD9, hY9, hG, by omega, hu9, hGu.1, hGu.2, fun H10 s10 => ⟨_, rfl, ?_⟩⟩
      have p10 : Pu H10 p := p9.same s10
      refine ⟨_, rfl, _, rfl, _, rfl, p, D, ys, ts, x, rfl, p10, nD, SqL.of (s10 _ _ gD9), hY9.same s10, hG, by omega, fun H11 o11 p11 => ⟨_, rfl, ?_⟩⟩
      have o911 : Off p H9 H11 := (Off.of s10).trans o11
      have hY11 : DqAll K H11 ys (ts.map Th.toD) := DqAll.tups (p9.tups o911) _ _ tup4 hY9
      have hu11 : Dq K H11 x u.toD := Dq.tups (p9.tups o911) _ _ (Th.ok_tup (Th.term_ok hGu.2)) hu9
      have gD11 := o911 D _ nD gD9
      refine ⟨_, rfl, _, rfl, (by show 1 ≤ sizeLine; decide), fun l12 hl12 => ?_⟩
      have s_H12 : Same H11 (upd H11 l12 (.lst [x])) := same_upd hl12
      have g_H12 : (upd H11 l12 (.lst [x])) l12 = some (.lst [x]) := upd_same
      generalize upd H11 l12 (.lst [x]) = H12 at s_H12 g_H12 ⊢
      refine ⟨D, l12, _, _, rfl, rfl, s_H12 _ _ gD11, g_H12, sz_le (by show ys.length + 1 ≤ 1000000; omega), fun l13 hl13 => ?_⟩
      have s_H13 : Same H12 (upd H12 l13 (.lst (ys ++ [x]))) := same_upd hl13
      have g_H13 : (upd H12 l13 (.lst (ys ++ [x]))) l13 = some (.lst (ys ++ [x])) := upd_same
      generalize upd H12 l13 (.lst (ys ++ [x])) = H13 at s_H13 g_H13 ⊢
      have s1113 := s_H12.trans s_H13
      have hY13 : DqAll K H13 (ys ++ [x]) ((ts ++ [u]).map Th.toD) := by
        rw [List.map_append]
        exact (hY11.same s1113).snoc (hu11.same s1113)
      have hGG : ∀ t ∈ ts ++ [u], OkTh t ∧ t.isTerm = true := fun t ht => by
        rcases List.mem_append.mp ht with ht | ht
        · exact hG t ht
        · rw [List.mem_singleton.mp ht]
          exact hGu
      have s013 : Same H0 H13 := (Off.same (s1.trans s2) f0 ((o3.trans o4).trans (o49.trans o911))).trans s1113
      refine ⟨l13, rfl, ⟨_, SqL.of g_H13⟩, for_list (K := K) (a := l13) (xs := ys ++ [x]) (fun i σ H' => ∃ y, σ = [some (.ref a), some (.int c), some (.ref p), some (.ref D), some x, y, none] ∧ Same H13 H') ⟨_, rfl, Same.refl H13⟩ (fun i σ H' _ ⟨_, _, z⟩ => z.seq (SqL.of g_H13)) ?_ ?_⟩
      · rintro j z σ H14 hj ⟨y, rfl, s14⟩
        obtain ⟨t', ht', hz⟩ := hY13.getTh hj
        have hGt := hGG t' (List.mem_of_getElem? ht')
        refine ⟨_, rfl, z, t', rfl, hz.same s14, hGt.1, hGt.2, fun H15 s15 => ⟨_, rfl, ?_⟩⟩
        exact ⟨_, rfl, s14.trans s15⟩
      · rintro σ H14 ⟨y, rfl, s14⟩
        exact ⟨_, _, _, _, _, rfl, s013.trans s14⟩
    · rintro σ H1 ⟨v1, v2, v3, v4, v5, rfl, s1⟩
      exact ⟨rfl, fun H2 s2 => q H2⟩
end


set_option maxHeartbeats 0 in
theorem all_mk {l : PySem.W.OpenLaw} {w : World} {K : PySem.W.Frag} {h : Heap} {mg : Str → Option Value} {fa f_is_whole f_is_within f_is_name f_is_unknown f_is_pair f_is_single f_is_term f_need_term f_parts_within f_numbers_in f_turned_into f_by_coming f_listed f_items_of f_l_cell f_l_purse f_l_take f_l_single f_l_term f_l_room f_l_parts f_l_renamed f_l_pairs f_l_said f_l_due f_l_rows_right f_l_items_right f_l_refused f_l_great_right f_law : Addr} (X : K.In h) (G : h.Ns mainGlobals mg) (hfa : mg "law" = some (.ref fa))
    {oc_is_whole kV_is_whole dc_is_whole pm_is_whole cd_is_whole ct_is_whole : Value} {od_is_whole an_is_whole : Option Addr} {sl_is_whole : Array (Option Value)}
    {oc_is_within kV_is_within dc_is_within pm_is_within cd_is_within ct_is_within : Value} {od_is_within an_is_within : Option Addr} {sl_is_within : Array (Option Value)}
    {oc_is_name kV_is_name dc_is_name pm_is_name cd_is_name ct_is_name : Value} {od_is_name an_is_name : Option Addr} {sl_is_name : Array (Option Value)}
    {oc_is_unknown kV_is_unknown dc_is_unknown pm_is_unknown cd_is_unknown ct_is_unknown : Value} {od_is_unknown an_is_unknown : Option Addr} {sl_is_unknown : Array (Option Value)}
    {oc_is_pair kV_is_pair dc_is_pair pm_is_pair cd_is_pair ct_is_pair : Value} {od_is_pair an_is_pair : Option Addr} {sl_is_pair : Array (Option Value)}
    {oc_is_single kV_is_single dc_is_single pm_is_single cd_is_single ct_is_single : Value} {od_is_single an_is_single : Option Addr} {sl_is_single : Array (Option Value)}
    {oc_is_term kV_is_term dc_is_term pm_is_term cd_is_term ct_is_term : Value} {od_is_term an_is_term : Option Addr} {sl_is_term : Array (Option Value)}
    {oc_need_term kV_need_term dc_need_term pm_need_term cd_need_term ct_need_term : Value} {od_need_term an_need_term : Option Addr} {sl_need_term : Array (Option Value)}
    {oc_parts_within kV_parts_within dc_parts_within pm_parts_within cd_parts_within ct_parts_within : Value} {od_parts_within an_parts_within : Option Addr} {sl_parts_within : Array (Option Value)}
    {oc_numbers_in kV_numbers_in dc_numbers_in pm_numbers_in cd_numbers_in ct_numbers_in : Value} {od_numbers_in an_numbers_in : Option Addr} {sl_numbers_in : Array (Option Value)}
    {oc_turned_into kV_turned_into dc_turned_into pm_turned_into cd_turned_into ct_turned_into : Value} {od_turned_into an_turned_into : Option Addr} {sl_turned_into : Array (Option Value)}
    {oc_by_coming kV_by_coming dc_by_coming pm_by_coming cd_by_coming ct_by_coming : Value} {od_by_coming an_by_coming : Option Addr} {sl_by_coming : Array (Option Value)}
    {oc_listed kV_listed dc_listed pm_listed cd_listed ct_listed : Value} {od_listed an_listed : Option Addr} {sl_listed : Array (Option Value)}
    {oc_items_of kV_items_of dc_items_of pm_items_of cd_items_of ct_items_of : Value} {od_items_of an_items_of : Option Addr} {sl_items_of : Array (Option Value)}
    {oc_l_cell kV_l_cell dc_l_cell pm_l_cell cd_l_cell ct_l_cell : Value} {od_l_cell an_l_cell : Option Addr} {sl_l_cell : Array (Option Value)}
    {oc_l_purse kV_l_purse dc_l_purse pm_l_purse cd_l_purse ct_l_purse : Value} {od_l_purse an_l_purse : Option Addr} {sl_l_purse : Array (Option Value)}
    {oc_l_take kV_l_take dc_l_take pm_l_take cd_l_take ct_l_take : Value} {od_l_take an_l_take : Option Addr} {sl_l_take : Array (Option Value)}
    {oc_l_single kV_l_single dc_l_single pm_l_single cd_l_single ct_l_single : Value} {od_l_single an_l_single : Option Addr} {sl_l_single : Array (Option Value)}
    {oc_l_term kV_l_term dc_l_term pm_l_term cd_l_term ct_l_term : Value} {od_l_term an_l_term : Option Addr} {sl_l_term : Array (Option Value)}
    {oc_l_room kV_l_room dc_l_room pm_l_room cd_l_room ct_l_room : Value} {od_l_room an_l_room : Option Addr} {sl_l_room : Array (Option Value)}
    {oc_l_parts kV_l_parts dc_l_parts pm_l_parts cd_l_parts ct_l_parts : Value} {od_l_parts an_l_parts : Option Addr} {sl_l_parts : Array (Option Value)}
    {oc_l_renamed kV_l_renamed dc_l_renamed pm_l_renamed cd_l_renamed ct_l_renamed : Value} {od_l_renamed an_l_renamed : Option Addr} {sl_l_renamed : Array (Option Value)}
    {oc_l_pairs kV_l_pairs dc_l_pairs pm_l_pairs cd_l_pairs ct_l_pairs : Value} {od_l_pairs an_l_pairs : Option Addr} {sl_l_pairs : Array (Option Value)}
    {oc_l_said kV_l_said dc_l_said pm_l_said cd_l_said ct_l_said : Value} {od_l_said an_l_said : Option Addr} {sl_l_said : Array (Option Value)}
    {oc_l_due kV_l_due dc_l_due pm_l_due cd_l_due ct_l_due : Value} {od_l_due an_l_due : Option Addr} {sl_l_due : Array (Option Value)}
    {oc_l_rows_right kV_l_rows_right dc_l_rows_right pm_l_rows_right cd_l_rows_right ct_l_rows_right : Value} {od_l_rows_right an_l_rows_right : Option Addr} {sl_l_rows_right : Array (Option Value)}
    {oc_l_items_right kV_l_items_right dc_l_items_right pm_l_items_right cd_l_items_right ct_l_items_right : Value} {od_l_items_right an_l_items_right : Option Addr} {sl_l_items_right : Array (Option Value)}
    {oc_l_refused kV_l_refused dc_l_refused pm_l_refused cd_l_refused ct_l_refused : Value} {od_l_refused an_l_refused : Option Addr} {sl_l_refused : Array (Option Value)}
    {oc_l_great_right kV_l_great_right dc_l_great_right pm_l_great_right cd_l_great_right ct_l_great_right : Value} {od_l_great_right an_l_great_right : Option Addr} {sl_l_great_right : Array (Option Value)}
    {oc_law kV_law dc_law pm_law cd_law ct_law : Value} {od_law an_law : Option Addr} {sl_law : Array (Option Value)}
    (a_is_whole : PySem.W.nsIn K mainGlobals "is_whole" = some (some (.ref f_is_whole)))
    (l_is_whole : K.lookup f_is_whole = some ⟨oc_is_whole, od_is_whole, .func (PySem.W.fnOf "is_whole" "is_whole" (defArgs s_is_whole) (defBody s_is_whole) (defScope s_is_whole) .none kV_is_whole dc_is_whole pm_is_whole an_is_whole cd_is_whole ct_is_whole), sl_is_whole⟩)
    (c_is_whole : PySem.W.codeIn K cd_is_whole "is_whole" = true)
    (k_is_whole : PySem.W.keepIn K (.ref f_is_whole) = true)
    (a_is_within : PySem.W.nsIn K mainGlobals "is_within" = some (some (.ref f_is_within)))
    (l_is_within : K.lookup f_is_within = some ⟨oc_is_within, od_is_within, .func (PySem.W.fnOf "is_within" "is_within" (defArgs s_is_within) (defBody s_is_within) (defScope s_is_within) .none kV_is_within dc_is_within pm_is_within an_is_within cd_is_within ct_is_within), sl_is_within⟩)
    (c_is_within : PySem.W.codeIn K cd_is_within "is_within" = true)
    (k_is_within : PySem.W.keepIn K (.ref f_is_within) = true)
    (a_is_name : PySem.W.nsIn K mainGlobals "is_name" = some (some (.ref f_is_name)))
    (l_is_name : K.lookup f_is_name = some ⟨oc_is_name, od_is_name, .func (PySem.W.fnOf "is_name" "is_name" (defArgs s_is_name) (defBody s_is_name) (defScope s_is_name) .none kV_is_name dc_is_name pm_is_name an_is_name cd_is_name ct_is_name), sl_is_name⟩)
    (c_is_name : PySem.W.codeIn K cd_is_name "is_name" = true)
    (k_is_name : PySem.W.keepIn K (.ref f_is_name) = true)
    (a_is_unknown : PySem.W.nsIn K mainGlobals "is_unknown" = some (some (.ref f_is_unknown)))
    (l_is_unknown : K.lookup f_is_unknown = some ⟨oc_is_unknown, od_is_unknown, .func (PySem.W.fnOf "is_unknown" "is_unknown" (defArgs s_is_unknown) (defBody s_is_unknown) (defScope s_is_unknown) .none kV_is_unknown dc_is_unknown pm_is_unknown an_is_unknown cd_is_unknown ct_is_unknown), sl_is_unknown⟩)
    (c_is_unknown : PySem.W.codeIn K cd_is_unknown "is_unknown" = true)
    (k_is_unknown : PySem.W.keepIn K (.ref f_is_unknown) = true)
    (a_is_pair : PySem.W.nsIn K mainGlobals "is_pair" = some (some (.ref f_is_pair)))
    (l_is_pair : K.lookup f_is_pair = some ⟨oc_is_pair, od_is_pair, .func (PySem.W.fnOf "is_pair" "is_pair" (defArgs s_is_pair) (defBody s_is_pair) (defScope s_is_pair) .none kV_is_pair dc_is_pair pm_is_pair an_is_pair cd_is_pair ct_is_pair), sl_is_pair⟩)
    (c_is_pair : PySem.W.codeIn K cd_is_pair "is_pair" = true)
    (k_is_pair : PySem.W.keepIn K (.ref f_is_pair) = true)
    (a_is_single : PySem.W.nsIn K mainGlobals "is_single" = some (some (.ref f_is_single)))
    (l_is_single : K.lookup f_is_single = some ⟨oc_is_single, od_is_single, .func (PySem.W.fnOf "is_single" "is_single" (defArgs s_is_single) (defBody s_is_single) (defScope s_is_single) .none kV_is_single dc_is_single pm_is_single an_is_single cd_is_single ct_is_single), sl_is_single⟩)
    (c_is_single : PySem.W.codeIn K cd_is_single "is_single" = true)
    (k_is_single : PySem.W.keepIn K (.ref f_is_single) = true)
    (a_is_term : PySem.W.nsIn K mainGlobals "is_term" = some (some (.ref f_is_term)))
    (l_is_term : K.lookup f_is_term = some ⟨oc_is_term, od_is_term, .func (PySem.W.fnOf "is_term" "is_term" (defArgs s_is_term) (defBody s_is_term) (defScope s_is_term) .none kV_is_term dc_is_term pm_is_term an_is_term cd_is_term ct_is_term), sl_is_term⟩)
    (c_is_term : PySem.W.codeIn K cd_is_term "is_term" = true)
    (k_is_term : PySem.W.keepIn K (.ref f_is_term) = true)
    (a_need_term : PySem.W.nsIn K mainGlobals "need_term" = some (some (.ref f_need_term)))
    (l_need_term : K.lookup f_need_term = some ⟨oc_need_term, od_need_term, .func (PySem.W.fnOf "need_term" "need_term" (defArgs s_need_term) (defBody s_need_term) (defScope s_need_term) .none kV_need_term dc_need_term pm_need_term an_need_term cd_need_term ct_need_term), sl_need_term⟩)
    (c_need_term : PySem.W.codeIn K cd_need_term "need_term" = true)
    (k_need_term : PySem.W.keepIn K (.ref f_need_term) = true)
    (a_parts_within : PySem.W.nsIn K mainGlobals "parts_within" = some (some (.ref f_parts_within)))
    (l_parts_within : K.lookup f_parts_within = some ⟨oc_parts_within, od_parts_within, .func (PySem.W.fnOf "parts_within" "parts_within" (defArgs s_parts_within) (defBody s_parts_within) (defScope s_parts_within) .none kV_parts_within dc_parts_within pm_parts_within an_parts_within cd_parts_within ct_parts_within), sl_parts_within⟩)
    (c_parts_within : PySem.W.codeIn K cd_parts_within "parts_within" = true)
    (k_parts_within : PySem.W.keepIn K (.ref f_parts_within) = true)
    (a_numbers_in : PySem.W.nsIn K mainGlobals "numbers_in" = some (some (.ref f_numbers_in)))
    (l_numbers_in : K.lookup f_numbers_in = some ⟨oc_numbers_in, od_numbers_in, .func (PySem.W.fnOf "numbers_in" "numbers_in" (defArgs s_numbers_in) (defBody s_numbers_in) (defScope s_numbers_in) .none kV_numbers_in dc_numbers_in pm_numbers_in an_numbers_in cd_numbers_in ct_numbers_in), sl_numbers_in⟩)
    (c_numbers_in : PySem.W.codeIn K cd_numbers_in "numbers_in" = true)
    (k_numbers_in : PySem.W.keepIn K (.ref f_numbers_in) = true)
    (a_turned_into : PySem.W.nsIn K mainGlobals "turned_into" = some (some (.ref f_turned_into)))
    (l_turned_into : K.lookup f_turned_into = some ⟨oc_turned_into, od_turned_into, .func (PySem.W.fnOf "turned_into" "turned_into" (defArgs s_turned_into) (defBody s_turned_into) (defScope s_turned_into) .none kV_turned_into dc_turned_into pm_turned_into an_turned_into cd_turned_into ct_turned_into), sl_turned_into⟩)
    (c_turned_into : PySem.W.codeIn K cd_turned_into "turned_into" = true)
    (k_turned_into : PySem.W.keepIn K (.ref f_turned_into) = true)
    (a_by_coming : PySem.W.nsIn K mainGlobals "by_coming" = some (some (.ref f_by_coming)))
    (l_by_coming : K.lookup f_by_coming = some ⟨oc_by_coming, od_by_coming, .func (PySem.W.fnOf "by_coming" "by_coming" (defArgs s_by_coming) (defBody s_by_coming) (defScope s_by_coming) .none kV_by_coming dc_by_coming pm_by_coming an_by_coming cd_by_coming ct_by_coming), sl_by_coming⟩)
    (c_by_coming : PySem.W.codeIn K cd_by_coming "by_coming" = true)
    (k_by_coming : PySem.W.keepIn K (.ref f_by_coming) = true)
    (a_listed : PySem.W.nsIn K mainGlobals "listed" = some (some (.ref f_listed)))
    {dT_listed : Addr} {dtd_listed : Option Addr} {dtn_listed : Nat} {dts_listed : Array (Option Value)} {dtt_listed_0 : Tok}
    (l_listed : K.lookup f_listed = some ⟨oc_listed, od_listed, .func (PySem.W.fnOf "listed" "listed" (defArgs s_listed) (defBody s_listed) (defScope s_listed) (.ref dT_listed) kV_listed dc_listed pm_listed an_listed cd_listed ct_listed), sl_listed⟩)
    (dl_listed : K.lookup dT_listed = some ⟨.type "tuple", dtd_listed, .seq #[Value.str "nil" dtt_listed_0] dtn_listed, dts_listed⟩)
    (c_listed : PySem.W.codeIn K cd_listed "listed" = true)
    (k_listed : PySem.W.keepIn K (.ref f_listed) = true)
    (a_items_of : PySem.W.nsIn K mainGlobals "items_of" = some (some (.ref f_items_of)))
    (l_items_of : K.lookup f_items_of = some ⟨oc_items_of, od_items_of, .func (PySem.W.fnOf "items_of" "items_of" (defArgs s_items_of) (defBody s_items_of) (defScope s_items_of) .none kV_items_of dc_items_of pm_items_of an_items_of cd_items_of ct_items_of), sl_items_of⟩)
    (c_items_of : PySem.W.codeIn K cd_items_of "items_of" = true)
    (k_items_of : PySem.W.keepIn K (.ref f_items_of) = true)
    (a_l_cell : PySem.W.nsIn K mainGlobals "_law_cell" = some (some (.ref f_l_cell)))
    (l_l_cell : K.lookup f_l_cell = some ⟨oc_l_cell, od_l_cell, .func (PySem.W.fnOf "_law_cell" "_law_cell" (defArgs s_l_cell) (defBody s_l_cell) (defScope s_l_cell) .none kV_l_cell dc_l_cell pm_l_cell an_l_cell cd_l_cell ct_l_cell), sl_l_cell⟩)
    (c_l_cell : PySem.W.codeIn K cd_l_cell "_law_cell" = true)
    (k_l_cell : PySem.W.keepIn K (.ref f_l_cell) = true)
    (a_l_purse : PySem.W.nsIn K mainGlobals "_law_purse" = some (some (.ref f_l_purse)))
    (l_l_purse : K.lookup f_l_purse = some ⟨oc_l_purse, od_l_purse, .func (PySem.W.fnOf "_law_purse" "_law_purse" (defArgs s_l_purse) (defBody s_l_purse) (defScope s_l_purse) .none kV_l_purse dc_l_purse pm_l_purse an_l_purse cd_l_purse ct_l_purse), sl_l_purse⟩)
    (c_l_purse : PySem.W.codeIn K cd_l_purse "_law_purse" = true)
    (k_l_purse : PySem.W.keepIn K (.ref f_l_purse) = true)
    (a_l_take : PySem.W.nsIn K mainGlobals "_law_take" = some (some (.ref f_l_take)))
    (l_l_take : K.lookup f_l_take = some ⟨oc_l_take, od_l_take, .func (PySem.W.fnOf "_law_take" "_law_take" (defArgs s_l_take) (defBody s_l_take) (defScope s_l_take) .none kV_l_take dc_l_take pm_l_take an_l_take cd_l_take ct_l_take), sl_l_take⟩)
    (c_l_take : PySem.W.codeIn K cd_l_take "_law_take" = true)
    (k_l_take : PySem.W.keepIn K (.ref f_l_take) = true)
    (a_l_single : PySem.W.nsIn K mainGlobals "_law_single" = some (some (.ref f_l_single)))
    (l_l_single : K.lookup f_l_single = some ⟨oc_l_single, od_l_single, .func (PySem.W.fnOf "_law_single" "_law_single" (defArgs s_l_single) (defBody s_l_single) (defScope s_l_single) .none kV_l_single dc_l_single pm_l_single an_l_single cd_l_single ct_l_single), sl_l_single⟩)
    (c_l_single : PySem.W.codeIn K cd_l_single "_law_single" = true)
    (k_l_single : PySem.W.keepIn K (.ref f_l_single) = true)
    (a_l_term : PySem.W.nsIn K mainGlobals "_law_term" = some (some (.ref f_l_term)))
    (l_l_term : K.lookup f_l_term = some ⟨oc_l_term, od_l_term, .func (PySem.W.fnOf "_law_term" "_law_term" (defArgs s_l_term) (defBody s_l_term) (defScope s_l_term) .none kV_l_term dc_l_term pm_l_term an_l_term cd_l_term ct_l_term), sl_l_term⟩)
    (c_l_term : PySem.W.codeIn K cd_l_term "_law_term" = true)
    (k_l_term : PySem.W.keepIn K (.ref f_l_term) = true)
    (a_l_room : PySem.W.nsIn K mainGlobals "_law_room" = some (some (.ref f_l_room)))
    (l_l_room : K.lookup f_l_room = some ⟨oc_l_room, od_l_room, .func (PySem.W.fnOf "_law_room" "_law_room" (defArgs s_l_room) (defBody s_l_room) (defScope s_l_room) .none kV_l_room dc_l_room pm_l_room an_l_room cd_l_room ct_l_room), sl_l_room⟩)
    (c_l_room : PySem.W.codeIn K cd_l_room "_law_room" = true)
    (k_l_room : PySem.W.keepIn K (.ref f_l_room) = true)
    (a_l_parts : PySem.W.nsIn K mainGlobals "_law_parts" = some (some (.ref f_l_parts)))
    (l_l_parts : K.lookup f_l_parts = some ⟨oc_l_parts, od_l_parts, .func (PySem.W.fnOf "_law_parts" "_law_parts" (defArgs s_l_parts) (defBody s_l_parts) (defScope s_l_parts) .none kV_l_parts dc_l_parts pm_l_parts an_l_parts cd_l_parts ct_l_parts), sl_l_parts⟩)
    (c_l_parts : PySem.W.codeIn K cd_l_parts "_law_parts" = true)
    (k_l_parts : PySem.W.keepIn K (.ref f_l_parts) = true)
    (a_l_renamed : PySem.W.nsIn K mainGlobals "_law_renamed" = some (some (.ref f_l_renamed)))
    (l_l_renamed : K.lookup f_l_renamed = some ⟨oc_l_renamed, od_l_renamed, .func (PySem.W.fnOf "_law_renamed" "_law_renamed" (defArgs s_l_renamed) (defBody s_l_renamed) (defScope s_l_renamed) .none kV_l_renamed dc_l_renamed pm_l_renamed an_l_renamed cd_l_renamed ct_l_renamed), sl_l_renamed⟩)
    (c_l_renamed : PySem.W.codeIn K cd_l_renamed "_law_renamed" = true)
    (k_l_renamed : PySem.W.keepIn K (.ref f_l_renamed) = true)
    (a_l_pairs : PySem.W.nsIn K mainGlobals "_law_pairs" = some (some (.ref f_l_pairs)))
    (l_l_pairs : K.lookup f_l_pairs = some ⟨oc_l_pairs, od_l_pairs, .func (PySem.W.fnOf "_law_pairs" "_law_pairs" (defArgs s_l_pairs) (defBody s_l_pairs) (defScope s_l_pairs) .none kV_l_pairs dc_l_pairs pm_l_pairs an_l_pairs cd_l_pairs ct_l_pairs), sl_l_pairs⟩)
    (c_l_pairs : PySem.W.codeIn K cd_l_pairs "_law_pairs" = true)
    (k_l_pairs : PySem.W.keepIn K (.ref f_l_pairs) = true)
    (a_l_said : PySem.W.nsIn K mainGlobals "_law_said" = some (some (.ref f_l_said)))
    (l_l_said : K.lookup f_l_said = some ⟨oc_l_said, od_l_said, .func (PySem.W.fnOf "_law_said" "_law_said" (defArgs s_l_said) (defBody s_l_said) (defScope s_l_said) .none kV_l_said dc_l_said pm_l_said an_l_said cd_l_said ct_l_said), sl_l_said⟩)
    (c_l_said : PySem.W.codeIn K cd_l_said "_law_said" = true)
    (k_l_said : PySem.W.keepIn K (.ref f_l_said) = true)
    (a_l_due : PySem.W.nsIn K mainGlobals "_law_due" = some (some (.ref f_l_due)))
    (l_l_due : K.lookup f_l_due = some ⟨oc_l_due, od_l_due, .func (PySem.W.fnOf "_law_due" "_law_due" (defArgs s_l_due) (defBody s_l_due) (defScope s_l_due) .none kV_l_due dc_l_due pm_l_due an_l_due cd_l_due ct_l_due), sl_l_due⟩)
    (c_l_due : PySem.W.codeIn K cd_l_due "_law_due" = true)
    (k_l_due : PySem.W.keepIn K (.ref f_l_due) = true)
    (a_l_rows_right : PySem.W.nsIn K mainGlobals "_law_rows_right" = some (some (.ref f_l_rows_right)))
    (l_l_rows_right : K.lookup f_l_rows_right = some ⟨oc_l_rows_right, od_l_rows_right, .func (PySem.W.fnOf "_law_rows_right" "_law_rows_right" (defArgs s_l_rows_right) (defBody s_l_rows_right) (defScope s_l_rows_right) .none kV_l_rows_right dc_l_rows_right pm_l_rows_right an_l_rows_right cd_l_rows_right ct_l_rows_right), sl_l_rows_right⟩)
    (c_l_rows_right : PySem.W.codeIn K cd_l_rows_right "_law_rows_right" = true)
    (k_l_rows_right : PySem.W.keepIn K (.ref f_l_rows_right) = true)
    (a_l_items_right : PySem.W.nsIn K mainGlobals "_law_items_right" = some (some (.ref f_l_items_right)))
    (l_l_items_right : K.lookup f_l_items_right = some ⟨oc_l_items_right, od_l_items_right, .func (PySem.W.fnOf "_law_items_right" "_law_items_right" (defArgs s_l_items_right) (defBody s_l_items_right) (defScope s_l_items_right) .none kV_l_items_right dc_l_items_right pm_l_items_right an_l_items_right cd_l_items_right ct_l_items_right), sl_l_items_right⟩)
    (c_l_items_right : PySem.W.codeIn K cd_l_items_right "_law_items_right" = true)
    (k_l_items_right : PySem.W.keepIn K (.ref f_l_items_right) = true)
    (a_l_refused : PySem.W.nsIn K mainGlobals "_law_refused" = some (some (.ref f_l_refused)))
    (l_l_refused : K.lookup f_l_refused = some ⟨oc_l_refused, od_l_refused, .func (PySem.W.fnOf "_law_refused" "_law_refused" (defArgs s_l_refused) (defBody s_l_refused) (defScope s_l_refused) .none kV_l_refused dc_l_refused pm_l_refused an_l_refused cd_l_refused ct_l_refused), sl_l_refused⟩)
    (c_l_refused : PySem.W.codeIn K cd_l_refused "_law_refused" = true)
    (k_l_refused : PySem.W.keepIn K (.ref f_l_refused) = true)
    (a_l_great_right : PySem.W.nsIn K mainGlobals "_law_great_right" = some (some (.ref f_l_great_right)))
    (l_l_great_right : K.lookup f_l_great_right = some ⟨oc_l_great_right, od_l_great_right, .func (PySem.W.fnOf "_law_great_right" "_law_great_right" (defArgs s_l_great_right) (defBody s_l_great_right) (defScope s_l_great_right) .none kV_l_great_right dc_l_great_right pm_l_great_right an_l_great_right cd_l_great_right ct_l_great_right), sl_l_great_right⟩)
    (c_l_great_right : PySem.W.codeIn K cd_l_great_right "_law_great_right" = true)
    (k_l_great_right : PySem.W.keepIn K (.ref f_l_great_right) = true)
    (a_law : PySem.W.nsIn K mainGlobals "law" = some (some (.ref f_law)))
    (l_law : K.lookup f_law = some ⟨oc_law, od_law, .func (PySem.W.fnOf "law" "law" (defArgs s_law) (defBody s_law) (defScope s_law) .none kV_law dc_law pm_law an_law cd_law ct_law), sl_law⟩)
    (c_law : PySem.W.codeIn K cd_law "law" = true)
    (k_law : PySem.W.keepIn K (.ref f_law) = true)
    {ac_NoTerm ai_NoTerm N_NoTerm : Addr} {nm_NoTerm q_NoTerm : Str} {bs_NoTerm bm_NoTerm : List Value} {sn_NoTerm : List Str} {sub_NoTerm : List Value} {ab_NoTerm : Bool} {col_NoTerm : Option Bool} {dd_NoTerm : Option Addr} {k0_NoTerm k1_NoTerm k2_NoTerm k3_NoTerm k5_NoTerm : Option Value}
    {oc_NoTerm_i kV_NoTerm_i dc_NoTerm_i pm_NoTerm_i cd_NoTerm_i ct_NoTerm_i : Value} {od_NoTerm_i an_NoTerm_i : Option Addr} {sl_NoTerm_i : Array (Option Value)}
    (v_NoTerm : PySem.W.nsIn K mainGlobals "NoTerm" = some (some (.ref ac_NoTerm)))
    (xl_NoTerm : K.lookup ac_NoTerm = some (excClassObj nm_NoTerm q_NoTerm ac_NoTerm N_NoTerm bs_NoTerm bm_NoTerm true sn_NoTerm sub_NoTerm ab_NoTerm col_NoTerm dd_NoTerm k0_NoTerm k1_NoTerm k2_NoTerm k3_NoTerm k5_NoTerm "ValueError.__new__"))
    (xr_NoTerm : PySem.HandSPX.refsVE bm_NoTerm = true)
    (xsa_NoTerm : PySem.W.findIn K (.ref ac_NoTerm) "__setattr__" = some (some (.builtin "object.__setattr__")))
    (xhg_NoTerm : PySem.W.findIn K (.ref ac_NoTerm) "__getattribute__" = some (some (.builtin "BaseException.__getattribute__")))
    (xhk_NoTerm : PySem.W.findIn K (.ref ac_NoTerm) "__getattr__" = some none)
    (xha_NoTerm : PySem.W.findIn K (.ref ac_NoTerm) "__class__" = some (some (.builtin "object.__class__")))
    (xii_NoTerm : PySem.W.findIn K (.ref ac_NoTerm) "__init__" = some (some (.ref ai_NoTerm)))
    (xex_NoTerm : PySem.W.subIn K (.ref ac_NoTerm) (.type "BaseException") = some true)
    (xty_NoTerm : PySem.W.typeIn K (.ref ac_NoTerm) = some (.type "type"))
    (xk_NoTerm : PySem.W.keepIn K (.ref ac_NoTerm) = true)
    (xhd_NoTerm : PySem.W.hasDictIn K ac_NoTerm = true)
    (xhm_NoTerm : PySem.W.mroIn K ac_NoTerm (.type "object") = some true)
    (xti_NoTerm : PySem.W.typeIn K (.ref ai_NoTerm) = some (.type "function"))
    (xkv_NoTerm : PySem.W.subIn K (.ref ac_NoTerm) (.type "ValueError") = some true)
    (xn_NoTerm_found : PySem.W.findIn K (.ref ac_NoTerm) "found" = some none)
    (xil_NoTerm : K.lookup ai_NoTerm = some ⟨oc_NoTerm_i, od_NoTerm_i, .func (PySem.W.fnOf "__init__" "NoTerm.__init__" (defArgs s_NoTerm_init) (defBody s_NoTerm_init) (defScope s_NoTerm_init) .none kV_NoTerm_i dc_NoTerm_i pm_NoTerm_i an_NoTerm_i cd_NoTerm_i ct_NoTerm_i), sl_NoTerm_i⟩)
    (xic_NoTerm : PySem.W.codeIn K cd_NoTerm_i "NoTerm.__init__" = true)
    (xik_NoTerm : PySem.W.keepIn K (.ref ai_NoTerm) = true)
    {ac_NoPlace ai_NoPlace N_NoPlace : Addr} {nm_NoPlace q_NoPlace : Str} {bs_NoPlace bm_NoPlace : List Value} {sn_NoPlace : List Str} {sub_NoPlace : List Value} {ab_NoPlace : Bool} {col_NoPlace : Option Bool} {dd_NoPlace : Option Addr} {k0_NoPlace k1_NoPlace k2_NoPlace k3_NoPlace k5_NoPlace : Option Value}
    {oc_NoPlace_i kV_NoPlace_i dc_NoPlace_i pm_NoPlace_i cd_NoPlace_i ct_NoPlace_i : Value} {od_NoPlace_i an_NoPlace_i : Option Addr} {sl_NoPlace_i : Array (Option Value)}
    (v_NoPlace : PySem.W.nsIn K mainGlobals "NoPlace" = some (some (.ref ac_NoPlace)))
    (xl_NoPlace : K.lookup ac_NoPlace = some (excClassObj nm_NoPlace q_NoPlace ac_NoPlace N_NoPlace bs_NoPlace bm_NoPlace true sn_NoPlace sub_NoPlace ab_NoPlace col_NoPlace dd_NoPlace k0_NoPlace k1_NoPlace k2_NoPlace k3_NoPlace k5_NoPlace "ValueError.__new__"))
    (xr_NoPlace : PySem.HandSPX.refsVE bm_NoPlace = true)
    (xsa_NoPlace : PySem.W.findIn K (.ref ac_NoPlace) "__setattr__" = some (some (.builtin "object.__setattr__")))
    (xhg_NoPlace : PySem.W.findIn K (.ref ac_NoPlace) "__getattribute__" = some (some (.builtin "BaseException.__getattribute__")))
    (xhk_NoPlace : PySem.W.findIn K (.ref ac_NoPlace) "__getattr__" = some none)
    (xha_NoPlace : PySem.W.findIn K (.ref ac_NoPlace) "__class__" = some (some (.builtin "object.__class__")))
    (xii_NoPlace : PySem.W.findIn K (.ref ac_NoPlace) "__init__" = some (some (.ref ai_NoPlace)))
    (xex_NoPlace : PySem.W.subIn K (.ref ac_NoPlace) (.type "BaseException") = some true)
    (xty_NoPlace : PySem.W.typeIn K (.ref ac_NoPlace) = some (.type "type"))
    (xk_NoPlace : PySem.W.keepIn K (.ref ac_NoPlace) = true)
    (xhd_NoPlace : PySem.W.hasDictIn K ac_NoPlace = true)
    (xhm_NoPlace : PySem.W.mroIn K ac_NoPlace (.type "object") = some true)
    (xti_NoPlace : PySem.W.typeIn K (.ref ai_NoPlace) = some (.type "function"))
    (xkv_NoPlace : PySem.W.subIn K (.ref ac_NoPlace) (.type "ValueError") = some true)
    (xn_NoPlace_found : PySem.W.findIn K (.ref ac_NoPlace) "found" = some none)
    (xil_NoPlace : K.lookup ai_NoPlace = some ⟨oc_NoPlace_i, od_NoPlace_i, .func (PySem.W.fnOf "__init__" "NoPlace.__init__" (defArgs s_NoPlace_init) (defBody s_NoPlace_init) (defScope s_NoPlace_init) .none kV_NoPlace_i dc_NoPlace_i pm_NoPlace_i an_NoPlace_i cd_NoPlace_i ct_NoPlace_i), sl_NoPlace_i⟩)
    (xic_NoPlace : PySem.W.codeIn K cd_NoPlace_i "NoPlace.__init__" = true)
    (xik_NoPlace : PySem.W.keepIn K (.ref ai_NoPlace) = true)
    {ac_TooGreat ai_TooGreat N_TooGreat : Addr} {nm_TooGreat q_TooGreat : Str} {bs_TooGreat bm_TooGreat : List Value} {sn_TooGreat : List Str} {sub_TooGreat : List Value} {ab_TooGreat : Bool} {col_TooGreat : Option Bool} {dd_TooGreat : Option Addr} {k0_TooGreat k1_TooGreat k2_TooGreat k3_TooGreat k5_TooGreat : Option Value}
    {oc_TooGreat_i kV_TooGreat_i dc_TooGreat_i pm_TooGreat_i cd_TooGreat_i ct_TooGreat_i : Value} {od_TooGreat_i an_TooGreat_i : Option Addr} {sl_TooGreat_i : Array (Option Value)}
    (v_TooGreat : PySem.W.nsIn K mainGlobals "TooGreat" = some (some (.ref ac_TooGreat)))
    (xl_TooGreat : K.lookup ac_TooGreat = some (excClassObj nm_TooGreat q_TooGreat ac_TooGreat N_TooGreat bs_TooGreat bm_TooGreat true sn_TooGreat sub_TooGreat ab_TooGreat col_TooGreat dd_TooGreat k0_TooGreat k1_TooGreat k2_TooGreat k3_TooGreat k5_TooGreat "ValueError.__new__"))
    (xr_TooGreat : PySem.HandSPX.refsVE bm_TooGreat = true)
    (xsa_TooGreat : PySem.W.findIn K (.ref ac_TooGreat) "__setattr__" = some (some (.builtin "object.__setattr__")))
    (xhg_TooGreat : PySem.W.findIn K (.ref ac_TooGreat) "__getattribute__" = some (some (.builtin "BaseException.__getattribute__")))
    (xhk_TooGreat : PySem.W.findIn K (.ref ac_TooGreat) "__getattr__" = some none)
    (xha_TooGreat : PySem.W.findIn K (.ref ac_TooGreat) "__class__" = some (some (.builtin "object.__class__")))
    (xii_TooGreat : PySem.W.findIn K (.ref ac_TooGreat) "__init__" = some (some (.ref ai_TooGreat)))
    (xex_TooGreat : PySem.W.subIn K (.ref ac_TooGreat) (.type "BaseException") = some true)
    (xty_TooGreat : PySem.W.typeIn K (.ref ac_TooGreat) = some (.type "type"))
    (xk_TooGreat : PySem.W.keepIn K (.ref ac_TooGreat) = true)
    (xhd_TooGreat : PySem.W.hasDictIn K ac_TooGreat = true)
    (xhm_TooGreat : PySem.W.mroIn K ac_TooGreat (.type "object") = some true)
    (xti_TooGreat : PySem.W.typeIn K (.ref ai_TooGreat) = some (.type "function"))
    (xkv_TooGreat : PySem.W.subIn K (.ref ac_TooGreat) (.type "ValueError") = some true)
    (xn_TooGreat_parts : PySem.W.findIn K (.ref ac_TooGreat) "parts" = some none)
    (xil_TooGreat : K.lookup ai_TooGreat = some ⟨oc_TooGreat_i, od_TooGreat_i, .func (PySem.W.fnOf "__init__" "TooGreat.__init__" (defArgs s_TooGreat_init) (defBody s_TooGreat_init) (defScope s_TooGreat_init) .none kV_TooGreat_i dc_TooGreat_i pm_TooGreat_i an_TooGreat_i cd_TooGreat_i ct_TooGreat_i), sl_TooGreat_i⟩)
    (xic_TooGreat : PySem.W.codeIn K cd_TooGreat_i "TooGreat.__init__" = true)
    (xik_TooGreat : PySem.W.keepIn K (.ref ai_TooGreat) = true)
    (xhn : PySem.W.specialIn K (.builtin "object.__class__") "__get__" = some (some (.builtin "getset_descriptor.__get__")))
    (xht : PySem.W.takesIn K (.builtin "object.__class__") = some true)
    {ac_SeekError : Addr}
    (v_SeekError : PySem.W.nsIn K mainGlobals "SeekError" = some (some (.ref ac_SeekError)))
    (sga : PySem.W.specialIn K (.ref ac_SeekError) "__getattribute__" = some (some (.builtin "type.__getattribute__")))
    (srd : PySem.W.readsIn K ac_SeekError (.type "type") = true)
    (svi : PySem.W.findCls K (.ref ac_SeekError) (.type "type") "__init__" = some (.val (.builtin "ValueError.__init__")))
    (xex_SeekError : PySem.W.subIn K (.ref ac_SeekError) (.type "BaseException") = some true)
    (xty_SeekError : PySem.W.typeIn K (.ref ac_SeekError) = some (.type "type"))
    (xhd_SeekError : PySem.W.hasDictIn K ac_SeekError = true)
    (ks_NoTerm_NoTerm : PySem.W.subIn K (.ref ac_NoTerm) (.ref ac_NoTerm) = some true)
    (ks_NoTerm_NoPlace : PySem.W.subIn K (.ref ac_NoTerm) (.ref ac_NoPlace) = some false)
    (ks_NoTerm_TooGreat : PySem.W.subIn K (.ref ac_NoTerm) (.ref ac_TooGreat) = some false)
    (ks_NoPlace_NoTerm : PySem.W.subIn K (.ref ac_NoPlace) (.ref ac_NoTerm) = some false)
    (ks_NoPlace_NoPlace : PySem.W.subIn K (.ref ac_NoPlace) (.ref ac_NoPlace) = some true)
    (ks_NoPlace_TooGreat : PySem.W.subIn K (.ref ac_NoPlace) (.ref ac_TooGreat) = some false)
    (ks_TooGreat_NoTerm : PySem.W.subIn K (.ref ac_TooGreat) (.ref ac_NoTerm) = some false)
    (ks_TooGreat_NoPlace : PySem.W.subIn K (.ref ac_TooGreat) (.ref ac_NoPlace) = some false)
    (ks_TooGreat_TooGreat : PySem.W.subIn K (.ref ac_TooGreat) (.ref ac_TooGreat) = some true)
    (ks_NoTerm_SeekError : PySem.W.subIn K (.ref ac_NoTerm) (.ref ac_SeekError) = some true)
    (ks_NoPlace_SeekError : PySem.W.subIn K (.ref ac_NoPlace) (.ref ac_SeekError) = some true)
    (ks_TooGreat_SeekError : PySem.W.subIn K (.ref ac_TooGreat) (.ref ac_SeekError) = some true)
    (z_ValueError : PySem.W.nsIn K mainGlobals "ValueError" = some none)
    (z_all : PySem.W.nsIn K mainGlobals "all" = some none)
    (z_list : PySem.W.nsIn K mainGlobals "list" = some none)
    (z_reversed : PySem.W.nsIn K mainGlobals "reversed" = some none)
    (z_isinstance : PySem.W.nsIn K mainGlobals "isinstance" = some none)
    (z_tuple : PySem.W.nsIn K mainGlobals "tuple" = some none)
    (z_repr : PySem.W.nsIn K mainGlobals "repr" = some none)
    (z_range : PySem.W.nsIn K mainGlobals "range" = some none)
    (z_int : PySem.W.nsIn K mainGlobals "int" = some none)
    (z_sum : PySem.W.nsIn K mainGlobals "sum" = some none)
    (z_len : PySem.W.nsIn K mainGlobals "len" = some none)
    (z_max : PySem.W.nsIn K mainGlobals "max" = some none)
    (z_bool : PySem.W.nsIn K mainGlobals "bool" = some none)
    (z_str : PySem.W.nsIn K mainGlobals "str" = some none)
    {tt_LETTERS : Tok}
    (v_LETTERS : PySem.W.nsIn K mainGlobals "LETTERS" = some (some (Value.str "abcdefghijklmnopqrstuvwxyz" tt_LETTERS)))
    {tt_LONGEST : Tok}
    (v_LONGEST : PySem.W.nsIn K mainGlobals "LONGEST" = some (some (Value.int 8 tt_LONGEST)))
    {ac_OWN_WORDS : Addr} {dd_OWN_WORDS : Option Addr} {nn_OWN_WORDS : Nat} {ss_OWN_WORDS : Array (Option Value)} {u_OWN_WORDS_0 u_OWN_WORDS_1 u_OWN_WORDS_2 u_OWN_WORDS_3 u_OWN_WORDS_4 u_OWN_WORDS_5 u_OWN_WORDS_6 u_OWN_WORDS_7 : Tok}
    (v_OWN_WORDS : PySem.W.nsIn K mainGlobals "OWN_WORDS" = some (some (.ref ac_OWN_WORDS)))
    (y_OWN_WORDS : K.lookup ac_OWN_WORDS = some ⟨.type "tuple", dd_OWN_WORDS, .seq #[Value.str "rel" u_OWN_WORDS_0, Value.str "same" u_OWN_WORDS_1, Value.str "unlike" u_OWN_WORDS_2, Value.str "one" u_OWN_WORDS_3, Value.str "both" u_OWN_WORDS_4, Value.str "fresh" u_OWN_WORDS_5, Value.str "call" u_OWN_WORDS_6, Value.str "not" u_OWN_WORDS_7] nn_OWN_WORDS, ss_OWN_WORDS⟩)
    {tt_MOST_PARTS : Tok}
    (v_MOST_PARTS : PySem.W.nsIn K mainGlobals "MOST_PARTS" = some (some (Value.int 100 tt_MOST_PARTS)))
    {tt_MOST_UNKNOWN : Tok}
    (v_MOST_UNKNOWN : PySem.W.nsIn K mainGlobals "MOST_UNKNOWN" = some (some (Value.int 999999999 tt_MOST_UNKNOWN)))
    {tt_GREATEST : Tok}
    (v_GREATEST : PySem.W.nsIn K mainGlobals "GREATEST" = some (some (Value.int 999999999999999999999999999999 tt_GREATEST)))
    : ∃ fd : FuncData, (∀ (s : Shared) (v : Value), BindsTo s fd ⟨[v], []⟩ [("_law_script", v)]) ∧ ∀ base : Heap, K.In base → base.Ns mainGlobals mg → FnG l.prog w K mg base CX0 109 fa fd ["_law_script"] (sp_law K) := by
  have e : f_law = fa := (Value.ref.inj (Option.some.inj (hfa.symm.trans (PySem.W.mg_of X G a_law)))).symm
  subst e
  have F_is_whole := fun_mk (st := s_is_whole) l_is_whole c_is_whole k_is_whole
  have b_is_whole := F_is_whole.binds (ps := ["thing"]) fun _ _ _ _ _ _ us hl => match us, hl with | [_], _ => rfl
  have F_is_within := fun_mk (st := s_is_within) l_is_within c_is_within k_is_within
  have b_is_within := F_is_within.binds (ps := ["thing", "low", "high"]) fun _ _ _ _ _ _ us hl => match us, hl with | [_, _, _], _ => rfl
  have F_is_name := fun_mk (st := s_is_name) l_is_name c_is_name k_is_name
  have b_is_name := F_is_name.binds (ps := ["thing"]) fun _ _ _ _ _ _ us hl => match us, hl with | [_], _ => rfl
  have F_is_unknown := fun_mk (st := s_is_unknown) l_is_unknown c_is_unknown k_is_unknown
  have b_is_unknown := F_is_unknown.binds (ps := ["thing"]) fun _ _ _ _ _ _ us hl => match us, hl with | [_], _ => rfl
  have F_is_pair := fun_mk (st := s_is_pair) l_is_pair c_is_pair k_is_pair
  have b_is_pair := F_is_pair.binds (ps := ["term"]) fun _ _ _ _ _ _ us hl => match us, hl with | [_], _ => rfl
  have F_is_single := fun_mk (st := s_is_single) l_is_single c_is_single k_is_single
  have b_is_single := F_is_single.binds (ps := ["thing"]) fun _ _ _ _ _ _ us hl => match us, hl with | [_], _ => rfl
  have F_is_term := fun_mk (st := s_is_term) l_is_term c_is_term k_is_term
  have b_is_term := F_is_term.binds (ps := ["thing"]) fun _ _ _ _ _ _ us hl => match us, hl with | [_], _ => rfl
  have F_need_term := fun_mk (st := s_need_term) l_need_term c_need_term k_need_term
  have b_need_term := F_need_term.binds (ps := ["thing"]) fun _ _ _ _ _ _ us hl => match us, hl with | [_], _ => rfl
  have F_parts_within := fun_mk (st := s_parts_within) l_parts_within c_parts_within k_parts_within
  have b_parts_within := F_parts_within.binds (ps := ["term"]) fun _ _ _ _ _ _ us hl => match us, hl with | [_], _ => rfl
  have F_numbers_in := fun_mk (st := s_numbers_in) l_numbers_in c_numbers_in k_numbers_in
  have b_numbers_in := F_numbers_in.binds (ps := ["term"]) fun _ _ _ _ _ _ us hl => match us, hl with | [_], _ => rfl
  have F_turned_into := fun_mk (st := s_turned_into) l_turned_into c_turned_into k_turned_into
  have b_turned_into := F_turned_into.binds (ps := ["term", "values"]) fun _ _ _ _ _ _ us hl => match us, hl with | [_, _], _ => rfl
  have F_by_coming := fun_mk (st := s_by_coming) l_by_coming c_by_coming k_by_coming
  have b_by_coming := F_by_coming.binds (ps := ["terms"]) fun _ _ _ _ _ _ us hl => match us, hl with | [_], _ => rfl
  have F_listed : FunD K "listed" "listed" (defArgs s_listed) (defBody s_listed) (defScope s_listed) [V.str "nil"] [] f_listed _ := ⟨⟨_, _, _, _, _, _, _, _, _, _, rfl, l_listed, c_listed, .inr ⟨by simp, dT_listed, _, _, _, rfl, dl_listed, rfl, (.cons ⟨_, rfl⟩ .nil)⟩, .inl rfl⟩, k_listed⟩
  obtain ⟨e0_listed, v0_listed, b_listed⟩ := F_listed.binds1 (ps := ["items", "rest"]) 2 1 (by simp) rfl fun _ _ _ _ _ _ _ us its h1 h2 => match us, its, h1, h2 with | [_, _], [_], _, _ => ⟨_, rfl, rfl⟩
  cases v0_listed
  obtain ⟨dv_listed, vd_listed, bd_listed⟩ := F_listed.binds1 (ps := ["items", "rest"]) 1 0 (by simp) rfl fun _ _ _ _ _ _ _ us its h1 h2 => match us, its, h1, h2 with | [_], [_], _, _ => ⟨_, rfl, rfl⟩
  have kb_listed : KBn K _ ["items", "rest"] 1 ["rest"] (fun us ws => us ++ ws) (fun vs zs => vs ++ zs) := funD_kb F_listed 1 ["rest"] (by simp) fun _ _ _ _ _ _ _ us its ws h1 h2 h3 => match us, its, ws, h1, h2, h3 with | [_], [_], [_], _, _, _ => ⟨_, rfl, rfl⟩
  have F_items_of := fun_mk (st := s_items_of) l_items_of c_items_of k_items_of
  have b_items_of := F_items_of.binds (ps := ["term"]) fun _ _ _ _ _ _ us hl => match us, hl with | [_], _ => rfl
  have F_l_cell := fun_mk (st := s_l_cell) l_l_cell c_l_cell k_l_cell
  have b_l_cell := F_l_cell.binds (ps := ["_law_script", "_law_k"]) fun _ _ _ _ _ _ us hl => match us, hl with | [_, _], _ => rfl
  have F_l_purse := fun_mk (st := s_l_purse) l_l_purse c_l_purse k_l_purse
  have b_l_purse := F_l_purse.binds (ps := ["_law_cell_here"]) fun _ _ _ _ _ _ us hl => match us, hl with | [_], _ => rfl
  have F_l_take := fun_mk (st := s_l_take) l_l_take c_l_take k_l_take
  have b_l_take := F_l_take.binds (ps := ["_law_purse_here", "_law_many"]) fun _ _ _ _ _ _ us hl => match us, hl with | [_, _], _ => rfl
  have F_l_single := fun_mk (st := s_l_single) l_l_single c_l_single k_l_single
  have b_l_single := F_l_single.binds (ps := ["_law_purse_here"]) fun _ _ _ _ _ _ us hl => match us, hl with | [_], _ => rfl
  have F_l_term := fun_mk (st := s_l_term) l_l_term c_l_term k_l_term
  have b_l_term := F_l_term.binds (ps := ["_law_purse_here", "_law_room_here"]) fun _ _ _ _ _ _ us hl => match us, hl with | [_, _], _ => rfl
  have F_l_room := fun_mk (st := s_l_room) l_l_room c_l_room k_l_room
  have b_l_room := F_l_room.binds (ps := ["_law_purse_here"]) fun _ _ _ _ _ _ us hl => match us, hl with | [_], _ => rfl
  have F_l_parts := fun_mk (st := s_l_parts) l_l_parts c_l_parts k_l_parts
  have b_l_parts := F_l_parts.binds (ps := ["_law_term_here"]) fun _ _ _ _ _ _ us hl => match us, hl with | [_], _ => rfl
  have F_l_renamed := fun_mk (st := s_l_renamed) l_l_renamed c_l_renamed k_l_renamed
  have b_l_renamed := F_l_renamed.binds (ps := ["_law_term_here", "_law_known"]) fun _ _ _ _ _ _ us hl => match us, hl with | [_, _], _ => rfl
  have F_l_pairs := fun_mk (st := s_l_pairs) l_l_pairs c_l_pairs k_l_pairs
  have b_l_pairs := F_l_pairs.binds (ps := ["_law_items", "_law_last"]) fun _ _ _ _ _ _ us hl => match us, hl with | [_, _], _ => rfl
  have F_l_said := fun_mk (st := s_l_said) l_l_said c_l_said k_l_said
  have b_l_said := F_l_said.binds (ps := ["_law_way", "_law_thing", "_law_last"]) fun _ _ _ _ _ _ us hl => match us, hl with | [_, _, _], _ => rfl
  have F_l_due := fun_mk (st := s_l_due) l_l_due c_l_due k_l_due
  have b_l_due := F_l_due.binds (ps := ["_law_items", "_law_last"]) fun _ _ _ _ _ _ us hl => match us, hl with | [_, _], _ => rfl
  have F_l_rows_right := fun_mk (st := s_l_rows_right) l_l_rows_right c_l_rows_right k_l_rows_right
  have b_l_rows_right := F_l_rows_right.binds (ps := ["_law_items", "_law_last"]) fun _ _ _ _ _ _ us hl => match us, hl with | [_, _], _ => rfl
  have F_l_items_right := fun_mk (st := s_l_items_right) l_l_items_right c_l_items_right k_l_items_right
  have b_l_items_right := F_l_items_right.binds (ps := ["_law_term_here"]) fun _ _ _ _ _ _ us hl => match us, hl with | [_], _ => rfl
  have F_l_refused := fun_mk (st := s_l_refused) l_l_refused c_l_refused k_l_refused
  have b_l_refused := F_l_refused.binds (ps := ["_law_purse_here", "_law_items", "_law_last"]) fun _ _ _ _ _ _ us hl => match us, hl with | [_, _, _], _ => rfl
  have F_l_great_right := fun_mk (st := s_l_great_right) l_l_great_right c_l_great_right k_l_great_right
  have b_l_great_right := F_l_great_right.binds (ps := []) fun _ _ _ _ _ _ us hl => match us, hl with | [], _ => rfl
  have F_law := fun_mk (st := s_law) l_law c_law k_law
  have b_law := F_law.binds (ps := ["_law_script"]) fun _ _ _ _ _ _ us hl => match us, hl with | [_], _ => rfl
  have Fi_NoTerm := fun_mk (st := s_NoTerm_init) xil_NoTerm xic_NoTerm xik_NoTerm
  have bi_NoTerm := Fi_NoTerm.binds (ps := ["self", "found"]) fun _ _ _ _ _ _ us hl => match us, hl with | [_, _], _ => rfl
  have Fi_NoPlace := fun_mk (st := s_NoPlace_init) xil_NoPlace xic_NoPlace xik_NoPlace
  have bi_NoPlace := Fi_NoPlace.binds (ps := ["self", "found"]) fun _ _ _ _ _ _ us hl => match us, hl with | [_, _], _ => rfl
  have Fi_TooGreat := fun_mk (st := s_TooGreat_init) xil_TooGreat xic_TooGreat xik_TooGreat
  have bi_TooGreat := Fi_TooGreat.binds (ps := ["self", "parts"]) fun _ _ _ _ _ _ us hl => match us, hl with | [_, _], _ => rfl
  refine ⟨PySem.W.fnOf "law" "law" (defArgs s_law) (defBody s_law) (defScope s_law) .none kV_law dc_law pm_law an_law cd_law ct_law, fun s v => .of_eq rfl, fun base _ _ => ok_law (P := l.prog) (w := w) (base := base) (K := K) (mg := mg) {
    a_is_whole := f_is_whole, d_is_whole := _, F_is_whole := F_is_whole, b_is_whole := b_is_whole, g_is_whole := PySem.W.mg_of X G a_is_whole,
    a_is_within := f_is_within, d_is_within := _, F_is_within := F_is_within, b_is_within := b_is_within, g_is_within := PySem.W.mg_of X G a_is_within,
    a_is_name := f_is_name, d_is_name := _, F_is_name := F_is_name, b_is_name := b_is_name, g_is_name := PySem.W.mg_of X G a_is_name,
    a_is_unknown := f_is_unknown, d_is_unknown := _, F_is_unknown := F_is_unknown, b_is_unknown := b_is_unknown, g_is_unknown := PySem.W.mg_of X G a_is_unknown,
    a_is_pair := f_is_pair, d_is_pair := _, F_is_pair := F_is_pair, b_is_pair := b_is_pair, g_is_pair := PySem.W.mg_of X G a_is_pair,
    a_is_single := f_is_single, d_is_single := _, F_is_single := F_is_single, b_is_single := b_is_single, g_is_single := PySem.W.mg_of X G a_is_single,
    a_is_term := f_is_term, d_is_term := _, F_is_term := F_is_term, b_is_term := b_is_term, g_is_term := PySem.W.mg_of X G a_is_term,
    a_need_term := f_need_term, d_need_term := _, F_need_term := F_need_term, b_need_term := b_need_term, g_need_term := PySem.W.mg_of X G a_need_term,
    a_parts_within := f_parts_within, d_parts_within := _, F_parts_within := F_parts_within, b_parts_within := b_parts_within, g_parts_within := PySem.W.mg_of X G a_parts_within,
    a_numbers_in := f_numbers_in, d_numbers_in := _, F_numbers_in := F_numbers_in, b_numbers_in := b_numbers_in, g_numbers_in := PySem.W.mg_of X G a_numbers_in,
    a_turned_into := f_turned_into, d_turned_into := _, F_turned_into := F_turned_into, b_turned_into := b_turned_into, g_turned_into := PySem.W.mg_of X G a_turned_into,
    a_by_coming := f_by_coming, d_by_coming := _, F_by_coming := F_by_coming, b_by_coming := b_by_coming, g_by_coming := PySem.W.mg_of X G a_by_coming,
    a_listed := f_listed, d_listed := _, F_listed := F_listed, b_listed := b_listed, g_listed := PySem.W.mg_of X G a_listed,
    dv_listed := dv_listed, bd_listed := bd_listed, vd_listed := vd_listed, kb_listed := kb_listed,
    a_items_of := f_items_of, d_items_of := _, F_items_of := F_items_of, b_items_of := b_items_of, g_items_of := PySem.W.mg_of X G a_items_of,
    a_l_cell := f_l_cell, d_l_cell := _, F_l_cell := F_l_cell, b_l_cell := b_l_cell, g_l_cell := PySem.W.mg_of X G a_l_cell,
    a_l_purse := f_l_purse, d_l_purse := _, F_l_purse := F_l_purse, b_l_purse := b_l_purse, g_l_purse := PySem.W.mg_of X G a_l_purse,
    a_l_take := f_l_take, d_l_take := _, F_l_take := F_l_take, b_l_take := b_l_take, g_l_take := PySem.W.mg_of X G a_l_take,
    a_l_single := f_l_single, d_l_single := _, F_l_single := F_l_single, b_l_single := b_l_single, g_l_single := PySem.W.mg_of X G a_l_single,
    a_l_term := f_l_term, d_l_term := _, F_l_term := F_l_term, b_l_term := b_l_term, g_l_term := PySem.W.mg_of X G a_l_term,
    a_l_room := f_l_room, d_l_room := _, F_l_room := F_l_room, b_l_room := b_l_room, g_l_room := PySem.W.mg_of X G a_l_room,
    a_l_parts := f_l_parts, d_l_parts := _, F_l_parts := F_l_parts, b_l_parts := b_l_parts, g_l_parts := PySem.W.mg_of X G a_l_parts,
    a_l_renamed := f_l_renamed, d_l_renamed := _, F_l_renamed := F_l_renamed, b_l_renamed := b_l_renamed, g_l_renamed := PySem.W.mg_of X G a_l_renamed,
    a_l_pairs := f_l_pairs, d_l_pairs := _, F_l_pairs := F_l_pairs, b_l_pairs := b_l_pairs, g_l_pairs := PySem.W.mg_of X G a_l_pairs,
    a_l_said := f_l_said, d_l_said := _, F_l_said := F_l_said, b_l_said := b_l_said, g_l_said := PySem.W.mg_of X G a_l_said,
    a_l_due := f_l_due, d_l_due := _, F_l_due := F_l_due, b_l_due := b_l_due, g_l_due := PySem.W.mg_of X G a_l_due,
    a_l_rows_right := f_l_rows_right, d_l_rows_right := _, F_l_rows_right := F_l_rows_right, b_l_rows_right := b_l_rows_right, g_l_rows_right := PySem.W.mg_of X G a_l_rows_right,
    a_l_items_right := f_l_items_right, d_l_items_right := _, F_l_items_right := F_l_items_right, b_l_items_right := b_l_items_right, g_l_items_right := PySem.W.mg_of X G a_l_items_right,
    a_l_refused := f_l_refused, d_l_refused := _, F_l_refused := F_l_refused, b_l_refused := b_l_refused, g_l_refused := PySem.W.mg_of X G a_l_refused,
    a_l_great_right := f_l_great_right, d_l_great_right := _, F_l_great_right := F_l_great_right, b_l_great_right := b_l_great_right, g_l_great_right := PySem.W.mg_of X G a_l_great_right,
    a_law := f_law, d_law := _, F_law := F_law, b_law := b_law, g_law := PySem.W.mg_of X G a_law,
    a_NoTerm := ac_NoTerm, g_NoTerm := PySem.W.mg_of X G v_NoTerm, x_NoTerm := ⟨⟨_, _, _, _, _, _, _, _, _, _, _, _, _, _, _, xl_NoTerm, xr_NoTerm⟩, xsa_NoTerm, xex_NoTerm, xty_NoTerm, xk_NoTerm⟩,
    y_NoTerm := ⟨xhg_NoTerm, xhk_NoTerm, xex_NoTerm, xhd_NoTerm, xha_NoTerm, xhn, xht, xhm_NoTerm⟩, f_NoTerm := ⟨xhg_NoTerm, xhk_NoTerm, xex_NoTerm, xhd_NoTerm⟩,
    i_NoTerm := ai_NoTerm, di_NoTerm := _, Fi_NoTerm := Fi_NoTerm, bi_NoTerm := bi_NoTerm, ii_NoTerm := xii_NoTerm, ti_NoTerm := xti_NoTerm, kv_NoTerm := kit_tyE xkv_NoTerm (by decide +kernel),
    n_NoTerm_found := xn_NoTerm_found,
    a_NoPlace := ac_NoPlace, g_NoPlace := PySem.W.mg_of X G v_NoPlace, x_NoPlace := ⟨⟨_, _, _, _, _, _, _, _, _, _, _, _, _, _, _, xl_NoPlace, xr_NoPlace⟩, xsa_NoPlace, xex_NoPlace, xty_NoPlace, xk_NoPlace⟩,
    y_NoPlace := ⟨xhg_NoPlace, xhk_NoPlace, xex_NoPlace, xhd_NoPlace, xha_NoPlace, xhn, xht, xhm_NoPlace⟩, f_NoPlace := ⟨xhg_NoPlace, xhk_NoPlace, xex_NoPlace, xhd_NoPlace⟩,
    i_NoPlace := ai_NoPlace, di_NoPlace := _, Fi_NoPlace := Fi_NoPlace, bi_NoPlace := bi_NoPlace, ii_NoPlace := xii_NoPlace, ti_NoPlace := xti_NoPlace, kv_NoPlace := kit_tyE xkv_NoPlace (by decide +kernel),
    n_NoPlace_found := xn_NoPlace_found,
    a_TooGreat := ac_TooGreat, g_TooGreat := PySem.W.mg_of X G v_TooGreat, x_TooGreat := ⟨⟨_, _, _, _, _, _, _, _, _, _, _, _, _, _, _, xl_TooGreat, xr_TooGreat⟩, xsa_TooGreat, xex_TooGreat, xty_TooGreat, xk_TooGreat⟩,
    y_TooGreat := ⟨xhg_TooGreat, xhk_TooGreat, xex_TooGreat, xhd_TooGreat, xha_TooGreat, xhn, xht, xhm_TooGreat⟩, f_TooGreat := ⟨xhg_TooGreat, xhk_TooGreat, xex_TooGreat, xhd_TooGreat⟩,
    i_TooGreat := ai_TooGreat, di_TooGreat := _, Fi_TooGreat := Fi_TooGreat, bi_TooGreat := bi_TooGreat, ii_TooGreat := xii_TooGreat, ti_TooGreat := xti_TooGreat, kv_TooGreat := kit_tyE xkv_TooGreat (by decide +kernel),
    n_TooGreat_parts := xn_TooGreat_parts,
    a_SeekError := ac_SeekError, g_SeekError := PySem.W.mg_of X G v_SeekError, sga := sga, srd := srd, svi := svi,
    km_NoTerm_NoTerm := kit_refE xhd_NoTerm xty_NoTerm ks_NoTerm_NoTerm (fun e => rfl), em_NoTerm_NoTerm := PySem.W.exm_ref xex_NoTerm xhd_NoTerm xty_NoTerm ks_NoTerm_NoTerm,
    km_NoTerm_NoPlace := kit_refE xhd_NoPlace xty_NoPlace ks_NoTerm_NoPlace (fun e => (by rw [e, ks_NoPlace_NoPlace] at ks_NoTerm_NoPlace; exact ks_NoTerm_NoPlace)), em_NoTerm_NoPlace := PySem.W.exm_ref xex_NoPlace xhd_NoPlace xty_NoPlace ks_NoTerm_NoPlace,
    km_NoTerm_TooGreat := kit_refE xhd_TooGreat xty_TooGreat ks_NoTerm_TooGreat (fun e => (by rw [e, ks_TooGreat_TooGreat] at ks_NoTerm_TooGreat; exact ks_NoTerm_TooGreat)), em_NoTerm_TooGreat := PySem.W.exm_ref xex_TooGreat xhd_TooGreat xty_TooGreat ks_NoTerm_TooGreat,
    km_NoPlace_NoTerm := kit_refE xhd_NoTerm xty_NoTerm ks_NoPlace_NoTerm (fun e => (by rw [e, ks_NoTerm_NoTerm] at ks_NoPlace_NoTerm; exact ks_NoPlace_NoTerm)), em_NoPlace_NoTerm := PySem.W.exm_ref xex_NoTerm xhd_NoTerm xty_NoTerm ks_NoPlace_NoTerm,
    km_NoPlace_NoPlace := kit_refE xhd_NoPlace xty_NoPlace ks_NoPlace_NoPlace (fun e => rfl), em_NoPlace_NoPlace := PySem.W.exm_ref xex_NoPlace xhd_NoPlace xty_NoPlace ks_NoPlace_NoPlace,
    km_NoPlace_TooGreat := kit_refE xhd_TooGreat xty_TooGreat ks_NoPlace_TooGreat (fun e => (by rw [e, ks_TooGreat_TooGreat] at ks_NoPlace_TooGreat; exact ks_NoPlace_TooGreat)), em_NoPlace_TooGreat := PySem.W.exm_ref xex_TooGreat xhd_TooGreat xty_TooGreat ks_NoPlace_TooGreat,
    km_TooGreat_NoTerm := kit_refE xhd_NoTerm xty_NoTerm ks_TooGreat_NoTerm (fun e => (by rw [e, ks_NoTerm_NoTerm] at ks_TooGreat_NoTerm; exact ks_TooGreat_NoTerm)), em_TooGreat_NoTerm := PySem.W.exm_ref xex_NoTerm xhd_NoTerm xty_NoTerm ks_TooGreat_NoTerm,
    km_TooGreat_NoPlace := kit_refE xhd_NoPlace xty_NoPlace ks_TooGreat_NoPlace (fun e => (by rw [e, ks_NoPlace_NoPlace] at ks_TooGreat_NoPlace; exact ks_TooGreat_NoPlace)), em_TooGreat_NoPlace := PySem.W.exm_ref xex_NoPlace xhd_NoPlace xty_NoPlace ks_TooGreat_NoPlace,
    km_TooGreat_TooGreat := kit_refE xhd_TooGreat xty_TooGreat ks_TooGreat_TooGreat (fun e => rfl), em_TooGreat_TooGreat := PySem.W.exm_ref xex_TooGreat xhd_TooGreat xty_TooGreat ks_TooGreat_TooGreat,
    km_NoTerm_SeekError := kit_refE xhd_SeekError xty_SeekError ks_NoTerm_SeekError (fun e => rfl), em_NoTerm_SeekError := PySem.W.exm_ref xex_SeekError xhd_SeekError xty_SeekError ks_NoTerm_SeekError,
    km_NoPlace_SeekError := kit_refE xhd_SeekError xty_SeekError ks_NoPlace_SeekError (fun e => rfl), em_NoPlace_SeekError := PySem.W.exm_ref xex_SeekError xhd_SeekError xty_SeekError ks_NoPlace_SeekError,
    km_TooGreat_SeekError := kit_refE xhd_SeekError xty_SeekError ks_TooGreat_SeekError (fun e => rfl), em_TooGreat_SeekError := PySem.W.exm_ref xex_SeekError xhd_SeekError xty_SeekError ks_TooGreat_SeekError,
    m_ValueError := PySem.W.mg_none_of X G z_ValueError,
    m_all := PySem.W.mg_none_of X G z_all,
    m_list := PySem.W.mg_none_of X G z_list,
    m_reversed := PySem.W.mg_none_of X G z_reversed,
    m_isinstance := PySem.W.mg_none_of X G z_isinstance,
    m_tuple := PySem.W.mg_none_of X G z_tuple,
    m_repr := PySem.W.mg_none_of X G z_repr,
    m_range := PySem.W.mg_none_of X G z_range,
    m_int := PySem.W.mg_none_of X G z_int,
    m_sum := PySem.W.mg_none_of X G z_sum,
    m_len := PySem.W.mg_none_of X G z_len,
    m_max := PySem.W.mg_none_of X G z_max,
    m_bool := PySem.W.mg_none_of X G z_bool,
    m_str := PySem.W.mg_none_of X G z_str,
    t_LETTERS := tt_LETTERS, g_LETTERS := PySem.W.mg_of X G v_LETTERS,
    t_LONGEST := tt_LONGEST, g_LONGEST := PySem.W.mg_of X G v_LONGEST,
    a_OWN_WORDS := ac_OWN_WORDS, g_OWN_WORDS := PySem.W.mg_of X G v_OWN_WORDS, q_OWN_WORDS := fun _ => .inr ⟨_, _, _, y_OWN_WORDS, rfl, rfl, (by show 8 ≤ sizeLine; decide), (.cons ⟨_, rfl⟩ (.cons ⟨_, rfl⟩ (.cons ⟨_, rfl⟩ (.cons ⟨_, rfl⟩ (.cons ⟨_, rfl⟩ (.cons ⟨_, rfl⟩ (.cons ⟨_, rfl⟩ (.cons ⟨_, rfl⟩ .nil))))))))⟩,
    t_MOST_PARTS := tt_MOST_PARTS, g_MOST_PARTS := PySem.W.mg_of X G v_MOST_PARTS,
    t_MOST_UNKNOWN := tt_MOST_UNKNOWN, g_MOST_UNKNOWN := PySem.W.mg_of X G v_MOST_UNKNOWN,
    t_GREATEST := tt_GREATEST, g_GREATEST := PySem.W.mg_of X G v_GREATEST }⟩
end Fs
open PySem PySem.W PyProof.Rows
set_option maxRecDepth 100000 in
set_option maxHeartbeats 0 in
theorem PySem.Challenge.cw_fairseek_k05_rows_and_comings_holds : PySem.Challenge.rw_fairseek_k05_rows_and_comings.Holds := by
  w_on; o_law; k_head; (case hw => w_witness2)
  k_fill
  refine Fs.walkG (l := PySem.Challenge.rw_fairseek_k05_rows_and_comings) (n := 63) (k := 109) (x := "_law_script") (sp := Fs.sp_law) rfl (by decide) rfl ⟨rfl, by decide, by decide⟩ (fun w h Y => PySem.W.kIn_of Y) ?F (fun _ _ a ns hl hS => ⟨a, ns, rfl, hS, hl, fun _ => rfl⟩)
  case F =>
    intro w mg fa h KX G hmg
    refine' Fs.all_mk KX G hmg ?a_is_whole ?l_is_whole ?c_is_whole ?k_is_whole ?a_is_within ?l_is_within ?c_is_within ?k_is_within ?a_is_name ?l_is_name ?c_is_name ?k_is_name ?a_is_unknown ?l_is_unknown ?c_is_unknown ?k_is_unknown ?a_is_pair ?l_is_pair ?c_is_pair ?k_is_pair ?a_is_single ?l_is_single ?c_is_single ?k_is_single ?a_is_term ?l_is_term ?c_is_term ?k_is_term ?a_need_term ?l_need_term ?c_need_term ?k_need_term ?a_parts_within ?l_parts_within ?c_parts_within ?k_parts_within ?a_numbers_in ?l_numbers_in ?c_numbers_in ?k_numbers_in ?a_turned_into ?l_turned_into ?c_turned_into ?k_turned_into ?a_by_coming ?l_by_coming ?c_by_coming ?k_by_coming ?a_listed ?l_listed ?dl_listed ?c_listed ?k_listed ?a_items_of ?l_items_of ?c_items_of ?k_items_of ?a_l_cell ?l_l_cell ?c_l_cell ?k_l_cell ?a_l_purse ?l_l_purse ?c_l_purse ?k_l_purse ?a_l_take ?l_l_take ?c_l_take ?k_l_take ?a_l_single ?l_l_single ?c_l_single ?k_l_single ?a_l_term ?l_l_term ?c_l_term ?k_l_term ?a_l_room ?l_l_room ?c_l_room ?k_l_room ?a_l_parts ?l_l_parts ?c_l_parts ?k_l_parts ?a_l_renamed ?l_l_renamed ?c_l_renamed ?k_l_renamed ?a_l_pairs ?l_l_pairs ?c_l_pairs ?k_l_pairs ?a_l_said ?l_l_said ?c_l_said ?k_l_said ?a_l_due ?l_l_due ?c_l_due ?k_l_due ?a_l_rows_right ?l_l_rows_right ?c_l_rows_right ?k_l_rows_right ?a_l_items_right ?l_l_items_right ?c_l_items_right ?k_l_items_right ?a_l_refused ?l_l_refused ?c_l_refused ?k_l_refused ?a_l_great_right ?l_l_great_right ?c_l_great_right ?k_l_great_right ?a_law ?l_law ?c_law ?k_law ?v_NoTerm ?xl_NoTerm ?xr_NoTerm ?xsa_NoTerm ?xhg_NoTerm ?xhk_NoTerm ?xha_NoTerm ?xii_NoTerm ?xex_NoTerm ?xty_NoTerm ?xk_NoTerm ?xhd_NoTerm ?xhm_NoTerm ?xti_NoTerm ?xkv_NoTerm ?xn_NoTerm_found ?xil_NoTerm ?xic_NoTerm ?xik_NoTerm ?v_NoPlace ?xl_NoPlace ?xr_NoPlace ?xsa_NoPlace ?xhg_NoPlace ?xhk_NoPlace ?xha_NoPlace ?xii_NoPlace ?xex_NoPlace ?xty_NoPlace ?xk_NoPlace ?xhd_NoPlace ?xhm_NoPlace ?xti_NoPlace ?xkv_NoPlace ?xn_NoPlace_found ?xil_NoPlace ?xic_NoPlace ?xik_NoPlace ?v_TooGreat ?xl_TooGreat ?xr_TooGreat ?xsa_TooGreat ?xhg_TooGreat ?xhk_TooGreat ?xha_TooGreat ?xii_TooGreat ?xex_TooGreat ?xty_TooGreat ?xk_TooGreat ?xhd_TooGreat ?xhm_TooGreat ?xti_TooGreat ?xkv_TooGreat ?xn_TooGreat_parts ?xil_TooGreat ?xic_TooGreat ?xik_TooGreat ?xhn ?xht ?v_SeekError ?sga ?srd ?svi ?xex_SeekError ?xty_SeekError ?xhd_SeekError ?ks_NoTerm_NoTerm ?ks_NoTerm_NoPlace ?ks_NoTerm_TooGreat ?ks_NoPlace_NoTerm ?ks_NoPlace_NoPlace ?ks_NoPlace_TooGreat ?ks_TooGreat_NoTerm ?ks_TooGreat_NoPlace ?ks_TooGreat_TooGreat ?ks_NoTerm_SeekError ?ks_NoPlace_SeekError ?ks_TooGreat_SeekError ?z_ValueError ?z_all ?z_list ?z_reversed ?z_isinstance ?z_tuple ?z_repr ?z_range ?z_int ?z_sum ?z_len ?z_max ?z_bool ?z_str ?v_LETTERS ?v_LONGEST ?v_OWN_WORDS ?y_OWN_WORDS ?v_MOST_PARTS ?v_MOST_UNKNOWN ?v_GREATEST
    (case a_is_whole => k_is)
    (case l_is_whole => k_is)
    (case c_is_whole => k_is)
    (case k_is_whole => k_is)
    (case a_is_within => k_is)
    (case l_is_within => k_is)
    (case c_is_within => k_is)
    (case k_is_within => k_is)
    (case a_is_name => k_is)
    (case l_is_name => k_is)
    (case c_is_name => k_is)
    (case k_is_name => k_is)
    (case a_is_unknown => k_is)
    (case l_is_unknown => k_is)
    (case c_is_unknown => k_is)
    (case k_is_unknown => k_is)
    (case a_is_pair => k_is)
    (case l_is_pair => k_is)
    (case c_is_pair => k_is)
    (case k_is_pair => k_is)
    (case a_is_single => k_is)
    (case l_is_single => k_is)
    (case c_is_single => k_is)
    (case k_is_single => k_is)
    (case a_is_term => k_is)
    (case l_is_term => k_is)
    (case c_is_term => k_is)
    (case k_is_term => k_is)
    (case a_need_term => k_is)
    (case l_need_term => k_is)
    (case c_need_term => k_is)
    (case k_need_term => k_is)
    (case a_parts_within => k_is)
    (case l_parts_within => k_is)
    (case c_parts_within => k_is)
    (case k_parts_within => k_is)
    (case a_numbers_in => k_is)
    (case l_numbers_in => k_is)
    (case c_numbers_in => k_is)
    (case k_numbers_in => k_is)
    (case a_turned_into => k_is)
    (case l_turned_into => k_is)
    (case c_turned_into => k_is)
    (case k_turned_into => k_is)
    (case a_by_coming => k_is)
    (case l_by_coming => k_is)
    (case c_by_coming => k_is)
    (case k_by_coming => k_is)
    (case a_listed => k_is)
    (case l_listed => k_is)
    (case dl_listed => k_is)
    (case c_listed => k_is)
    (case k_listed => k_is)
    (case a_items_of => k_is)
    (case l_items_of => k_is)
    (case c_items_of => k_is)
    (case k_items_of => k_is)
    (case a_l_cell => k_is)
    (case l_l_cell => k_is)
    (case c_l_cell => k_is)
    (case k_l_cell => k_is)
    (case a_l_purse => k_is)
    (case l_l_purse => k_is)
    (case c_l_purse => k_is)
    (case k_l_purse => k_is)
    (case a_l_take => k_is)
    (case l_l_take => k_is)
    (case c_l_take => k_is)
    (case k_l_take => k_is)
    (case a_l_single => k_is)
    (case l_l_single => k_is)
    (case c_l_single => k_is)
    (case k_l_single => k_is)
    (case a_l_term => k_is)
    (case l_l_term => k_is)
    (case c_l_term => k_is)
    (case k_l_term => k_is)
    (case a_l_room => k_is)
    (case l_l_room => k_is)
    (case c_l_room => k_is)
    (case k_l_room => k_is)
    (case a_l_parts => k_is)
    (case l_l_parts => k_is)
    (case c_l_parts => k_is)
    (case k_l_parts => k_is)
    (case a_l_renamed => k_is)
    (case l_l_renamed => k_is)
    (case c_l_renamed => k_is)
    (case k_l_renamed => k_is)
    (case a_l_pairs => k_is)
    (case l_l_pairs => k_is)
    (case c_l_pairs => k_is)
    (case k_l_pairs => k_is)
    (case a_l_said => k_is)
    (case l_l_said => k_is)
    (case c_l_said => k_is)
    (case k_l_said => k_is)
    (case a_l_due => k_is)
    (case l_l_due => k_is)
    (case c_l_due => k_is)
    (case k_l_due => k_is)
    (case a_l_rows_right => k_is)
    (case l_l_rows_right => k_is)
    (case c_l_rows_right => k_is)
    (case k_l_rows_right => k_is)
    (case a_l_items_right => k_is)
    (case l_l_items_right => k_is)
    (case c_l_items_right => k_is)
    (case k_l_items_right => k_is)
    (case a_l_refused => k_is)
    (case l_l_refused => k_is)
    (case c_l_refused => k_is)
    (case k_l_refused => k_is)
    (case a_l_great_right => k_is)
    (case l_l_great_right => k_is)
    (case c_l_great_right => k_is)
    (case k_l_great_right => k_is)
    (case a_law => k_is)
    (case l_law => k_is)
    (case c_law => k_is)
    (case k_law => k_is)
    (case v_NoTerm => k_is)
    (case xl_NoTerm => k_is)
    (case xr_NoTerm => decide +kernel)
    (case xsa_NoTerm => k_is)
    (case xhg_NoTerm => k_is)
    (case xhk_NoTerm => k_is)
    (case xha_NoTerm => k_is)
    (case xii_NoTerm => k_is)
    (case xex_NoTerm => k_is)
    (case xty_NoTerm => k_is)
    (case xk_NoTerm => k_is)
    (case xhd_NoTerm => k_is)
    (case xhm_NoTerm => k_is)
    (case xti_NoTerm => k_is)
    (case xkv_NoTerm => k_is)
    (case xn_NoTerm_found => k_is)
    (case xil_NoTerm => k_is)
    (case xic_NoTerm => k_is)
    (case xik_NoTerm => k_is)
    (case v_NoPlace => k_is)
    (case xl_NoPlace => k_is)
    (case xr_NoPlace => decide +kernel)
    (case xsa_NoPlace => k_is)
    (case xhg_NoPlace => k_is)
    (case xhk_NoPlace => k_is)
    (case xha_NoPlace => k_is)
    (case xii_NoPlace => k_is)
    (case xex_NoPlace => k_is)
    (case xty_NoPlace => k_is)
    (case xk_NoPlace => k_is)
    (case xhd_NoPlace => k_is)
    (case xhm_NoPlace => k_is)
    (case xti_NoPlace => k_is)
    (case xkv_NoPlace => k_is)
    (case xn_NoPlace_found => k_is)
    (case xil_NoPlace => k_is)
    (case xic_NoPlace => k_is)
    (case xik_NoPlace => k_is)
    (case v_TooGreat => k_is)
    (case xl_TooGreat => k_is)
    (case xr_TooGreat => decide +kernel)
    (case xsa_TooGreat => k_is)
    (case xhg_TooGreat => k_is)
    (case xhk_TooGreat => k_is)
    (case xha_TooGreat => k_is)
    (case xii_TooGreat => k_is)
    (case xex_TooGreat => k_is)
    (case xty_TooGreat => k_is)
    (case xk_TooGreat => k_is)
    (case xhd_TooGreat => k_is)
    (case xhm_TooGreat => k_is)
    (case xti_TooGreat => k_is)
    (case xkv_TooGreat => k_is)
    (case xn_TooGreat_parts => k_is)
    (case xil_TooGreat => k_is)
    (case xic_TooGreat => k_is)
    (case xik_TooGreat => k_is)
    (case xhn => k_is)
    (case xht => k_is)
    (case v_SeekError => k_is)
    (case sga => k_is)
    (case srd => k_is)
    (case svi => k_is)
    (case xex_SeekError => k_is)
    (case xty_SeekError => k_is)
    (case xhd_SeekError => k_is)
    (case ks_NoTerm_NoTerm => k_is)
    (case ks_NoTerm_NoPlace => k_is)
    (case ks_NoTerm_TooGreat => k_is)
    (case ks_NoPlace_NoTerm => k_is)
    (case ks_NoPlace_NoPlace => k_is)
    (case ks_NoPlace_TooGreat => k_is)
    (case ks_TooGreat_NoTerm => k_is)
    (case ks_TooGreat_NoPlace => k_is)
    (case ks_TooGreat_TooGreat => k_is)
    (case ks_NoTerm_SeekError => k_is)
    (case ks_NoPlace_SeekError => k_is)
    (case ks_TooGreat_SeekError => k_is)
    (case z_ValueError => k_is)
    (case z_all => k_is)
    (case z_list => k_is)
    (case z_reversed => k_is)
    (case z_isinstance => k_is)
    (case z_tuple => k_is)
    (case z_repr => k_is)
    (case z_range => k_is)
    (case z_int => k_is)
    (case z_sum => k_is)
    (case z_len => k_is)
    (case z_max => k_is)
    (case z_bool => k_is)
    (case z_str => k_is)
    (case v_LETTERS => k_is)
    (case v_LONGEST => k_is)
    (case v_OWN_WORDS => k_is)
    (case y_OWN_WORDS => k_is)
    (case v_MOST_PARTS => k_is)
    (case v_MOST_UNKNOWN => k_is)
    (case v_GREATEST => k_is)
#print axioms PySem.Challenge.cw_fairseek_k05_rows_and_comings_holds
