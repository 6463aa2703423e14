import PyProof.Rows.All
import Wide.All
import OpenK.AllK
import Wide.FinOn
import HandS.ForMost
import HandS.IsInst
import HandS.Style
import HandS.Wide
import HandS.Walk
import HandS.ForExc
import HandS.ExcInit
import HandS.ExcField
import HandS.ExcIs
import HandS.TupAny
import HandS.Conv
import PyProof.ReprRoads
import PyProof.ReprBulk
import HandS.ExcBuiltin
import HandS.ExcOwn
import PySem.Challenge.RW_fairseek_k02_refusals_apart
set_option Elab.async false
set_option linter.all false
set_option maxRecDepth 100000
namespace Fs
open PySem PySem.Spec PyProof.Rows L2
/-! ### heaps -/
theorem same_upd {H : Hp} {p : Addr} {o : HO} (h : H p = none) : Same H (upd H p o) := fun b x e => by
  rw [upd_ne (ne_of_none e h)]
  exact e
/-- all but what stands at p is as it was -/
def Off (p : Addr) (H H' : Hp) : Prop := ∀ b o, b ≠ p → H b = some o → H' b = some o
theorem Off.refl (p : Addr) (H : Hp) : Off p H H := fun _ _ _ h => h
theorem Off.trans {p : Addr} {H H1 H2 : Hp} (a : Off p H H1) (b : Off p H1 H2) : Off p H H2 := fun c o n h => b c o n (a c o n h)
theorem Off.of {p : Addr} {H H' : Hp} (a : Same H H') : Off p H H' := fun c o _ h => a c o h
theorem Off.put {p : Addr} {H : Hp} {o : HO} : Off p H (upd H p o) := fun c u n h => by
  rw [upd_ne n]
  exact h
theorem Off.new {p q : Addr} {H H' : Hp} {o : HO} (a : Off p H H') (h : H' q = none) : Off p H (upd H' q o) := fun c u n e => by
  have e' := a c u n e
  rw [upd_ne (ne_of_none e' h)]
  exact e'
theorem Off.free {p q : Addr} {H H' : Hp} (a : Off p H H') (h : H' q = none) (n : q ≠ p) : H q = none := by
  cases e : H q with
  | none => rfl
  | some o =>
    rw [a q o n e] at h
    cases h
theorem Off.mut {p q : Addr} {H H' : Hp} {o : HO} (a : Off p H H') (h : H q = none) : Off p H (upd H' q o) := fun c u n e => by
  rw [upd_ne (ne_of_none e h)]
  exact a c u n e
/-- p is new: nothing of old is touched -/
theorem Off.same {p : Addr} {H0 H H' : Hp} (s : Same H0 H) (n : H0 p = none) (a : Off p H H') : Same H0 H' := fun c o e =>
  a c o (ne_of_none e n) (s c o e)
theorem same_mut {H H' : Hp} {p : Addr} {o : HO} (e : Same H H') (h : H p = none) : Same H (upd H' p o) := fun b x q => by
  rw [upd_ne (ne_of_none q h)]
  exact e b x q
theorem sz_le {n : Nat} (h : n ≤ 1000000) : n ≤ sizeLine := Nat.le_trans h (by decide)
theorem sz_lt {n : Nat} (h : n < 1000000) : n < sizeLine := Nat.lt_of_lt_of_le h (by decide)
/-! ### kinds of things -/
inductive Kn where
  | non | bl | int | str | lst | tup | dct
def Kn.name : Kn → String
  | .non => "NoneType" | .bl => "bool" | .int => "int" | .str => "str" | .lst => "list" | .tup => "tuple" | .dct => "dict"
def Kn.isBl : Kn → Bool
  | .bl => true | _ => false
def Kn.isInt : Kn → Bool
  | .bl => true | .int => true | _ => false
def Kn.isWhole : Kn → Bool
  | .int => true | _ => false
def Kn.isStr : Kn → Bool
  | .str => true | _ => false
def Kn.isTup : Kn → Bool
  | .tup => true | _ => false
def Kn.isLst : Kn → Bool
  | .lst => true | _ => false
abbrev Knd (K : PySem.W.Frag) (H : Hp) (x : V) (k : Kn) : Prop := TyX K H x (.type k.name)
theorem kit_bl {K : PySem.W.Frag} (k : Kn) : PySem.W.kitOne K (.type k.name) (.type "bool") = some k.isBl := kit_ty (by cases k <;> decide +kernel)
theorem kit_int {K : PySem.W.Frag} (k : Kn) : PySem.W.kitOne K (.type k.name) (.type "int") = some k.isInt := kit_ty (by cases k <;> decide +kernel)
theorem kit_str {K : PySem.W.Frag} (k : Kn) : PySem.W.kitOne K (.type k.name) (.type "str") = some k.isStr := kit_ty (by cases k <;> decide +kernel)
theorem kit_tup {K : PySem.W.Frag} (k : Kn) : PySem.W.kitOne K (.type k.name) (.type "tuple") = some k.isTup := kit_ty (by cases k <;> decide +kernel)
theorem kit_lst {K : PySem.W.Frag} (k : Kn) : PySem.W.kitOne K (.type k.name) (.type "list") = some k.isLst := kit_ty (by cases k <;> decide +kernel)
section
variable {K : PySem.W.Frag} {H : Hp}
theorem kn_non : Knd K H .non .non := .base .non
theorem kn_bl (b : Bool) : Knd K H (.bl b) .bl := .base (.bl b)
theorem kn_int (i : Int) : Knd K H (.int i) .int := .base (.int i)
theorem kn_str (x : Str) : Knd K H (.str x) .str := .base (.str x)
theorem kn_lst {a : Addr} {xs : List V} (e : H a = some (.lst xs)) : Knd K H (.ref a) .lst := .base (.lst e)
theorem kn_tup {a : Addr} {xs : List V} (e : H a = some (.tup xs)) : Knd K H (.ref a) .tup := .base (.tup e)
theorem kn_dct {a : Addr} {xs : List (Key × V)} (e : H a = some (.dK xs)) : Knd K H (.ref a) .dct := .base (.dK e)
end
theorem Knd.same {K : PySem.W.Frag} {H H' : Hp} {x : V} {k : Kn} (h : Knd K H x k) (s : Same H H') : Knd K H' x k := by
  revert h
  show TyX K H x (.type k.name) → TyX K H' x (.type k.name)
  generalize Value.type k.name = t
  intro h
  cases h with
  | base b =>
    cases b with
    | non => exact .base .non
    | bl x => exact .base (.bl x)
    | int i => exact .base (.int i)
    | str x => exact .base (.str x)
    | flt x => exact .base (.flt x)
    | lst e => exact .base (.lst (s _ _ e))
    | frz e => exact .base (.frz (s _ _ e))
    | tup e => exact .base (.tup (s _ _ e))
    | dK e => exact .base (.dK (s _ _ e))
    | dT e => exact .base (.dT (s _ _ e))
    | ins e cl ha hn htk hm => exact .base (.ins (s _ _ e) cl ha hn htk hm)
  | byt b => exact .byt b
  | set e => exact .set (s _ _ e)
  | kList e c => exact .kList e c
  | kTuple e c => exact .kTuple e c
  | kDict e c => exact .kDict e c
  | fTuple e => exact .fTuple (s _ _ e)
  | fDict e => exact .fDict (s _ _ e)
/-! ### indices -/
theorem atI_of {α : Type} {xs : List α} {i : Int} {x : α} (h0 : 0 ≤ i) (h : xs[i.toNat]? = some x) : atI xs i = some x := by
  have e : i = ((i.toNat : Nat) : Int) := by omega
  rw [e]
  exact atI_nat h
theorem atI_in {α : Type} {xs : List α} {i : Int} (h0 : 0 ≤ i) (h1 : i < (xs.length : Int)) : ∃ x, atI xs i = some x ∧ x ∈ xs := by
  have hl : i.toNat < xs.length := by omega
  exact ⟨xs[i.toNat], atI_of h0 (List.getElem?_eq_getElem hl), List.getElem_mem hl⟩
theorem lst_at {H : Hp} {l : Addr} {xs : List V} {i : Int} (h : H l = some (.lst xs)) (h0 : 0 ≤ i) (h1 : i < (xs.length : Int)) : ∃ x, H l = some (.lst xs) ∧ atI xs i = some x ∧ x ∈ xs := by
  obtain ⟨x, a, b⟩ := atI_in h0 h1
  exact ⟨x, h, a, b⟩
/-! ### texts -/
def OkS (z : Str) : Prop := ∀ c ∈ z.cps.toList, c < 1114112
theorem OkS.dec {z : Str} (h : z.cps.toList.all (fun c => decide (c < 1114112)) = true) : OkS z := fun c hc => of_decide_eq_true (List.all_eq_true.mp h c hc)
theorem OkS.strOk {z : Str} (h : OkS z) : PyData.strOk z = true := by
  unfold PyData.strOk
  rw [← Array.all_toList, List.all_eq_true]
  exact fun c hc => decide_eq_true (h c hc)
theorem cps_app (a b : Str) : (a ++ b).cps.toList = a.cps.toList ++ b.cps.toList := by
  show (a.cps ++ b.cps).toList = _
  simp
theorem OkS.app {a b : Str} (ha : OkS a) (hb : OkS b) : OkS (a ++ b) := fun c hc => by
  rw [cps_app] at hc
  rcases List.mem_append.mp hc with h | h
  · exact ha c h
  · exact hb c h
theorem OkS.cut {a : Str} (ha : OkS a) (lo hi : Option Int) : OkS (cutS a lo hi) := fun c hc => by
  unfold cutS at hc
  rw [List.toList_toArray] at hc
  exact ha c (List.mem_of_mem_drop (List.mem_of_mem_take hc))
theorem OkS.one {c : Nat} (h : c < 1114112) : OkS ⟨#[c]⟩ := fun d hd => by
  have e : d = c := by simpa using hd
  rw [e]
  exact h
theorem cps_glued (sep : Str) : ∀ (rest : List Str) (acc : Array Nat), (rest.foldl (fun acc p => acc ++ sep.cps ++ p.cps) acc).toList = acc.toList ++ (rest.map fun p => sep.cps.toList ++ p.cps.toList).flatten
  | [], acc => by simp
  | p :: r, acc => by
    rw [List.foldl_cons, cps_glued sep r]
    simp
theorem OkS.join {sep : Str} (hs : OkS sep) : ∀ {ys : List Str}, (∀ y ∈ ys, OkS y) → OkS (Txt.join sep ys)
  | [], _ => fun c hc => by
    have e : (Txt.join sep []).cps.toList = [] := rfl
    rw [e] at hc
    cases hc
  | y :: r, h => fun c hc => by
    have e : (Txt.join sep (y :: r)).cps.toList = y.cps.toList ++ (r.map fun p => sep.cps.toList ++ p.cps.toList).flatten := cps_glued sep r y.cps
    rw [e] at hc
    rcases List.mem_append.mp hc with hc | hc
    · exact h y List.mem_cons_self c hc
    · obtain ⟨l, hl, hc⟩ := List.mem_flatten.mp hc
      obtain ⟨p, hp, rfl⟩ := List.mem_map.mp hl
      rcases List.mem_append.mp hc with hc | hc
      · exact hs c hc
      · exact h p (List.mem_cons_of_mem _ hp) c hc
/-- a ≤ b ≤ c, c a name's value -/
theorem chain_var {a b c : Int} {R : VK} {H : Hp} {σ : L2.St} {i : Nat} (hi : σ[i]? = some (some (.int c))) (h : R (.bl (decide (a ≤ b) && decide (b ≤ c))) H) :
    ∃ k, V.bl (decide (a ≤ b)) = .bl k ∧ (if k = true then tVar i σ H (fun w' H4 => rI0 (fun i j => .bl (decide (i ≤ j))) (.int b) w' H4 R) else R (.bl false) H) := by
  refine ⟨_, rfl, ?_⟩
  by_cases c1 : a ≤ b
  · rw [decide_eq_true c1] at h ⊢
    exact ⟨_, hi, _, _, rfl, rfl, h⟩
  · rw [decide_eq_false c1] at h ⊢
    exact h

/-! ### a def whose promise may lean on this: nothing is being shown around (repr's own guard is empty) -/
structure FnG (P : Program) (w : World) (K : PySem.W.Frag) (mg : Str → Option Value) (base : Heap) (CX : CXT) (k : Nat) (f : Addr) (fd : FuncData) (ps : List Str) (sp : Sp) : Prop where
  len : ∀ vs H Q E, sp vs H Q E → vs.length = ps.length
  go : ∀ (A : Around) (outer : List PySem.Env) (s : Shared) (H : Hp) (args : Args) (us : List Value) (vs : List V) (Q : VK) (E : XK), Room k A → A.guards = some [] → Env0 P w K mg base A outer s H → BindsTo s fd args (ps.zip us) → Vals vs us → sp vs H Q E →
    codeAny (model P w) A (.call (.ref f) args) (CR CX outer P w H s Q E) s
theorem FnG.of {P : Program} {w : World} {K : PySem.W.Frag} {mg : Str → Option Value} {base : Heap} {CX : CXT} {k : Nat} {f : Addr} {fd : FuncData} {ps : List Str} {sp : Sp} (F : FnOk P w K mg base CX k f fd ps sp) : FnG P w K mg base CX k f fd ps sp :=
  ⟨F.len, fun A outer s H args us vs Q E hr _ => F.run A outer s H args us vs Q E hr⟩
theorem FnG.mono {P : Program} {w : World} {K : PySem.W.Frag} {mg : Str → Option Value} {base : Heap} {CX : CXT} {j k : Nat} {f : Addr} {fd : FuncData} {ps : List Str} {sp : Sp} (F : FnG P w K mg base CX j f fd ps sp) (h : j ≤ k) : FnG P w K mg base CX k f fd ps sp :=
  ⟨F.len, fun A outer s H args us vs Q E hr => F.go A outer s H args us vs Q E (hr.mono h)⟩
section
variable {P : Program} {w : World} {K : PySem.W.Frag} {mg : Str → Option Value} {base : Heap}
theorem fnG_of {CX : CXT} {x qual : Str} {st : Stmt} {f : Addr} {fd : FuncData} {N ps : List Str} {k : Nat} {sp : Sp} (F : Fun K x qual st f fd) (S : FnScope N ps (defScope st)) (len : ∀ vs H Q E, sp vs H Q E → vs.length = ps.length)
    (hbody : ∀ (cdv : Value) (A : Around) (outer : List PySem.Env) (s : Shared) (H : Hp) (vs : List V) (Q : VK) (E : XK), Room k (A.deeper (envOfC qual (defScope st) s.heap.objs.size f cdv)) → A.guards = some [] → sp vs H Q E →
      ∃ t, PSs (cxOf CX P w K mg base N qual (defScope st) f cdv A outer s H E) (defBody st) t ∧ t { nx := fun _ H' => Q .non H', rt := Q } (L2.start N vs) H) : FnG P w K mg base CX (k + 1) f fd ps sp := by
  obtain ⟨oc, od, kV, doc, pm, an, cdv, ct, osl, rfl, lk, hcd⟩ := F.ex
  refine ⟨len, fun A outer s H args us vs Q E hr hg e0 hb r hsp => ?_⟩
  have kept : ∀ b o, base.get? b = some o → s.heap.get? b = some o := fun b o e => (e0.bs b o e).1
  have KX := e0.mod.kin.keeps kept
  have lim := e0.mod.nolimit.keeps kept
  refine codeAny_call_function hr.depth (KX _ _ lk) rfl S.co S.gen rfl (PySem.W.codeRec_of KX hcd) (hb _ _ _ _ (wpAny_newFunctionEnv_cells S.kind (fun y hy => ?_) fun env he s1 x => ?_))
  · rcases S.par y.1 (List.of_mem_zip hy).1 with q | q
    · exact .inl q
    · exact .inr ⟨q, PySem.W.cellsFrom_some _ _ _ (.inl q)⟩
  · subst he
    obtain ⟨t, ht, hq⟩ := hbody cdv A outer s H vs Q E (hr.deeper _) hg hsp
    refine ⟨lim.keeps x.toInCall.keep, codeAny_func (wpAny_mono (ht.run [] s1 (L2.start N vs) H _ (inv_start S hr.hd e0 (len _ _ _ _ hsp) r x) hq) (fun fl s' hs => ?_) fun e s' hs => hs)⟩
    cases fl with
    | ret u =>
      obtain ⟨v, _, H', J, rv, q⟩ := hs
      exact ⟨v, H', J.os, J.bare, J.base, J.hok, rv, q⟩
    | next =>
      obtain ⟨_, H', J, q⟩ := hs
      exact ⟨.non, H', J.os, J.bare, J.base, J.hok, rfl, q⟩
    | brk => exact hs.choose_spec.choose_spec.2.elim
    | cont => exact hs.choose_spec.choose_spec.2.elim
/-- a def that lets nothing out -/
theorem okG {x qual : Str} {st : Stmt} {f : Addr} {fd : FuncData} {N ps : List Str} {k : Nat} {sp : Sp} (F : Fun K x qual st f fd) (S : FnScope N ps (defScope st)) (len : ∀ vs H Q E, sp vs H Q E → vs.length = ps.length)
    (hbody : ∀ (cdv : Value) (A : Around) (outer : List PySem.Env) (s : Shared) (H : Hp) (vs : List V) (Q : VK) (E : XK), Room k (A.deeper (envOfC qual (defScope st) s.heap.objs.size f cdv)) → A.guards = some [] → sp vs H Q E →
      ∃ t, PSs (cxOf CX0 P w K mg base N qual (defScope st) f cdv A outer s H E).nox (defBody st) t ∧ t { nx := fun _ H' => Q .non H', rt := Q } (L2.start N vs) H) : FnG P w K mg base CX0 (k + 1) f fd ps sp :=
  fnG_of F S len fun cdv A outer s H vs Q E hr hg h => by
    obtain ⟨t, ht, q⟩ := hbody cdv A outer s H vs Q E hr hg h
    exact ⟨t, ht.nox, q⟩
end
section
variable {X : Cx} {CX : CXT} {k : Nat} {f : Addr} {fd : FuncData} {ps : List Str} {sp : Sp} {E : XK} {x : Str} {p pos : Pos} {e : Expr} {es : List Expr} {t : TA}
theorem runG {pins : List (Addr × Obj)} {σ : L2.St} {H : Hp} {s : Shared} {Q : VK} {us : List Value} {vs : List V} (F : FnG X.prog X.w X.K X.mg X.base CX k f fd ps sp) (hr : Room k X.A) (hgd : X.A.guards = some []) (hb : Binds X.K fd ps []) (hx : Passes CX X E)
    (I : Inv X pins σ H s) (r : Vals vs us) (h : sp (vs ++ []) H Q E) : wpAny (model X.prog X.w) X.A (call (.ref f) us) (EP X pins σ Q) X.xe s := by
  have r2 : Vals (vs ++ []) (us ++ []) := r.append .nil
  have hl : (us ++ []).length = ps.length := r2.length.symm.trans (F.len _ _ _ _ h)
  refine wpAny_call (codeAny_mono (F.go X.A X.stack s H ⟨us, []⟩ (us ++ []) (vs ++ []) Q E hr hgd I.env0 (hb s us I.kIn hl) r2 h) fun r s' hq => ?_)
  match r, hq with
  | .error e, hq => exact hx pins σ H s e s' I hq
  | .ok (.ret u), hq => exact I.after hq
theorem pe_callG (F : FnG X.prog X.w X.K X.mg X.base CX k f fd ps sp) (hr : Room k X.A) (hgd : X.A.guards = some []) (hg : Gl X x) (hm : X.mg x = some (.ref f)) (hk : PySem.W.keepIn X.K (.ref f) = true) (hb : Binds X.K fd ps []) (hx : Passes CX X E)
    (ha : PA X (e :: es) t) (hdb : (x == ("__debug__" : Str)) = false := by decide) (he : starEach (e :: es) X.env = (false, eval e X.env) :: starEach es X.env := by rfl) (hpl : (backTo pos (starEach es X.env)).any (·.1) = false := by rfl) :
    PE X (.Call (.Name x p) (e :: es) [] pos) (tCall sp [] E t) :=
  ⟨fun pins s σ H Q I h => wpAny_Call_Name_kw (ld_glob I hg hm (PySem.W.callWith_K (h₀ := X.base) I.ok.mod.kin hk
    (thn (ha.run pos pins s σ H _ I h) fun us s1 ⟨vs, H1, I1, r, q⟩ => ⟨I1.kIn, runG F hr hgd hb hx I1 r q⟩) he hpl) hdb)⟩
theorem pe_callG0 (F : FnG X.prog X.w X.K X.mg X.base CX k f fd ps sp) (hr : Room k X.A) (hgd : X.A.guards = some []) (hg : Gl X x) (hm : X.mg x = some (.ref f)) (hk : PySem.W.keepIn X.K (.ref f) = true) (hb : Binds X.K fd ps []) (hx : Passes CX X E)
    (hdb : (x == ("__debug__" : Str)) = false := by decide) : PE X (.Call (.Name x p) [] [] pos) (tCall sp [] E tNil) :=
  ⟨fun pins s σ H Q I h => wpAny_Call_Name_kw (ld_glob I hg hm (PySem.W.callWith_K0 I.kIn hk (runG (us := []) F hr hgd hb hx I .nil h)) hdb)⟩
end
/-! ### the end of a law whose def is such a one -/
theorem lawG {P : Program} {w : World} {K : PySem.W.Frag} {mg mb : Str → Option Value} {k : Nat} {fa a : Addr} {fd : FuncData} {x : Str} {sp : Sp} {s1 : Shared} {vs : List Value} {ns : List Int}
    (KX : K.In s1.heap) (hns : s1.heap.Ns mainGlobals mg) (hb : s1.heap.Ns builtinsNs mb) (hbb : ∀ x : Str, x ≠ "__name__" → mb x = bootBuiltins x) (hlim : s1.heap.NoLimit) (hg : s1.gens = #[])
    (ha : s1.heap.get? a = some { cls := .type "list", data := .seq vs.toArray }) (hi : IntsAre vs ns) (hl : ns.length ≤ sizeLine) (hr : Room k callerA)
    (F : ∀ base : Heap, K.In base → base.Ns mainGlobals mg → FnG P w K mg base CX0 k fa fd [x] sp) (hbind : ∀ (s : Shared) (u : Value), BindsTo s fd ⟨[u], []⟩ [(x, u)])
    (hsp : ∀ H : Hp, SqL K H a (ns.map V.int) → sp [.ref a] H (fun v _ => v = .bl true) fun _ _ _ => False) :
    codeAny (model P w) callerA (.call (.ref fa) ⟨[.ref a], []⟩) (fun r s' => r = .ok (.ret (.bool true)) ∧ OldK s1.heap s'.heap ∧ s'.os = s1.os ∧ AllBare s'.gens) s1 := by
  have rv := vals_ints hi
  have key : ∀ H : Hp, SqL K H a (ns.map V.int) → HOk P w H s1.heap → (∀ b u, H b = some u → b = a ∧ (∃ o xs, u = .frz o (.lst xs)) ∧ K.lookup a = none) →
      codeAny (model P w) callerA (.call (.ref fa) ⟨[.ref a], []⟩) (fun r s' => r = .ok (.ret (.bool true)) ∧ OldK s1.heap s'.heap ∧ s'.os = s1.os ∧ AllBare s'.gens) s1 := by
    intro H hS hok hA
    have free : ∀ {b : Addr}, (∀ o, s1.heap.get? b = some o → ¬ (b = a ∧ K.lookup a = none)) → ∀ o, s1.heap.get? b = some o → H b = none := fun {b} n o e => by
      cases q : H b with
      | none => rfl
      | some u => exact absurd ⟨(hA b u q).1, (hA b u q).2.2⟩ (n o e)
    have nsK : ∀ {b : Addr} {m : Str → Option Value}, s1.heap.Ns b m → (hidT s1.heap H).Ns b m := fun {b m} ⟨o, es, ep, e, d, r⟩ =>
      ⟨o, es, ep, hidT_get e (free (fun o2 e2 z => by
        rw [z.1, ha] at e
        cases e
        cases d) o e), d, r⟩
    have hKb : K.In (hidT s1.heap H) := fun b o e => hidT_get (KX b o e) (free (fun o2 e2 z => by
      rw [z.1, z.2] at e
      cases e) o (KX b o e))
    have hM : Mod K mg (hidT s1.heap H) := ⟨hKb, nsK hns, ⟨mb, nsK hb, hbb⟩, let ⟨mc, h1, h2⟩ := hlim; ⟨mc, nsK h1, h2⟩⟩
    have no : ∀ b : Addr, b ∉ ([] : List Addr) := fun b => by simp
    have e0 : Env0 P w K mg (hidT s1.heap H) callerA [] s1 H := ⟨rfl, hM, fun b o e => of_hidT e, Nat.le_of_eq (hidT_size _ _), trivial, fun b hb => absurd hb (no b), hok, .of_eq hg⟩
    refine codeAny_mono ((F _ hKb (nsK hns)).go callerA [] s1 H ⟨[.ref a], []⟩ [.ref a] [.ref a] _ _ hr rfl e0 (hbind s1 (.ref a)) (.cons rfl .nil) (hsp H hS)) fun r s' h => ?_
    match r, h with
    | .error e, h => exact h.elim
    | .ok (.ret u), h =>
      obtain ⟨v, H', os, bare, un, hok', r', q⟩ := h
      cases (show v = .bl true from q)
      cases (show u = Value.bool true from r')
      refine ⟨rfl, OldK.of_keep fun b o e => ?_, os, bare⟩
      cases q : H b with
      | none => exact un.keep b o e q (no b) (no b)
      | some u =>
        obtain ⟨_, ⟨ob, xs, rfl⟩, _⟩ := hA b u q
        have e1 := (hok b _ q).1
        rw [e] at e1
        cases e1
        exact (hok' b _ (un.frzs b _ _ q)).1
  cases hk : K.lookup a with
  | some o =>
    have e := KX a o hk
    rw [ha] at e
    cases e
    exact key (fun _ => none) (.inr ⟨_, vs.toArray, _, hk, rfl, rfl, rfl, by rw [List.size_toArray, hi.length]; exact hl, by simpa using rv⟩) (fun b u z => nomatch z) fun b u z => nomatch z
  | none =>
    let ob : Obj := { cls := .type "list", data := .seq vs.toArray }
    have at_ : ∀ b u, (fun c : Addr => if c = a then some (HO.frz ob (.lst (ns.map V.int))) else none) b = some u → b = a ∧ u = .frz ob (.lst (ns.map V.int)) := fun b u z => by
      by_cases hb : b = a
      · exact ⟨hb, (Option.some.inj ((if_pos hb).symm.trans z)).symm⟩
      · have z' := (if_neg hb).symm.trans z
        cases z'
    refine key (fun c => if c = a then some (.frz ob (.lst (ns.map V.int))) else none) (.inl (.inr ⟨ob, if_pos rfl⟩)) (fun b u z => ?_) fun b u z => ?_
    · obtain ⟨rfl, rfl⟩ := at_ b u z
      exact ⟨ha, by rw [List.length_map]; exact hl, vs, _, rv, ha⟩
    · obtain ⟨rfl, rfl⟩ := at_ b u z
      exact ⟨rfl, ⟨_, _, rfl⟩, hk⟩
theorem walkG {l : PySem.W.OpenLaw} {n k : Nat} {q : Program} {loose : List Str} {XP : (Str → Option Value) → Heap → Prop} {YP : World → Heap → Prop} {d : DefRec} {K : Params → PySem.W.Frag} {sp : PySem.W.Frag → Sp} {x : Str}
    (hn : l.most = some n) (hn2 : n ≤ sizeLine) (hdf : d.params.defaults = []) (hr : Room k callerA) (hY : ∀ (w : World) (h : Heap), YP w h → (K w.params).In h)
    (F : ∀ (w : World) (mg : Str → Option Value) (fa : Addr) (h : Heap), (K w.params).In h → h.Ns mainGlobals mg → mg d.name = some (.ref fa) →
      ∃ fd : FuncData, (∀ (s : Shared) (u : Value), BindsTo s fd ⟨[u], []⟩ [(x, u)]) ∧ ∀ base : Heap, (K w.params).In base → base.Ns mainGlobals mg → FnG l.prog w (K w.params) mg base CX0 k fa fd [x] (sp (K w.params)))
    (hsp : ∀ (K : PySem.W.Frag) (H : Hp) (a : Addr) (ns : List Int), ns.length ≤ n → SqL K H a (ns.map V.int) → sp K [.ref a] H (fun v _ => v = .bl true) fun _ _ _ => False) :
    PySem.W.WalkO q loose XP YP l.row.toRowW d [] (fun f vs => PySem.call f vs) := by
  refine Att.attach_call hn hdf fun w s0 s1 mg mb fa o pm cd doc a vs ns G Y ho hd hcd hmg hobj hints hlen hg => ?_
  obtain ⟨fd, hb, hF⟩ := F w mg fa _ (hY w _ Y) G.T.g hmg
  exact lawG (hY w _ Y) G.T.g G.T.b G.T.builtins G.T.nolimit hg hobj hints (Nat.le_trans hlen hn2) hr hF hb fun H hS => hsp _ H a ns hlen hS


/-! ### a list held against the empty list, whatever stands in it -/
def rNilL (K : PySem.W.Frag) (neg : Bool) : R2 := fun x y H Q => ∃ a b xs, x = .ref a ∧ y = .ref b ∧ SqL K H a xs ∧ SqL K H b [] ∧ Q (.bl (if neg then !xs.isEmpty else xs.isEmpty)) H
section
variable {X : Cx}
theorem op_neNil (hu : X.A.units + 64 < cLine) : OpR X (compareOp .NotEq) (rNilL X.K true) := by
  intro pins s σ H x y v u Q I rx ry h
  obtain ⟨a, b, xs, rfl, rfl, hx, hy, q⟩ := h
  cases rx
  cases ry
  obtain ⟨its, r, pl, _⟩ := I.list hx
  obtain ⟨its2, r2, pl2, _⟩ := I.list hy
  cases r2
  have hu' : X.A.units < cLine := Nat.lt_of_le_of_lt (Nat.le_add_right _ _) hu
  cases r with
  | nil =>
    exact SeqAt.RcNeAt.lists (e := fun _ => true) pl.isList pl2.isList rfl hu' (fun j h1 => absurd h1 (by simp)) X.prog X.w X.xe _ ⟨.bl false, H, I, rfl, q⟩
  | cons r1 r2 =>
    exact SeqAt.RcNeAt.lists_lengths pl.isList pl2.isList (by simp) hu' X.prog X.w X.xe _ ⟨.bl true, H, I, rfl, q⟩
theorem op_eqNil (hu : X.A.units + 64 < cLine) : OpR X (compareOp .Eq) (rNilL X.K false) := by
  intro pins s σ H x y v u Q I rx ry h
  obtain ⟨a, b, xs, rfl, rfl, hx, hy, q⟩ := h
  cases rx
  cases ry
  obtain ⟨its, r, pl, _⟩ := I.list hx
  obtain ⟨its2, r2, pl2, _⟩ := I.list hy
  cases r2
  have hu' : X.A.units < cLine := Nat.lt_of_le_of_lt (Nat.le_add_right _ _) hu
  cases r with
  | nil => exact SeqAt.eq_listAt (e := fun _ => true) pl.isList pl2.isList rfl hu' (fun j h1 => absurd h1 (by simp)) ⟨.bl true, H, I, rfl, q⟩
  | cons r1 r2 => exact SeqAt.eq_list_lengthsAt pl.isList pl2.isList (by simp) hu' ⟨.bl false, H, I, rfl, q⟩
end
/-! ### data, empty dicts too -/
mutual
inductive Dq (K : PySem.W.Frag) (H : Hp) : V → PyData → Prop
  | non : Dq K H .non .none
  | bl (b : Bool) : Dq K H (.bl b) (.bool b)
  | int (i : Int) : Dq K H (.int i) (.int i)
  | str (x : Str) : Dq K H (.str x) (.str x)
  | lst {a : Addr} {xs : List V} {ds : List PyData} : SqL K H a xs → DqAll K H xs ds → Dq K H (.ref a) (.list ds)
  | tup {a : Addr} {xs : List V} {ds : List PyData} : SqT K H a xs → DqAll K H xs ds → Dq K H (.ref a) (.tuple ds)
  | dct {a : Addr} : H a = some (.dK []) → Dq K H (.ref a) (.dict [])
inductive DqAll (K : PySem.W.Frag) (H : Hp) : List V → List PyData → Prop
  | nil : DqAll K H [] []
  | cons {v : V} {vs : List V} {d : PyData} {ds : List PyData} : Dq K H v d → DqAll K H vs ds → DqAll K H (v :: vs) (d :: ds)
end
section
variable {K : PySem.W.Frag} {H H' : Hp}
theorem seqT {a : Addr} {xs : List V} (e : Same H H') (h : SqT K H a xs) : SqT K H' a xs := by
  rcases h with (h | ⟨o, h⟩) | h
  · exact .inl (.inl (e _ _ h))
  · exact .inl (.inr ⟨o, e _ _ h⟩)
  · exact .inr h
mutual
theorem Dq.same (s : Same H H') : ∀ {v : V} {d : PyData}, Dq K H v d → Dq K H' v d
  | _, _, .non => .non
  | _, _, .bl b => .bl b
  | _, _, .int i => .int i
  | _, _, .str x => .str x
  | _, _, .lst h r => .lst (s.seq h) (DqAll.same s r)
  | _, _, .tup h r => .tup (seqT s h) (DqAll.same s r)
  | _, _, .dct h => .dct (s _ _ h)
theorem DqAll.same (s : Same H H') : ∀ {vs : List V} {ds : List PyData}, DqAll K H vs ds → DqAll K H' vs ds
  | _, _, .nil => .nil
  | _, _, .cons h r => .cons (Dq.same s h) (DqAll.same s r)
end
theorem DqAll.length : ∀ {vs : List V} {ds : List PyData}, DqAll K H vs ds → vs.length = ds.length
  | _, _, .nil => rfl
  | _, _, .cons _ r => congrArg Nat.succ r.length
end
section
variable {X : Cx} {pins : List (Addr × Obj)} {σ : L2.St} {H : Hp} {s : Shared}
/-- how a value is read and shown -/
def Rk (X : Cx) (h : Heap) (u : Value) (d : PyData) : Prop := (∃ as, Reads h u d as) ∧ ∃ bs, ReadAtMost h d.depth bs ∧ ReprK X.prog X.w bs h d.depth u d.shown
def RkAll (X : Cx) (h : Heap) (us : List Value) (ds : List PyData) : Prop := (∃ as, ReadsAll h us ds as) ∧ ∃ bs, ReadAtMost h (PyData.depthAll ds) bs ∧ ReprAllK X.prog X.w bs h (PyData.depthAll ds) us (PyData.shownAll ds)
theorem rk_leaf {h : Heap} {u : Value} {d : PyData} (r : Reads h u d []) (i : ReprIs X.prog X.w u d.shown) : Rk X h u d := ⟨⟨_, r⟩, [], (fun _ z => nomatch z), .of_is i _ _ _⟩
mutual
theorem Dq.rk (I : Inv X pins σ H s) : ∀ (d : PyData) (v : V) (u : Value), Dq X.K H v d → RelV v u → d.showable = true → d.shown.length ≤ sizeLine → Rk X s.heap u d
  | .none, _, _, h, r, _, _ => by
    cases h
    cases r
    exact rk_leaf .none ReprIs.none
  | .bool b, _, _, h, r, _, _ => by
    cases h
    cases r
    exact rk_leaf (.bool b) (ReprIs.bool b)
  | .int i, _, _, h, r, hs, _ => by
    cases h
    obtain ⟨t, rfl⟩ := r
    exact rk_leaf (.int i t) (ReprIs.int t (of_decide_eq_true hs))
  | .str x, _, _, h, r, _, hz => by
    cases h
    obtain ⟨t, rfl⟩ := r
    exact rk_leaf (.str x t) (ReprIs.str x t hz)
  | .list ds, _, _, h, r, hs, hz => by
    cases h with
    | @lst a xs _ hq ha =>
      cases r
      obtain ⟨its, rv, ⟨o, n, ho, hc, _, hd⟩, _⟩ := I.list hq
      obtain ⟨⟨as, hr⟩, bs, hb, hk⟩ := DqAll.rk I ds _ its ha rv hs fun t ht => Nat.le_trans (listText_mem_le ht) hz
      have rd : Reads s.heap (.ref a) (.list ds) _ := Reads.list ho hc hd hr
      refine ⟨⟨_, rd⟩, a :: bs, ReadAtMost.cons rd (Nat.le_succ _) hb, ?_⟩
      cases its with
      | nil =>
        cases hr
        exact ReprK.listEmpty ho hc hd
      | cons x l => exact ReprK.list ho hc hd (not_mem_of_deeper rd (Nat.lt_succ_self _) hb) (by simpa using hk.length_eq) fun i y e => hk.item i y (by simpa using e)
  | .tuple ds, _, _, h, r, hs, hz => by
    cases h with
    | @tup a xs _ hq ha =>
      cases r
      obtain ⟨its, rv, ⟨o, ho, hc, n, hd⟩, _⟩ := I.tuple hq
      obtain ⟨⟨as, hr⟩, bs, hb, hk⟩ := DqAll.rk I ds _ its ha rv hs fun t ht => Nat.le_trans (tupleText_mem_le ht) hz
      have rd : Reads s.heap (.ref a) (.tuple ds) _ := Reads.tuple ho hc hd hr
      exact ⟨⟨_, rd⟩, a :: bs, ReadAtMost.cons rd (Nat.le_succ _) hb, ReprK.tuple ho hc hd (not_mem_of_deeper rd (Nat.lt_succ_self _) hb) hk⟩
  | .dict kvs, _, _, h, r, hs, hz => by
    cases h with
    | @dct a ha =>
      cases r
      obtain ⟨_, hsys, vs, hv, o, es, ep, ho, hc, hd, _, he, _⟩ := (show ObjOk X.prog X.w H s.heap a (.dK []) from I.hok a _ ha)
      cases hv
      have he' : es.toList = [] := by
        cases hp : es.toList with
        | nil => rfl
        | cons x l =>
          rw [hp] at he
          cases he
      have e : es = #[] := by
        cases es
        cases he'
        rfl
      subst e
      have rd : Reads s.heap (.ref a) (.dict []) _ := Reads.dict ho hc.1 hd ReadsAll.nil ReadsAll.nil
      exact ⟨⟨_, rd⟩, [a], ReadAtMost.cons rd (Nat.zero_le _) (fun _ z => nomatch z), ReprK.dict ho hc.1 hd hsys (fun z => nomatch z) .nil⟩
theorem DqAll.rk (I : Inv X pins σ H s) : ∀ (ds : List PyData) (vs : List V) (us : List Value), DqAll X.K H vs ds → Vals vs us → PyData.showableAll ds = true → (∀ t ∈ PyData.shownAll ds, t.length ≤ sizeLine) → RkAll X s.heap us ds
  | [], _, _, h, r, _, _ => by
    cases h
    cases r
    exact ⟨⟨_, .nil⟩, [], (fun _ z => nomatch z), .nil⟩
  | d :: ds, _, _, h, r, hs, hz => by
    cases h with
    | cons h1 h2 =>
      cases r with
      | cons r1 r2 =>
        obtain ⟨s1, s2⟩ := Bool.and_eq_true_iff.mp hs
        obtain ⟨⟨_, q1⟩, b1, m1, k1⟩ := Dq.rk I d _ _ h1 r1 s1 (hz _ List.mem_cons_self)
        obtain ⟨⟨_, q2⟩, b2, m2, k2⟩ := DqAll.rk I ds _ _ h2 r2 s2 fun t ht => hz t (List.mem_cons_of_mem _ ht)
        exact ⟨⟨_, .cons q1 q2⟩, b1 ++ b2, (m1.mono (Nat.le_max_left _ _)).append (m2.mono (Nat.le_max_right _ _)),
          .cons ((k1.more fun _ z => List.mem_append_left _ z).level_le (Nat.le_max_left _ _)) (k2.more_le (fun _ z => List.mem_append_right _ z) (Nat.le_max_right _ _))⟩
end
/-- repr of a list -/
def rReprL (K : PySem.W.Frag) : List V → Hp → VK → Prop := fun xs H Q => ∃ (a : Addr) (d : PyData) (ds : List PyData), xs = [.ref a] ∧ Dq K H (.ref a) (.list (d :: ds)) ∧ PyData.showable (.list (d :: ds)) = true ∧ (PyData.shown (.list (d :: ds))).length ≤ sizeLine ∧
  PyData.depth (.list (d :: ds)) ≤ 190 ∧ Q (.str (PyData.shown (.list (d :: ds)))) H
theorem call_reprL (hgd : X.A.guards = some []) (hu : X.A.units + 200 < cLine) : CallR X (.builtin "repr") (rReprL X.K) := by
  intro pins s σ H xs us Q I r h
  obtain ⟨a, d, ds, rfl, hq, hs, hz, hd, q⟩ := h
  obtain ⟨u, rfl, rx⟩ := vals1 r
  cases rx
  cases hq with
  | @lst _ ys _ hl ha =>
    obtain ⟨its, rv, ⟨o, n, ho, hc, _, hda⟩, _⟩ := I.list hl
    obtain ⟨⟨as, hr⟩, bs, hb, hk⟩ := DqAll.rk I (d :: ds) _ its ha rv hs fun t ht => Nat.le_trans (listText_mem_le ht) hz
    have rd : Reads s.heap (.ref a) (.list (d :: ds)) _ := Reads.list ho hc hda hr
    cases its with
    | nil =>
      have hr' : ReadsAll s.heap [] (d :: ds) as := hr
      cases hr'
    | cons x l =>
      have hd' : PyData.depthAll (d :: ds) + 1 ≤ 190 := hd
      refine call_repr_slot (by omega) ⟨o, ho, hc⟩ F.slot_list_repr.toG (call_list_reprK ho hc hda (not_mem_of_deeper rd (Nat.lt_succ_self _) hb) (by simpa using hk.length_eq) (fun i y e => hk.item i y (by simpa using e)) hgd (fun b _ => Clear.nil b)
        (by show X.A.units + 1 + (PyData.depthAll (d :: ds) + 1) < cLine; omega) (fun _ _ e => e) (fun h' u tk k => ⟨_, _, rfl, .str (PyData.shown (.list (d :: ds))), H, I.kept k, ⟨_, rfl⟩, q⟩) hz)
end
/-! ### len, its deed by a name -/
def rLenS (K : PySem.W.Frag) : List V → Hp → VK → Prop := fun xs H Q => ∃ p ys, xs = [.ref p] ∧ (SqL K H p ys ∨ SqT K H p ys) ∧ Q (.int ys.length) H
theorem call_lenS {X : Cx} : CallR X (.builtin "len") (rLenS X.K) := call_len_seq


/-! ### SeekError.__init__(self, ..): the class's own name, the built-in's deed -/
section
variable {X : Cx} {e : Expr} {es : List Expr} {ta : TA} {p1 p2 pos : Pos} {S : Addr} {mc : Value}
theorem pe_seinit {x : Str} {pl : Sem Bool} (hg : Gl X x) (hm : X.mg x = some (.ref S)) (hga : PySem.W.specialIn X.K (.ref S) "__getattribute__" = some (some (.builtin "type.__getattribute__"))) (hrd : PySem.W.readsIn X.K S mc = true)
    (vV : PySem.W.findCls X.K (.ref S) mc "__init__" = some (.val (.builtin "ValueError.__init__"))) (ha : PA X (e :: es) ta) (hdb : (x == ("__debug__" : Str)) = false := by decide)
    (hc : eval (.Call (.Attribute (.Name x p1) "__init__" p2) (e :: es) [] pos) X.env = (do
      let ov ← eval (.Name x p1) X.env
      standAt p2.atName
      let (f, first) ← holding [ov] (getMethod ov "__init__" pl)
      callWith pos f first (backTo pos (starEach (e :: es) X.env)) (backToKw pos (keywordEach [] X.env))) := by rfl)
    (he : starEach (e :: es) X.env = (false, eval e X.env) :: starEach es X.env := by rfl) (hpl : (backTo pos (starEach es X.env)).any (·.1) = false := by rfl) :
    PE X (.Call (.Attribute (.Name x p1) "__init__" p2) (e :: es) [] pos) (tVeI X.K ta) := by
  refine ⟨fun pins s σ H Q I h => PySem.W.methodCall_KW (ld_glob I hg hm (PySem.W.method_cls I.kIn hga (PySem.W.cls_value I.kIn hrd vV (by decide +kernel) ?_)) hdb) hc⟩
  show wpAny _ _ (callWith pos (Value.builtin "ValueError.__init__") [] (backTo pos (starEach (e :: es) X.env)) []) _ _ _
  refine PyProof.Rows.callWith_method1 (thn (ha.run pos pins _ σ H _ (I.tok _) h) fun us s1 ⟨vs, H1, I1, r1, a, C, ws, ev, hl, T, ea, q⟩ => ?_) he hpl
  subst ev
  match us, r1 with
  | u0 :: ur, .cons ra rr =>
    cases (show u0 = Value.ref a from ra)
    exact oinit_ok T I1 ea (by rw [← Paired.length rr, sizeLine_eq]; omega) fun s' J => ⟨.non, H1, J, rfl, q⟩
end
/-! ### isinstance(e, C), isinstance(e, (C, D)), e the caught exception with its dict -/
section
open PySem.W
variable {prog : Program} {w : World} {A : Around} {E : Value → Shared → Prop} {s : Shared} {K : Frag} {x D : Addr} {ox : Obj} {od : Option Obj}
theorem class_of_exc (C : ExcC K D) {Q : Option Value → Shared → Prop} (X : K.In s.heap) (I : InstAt s.heap x ox D od) (h : Q (some (.ref D)) { s with toks := s.toks + 1 }) : wpAny (model prog w) A (getAttr? (.ref x) "__class__") Q E s := by
  have hf : findObj K D od "__class__" = some (.bind (.builtin "getset_descriptor.__get__") (.builtin "object.__class__")) := by
    obtain ⟨cd, hc, _⟩ := any_some C.hd
    unfold findObj
    rw [hc, Option.bind_some, C.ha, Option.bind_some]
    simp [C.hn, C.ht]
  obtain ⟨hp, g, d, t, os⟩ := s
  have L0 := I.type (M := model prog w)
  have no : (onTheHeap (Value.ref D) && Value.builtin "BaseException.__getattribute__" == Value.builtin "object.__getattribute__") = false := by
    rw [show (Value.builtin "BaseException.__getattribute__" == Value.builtin "object.__getattribute__") = false by decide +kernel]
    rfl
  unfold getAttr? getAttrBy? getAttrBy
  refine wpAny_bind (wpAny_mkText (wpAny_bind (wpAny_attempt (wpAny_holding (wpAny_bind (L0.at (wpAny_bind ((looks_findIn X C.hg).at ?_))))))))
  dsimp only
  rw [no, if_neg Bool.false_ne_true]
  unfold getAttrByItsOwn hookBefore
  refine wpAny_bind ?_
  rw [if_pos (show onTheHeap (Value.ref D) = true from rfl)]
  refine (looks_findIn X C.hk).at (wpAny_bind (wpAny_attempt (wpAny_holding ?_)))
  unfold callGetattribute
  rw [if_neg (show ¬ (false && onTheHeap (Value.builtin "BaseException.__getattribute__")) = true from Bool.false_ne_true)]
  unfold boundAndCalled
  rw [PySem.F.excAttr_ValueError.ga.bind (.ref x)]
  refine wpAny_bind (wpAny_pure (wpAny_call (codeAny_call_builtin PySem.F.excAttr_ValueError.ga.plain PySem.F.entry_bexc_ga ?_)))
  refine @check_slot (model prog w) _ _ ⟨hp, g, d, t + 1, os⟩ "BaseException.__getattribute__" "BaseException" "__getattribute__" (.ref x) [.str "__class__" t] [] _ (by decide +kernel) (by decide +kernel) (L0.andThen (looks_subIn X C.hs)) (PySem.F.args_bexc_ga (.ref x) (.str "__class__" t)) ?_
  unfold Builtin.«object.__getattribute__»
  refine wpAny_bind (wpAny_of_eq (a := ((Value.ref x : Value), [Value.str "__class__" t])) (by first | rfl | (simp only [slotArgs]; rfl)) ?_)
  refine wpAny_bind (wpAny_pure (wpAny_bind (L0.at (wpAny_bind ((looks_find (M := model prog w) X I hf).at ?_)))))
  show wpAny _ _ (holding [Value.builtin "object.__class__"] (call (.builtin "getset_descriptor.__get__") [.builtin "object.__class__", .ref x, .ref D]) >>= ret) _ _ _
  refine wpAny_bind (wpAny_holding (wpAny_call (class_get (s := ⟨hp, g, d, t + 1, os⟩) (ox := ox) (od := od) X I C.hm (wpAny_pure ?_))))
  show wpAny _ _ (handedOut (.ref D)) _ _ _
  rw [handedOut_of (v := .ref D) rfl]
  first
    | exact wpAny_pure (wpAny_pure h)
    | exact wpAny_pure h
    | exact wpAny_pure (wpAny_bind (wpAny_pure (wpAny_pure h)))
theorem kit_exc (C : ExcC K D) (hd : ∃ cd, clsIn K D = some cd) : KitX K (.ref x) (.ref D) (fun h => InstAt h x ox D od) where
  ty := fun _ _ _ I => I.type
  it := fun _ _ X _ => by
    obtain ⟨cdD, hcD⟩ := hd
    unfold clsIn at hcD
    split at hcD
    · rename_i c' d' cd' sl' ho
      intro A' Q' E' s' k q
      unfold isType loadHead
      exact wpAny_bind (wpAny_loadPart (k _ _ (X _ _ ho)) (wpAny_pure q))
    · cases hcD
  ne := fun h tp dd its n sl X htp => by
    obtain ⟨cdD, hcD⟩ := hd
    refine Bool.eq_false_iff.mpr fun q => ?_
    cases (Value.ref.inj (beq_iff_eq.mp q))
    unfold clsIn at hcD
    split at hcD
    · rename_i c' d' cd' sl' ho
      cases (X _ _ ho).symm.trans htp
    · cases hcD
  ca := fun X I k => class_of_exc C X I k
end
/-- isinstance of the exception at a that the suite holds; its class D, its dict dd -/
def rIsX (K : PySem.W.Frag) (a : Addr) (cls : Value) (d : Option Addr) : List V → Hp → VK → Prop := fun xs H Q => ∃ (D dd : Addr) (fs : List (Str × V)) (b : Bool), cls = .ref D ∧ d = some dd ∧ H dd = some (.xd fs) ∧ ExcC K D ∧
  ((∃ c cv, xs = [.ref a, c] ∧ ClsV c cv ∧ PySem.W.kitOne K (.ref D) cv = some b) ∨ ∃ tp cs us, xs = [.ref a, .ref tp] ∧ H tp = some (.tup cs) ∧ Paired ClsV cs us ∧ PySem.W.kitAny K (.ref D) us = some b) ∧ Q (.bl b) H
theorem call_isX {X : Cx} {a : Addr} {oe : Obj} {cls : Value} {d : Option Addr} {pn : List (Addr × Obj)} (hz : Zc cls d oe) (hf : ∃ vs, oe.data = .fields vs) : CallR (X.suite a ((a, oe) :: pn)) (.builtin "isinstance") (rIsX X.K a cls d) := by
  intro pins s σ H xs us Q I r h
  obtain ⟨D, dd, fs, b, rfl, rfl, hdd, C, hk, q⟩ := h
  obtain ⟨hget, _⟩ := I.pin (a, oe) (List.mem_append_left _ List.mem_cons_self)
  obtain ⟨vs, hv⟩ := hf
  obtain ⟨mA, hns, _⟩ := (show ObjOk X.prog X.w H s.heap dd (.xd fs) from I.hok dd _ hdd)
  obtain ⟨od, ho, _⟩ := lookIn_ns hns
  have J : PySem.W.InstAt s.heap a oe D (some od) := ⟨hget, hz.1, by unfold PySem.W.notCls; rw [hv] <;> rfl, by rw [hz.2]; exact ho⟩
  have Z := kit_exc (x := a) (ox := oe) (od := some od) C (let ⟨cd, hc, _⟩ := PySem.W.any_some C.hd; ⟨cd, hc⟩)
  have fin : ∀ tk, EP (X.suite a ((a, oe) :: pn)) pins σ Q (.bool b) { s with toks := tk } := fun tk => ⟨.bl b, H, I.tok tk, rfl, q⟩
  rcases hk with ⟨c, cv, rfl, k, e⟩ | ⟨tp, cs, ws, rfl, hT, k, e⟩
  · obtain ⟨u1, u2, rfl, r1, r2⟩ := vals2 r
    cases r1
    have e2 := k.eq r2
    subst e2
    exact PySem.W.kia_one Z I.kIn J e (fun z => nomatch z) fin
  · obtain ⟨u1, u2, rfl, r1, r2⟩ := vals2 r
    cases r1
    cases (show u2 = Value.ref tp from r2)
    obtain ⟨_, its, rv, o, h1, h2, n, h3⟩ := (show ObjOk X.prog X.w H s.heap tp (.tup cs) from I.hok tp _ hT)
    have e3 := ClsV.all k rv
    subst e3
    obtain ⟨oc, oD, dt, sl⟩ := o
    simp only at h2 h3
    subst h2 h3
    exact PySem.W.kia_tup Z I.kIn J h1 e (fun z => nomatch z) fin
/-! ### try with several clauses, named or not -/
abbrev HdR := Value × (Addr → Value → Option Addr → TS)
/-- what the clauses wish of what the body raises, the first that fits -/
def wMix (K : PySem.W.Frag) (Wout : WX) (D : Ends) : List HdR → WX
  | [] => Wout
  | (c, r) :: l => fun cls d σ H => ∃ b, PySem.W.exmOne K cls c = some b ∧ (b = true → ∀ a, H a = none → r a cls d D σ H) ∧ (b = false → wMix K Wout D l cls d σ H)
/-- a named clause's suite: the name holds the exception, and is gone behind it -/
def asName (i : Nat) (ts : Addr → Value → Option Addr → TS) : Addr → Value → Option Addr → TS := fun a cls d D σ H =>
  ts a cls d { nx := fun σ' H' => D.nx (σ'.set i none) H', rt := D.rt, bk := fun σ' H' => D.bk (σ'.set i none) H', ct := fun σ' H' => D.ct (σ'.set i none) H' } (σ.set i (some (.ref a))) H
def SuiteOk (X : Cx) (b : List Stmt) (ts : Addr → Value → Option Addr → TS) : Prop :=
  ∀ (a : Addr) (oe : Obj) (cls : Value) (d : Option Addr) (pn : List (Addr × Obj)), Zc cls d oe → (∃ vs, oe.data = .fields vs) → PSs (X.suite a ((a, oe) :: pn)) b (ts a cls d)
inductive MixOk (X : Cx) : List ExceptHandler → List HdR → Prop
  | nil : MixOk X [] []
  | bare {x : Str} {c : Value} {ts : Addr → Value → Option Addr → TS} {b0 : Stmt} {bs : List Stmt} {np ps : Pos} {hds : List ExceptHandler} {l : List HdR} (hc : Names X x c) (hsu : SuiteOk X (b0 :: bs) ts) (r : MixOk X hds l) :
      MixOk X (.ExceptHandler (some (.Name x np)) none (b0 :: bs) ps :: hds) ((c, ts) :: l)
  | named {x n : Str} {i : Nat} {c : Value} {ts : Addr → Value → Option Addr → TS} {b0 : Stmt} {bs : List Stmt} {np ps : Pos} {hds : List ExceptHandler} {l : List HdR} (hc : Names X x c) (hN : X.N.Nodup) (hi : X.N[i]? = some n) (hln : X.env.kindOf n = some .local)
      (hsu : SuiteOk X (b0 :: bs) ts) (r : MixOk X hds l) : MixOk X (.ExceptHandler (some (.Name x np)) (some n) (b0 :: bs) ps :: hds) ((c, asName i ts) :: l)
section
variable {X : Cx} {body : List Stmt} {h0 : ExceptHandler} {hds : List ExceptHandler} {l : List HdR} {pos : Pos} {tb : WX → TS} {Wout : WX}
theorem ps_try_mix (hs : X.stack = X.env :: X.outer) (hf : X.env.frame = some X.env.locals) (tk : Takes X Wout)
    (hb : ∀ (W : WX) (pn : List (Addr × Obj)) (xe : Value → Shared → Prop), Takes (X.tr pn xe) W → PassesOwn (model X.prog X.w) X.A X.env xe → PSs (X.tr pn xe) body (tb W))
    (hh : MixOk X (h0 :: hds) l) : PS X (.Try body (h0 :: hds) [] [] pos) (fun D σ H => tb (wMix X.K Wout D l) D σ H) := by
  refine ⟨fun pins s σ H D I h => wpAny_Try_except ?_⟩
  have ok := I.ok
  refine wpAny_mono ((hb (wMix X.K Wout D l) (X.pn ++ pins) _ (fun u s' xx => ?_) PassesOwn.looking).run [] s σ H D (I.toTry _) h) (fun f s1 hsp => ?_) (fun e s1 he => he)
  · -- what was raised is looked at by the clauses
    obtain ⟨a, B, sI, pins', σ', H', cls, d, rfl, J', nb, up, sky, na, os, ag, w⟩ := xx
    have J : Inv X pins σ' H' sI := J'.ofTry ok
    rw [hs] at sky
    refine Sky.land Zc.steady (show X.A.frames = some (X.env :: X.outer) by rw [ok.frames, hs]) hf sky fun h3 fl3 up3 => ?_
    have land : ∀ {h4 : Heap}, HandSPX.FlyingZ B (X.env :: X.outer) a (Zc cls d) h4 → _ → Inv X pins σ' H' { s' with heap := h4 } := fun {h4} fl4 up4 => J.landed nb fl4.1 (up.trans up4) os ag
    have J3 := land fl3 up3
    obtain ⟨oe3, vs3, he3, hz3, hd3⟩ := fl3.there
    have nfr : a ∉ frs (X.env :: X.outer) := fun hm => by
      obtain ⟨_, o', e', hnf⟩ := fl3.2.2.1.mem hm
      rw [he3] at e'
      cases e'
      exact hnf _ hd3
    have nL : a ≠ X.env.locals := fun z => nfr (List.mem_filterMap.mpr ⟨X.env, List.mem_cons_self, by rw [hf, z]⟩)
    have nF : a ∉ X.fs := fun hm => by
      obtain ⟨e, he, q⟩ := List.mem_filterMap.mp hm
      exact nfr (List.mem_filterMap.mpr ⟨e, List.mem_cons_of_mem _ he, q⟩)
    have S3 := J3.suite he3 hd3 na nL nF
    have LT : PySem.W.Looks (model X.prog X.w) h3 (typeOf (.ref a)) cls := fun A Q E s k q => wpAny_typeOf_ref (k _ _ he3) (by rw [hz3.1]; exact q)
    have test : ∀ {x : Str} {c : Value} {np : Pos} {Q : Value → Shared → Prop} {E : Value → Shared → Prop}, Names X x c → Q c { s' with heap := h3 } → wpAny (model X.prog X.w) (X.A.mark (some (.ref a))) (eval (.Name x np) X.env) Q E { s' with heap := h3 } := fun {x c np Q E} hc q => by
      obtain ⟨hg, hdbg, hm | ⟨hm, hv, hnn⟩⟩ := hc
      · exact ld_glob (X := X.suite a ((a, oe3) :: (X.pn ++ pins))) S3 hg hm q hdbg
      · exact ld_blt (X := X.suite a ((a, oe3) :: (X.pn ++ pins))) S3 hg hm hv q hnn hdbg
    have go : ∀ {hds' : List ExceptHandler} {l' : List HdR}, MixOk X hds' l' → wMix X.K Wout D l' cls d σ' H' → wpAny (model X.prog X.w) X.A (handleBy (.ref a) X.env hds') (SP X pins D) X.xe { s' with heap := h3 } := by
      intro hds' l' hk
      induction hk with
      | nil =>
        intro w
        refine wpAny_handleBy_nil ?_
        obtain ⟨_, _, _, oe, vs, T, oT, ts', he, hz, hd, h1, hr⟩ := id fl3
        unfold PySem.passOn
        refine wpAny_bind (wpAny_field he hd h1 ?_)
        rw [if_neg (show ¬ ((Value.ref T == Value.none) = true) by simp)]
        have fin : wpAny (model X.prog X.w) X.A (setFlight (.ref a) X.env.frame) (fun _ s4 => wpAny (model X.prog X.w) X.A (throw (.ref a) : Sem Flow) (SP X pins D) X.xe s4) X.xe { s' with heap := h3 } := by
          rw [hf]
          exact HandSPX.setFlight_upZ fl3 fun h4 hh4 up4 => wpAny_throw (tk _ _ ⟨a, B, sI, pins, σ', H', cls, d, rfl, J, nb, (up.trans up3).trans up4, .inr (.inr (by rw [hs]; exact hh4)), na, os, ag, w⟩)
        first
          | exact wpAny_bind (wpAny_pure (wpAny_bind fin))
          | exact wpAny_bind fin
      | bare hc hsu r ih =>
        intro w
        obtain ⟨b, hb1, hyes, hno⟩ := w
        refine wpAny_handleBy_cons (codeAny_handlers_test (test hc ((PySem.W.exm_one (M := model X.prog X.w) J3.kIn LT hb1).here ?_))) (by intro q; cases q)
        cases b with
        | false => exact ih (hno rfl)
        | true =>
          refine codeAny_handlers_suite (HandSPX.lands_againZ fl3 fun h4 fl4 up4 => ?_)
          obtain ⟨oe4, vs4, he4, hz4, hd4⟩ := fl4.there
          have S4 := (land fl4 (up3.trans up4)).suite he4 hd4 na nL nF
          refine wpAny_mono ((hsu a oe4 cls d (X.pn ++ pins) hz4 ⟨_, hd4⟩).run [] _ _ H' _ S4 (hyes rfl a na)) (fun f s6 hsp => ?_) (fun _ _ z => z.elim)
          match f, hsp with
          | .next, ⟨σ6, H6, S6, q6⟩ => exact ⟨_, _, S6.unsuite ok, q6⟩
          | .brk, ⟨σ6, H6, S6, q6⟩ => exact ⟨_, _, S6.unsuite ok, q6⟩
          | .cont, ⟨σ6, H6, S6, q6⟩ => exact ⟨_, _, S6.unsuite ok, q6⟩
          | .ret u, ⟨v6, σ6, H6, S6, r6, q6⟩ => exact ⟨_, _, _, S6.unsuite ok, r6, q6⟩
      | @named x n i c ts b0 bs np ps hds2 l2 hc hN hi hln hsu r ih =>
        intro w
        obtain ⟨b, hb1, hyes, hno⟩ := w
        refine wpAny_handleBy_cons (codeAny_handlers_test (test hc ((PySem.W.exm_one (M := model X.prog X.w) J3.kIn LT hb1).here ?_))) (by intro q; cases q)
        cases b with
        | false => exact ih (hno rfl)
        | true =>
          refine codeAny_handlers_suite_as (HandSPX.lands_againZ fl3 fun h4 fl4 up4 => ?_)
          obtain ⟨oe4, vs4, he4, hz4, hd4⟩ := fl4.there
          have S4 := (land fl4 (up3.trans up4)).suite he4 hd4 na nL nF
          refine store_ok (X := X.suite a ((a, oe4) :: (X.pn ++ pins))) (v := .ref a) S4 hN hi (.inl hln) rfl (fun s5 S5 => ?_) (.inr hln)
          refine wpAny_mono ((hsu a oe4 cls d (X.pn ++ pins) hz4 ⟨_, hd4⟩).run [] s5 _ H' _ S5 (hyes rfl a na)) (fun f s6 hsp => ?_) (fun _ _ z => z.elim)
          match f, hsp with
          | .next, ⟨σ6, H6, S6, q6⟩ => exact gone_ok (S6.unsuite ok) hN hi hln fun s7 J7 => ⟨_, _, J7, q6⟩
          | .brk, ⟨σ6, H6, S6, q6⟩ => exact gone_ok (S6.unsuite ok) hN hi hln fun s7 J7 => ⟨_, _, J7, q6⟩
          | .cont, ⟨σ6, H6, S6, q6⟩ => exact gone_ok (S6.unsuite ok) hN hi hln fun s7 J7 => ⟨_, _, J7, q6⟩
          | .ret u, ⟨v6, σ6, H6, S6, r6, q6⟩ => exact gone_ok (S6.unsuite ok) hN hi hln fun s7 J7 => ⟨_, _, _, J7, r6, q6⟩
    exact go hh w
  · match f, hsp with
    | .next, ⟨σ', H', J', q⟩ => exact wpAny_execs_nil ⟨σ', H', J'.ofTry ok, q⟩
    | .brk, ⟨σ', H', J', q⟩ => exact ⟨σ', H', J'.ofTry ok, q⟩
    | .cont, ⟨σ', H', J', q⟩ => exact ⟨σ', H', J'.ofTry ok, q⟩
    | .ret u, ⟨v, σ', H', J', r, q⟩ => exact ⟨v, σ', H', J'.ofTry ok, r, q⟩
end
/-! ### isinstance against an own class, against a built-in one -/
theorem kit_refE {K : PySem.W.Frag} {C : Addr} {cls : Value} {b : Bool} (hdct : PySem.W.hasDictIn K C = true) (ht : PySem.W.typeIn K (.ref C) = some (.type "type")) (h4 : PySem.W.subIn K cls (.ref C) = some b) (hb : cls = .ref C → some true = some b) : PySem.W.kitOne K cls (.ref C) = some b := by
  obtain ⟨cd, hc, _⟩ := PySem.W.any_some hdct
  have e2 : ((PySem.W.clsIn K C).isSome && PySem.W.typeIn K (.ref C) == some (.type "type")) = true := by rw [hc, ht] <;> rfl
  unfold PySem.W.kitOne
  by_cases e : (cls == .ref C) = true
  · rw [if_pos e]
    exact hb (eq_of_beq e)
  · rw [if_neg e]
    show (if ((PySem.W.clsIn K C).isSome && PySem.W.typeIn K (.ref C) == some (.type "type")) = true then PySem.W.subIn K cls (.ref C) else none) = some b
    rw [if_pos e2]
    exact h4
theorem kit_tyE {K : PySem.W.Frag} {C : Addr} {n : String} {b : Bool} (h : PySem.W.subIn K (.ref C) (.type n) = some b) (hm : PySem.W.kitMeta n = true) : PySem.W.kitOne K (.ref C) (.type n) = some b := by
  unfold PySem.W.kitOne
  rw [if_neg (show ¬ ((Value.ref C == Value.type n) = true) by simp)]
  show (if PySem.W.kitMeta n = true then PySem.W.subIn K (.ref C) (.type n) else none) = some b
  rw [if_pos hm]
  exact h


/-! ### an exception that is kept beyond its suite, or never raised -/
def exk (a : Addr) (cls : Value) (d : Option Addr) : HO := .ext fun h => ∃ oe vs, h.get? a = some oe ∧ Zc cls d oe ∧ oe.data = .fields vs
section
variable {P : Program} {w : World} {H : Hp} {h : Heap} {a : Addr} {cls : Value} {d : Option Addr}
theorem exk_ok {oe : Obj} {vs : Array Value} (ha : h.get? a = some oe) (hz : Zc cls d oe) (hd : oe.data = .fields vs) : ObjOk P w H h a (exk a cls d) :=
  ⟨⟨oe, vs, ha, hz, hd⟩, ⟨_, ha⟩, fun _ _ z k => by
    obtain ⟨o, v, e1, e2, e3⟩ := z
    exact ⟨o, v, k _ e1, e2, e3⟩⟩
theorem exk_at (hok : HOk P w H h) (he : H a = some (exk a cls d)) : ∃ oe vs, h.get? a = some oe ∧ Zc cls d oe ∧ oe.data = .fields vs := by
  have x : ObjOk P w H h a (.ext fun h => ∃ oe vs, h.get? a = some oe ∧ Zc cls d oe ∧ oe.data = .fields vs) := hok a _ he
  exact x.1
end
section
variable {X : Cx} {pins : List (Addr × Obj)} {σ : L2.St} {H : Hp} {s : Shared} {a : Addr} {cls : Value} {d : Option Addr} {oe : Obj} {vs : Array Value}
theorem inv_hold (I : Inv X pins σ H s) (ha : s.heap.get? a = some oe) (hd : oe.data = .fields vs) (hz : Zc cls d oe) (na : H a = none) (n0 : ∀ o, X.s_0.heap.get? a = some o → a ∉ X.ex → False) (nL : a ≠ X.env.locals)
    (np : ∀ p ∈ X.pn ++ pins, p.1 ≠ a) : Inv X pins σ (upd H a (exk a cls d)) s := by
  refine ⟨I.ok, I.os, I.bare, ⟨I.base.keep, I.base.slot, fun b o e n hx => ?_, I.base.there, fun b xs e => ?_, fun b o u e => ?_, fun b ps e => ?_⟩, I.loc, I.cell, ?_, fun x c e => ?_, fun p hp => ?_, fun b o q => ?_, I.len⟩
  · by_cases hb : b = a
    · subst hb
      exact (n0 o e hx).elim
    · rw [upd_ne hb]
      exact I.base.free b o e n hx
  · have q := I.base.tups b xs e
    rw [upd_ne (ne_of_none q na)]
    exact q
  · have q := I.base.frzs b o u e
    rw [upd_ne (ne_of_none q na)]
    exact q
  · obtain ⟨more, q⟩ := I.base.tbls b ps e
    exact ⟨more, by rw [upd_ne (ne_of_none q na)]; exact q⟩
  · rw [upd_ne (Ne.symm nL)]
    exact I.free
  · have hc : c ≠ a := fun z => by
      obtain ⟨v, o, ho, hv⟩ := I.cell x c e
      rw [z, ha] at ho
      cases ho
      rw [hd] at hv
      cases hv
    rw [upd_ne hc]
    exact I.freeC x c e
  · obtain ⟨p1, p2, p3⟩ := I.pin p hp
    exact ⟨p1, by rw [upd_ne (np p hp)]; exact p2, p3⟩
  · by_cases hb : b = a
    · subst hb
      rw [upd_same] at q
      cases q
      exact exk_ok ha hz hd
    · rw [upd_ne hb] at q
      exact (I.hok b o q).stay (fun _ _ _ z => z) (fun c hc => by rw [upd_ne (ne_of_none hc na)]; exact hc) (fun c xs hc => by rw [upd_ne (ne_of_none hc na)]; exact hc)
/-- an exception that is made, as a value -/
def tKeep (t : L2.St → Hp → XK → Prop) : TE := fun σ H Q => t σ H fun cls d H1 => ∀ a, H1 a = none → Q (.ref a) (upd H1 a (exk a cls d))
theorem pe_keep {e : Expr} {t : L2.St → Hp → XK → Prop} (he : PMk X e t) : PE X e (tKeep t) := by
  refine ⟨fun pins s σ H Q I h => thn (he pins s σ H _ I h) fun u s1 hu => ?_⟩
  obtain ⟨a, oe, vs, sI, H', cls, d, rfl, J, k, hne, ha, hz, hd, h1, na, os, ag, r, q⟩ := hu
  have K1 := J.kept (h' := s1.heap) (t' := s1.toks) k
  have K2 : Inv X pins σ H' s1 := ⟨K1.ok, os.trans J.os, ag, K1.base, K1.loc, K1.cell, K1.free, K1.freeC, K1.pin, K1.hok, K1.len⟩
  refine ⟨.ref a, _, inv_hold K2 ha hd hz na (fun o e hx => ?_) (fun z => ?_) (fun p hp z => ?_), rfl, q a na⟩
  · obtain ⟨o', e'⟩ := J.base.there a o e hx
    rw [hne] at e'
    cases e'
  · obtain ⟨m, ⟨o', _, _, e', _⟩, _⟩ := J.loc
    rw [← z, hne] at e'
    cases e'
  · have e' := (J.pin p hp).1
    rw [z, hne] at e'
    cases e'
/-- isinstance of a kept exception -/
def rIsK (K : PySem.W.Frag) : List V → Hp → VK → Prop := fun xs H Q => ∃ (a D : Addr) (d : Option Addr) (b : Bool), H a = some (exk a (.ref D) d) ∧ (∀ dd, d = some dd → ∃ fs, H dd = some (.xd fs)) ∧ ExcC K D ∧
  ((∃ c cv, xs = [.ref a, c] ∧ ClsV c cv ∧ PySem.W.kitOne K (.ref D) cv = some b) ∨ ∃ tp cs us, xs = [.ref a, .ref tp] ∧ H tp = some (.tup cs) ∧ Paired ClsV cs us ∧ PySem.W.kitAny K (.ref D) us = some b) ∧ Q (.bl b) H
theorem kept_inst (I : Inv X pins σ H s) {D : Addr} (he : H a = some (exk a (.ref D) d)) (hx : ∀ dd, d = some dd → ∃ fs, H dd = some (.xd fs)) : ∃ oe od, PySem.W.InstAt s.heap a oe D od := by
  obtain ⟨oe, vs, ha, hz, hd⟩ := exk_at I.hok he
  obtain ⟨oc, ob, oda, osl⟩ := oe
  obtain ⟨h1, h2⟩ := hz
  dsimp only at h1 h2 hd
  subst h1 h2 hd
  cases ob with
  | none => exact ⟨_, none, ha, rfl, rfl, trivial⟩
  | some dd =>
    obtain ⟨fs, hf⟩ := hx dd rfl
    obtain ⟨mA, hns, _⟩ := (show ObjOk X.prog X.w H s.heap dd (.xd fs) from I.hok dd _ hf)
    obtain ⟨od, ho, _⟩ := lookIn_ns hns
    exact ⟨_, some od, ha, rfl, rfl, ho⟩
theorem call_isK : CallR X (.builtin "isinstance") (rIsK X.K) := by
  intro pins s σ H xs us Q I r h
  obtain ⟨a, D, d, b, he, hx, C, hk, q⟩ := h
  obtain ⟨oe, od, J⟩ := kept_inst I he hx
  have Z := kit_exc (x := a) (ox := oe) (od := od) C (let ⟨cd, hc, _⟩ := PySem.W.any_some C.hd; ⟨cd, hc⟩)
  have fin : ∀ tk, EP X pins σ Q (.bool b) { s with toks := tk } := fun tk => ⟨.bl b, H, I.tok tk, rfl, q⟩
  rcases hk with ⟨c, cv, rfl, k, e⟩ | ⟨tp, cs, ws, rfl, hT, k, e⟩
  · obtain ⟨u1, u2, rfl, r1, r2⟩ := vals2 r
    cases r1
    have e2 := k.eq r2
    subst e2
    exact PySem.W.kia_one Z I.kIn J e (fun z => nomatch z) fin
  · obtain ⟨u1, u2, rfl, r1, r2⟩ := vals2 r
    cases r1
    cases (show u2 = Value.ref tp from r2)
    obtain ⟨_, its, rv, o, h1, h2, n, h3⟩ := (show ObjOk X.prog X.w H s.heap tp (.tup cs) from I.hok tp _ hT)
    have e3 := ClsV.all k rv
    subst e3
    obtain ⟨oc, oD, dt, sl⟩ := o
    simp only at h2 h3
    subst h2 h3
    exact PySem.W.kia_tup Z I.kIn J h1 e (fun z => nomatch z) fin
/-- a field of a kept exception -/
def tKf (K : PySem.W.Frag) (f : Str) (te : TE) : TE := fun σ H Q => te σ H fun x H1 => ∃ (a C dd : Addr) (fs : List (Str × V)) (v : V), x = .ref a ∧ H1 a = some (exk a (.ref C) (some dd)) ∧ H1 dd = some (.xd fs) ∧ XfC K C ∧ PySem.W.findIn K (.ref C) f = some none ∧ fs.lookup f = some v ∧ Q v H1
theorem pe_kf {e : Expr} {te : TE} {pos : Pos} {n : Str} (he : PE X e te) (hb : attributeBase e n X.env (eval e X.env) = eval e X.env := by rfl) : PE X (.Attribute e n pos) (tKf X.K n te) := by
  refine ⟨fun pins s σ H Q I h => attr_of hb (thn (he.run pins s σ H _ I h) fun u s1 hh => ?_)⟩
  obtain ⟨x, H1, I1, rx, a, C, dd, fs, v, rfl, ea, ed, T, hno, l, q⟩ := hh
  cases (show u = Value.ref a from rx)
  obtain ⟨oe, vs, ha, hz, hd⟩ := exk_at I1.hok ea
  obtain ⟨mA, hns, hr⟩ := (show ObjOk X.prog X.w H1 s1.heap dd (.xd fs) from I1.hok dd _ ed)
  obtain ⟨od, ho, hl⟩ := lookIn_ns hns
  obtain ⟨u, hu, ru⟩ := RelO.some_of (v := v) (o := mA n) (by rw [← l]; exact hr n)
  have J : PySem.W.InstAt s1.heap a oe C (some od) := ⟨ha, hz.1, by unfold PySem.W.notCls; rw [hd] <;> rfl, by rw [hz.2]; exact ho⟩
  exact HandSPX.exc_get I1.kIn J T.ga T.gg T.exC (PySem.W.findObj_own T.hdC hno rfl (by rw [hl, hu])) (handed_of ru) ⟨v, H1, I1.tok _, ru, q⟩
end
/-! ### try with one clause, whose exception is kept -/
def asK (i : Nat) (ts : TS) : Addr → Value → Option Addr → TS := fun a cls d D σ H =>
  ts { nx := fun σ' H' => D.nx (σ'.set i none) H', rt := D.rt, bk := fun σ' H' => D.bk (σ'.set i none) H', ct := fun σ' H' => D.ct (σ'.set i none) H' } (σ.set i (some (.ref a))) (upd H a (exk a cls d))
def wK (K : PySem.W.Frag) (Wout : WX) (c : Value) (i : Nat) (ts : TS) (D : Ends) : WX := fun cls d σ H => ∃ b, PySem.W.exmOne K cls c = some b ∧ (b = true → ∀ a, H a = none → asK i ts a cls d D σ H) ∧ (b = false → Wout cls d σ H)
section
variable {X : Cx} {body : List Stmt} {pos : Pos} {tb : WX → TS} {Wout : WX} {x n : Str} {i : Nat} {c : Value} {ts : TS} {b0 : Stmt} {bs : List Stmt} {np ps : Pos}
theorem ps_try_keep (hs : X.stack = X.env :: X.outer) (hf : X.env.frame = some X.env.locals) (tk : Takes X Wout)
    (hb : ∀ (W : WX) (pn : List (Addr × Obj)) (xe : Value → Shared → Prop), Takes (X.tr pn xe) W → PassesOwn (model X.prog X.w) X.A X.env xe → PSs (X.tr pn xe) body (tb W))
    (hc : Names X x c) (hN : X.N.Nodup) (hi : X.N[i]? = some n) (hln : X.env.kindOf n = some .local) (hsu : ∀ (a : Addr) (pn : List (Addr × Obj)), PSs (X.suite a pn) (b0 :: bs) ts) :
    PS X (.Try body [.ExceptHandler (some (.Name x np)) (some n) (b0 :: bs) ps] [] [] pos) (fun D σ H => tb (wK X.K Wout c i ts D) D σ H) := by
  refine ⟨fun pins s σ H D I h => wpAny_Try_except ?_⟩
  have ok := I.ok
  refine wpAny_mono ((hb (wK X.K Wout c i ts D) (X.pn ++ pins) _ (fun u s' xx => ?_) PassesOwn.looking).run [] s σ H D (I.toTry _) h) (fun f s1 hsp => ?_) (fun e s1 he => he)
  · obtain ⟨a, B, sI, pins', σ', H', cls, d, rfl, J', nb, up, sky, na, os, ag, w⟩ := xx
    have J : Inv X pins σ' H' sI := J'.ofTry ok
    have nb0 : ∀ b o, sI.heap.get? b = some o → b ∉ frs X.stack → B.get? b = some o := nb
    have Ba : B.get? a = none := by
      rcases sky with ⟨_, z, _⟩ | ⟨_, z, _⟩ | ⟨_, z, _⟩ <;> exact z
    rw [hs] at sky
    refine Sky.land Zc.steady (show X.A.frames = some (X.env :: X.outer) by rw [ok.frames, hs]) hf sky fun h3 fl3 up3 => ?_
    have land : ∀ {h4 : Heap}, HandSPX.FlyingZ B (X.env :: X.outer) a (Zc cls d) h4 → _ → Inv X pins σ' H' { s' with heap := h4 } := fun {h4} fl4 up4 => J.landed nb fl4.1 (up.trans up4) os ag
    have J3 := land fl3 up3
    obtain ⟨oe3, vs3, he3, hz3, hd3⟩ := fl3.there
    have nfr : a ∉ frs (X.env :: X.outer) := fun hm => by
      obtain ⟨_, o', e', hnf⟩ := fl3.2.2.1.mem hm
      rw [he3] at e'
      cases e'
      exact hnf _ hd3
    have nL : a ≠ X.env.locals := fun z => nfr (List.mem_filterMap.mpr ⟨X.env, List.mem_cons_self, by rw [hf, z]⟩)
    have nF : a ∉ X.fs := fun hm => by
      obtain ⟨e, he, q⟩ := List.mem_filterMap.mp hm
      exact nfr (List.mem_filterMap.mpr ⟨e, List.mem_cons_of_mem _ he, q⟩)
    have nI : sI.heap.get? a = none := by
      cases q : sI.heap.get? a with
      | none => rfl
      | some o =>
        have z := nb0 a o q (by rw [hs]; exact nfr)
        rw [Ba] at z
        cases z
    have S3 := J3.suite he3 hd3 na nL nF
    have LT : PySem.W.Looks (model X.prog X.w) h3 (typeOf (.ref a)) cls := fun A Q E s k q => wpAny_typeOf_ref (k _ _ he3) (by rw [hz3.1]; exact q)
    have test : ∀ {Q : Value → Shared → Prop} {E : Value → Shared → Prop}, Q c { s' with heap := h3 } → wpAny (model X.prog X.w) (X.A.mark (some (.ref a))) (eval (.Name x np) X.env) Q E { s' with heap := h3 } := fun {Q E} q => by
      obtain ⟨hg, hdbg, hm | ⟨hm, hv, hnn⟩⟩ := hc
      · exact ld_glob (X := X.suite a ((a, oe3) :: (X.pn ++ pins))) S3 hg hm q hdbg
      · exact ld_blt (X := X.suite a ((a, oe3) :: (X.pn ++ pins))) S3 hg hm hv q hnn hdbg
    obtain ⟨b, hb1, hyes, hno⟩ := w
    refine wpAny_handleBy_cons (codeAny_handlers_test (test ((PySem.W.exm_one (M := model X.prog X.w) J3.kIn LT hb1).here ?_))) (by intro q; cases q)
    cases b with
    | false =>
      have w := hno rfl
      refine wpAny_handleBy_nil ?_
      obtain ⟨_, _, _, oe, vs, T, oT, ts', he, hz, hd, h1, hr⟩ := id fl3
      unfold PySem.passOn
      refine wpAny_bind (wpAny_field he hd h1 ?_)
      rw [if_neg (show ¬ ((Value.ref T == Value.none) = true) by simp)]
      have fin : wpAny (model X.prog X.w) X.A (setFlight (.ref a) X.env.frame) (fun _ s4 => wpAny (model X.prog X.w) X.A (throw (.ref a) : Sem Flow) (SP X pins D) X.xe s4) X.xe { s' with heap := h3 } := by
        rw [hf]
        exact HandSPX.setFlight_upZ fl3 fun h4 hh4 up4 => wpAny_throw (tk _ _ ⟨a, B, sI, pins, σ', H', cls, d, rfl, J, nb, (up.trans up3).trans up4, .inr (.inr (by rw [hs]; exact hh4)), na, os, ag, w⟩)
      first
        | exact wpAny_bind (wpAny_pure (wpAny_bind fin))
        | exact wpAny_bind fin
    | true =>
      refine codeAny_handlers_suite_as (HandSPX.lands_againZ fl3 fun h4 fl4 up4 => ?_)
      obtain ⟨oe4, vs4, he4, hz4, hd4⟩ := fl4.there
      have I4 : Inv X pins σ' (upd H' a (exk a cls d)) { s' with heap := h4 } := by
        refine inv_hold (land fl4 (up3.trans up4)) he4 hd4 hz4 na (fun o e hx => ?_) nL (fun p hp z => ?_)
        · obtain ⟨o', e'⟩ := J.base.there a o e hx
          rw [nI] at e'
          cases e'
        · have e' := (J.pin p hp).1
          rw [z, nI] at e'
          cases e'
      have S4 : Inv (X.suite a (X.pn ++ pins)) [] σ' (upd H' a (exk a cls d)) { s' with heap := h4 } :=
        ⟨I4.ok.suite _ _, I4.os, I4.bare, I4.base, I4.loc, I4.cell, I4.free, I4.freeC, fun p hp => I4.pin p (by rw [List.append_nil] at hp; exact hp), I4.hok, I4.len⟩
      have back : ∀ {σ6 : L2.St} {H6 : Hp} {s6 : Shared}, Inv (X.suite a (X.pn ++ pins)) [] σ6 H6 s6 → Inv X pins σ6 H6 s6 := fun I =>
        ⟨ok, I.os, I.bare, I.base, I.loc, I.cell, I.free, I.freeC, fun p hp => I.pin p (List.mem_append_left _ hp), I.hok, I.len⟩
      refine store_ok (X := X.suite a (X.pn ++ pins)) (v := .ref a) S4 hN hi (.inl hln) rfl (fun s5 S5 => ?_) (.inr hln)
      refine wpAny_mono ((hsu a (X.pn ++ pins)).run [] s5 _ _ _ S5 (hyes rfl a na)) (fun f s6 hsp => ?_) (fun _ _ z => z.elim)
      match f, hsp with
      | .next, ⟨σ6, H6, S6, q6⟩ => exact gone_ok (back S6) hN hi hln fun s7 J7 => ⟨_, _, J7, q6⟩
      | .brk, ⟨σ6, H6, S6, q6⟩ => exact gone_ok (back S6) hN hi hln fun s7 J7 => ⟨_, _, J7, q6⟩
      | .cont, ⟨σ6, H6, S6, q6⟩ => exact gone_ok (back S6) hN hi hln fun s7 J7 => ⟨_, _, J7, q6⟩
      | .ret u, ⟨v6, σ6, H6, S6, r6, q6⟩ => exact gone_ok (back S6) hN hi hln fun s7 J7 => ⟨_, _, _, J7, r6, q6⟩
  · match f, hsp with
    | .next, ⟨σ', H', J', q⟩ => exact wpAny_execs_nil ⟨σ', H', J'.ofTry ok, q⟩
    | .brk, ⟨σ', H', J', q⟩ => exact ⟨σ', H', J'.ofTry ok, q⟩
    | .cont, ⟨σ', H', J', q⟩ => exact ⟨σ', H', J'.ofTry ok, q⟩
    | .ret u, ⟨v, σ', H', J', r, q⟩ => exact ⟨v, σ', H', J'.ofTry ok, r, q⟩
end


/-! ### eighteen classes that stand apart -/
def KmT (K : PySem.W.Frag) (cs : List Addr) (S : Addr) : Prop := (∀ (k j : Nat) (a b : Addr), cs[k]? = some a → cs[j]? = some b → PySem.W.kitOne K (.ref a) (.ref b) = some (decide (k = j))) ∧
  (∀ (k : Nat) (a : Addr), cs[k]? = some a → PySem.W.exmOne K (.ref a) (.ref S) = some true) ∧ ∀ (k : Nat) (a : Addr), cs[k]? = some a → PySem.W.kitOne K (.ref S) (.ref a) = some false
def kmRow (K : PySem.W.Frag) (a : Addr) (k : Nat) : List Addr → Nat → Bool
  | [], _ => true
  | b :: r, j => PySem.W.subIn K (.ref a) (.ref b) == some (decide (k = j)) && kmRow K a k r (j + 1)
def kmAll (K : PySem.W.Frag) (cs : List Addr) (S : Addr) : List Addr → Nat → Bool
  | [], _ => true
  | a :: r, k => PySem.W.hasDictIn K a && (PySem.W.typeIn K (.ref a) == some (.type "type") && (PySem.W.subIn K (.ref a) (.ref S) == some true && (PySem.W.subIn K (.ref S) (.ref a) == some false && (kmRow K a k cs 0 && kmAll K cs S r (k + 1)))))
def kmB (K : PySem.W.Frag) (cs : List Addr) (S : Addr) : Bool := PySem.W.hasDictIn K S && (PySem.W.typeIn K (.ref S) == some (.type "type") && (PySem.W.subIn K (.ref S) (.type "BaseException") == some true && kmAll K cs S cs 0))
theorem kmRow_at {K : PySem.W.Frag} {a : Addr} {k : Nat} : ∀ (cs : List Addr) (j0 j : Nat) (b : Addr), kmRow K a k cs j0 = true → cs[j]? = some b → PySem.W.subIn K (.ref a) (.ref b) = some (decide (k = j0 + j))
  | [], _, _, _, _, e => by cases e
  | c :: r, j0, 0, b, h, e => by
    cases e
    exact eq_of_beq (Bool.and_eq_true_iff.mp h).1
  | c :: r, j0, j + 1, b, h, e => by
    have q := kmRow_at r (j0 + 1) j b (Bool.and_eq_true_iff.mp h).2 e
    rw [q, show j0 + 1 + j = j0 + (j + 1) by omega]
theorem kmAll_at {K : PySem.W.Frag} {cs : List Addr} {S : Addr} : ∀ (r : List Addr) (k0 k : Nat) (a : Addr), kmAll K cs S r k0 = true → r[k]? = some a →
    PySem.W.hasDictIn K a = true ∧ PySem.W.typeIn K (.ref a) = some (.type "type") ∧ PySem.W.subIn K (.ref a) (.ref S) = some true ∧ PySem.W.subIn K (.ref S) (.ref a) = some false ∧ kmRow K a (k0 + k) cs 0 = true
  | [], _, _, _, _, e => by cases e
  | c :: r, k0, 0, a, h, e => by
    cases e
    obtain ⟨h1, h⟩ := Bool.and_eq_true_iff.mp h
    obtain ⟨h2, h⟩ := Bool.and_eq_true_iff.mp h
    obtain ⟨h3, h⟩ := Bool.and_eq_true_iff.mp h
    obtain ⟨h4, h⟩ := Bool.and_eq_true_iff.mp h
    exact ⟨h1, eq_of_beq h2, eq_of_beq h3, eq_of_beq h4, (Bool.and_eq_true_iff.mp h).1⟩
  | c :: r, k0, k + 1, a, h, e => by
    obtain ⟨_, h⟩ := Bool.and_eq_true_iff.mp h
    obtain ⟨_, h⟩ := Bool.and_eq_true_iff.mp h
    obtain ⟨_, h⟩ := Bool.and_eq_true_iff.mp h
    obtain ⟨_, h⟩ := Bool.and_eq_true_iff.mp h
    obtain ⟨_, h⟩ := Bool.and_eq_true_iff.mp h
    have q := kmAll_at r (k0 + 1) k a h e
    rw [show k0 + 1 + k = k0 + (k + 1) by omega] at q
    exact q
theorem km_of {K : PySem.W.Frag} {cs : List Addr} {S : Addr} (h : kmB K cs S = true) : KmT K cs S := by
  obtain ⟨h1, h⟩ := Bool.and_eq_true_iff.mp h
  obtain ⟨h2, h⟩ := Bool.and_eq_true_iff.mp h
  obtain ⟨h3, h⟩ := Bool.and_eq_true_iff.mp h
  have h2 := eq_of_beq h2
  have h3 := eq_of_beq h3
  refine ⟨fun k j a b ea eb => ?_, fun k a ea => ?_, fun k a ea => ?_⟩
  · obtain ⟨_, _, _, _, r1⟩ := kmAll_at cs 0 k a h ea
    obtain ⟨d2, t2, _, _, r2⟩ := kmAll_at cs 0 j b h eb
    have q := kmRow_at cs 0 j b r1 eb
    have q2 := kmRow_at cs 0 j b r2 eb
    simp only [Nat.zero_add] at q q2
    refine kit_refE d2 t2 q fun e => ?_
    rw [e, q2] at q
    rw [← q]
    simp
  · obtain ⟨_, _, q, _, _⟩ := kmAll_at cs 0 k a h ea
    exact PySem.W.exm_ref h3 h1 h2 q
  · obtain ⟨d2, t2, q3, q, _⟩ := kmAll_at cs 0 k a h ea
    have hself := kmRow_at cs 0 k a (kmAll_at cs 0 k a h ea).2.2.2.2 ea
    refine kit_refE d2 t2 q fun e => ?_
    rw [e] at q q3
    rw [q3] at q
    exact q
/-! ### an exception with no field of its own, with two -/
def sp_init0 (C : Addr) : Sp := fun vs H Q _ => ∃ a, vs = [.ref a] ∧ H a = some (exo a C none) ∧ Q .non H
def sp_init2 (C : Addr) (f g : Str) : Sp := fun vs H Q _ => ∃ (a : Addr) (v u : V), vs = [.ref a, v, u] ∧ H a = some (exo a C none) ∧ ∀ d, H d = none → d ≠ a → Q .non (upd (upd (upd H d (exd d [(f, v)])) a (exo a C (some d))) d (exd d [(g, u), (f, v)]))
theorem raise2 {C : Addr} {f g : Str} {v u : V} {H : Hp} {Q : XK} (q : ∀ d, H d = none → Q (.ref C) (some d) (upd H d (.xd [(g, u), (f, v)]))) :
    ([v, u] : List V).length ≤ 1000 ∧ ∀ a, H a = none → sp_init2 C f g (.ref a :: ([v, u] ++ [])) (upd H a (exo a C none))
      (fun u H2 => u = .non ∧ ∃ (d : Addr) (fs : List (Str × V)), H2 a = some (exo a C (some d)) ∧ H2 d = some (exd d fs) ∧ H d = none ∧ Q (.ref C) (some d) (upd (del H2 a) d (.xd fs))) (fun _ _ _ => False) := by
  refine ⟨by show 2 ≤ 1000; decide, fun a ha => ⟨a, v, u, rfl, upd_same, fun d hd hne => ⟨rfl, d, [(g, u), (f, v)], ?_, upd_same, ?_, ?_⟩⟩⟩
  · rw [upd_ne (Ne.symm hne), upd_same]
  · rw [upd_ne hne] at hd
    exact hd
  · have e : upd (del (upd (upd (upd (upd H a (exo a C none)) d (exd d [(f, v)])) a (exo a C (some d))) d (exd d [(g, u), (f, v)])) a) d (.xd [(g, u), (f, v)]) = upd H d (.xd [(g, u), (f, v)]) := by
      funext b
      by_cases h1 : b = d
      · subst h1
        rw [upd_same, upd_same]
      · rw [upd_ne h1, upd_ne h1]
        by_cases h2 : b = a
        · subst h2
          rw [del_same, ha]
        · rw [del_ne h2, upd_ne h1, upd_ne h2, upd_ne h1, upd_ne h2]
    rw [e]
    rw [upd_ne hne] at hd
    exact q d hd
def tMkO0 (C : Addr) (sp : Sp) : L2.St → Hp → XK → Prop := fun _ H Q => ∀ a, H a = none → sp [.ref a] (upd H a (exo a C none)) (fun v H2 => v = .non ∧ H2 = upd H a (exo a C none) ∧ Q (.ref C) none H) (fun _ _ _ => False)
theorem pmk_oex0 {X : Cx} {CX : CXT} {x : Str} {C fI : Addr} {k : Nat} {fd : FuncData} {ps : List Str} {sp : Sp} {p pos : Pos} (T : OexC X.K C) (iC : PySem.W.findIn X.K (.ref C) "__init__" = some (some (.ref fI))) (tI : PySem.W.typeIn X.K (.ref fI) = some (.type "function"))
    (F1 : FnOk X.prog X.w X.K X.mg X.base CX k fI fd ps sp) (hr : Room (k + 1) X.A) (hb : Binds X.K fd ps []) (hx : Passes CX X (fun _ _ _ => False)) (hg : Gl X x) (hm : X.mg x = some (.ref C)) (hdb : (x == ("__debug__" : Str)) = false := by decide) :
    PMk X (.Call (.Name x p) [] [] pos) (tMkO0 C sp) := by
  intro pins s σ H Q I1 q1
  obtain ⟨nm, q, N, bs, bm, sn, sub, ab, col, dd, k0, k1, k2, k3, k5, hC, hbm⟩ := T.cls
  refine wpAny_Call_Name_kw (ld_glob I1 hg hm ?_ hdb)
  refine PySem.W.callWith_K0 I1.kIn T.kC ?_
  show wpAny _ _ (call (.ref C) []) _ _ _
  obtain ⟨hp, g, dr, tk, os⟩ := s
  have hsz : hp.objs.size ≤ hp.objs.size + 1 := Nat.le_succ _
  have hn : H (hp.objs.size + 1) = none := I1.hok.fresh hsz
  have hq := q1 (hp.objs.size + 1) hn
  have kk : ∀ b o, hp.get? b = some o → ((hp.push (PySem.W.kdv_tup [])).push (PySem.HandSPX.excO C hp.objs.size)).get? b = some o := fun b o e => Heap.get?_push_of_some _ (Heap.get?_push_of_some _ e)
  have hget : ((hp.push (PySem.W.kdv_tup [])).push (PySem.HandSPX.excO C hp.objs.size)).get? (hp.objs.size + 1) = some (PySem.HandSPX.excO C hp.objs.size) := by heap_get
  have I2 : Inv X pins σ (upd H (hp.objs.size + 1) (exo (hp.objs.size + 1) C none)) ⟨(hp.push (PySem.W.kdv_tup [])).push (PySem.HandSPX.excO C hp.objs.size), g, dr, tk, os⟩ :=
    I1.laid (t' := tk) (a := hp.objs.size + 1) (o := exo (hp.objs.size + 1) C none) (h' := (hp.push (PySem.W.kdv_tup [])).push (PySem.HandSPX.excO C hp.objs.size)) kk hsz (exo_ok hget)
  have r2 : Vals [V.ref (hp.objs.size + 1)] [Value.ref (hp.objs.size + 1)] := .cons rfl .nil
  have hl : ([Value.ref (hp.objs.size + 1)] ++ ([] : List Value)).length = ps.length := by
    have e := r2.length
    rw [F1.len _ _ _ _ hq] at e
    exact e.symm
  refine wpAny_call (PySem.HandSPX.call_own F.excBase_ValueError (fun Y => PySem.HandSPX.refsVE_contains Y bm hbm) (I1.kIn _ _ hC) (PySem.W.looks_findIn I1.kIn iC) (fun self => PySem.W.bind_fn I1.kIn self tI) (Nat.zero_le _)
    (codeAny_mono (F1.run _ X.stack _ _ ⟨[Value.ref (hp.objs.size + 1)], []⟩ [Value.ref (hp.objs.size + 1)] _ _ (fun _ _ _ => False) (hr.make C [] []) (I2.env0.make C [] []) (hb _ [Value.ref (hp.objs.size + 1)] I2.kIn hl) r2 hq) fun r s' hq' => ?_))
  cases r with
  | error er => exact hx pins σ _ _ er s' I2 hq'
  | ok fl =>
    cases fl with
    | ret u =>
      obtain ⟨v, H2, os2, bare2, un2, hok2, rv, ev, eH, q2⟩ := hq'
      subst ev eH
      obtain ⟨h2, g2, d2, t2, os'⟩ := s'
      refine ⟨rv, ?_⟩
      have ea : upd H (hp.objs.size + 1) (exo (hp.objs.size + 1) C none) (hp.objs.size + 1) = some (exo (hp.objs.size + 1) C none) := upd_same
      obtain ⟨t0, hoe⟩ := exo_at hok2 ea
      obtain ⟨G, g1', g2'⟩ := restrict h2 fun b => decide (b ≠ hp.objs.size + 1)
      have gk : ∀ b, b ≠ hp.objs.size + 1 → G.get? b = h2.get? b := fun b hb => g1' b (decide_eq_true hb)
      have ge : G.get? (hp.objs.size + 1) = none := g2' _ (by simp)
      have nha : ∀ {b : Addr} {o : Obj}, hp.get? b = some o → b ≠ hp.objs.size + 1 := fun {b o} z => Nat.ne_of_lt (Nat.lt_of_lt_of_le (Heap.lt_size z) hsz)
      have up : ∀ {b : Addr}, b ≠ hp.objs.size + 1 → H b = none → upd H (hp.objs.size + 1) (exo (hp.objs.size + 1) C none) b = none := fun {b} hb n => by rw [upd_ne hb]; exact n
      have U : Un (frs X.stack) [] H H hp G := {
        keep := fun b o z n hf hx => by
          rw [gk b (nha z)]
          exact un2.keep b o (kk b o z) (up (nha z) n) hf hx
        slot := fun b o z n hf hx => by
          rw [gk b (nha z)]
          exact un2.slot b o (kk b o z) (up (nha z) n) hf hx
        free := fun b o z n hx => n
        there := fun b o z hx => by
          rw [gk b (nha z)]
          exact un2.there b o (kk b o z) hx
        tups := fun b xs z => z
        frzs := fun b o v z => z
        tbls := fun b ps z => ⟨#[], by rw [z]; simp⟩ }
      have hok3 : HOk X.prog X.w H G := fun b o z => by
        have hba : b ≠ hp.objs.size + 1 := ne_of_none z hn
        have z2 : upd H (hp.objs.size + 1) (exo (hp.objs.size + 1) C none) b = some o := by rw [upd_ne hba]; exact z
        refine (hok2 b o z2).stay (fun c v hc y => ?_) (fun c hc => ?_) (fun c xs hc => ?_)
        · have hca : c ≠ hp.objs.size + 1 := by
            rcases hc with hc | hc
            · rw [hc]
              exact hba
            · exact at_ne ea hc exo_own
          rw [gk c hca]
          exact y
        · rw [upd_ne (at_ne ea hc exo_own)] at hc
          exact hc
        · rw [upd_ne (at_ne ea hc exo_tup)] at hc
          exact hc
      have J : Inv X pins σ H ⟨G, g2, d2, t2, os'⟩ := I1.call' (ch := []) os2 U hok3 bare2 (fun b z => absurd z (by simp))
      refine ⟨hp.objs.size + 1, _, _, ⟨G, g2, d2, t2, os'⟩, _, .ref C, none, rfl, J, fun b o z => ?_, ge, hoe, ⟨rfl, rfl⟩, rfl, rfl, hn, rfl, bare2, raises_own T.exC T.tyC, q2⟩
      by_cases hba : b = hp.objs.size + 1
      · rw [hba, ge] at z
        cases z
      · exact (gk b hba).symm.trans z
    | next => exact False.elim hq'
    | brk => exact False.elim hq'
    | cont => exact False.elim hq'


def topS (i : Nat) : Stmt := PySem.Challenge.pw_fairseek_k02_refusals_apart.main.body.getD i (.Pass ⟨0, 0, 0, 0⟩)
abbrev s_l_cell : Stmt := topS 21
abbrev s_l_purse : Stmt := topS 22
abbrev s_l_take : Stmt := topS 23
abbrev s_l_thing : Stmt := topS 24
abbrev s_l_raised : Stmt := topS 25
abbrev s_l_raised_too : Stmt := topS 26
abbrev s_l_classes : Stmt := topS 27
abbrev s_l_fields : Stmt := topS 28
abbrev s_l_right : Stmt := topS 29
abbrev s_law : Stmt := topS 30
abbrev s_NoTerm_init : Stmt := inClass (topS 2) 0
abbrev s_NoPlace_init : Stmt := inClass (topS 3) 0
abbrev s_NoNumber_init : Stmt := inClass (topS 4) 0
abbrev s_NoText_init : Stmt := inClass (topS 5) 0
abbrev s_NoRow_init : Stmt := inClass (topS 6) 0
abbrev s_NoProgram_init : Stmt := inClass (topS 7) 0
abbrev s_Twice_init : Stmt := inClass (topS 8) 0
abbrev s_NoUnknown_init : Stmt := inClass (topS 9) 0
abbrev s_NoRelation_init : Stmt := inClass (topS 10) 0
abbrev s_NoMany_init : Stmt := inClass (topS 11) 0
abbrev s_NoQuestion_init : Stmt := inClass (topS 12) 0
abbrev s_NoForm_init : Stmt := inClass (topS 13) 0
abbrev s_NoPaper_init : Stmt := inClass (topS 14) 0
abbrev s_TooGreat_init : Stmt := inClass (topS 15) 0
abbrev s_TooMany_init : Stmt := inClass (topS 16) 0
abbrev s_NoOrder_init : Stmt := inClass (topS 17) 0
abbrev s_Ended_init : Stmt := inClass (topS 18) 0
abbrev s_NoLine_init : Stmt := inClass (topS 19) 0
structure Env (K : PySem.W.Frag) (mg : Str → Option Value) where
  a_l_cell : Addr
  d_l_cell : FuncData
  F_l_cell : Fun K "_law_cell" "_law_cell" s_l_cell a_l_cell d_l_cell
  b_l_cell : Binds K d_l_cell ["_law_script", "_law_k"] []
  g_l_cell : mg "_law_cell" = some (.ref a_l_cell)
  a_l_purse : Addr
  d_l_purse : FuncData
  F_l_purse : Fun K "_law_purse" "_law_purse" s_l_purse a_l_purse d_l_purse
  b_l_purse : Binds K d_l_purse ["_law_cell_here"] []
  g_l_purse : mg "_law_purse" = some (.ref a_l_purse)
  a_l_take : Addr
  d_l_take : FuncData
  F_l_take : Fun K "_law_take" "_law_take" s_l_take a_l_take d_l_take
  b_l_take : Binds K d_l_take ["_law_purse_here", "_law_many"] []
  g_l_take : mg "_law_take" = some (.ref a_l_take)
  a_l_thing : Addr
  d_l_thing : FuncData
  F_l_thing : Fun K "_law_thing" "_law_thing" s_l_thing a_l_thing d_l_thing
  b_l_thing : Binds K d_l_thing ["_law_purse_here"] []
  g_l_thing : mg "_law_thing" = some (.ref a_l_thing)
  a_l_raised : Addr
  d_l_raised : FuncData
  F_l_raised : Fun K "_law_raised" "_law_raised" s_l_raised a_l_raised d_l_raised
  b_l_raised : Binds K d_l_raised ["_law_number", "_law_one", "_law_other"] []
  g_l_raised : mg "_law_raised" = some (.ref a_l_raised)
  a_l_raised_too : Addr
  d_l_raised_too : FuncData
  F_l_raised_too : Fun K "_law_raised_too" "_law_raised_too" s_l_raised_too a_l_raised_too d_l_raised_too
  b_l_raised_too : Binds K d_l_raised_too ["_law_number", "_law_one", "_law_other"] []
  g_l_raised_too : mg "_law_raised_too" = some (.ref a_l_raised_too)
  a_l_classes : Addr
  d_l_classes : FuncData
  F_l_classes : Fun K "_law_classes" "_law_classes" s_l_classes a_l_classes d_l_classes
  b_l_classes : Binds K d_l_classes ["_law_e"] []
  g_l_classes : mg "_law_classes" = some (.ref a_l_classes)
  a_l_fields : Addr
  d_l_fields : FuncData
  F_l_fields : Fun K "_law_fields" "_law_fields" s_l_fields a_l_fields d_l_fields
  b_l_fields : Binds K d_l_fields ["_law_e"] []
  g_l_fields : mg "_law_fields" = some (.ref a_l_fields)
  a_l_right : Addr
  d_l_right : FuncData
  F_l_right : Fun K "_law_right" "_law_right" s_l_right a_l_right d_l_right
  b_l_right : Binds K d_l_right ["_law_number", "_law_one", "_law_other"] []
  g_l_right : mg "_law_right" = some (.ref a_l_right)
  a_law : Addr
  d_law : FuncData
  F_law : Fun K "law" "law" s_law a_law d_law
  b_law : Binds K d_law ["_law_script"] []
  g_law : mg "law" = some (.ref a_law)
  a_NoTerm : Addr
  g_NoTerm : mg "NoTerm" = some (.ref a_NoTerm)
  x_NoTerm : OexC K a_NoTerm
  y_NoTerm : ExcC K a_NoTerm
  f_NoTerm : XfC K a_NoTerm
  i_NoTerm : Addr
  di_NoTerm : FuncData
  Fi_NoTerm : Fun K "__init__" "NoTerm.__init__" s_NoTerm_init i_NoTerm di_NoTerm
  bi_NoTerm : Binds K di_NoTerm ["self", "found"] []
  ii_NoTerm : PySem.W.findIn K (.ref a_NoTerm) "__init__" = some (some (.ref i_NoTerm))
  ti_NoTerm : PySem.W.typeIn K (.ref i_NoTerm) = some (.type "function")
  kv_NoTerm : PySem.W.kitOne K (.ref a_NoTerm) (.type "ValueError") = some true
  n_NoTerm_found : PySem.W.findIn K (.ref a_NoTerm) "found" = some none
  a_NoPlace : Addr
  g_NoPlace : mg "NoPlace" = some (.ref a_NoPlace)
  x_NoPlace : OexC K a_NoPlace
  y_NoPlace : ExcC K a_NoPlace
  f_NoPlace : XfC K a_NoPlace
  i_NoPlace : Addr
  di_NoPlace : FuncData
  Fi_NoPlace : Fun K "__init__" "NoPlace.__init__" s_NoPlace_init i_NoPlace di_NoPlace
  bi_NoPlace : Binds K di_NoPlace ["self", "found"] []
  ii_NoPlace : PySem.W.findIn K (.ref a_NoPlace) "__init__" = some (some (.ref i_NoPlace))
  ti_NoPlace : PySem.W.typeIn K (.ref i_NoPlace) = some (.type "function")
  kv_NoPlace : PySem.W.kitOne K (.ref a_NoPlace) (.type "ValueError") = some true
  n_NoPlace_found : PySem.W.findIn K (.ref a_NoPlace) "found" = some none
  a_NoNumber : Addr
  g_NoNumber : mg "NoNumber" = some (.ref a_NoNumber)
  x_NoNumber : OexC K a_NoNumber
  y_NoNumber : ExcC K a_NoNumber
  f_NoNumber : XfC K a_NoNumber
  i_NoNumber : Addr
  di_NoNumber : FuncData
  Fi_NoNumber : Fun K "__init__" "NoNumber.__init__" s_NoNumber_init i_NoNumber di_NoNumber
  bi_NoNumber : Binds K di_NoNumber ["self", "found"] []
  ii_NoNumber : PySem.W.findIn K (.ref a_NoNumber) "__init__" = some (some (.ref i_NoNumber))
  ti_NoNumber : PySem.W.typeIn K (.ref i_NoNumber) = some (.type "function")
  kv_NoNumber : PySem.W.kitOne K (.ref a_NoNumber) (.type "ValueError") = some true
  n_NoNumber_found : PySem.W.findIn K (.ref a_NoNumber) "found" = some none
  a_NoText : Addr
  g_NoText : mg "NoText" = some (.ref a_NoText)
  x_NoText : OexC K a_NoText
  y_NoText : ExcC K a_NoText
  f_NoText : XfC K a_NoText
  i_NoText : Addr
  di_NoText : FuncData
  Fi_NoText : Fun K "__init__" "NoText.__init__" s_NoText_init i_NoText di_NoText
  bi_NoText : Binds K di_NoText ["self", "at"] []
  ii_NoText : PySem.W.findIn K (.ref a_NoText) "__init__" = some (some (.ref i_NoText))
  ti_NoText : PySem.W.typeIn K (.ref i_NoText) = some (.type "function")
  kv_NoText : PySem.W.kitOne K (.ref a_NoText) (.type "ValueError") = some true
  n_NoText_at : PySem.W.findIn K (.ref a_NoText) "at" = some none
  a_NoRow : Addr
  g_NoRow : mg "NoRow" = some (.ref a_NoRow)
  x_NoRow : OexC K a_NoRow
  y_NoRow : ExcC K a_NoRow
  f_NoRow : XfC K a_NoRow
  i_NoRow : Addr
  di_NoRow : FuncData
  Fi_NoRow : Fun K "__init__" "NoRow.__init__" s_NoRow_init i_NoRow di_NoRow
  bi_NoRow : Binds K di_NoRow ["self", "found"] []
  ii_NoRow : PySem.W.findIn K (.ref a_NoRow) "__init__" = some (some (.ref i_NoRow))
  ti_NoRow : PySem.W.typeIn K (.ref i_NoRow) = some (.type "function")
  kv_NoRow : PySem.W.kitOne K (.ref a_NoRow) (.type "ValueError") = some true
  n_NoRow_found : PySem.W.findIn K (.ref a_NoRow) "found" = some none
  a_NoProgram : Addr
  g_NoProgram : mg "NoProgram" = some (.ref a_NoProgram)
  x_NoProgram : OexC K a_NoProgram
  y_NoProgram : ExcC K a_NoProgram
  f_NoProgram : XfC K a_NoProgram
  i_NoProgram : Addr
  di_NoProgram : FuncData
  Fi_NoProgram : Fun K "__init__" "NoProgram.__init__" s_NoProgram_init i_NoProgram di_NoProgram
  bi_NoProgram : Binds K di_NoProgram ["self", "line", "at"] []
  ii_NoProgram : PySem.W.findIn K (.ref a_NoProgram) "__init__" = some (some (.ref i_NoProgram))
  ti_NoProgram : PySem.W.typeIn K (.ref i_NoProgram) = some (.type "function")
  kv_NoProgram : PySem.W.kitOne K (.ref a_NoProgram) (.type "ValueError") = some true
  n_NoProgram_line : PySem.W.findIn K (.ref a_NoProgram) "line" = some none
  n_NoProgram_at : PySem.W.findIn K (.ref a_NoProgram) "at" = some none
  a_Twice : Addr
  g_Twice : mg "Twice" = some (.ref a_Twice)
  x_Twice : OexC K a_Twice
  y_Twice : ExcC K a_Twice
  f_Twice : XfC K a_Twice
  i_Twice : Addr
  di_Twice : FuncData
  Fi_Twice : Fun K "__init__" "Twice.__init__" s_Twice_init i_Twice di_Twice
  bi_Twice : Binds K di_Twice ["self", "name"] []
  ii_Twice : PySem.W.findIn K (.ref a_Twice) "__init__" = some (some (.ref i_Twice))
  ti_Twice : PySem.W.typeIn K (.ref i_Twice) = some (.type "function")
  kv_Twice : PySem.W.kitOne K (.ref a_Twice) (.type "ValueError") = some true
  n_Twice_name : PySem.W.findIn K (.ref a_Twice) "name" = some none
  a_NoUnknown : Addr
  g_NoUnknown : mg "NoUnknown" = some (.ref a_NoUnknown)
  x_NoUnknown : OexC K a_NoUnknown
  y_NoUnknown : ExcC K a_NoUnknown
  f_NoUnknown : XfC K a_NoUnknown
  i_NoUnknown : Addr
  di_NoUnknown : FuncData
  Fi_NoUnknown : Fun K "__init__" "NoUnknown.__init__" s_NoUnknown_init i_NoUnknown di_NoUnknown
  bi_NoUnknown : Binds K di_NoUnknown ["self", "name"] []
  ii_NoUnknown : PySem.W.findIn K (.ref a_NoUnknown) "__init__" = some (some (.ref i_NoUnknown))
  ti_NoUnknown : PySem.W.typeIn K (.ref i_NoUnknown) = some (.type "function")
  kv_NoUnknown : PySem.W.kitOne K (.ref a_NoUnknown) (.type "ValueError") = some true
  n_NoUnknown_name : PySem.W.findIn K (.ref a_NoUnknown) "name" = some none
  a_NoRelation : Addr
  g_NoRelation : mg "NoRelation" = some (.ref a_NoRelation)
  x_NoRelation : OexC K a_NoRelation
  y_NoRelation : ExcC K a_NoRelation
  f_NoRelation : XfC K a_NoRelation
  i_NoRelation : Addr
  di_NoRelation : FuncData
  Fi_NoRelation : Fun K "__init__" "NoRelation.__init__" s_NoRelation_init i_NoRelation di_NoRelation
  bi_NoRelation : Binds K di_NoRelation ["self", "name"] []
  ii_NoRelation : PySem.W.findIn K (.ref a_NoRelation) "__init__" = some (some (.ref i_NoRelation))
  ti_NoRelation : PySem.W.typeIn K (.ref i_NoRelation) = some (.type "function")
  kv_NoRelation : PySem.W.kitOne K (.ref a_NoRelation) (.type "ValueError") = some true
  n_NoRelation_name : PySem.W.findIn K (.ref a_NoRelation) "name" = some none
  a_NoMany : Addr
  g_NoMany : mg "NoMany" = some (.ref a_NoMany)
  x_NoMany : OexC K a_NoMany
  y_NoMany : ExcC K a_NoMany
  f_NoMany : XfC K a_NoMany
  i_NoMany : Addr
  di_NoMany : FuncData
  Fi_NoMany : Fun K "__init__" "NoMany.__init__" s_NoMany_init i_NoMany di_NoMany
  bi_NoMany : Binds K di_NoMany ["self", "name", "many"] []
  ii_NoMany : PySem.W.findIn K (.ref a_NoMany) "__init__" = some (some (.ref i_NoMany))
  ti_NoMany : PySem.W.typeIn K (.ref i_NoMany) = some (.type "function")
  kv_NoMany : PySem.W.kitOne K (.ref a_NoMany) (.type "ValueError") = some true
  n_NoMany_name : PySem.W.findIn K (.ref a_NoMany) "name" = some none
  n_NoMany_many : PySem.W.findIn K (.ref a_NoMany) "many" = some none
  a_NoQuestion : Addr
  g_NoQuestion : mg "NoQuestion" = some (.ref a_NoQuestion)
  x_NoQuestion : OexC K a_NoQuestion
  y_NoQuestion : ExcC K a_NoQuestion
  f_NoQuestion : XfC K a_NoQuestion
  i_NoQuestion : Addr
  di_NoQuestion : FuncData
  Fi_NoQuestion : Fun K "__init__" "NoQuestion.__init__" s_NoQuestion_init i_NoQuestion di_NoQuestion
  bi_NoQuestion : Binds K di_NoQuestion ["self", "found"] []
  ii_NoQuestion : PySem.W.findIn K (.ref a_NoQuestion) "__init__" = some (some (.ref i_NoQuestion))
  ti_NoQuestion : PySem.W.typeIn K (.ref i_NoQuestion) = some (.type "function")
  kv_NoQuestion : PySem.W.kitOne K (.ref a_NoQuestion) (.type "ValueError") = some true
  n_NoQuestion_found : PySem.W.findIn K (.ref a_NoQuestion) "found" = some none
  a_NoForm : Addr
  g_NoForm : mg "NoForm" = some (.ref a_NoForm)
  x_NoForm : OexC K a_NoForm
  y_NoForm : ExcC K a_NoForm
  f_NoForm : XfC K a_NoForm
  i_NoForm : Addr
  di_NoForm : FuncData
  Fi_NoForm : Fun K "__init__" "NoForm.__init__" s_NoForm_init i_NoForm di_NoForm
  bi_NoForm : Binds K di_NoForm ["self", "found"] []
  ii_NoForm : PySem.W.findIn K (.ref a_NoForm) "__init__" = some (some (.ref i_NoForm))
  ti_NoForm : PySem.W.typeIn K (.ref i_NoForm) = some (.type "function")
  kv_NoForm : PySem.W.kitOne K (.ref a_NoForm) (.type "ValueError") = some true
  n_NoForm_found : PySem.W.findIn K (.ref a_NoForm) "found" = some none
  a_NoPaper : Addr
  g_NoPaper : mg "NoPaper" = some (.ref a_NoPaper)
  x_NoPaper : OexC K a_NoPaper
  y_NoPaper : ExcC K a_NoPaper
  f_NoPaper : XfC K a_NoPaper
  i_NoPaper : Addr
  di_NoPaper : FuncData
  Fi_NoPaper : Fun K "__init__" "NoPaper.__init__" s_NoPaper_init i_NoPaper di_NoPaper
  bi_NoPaper : Binds K di_NoPaper ["self", "found"] []
  ii_NoPaper : PySem.W.findIn K (.ref a_NoPaper) "__init__" = some (some (.ref i_NoPaper))
  ti_NoPaper : PySem.W.typeIn K (.ref i_NoPaper) = some (.type "function")
  kv_NoPaper : PySem.W.kitOne K (.ref a_NoPaper) (.type "ValueError") = some true
  n_NoPaper_found : PySem.W.findIn K (.ref a_NoPaper) "found" = some none
  a_TooGreat : Addr
  g_TooGreat : mg "TooGreat" = some (.ref a_TooGreat)
  x_TooGreat : OexC K a_TooGreat
  y_TooGreat : ExcC K a_TooGreat
  f_TooGreat : XfC K a_TooGreat
  i_TooGreat : Addr
  di_TooGreat : FuncData
  Fi_TooGreat : Fun K "__init__" "TooGreat.__init__" s_TooGreat_init i_TooGreat di_TooGreat
  bi_TooGreat : Binds K di_TooGreat ["self", "parts"] []
  ii_TooGreat : PySem.W.findIn K (.ref a_TooGreat) "__init__" = some (some (.ref i_TooGreat))
  ti_TooGreat : PySem.W.typeIn K (.ref i_TooGreat) = some (.type "function")
  kv_TooGreat : PySem.W.kitOne K (.ref a_TooGreat) (.type "ValueError") = some true
  n_TooGreat_parts : PySem.W.findIn K (.ref a_TooGreat) "parts" = some none
  a_TooMany : Addr
  g_TooMany : mg "TooMany" = some (.ref a_TooMany)
  x_TooMany : OexC K a_TooMany
  y_TooMany : ExcC K a_TooMany
  f_TooMany : XfC K a_TooMany
  i_TooMany : Addr
  di_TooMany : FuncData
  Fi_TooMany : Fun K "__init__" "TooMany.__init__" s_TooMany_init i_TooMany di_TooMany
  bi_TooMany : Binds K di_TooMany ["self", "many"] []
  ii_TooMany : PySem.W.findIn K (.ref a_TooMany) "__init__" = some (some (.ref i_TooMany))
  ti_TooMany : PySem.W.typeIn K (.ref i_TooMany) = some (.type "function")
  kv_TooMany : PySem.W.kitOne K (.ref a_TooMany) (.type "ValueError") = some true
  n_TooMany_many : PySem.W.findIn K (.ref a_TooMany) "many" = some none
  a_NoOrder : Addr
  g_NoOrder : mg "NoOrder" = some (.ref a_NoOrder)
  x_NoOrder : OexC K a_NoOrder
  y_NoOrder : ExcC K a_NoOrder
  f_NoOrder : XfC K a_NoOrder
  i_NoOrder : Addr
  di_NoOrder : FuncData
  Fi_NoOrder : Fun K "__init__" "NoOrder.__init__" s_NoOrder_init i_NoOrder di_NoOrder
  bi_NoOrder : Binds K di_NoOrder ["self", "found"] []
  ii_NoOrder : PySem.W.findIn K (.ref a_NoOrder) "__init__" = some (some (.ref i_NoOrder))
  ti_NoOrder : PySem.W.typeIn K (.ref i_NoOrder) = some (.type "function")
  kv_NoOrder : PySem.W.kitOne K (.ref a_NoOrder) (.type "ValueError") = some true
  n_NoOrder_found : PySem.W.findIn K (.ref a_NoOrder) "found" = some none
  a_Ended : Addr
  g_Ended : mg "Ended" = some (.ref a_Ended)
  x_Ended : OexC K a_Ended
  y_Ended : ExcC K a_Ended
  f_Ended : XfC K a_Ended
  i_Ended : Addr
  di_Ended : FuncData
  Fi_Ended : Fun K "__init__" "Ended.__init__" s_Ended_init i_Ended di_Ended
  bi_Ended : Binds K di_Ended ["self"] []
  ii_Ended : PySem.W.findIn K (.ref a_Ended) "__init__" = some (some (.ref i_Ended))
  ti_Ended : PySem.W.typeIn K (.ref i_Ended) = some (.type "function")
  kv_Ended : PySem.W.kitOne K (.ref a_Ended) (.type "ValueError") = some true
  a_NoLine : Addr
  g_NoLine : mg "NoLine" = some (.ref a_NoLine)
  x_NoLine : OexC K a_NoLine
  y_NoLine : ExcC K a_NoLine
  f_NoLine : XfC K a_NoLine
  i_NoLine : Addr
  di_NoLine : FuncData
  Fi_NoLine : Fun K "__init__" "NoLine.__init__" s_NoLine_init i_NoLine di_NoLine
  bi_NoLine : Binds K di_NoLine ["self", "found"] []
  ii_NoLine : PySem.W.findIn K (.ref a_NoLine) "__init__" = some (some (.ref i_NoLine))
  ti_NoLine : PySem.W.typeIn K (.ref i_NoLine) = some (.type "function")
  kv_NoLine : PySem.W.kitOne K (.ref a_NoLine) (.type "ValueError") = some true
  n_NoLine_found : PySem.W.findIn K (.ref a_NoLine) "found" = some none
  a_SeekError : Addr
  g_SeekError : mg "SeekError" = some (.ref a_SeekError)
  sga : PySem.W.specialIn K (.ref a_SeekError) "__getattribute__" = some (some (.builtin "type.__getattribute__"))
  srd : PySem.W.readsIn K a_SeekError (.type "type") = true
  svi : PySem.W.findCls K (.ref a_SeekError) (.type "type") "__init__" = some (.val (.builtin "ValueError.__init__"))
  sxi : PySem.W.excIn K a_SeekError [.type "ValueError", .type "Exception", .type "BaseException", .type "object"] "ValueError.__new__" = true
  sxk : PySem.W.keepIn K (.ref a_SeekError) = true
  sxe : PySem.W.subIn K (.ref a_SeekError) (.type "BaseException") = some true
  sxt : PySem.W.typeIn K (.ref a_SeekError) = some (.type "type")
  y_SeekError : ExcC K a_SeekError
  kv_SeekError : PySem.W.kitOne K (.ref a_SeekError) (.type "ValueError") = some true
  km : KmT K [a_NoTerm, a_NoPlace, a_NoNumber, a_NoText, a_NoRow, a_NoProgram, a_Twice, a_NoUnknown, a_NoRelation, a_NoMany, a_NoQuestion, a_NoForm, a_NoPaper, a_TooGreat, a_TooMany, a_NoOrder, a_NoLine, a_Ended] a_SeekError
  m_ValueError : mg "ValueError" = none
  m_isinstance : mg "isinstance" = none
  m_list : mg "list" = none
  m_len : mg "len" = none
  m_max : mg "max" = none
  m_range : mg "range" = none
  m_repr : mg "repr" = none
  m_int : mg "int" = none
theorem sc_l_cell : FnScope ["_law_script", "_law_k"] ["_law_script", "_law_k"] (defScope s_l_cell) := ⟨rfl, rfl, rfl, by decide +kernel, rfl, by decide +kernel, by decide +kernel⟩
theorem sc_l_purse : FnScope ["_law_cell_here"] ["_law_cell_here"] (defScope s_l_purse) := ⟨rfl, rfl, rfl, by decide +kernel, rfl, by decide +kernel, by decide +kernel⟩
theorem sc_l_take : FnScope ["_law_purse_here", "_law_many", "_law_digit", "_law_number"] ["_law_purse_here", "_law_many"] (defScope s_l_take) := ⟨rfl, rfl, rfl, by decide +kernel, rfl, by decide +kernel, by decide +kernel⟩
theorem sc_l_thing : FnScope ["_law_purse_here", "_law_some"] ["_law_purse_here"] (defScope s_l_thing) := ⟨rfl, rfl, rfl, by decide +kernel, rfl, by decide +kernel, by decide +kernel⟩
theorem sc_l_raised : FnScope ["_law_number", "_law_one", "_law_other"] ["_law_number", "_law_one", "_law_other"] (defScope s_l_raised) := ⟨rfl, rfl, rfl, by decide +kernel, rfl, by decide +kernel, by decide +kernel⟩
theorem sc_l_raised_too : FnScope ["_law_number", "_law_one", "_law_other"] ["_law_number", "_law_one", "_law_other"] (defScope s_l_raised_too) := ⟨rfl, rfl, rfl, by decide +kernel, rfl, by decide +kernel, by decide +kernel⟩
theorem sc_l_classes : FnScope ["_law_e", "_law_found"] ["_law_e"] (defScope s_l_classes) := ⟨rfl, rfl, rfl, by decide +kernel, rfl, by decide +kernel, by decide +kernel⟩
theorem sc_l_fields : FnScope ["_law_e"] ["_law_e"] (defScope s_l_fields) := ⟨rfl, rfl, rfl, by decide +kernel, rfl, by decide +kernel, by decide +kernel⟩
theorem sc_l_right : FnScope ["_law_number", "_law_one", "_law_other", "_law_caught", "_law_e", "_law_due", "_law_found", "_law_k"] ["_law_number", "_law_one", "_law_other"] (defScope s_l_right) := ⟨rfl, rfl, rfl, by decide +kernel, rfl, by decide +kernel, by decide +kernel⟩
theorem sc_law : FnScope ["_law_script", "_law_cell_here", "_law_purse_here", "_law_number"] ["_law_script"] (defScope s_law) := ⟨rfl, rfl, rfl, by decide +kernel, rfl, by decide +kernel, by decide +kernel⟩
theorem sc_NoTerm_init : FnScope ["self", "found"] ["self", "found"] (defScope s_NoTerm_init) := ⟨rfl, rfl, rfl, by decide +kernel, rfl, by decide +kernel, by decide +kernel⟩
theorem sc_NoPlace_init : FnScope ["self", "found"] ["self", "found"] (defScope s_NoPlace_init) := ⟨rfl, rfl, rfl, by decide +kernel, rfl, by decide +kernel, by decide +kernel⟩
theorem sc_NoNumber_init : FnScope ["self", "found"] ["self", "found"] (defScope s_NoNumber_init) := ⟨rfl, rfl, rfl, by decide +kernel, rfl, by decide +kernel, by decide +kernel⟩
theorem sc_NoText_init : FnScope ["self", "at"] ["self", "at"] (defScope s_NoText_init) := ⟨rfl, rfl, rfl, by decide +kernel, rfl, by decide +kernel, by decide +kernel⟩
theorem sc_NoRow_init : FnScope ["self", "found"] ["self", "found"] (defScope s_NoRow_init) := ⟨rfl, rfl, rfl, by decide +kernel, rfl, by decide +kernel, by decide +kernel⟩
theorem sc_NoProgram_init : FnScope ["self", "line", "at"] ["self", "line", "at"] (defScope s_NoProgram_init) := ⟨rfl, rfl, rfl, by decide +kernel, rfl, by decide +kernel, by decide +kernel⟩
theorem sc_Twice_init : FnScope ["self", "name"] ["self", "name"] (defScope s_Twice_init) := ⟨rfl, rfl, rfl, by decide +kernel, rfl, by decide +kernel, by decide +kernel⟩
theorem sc_NoUnknown_init : FnScope ["self", "name"] ["self", "name"] (defScope s_NoUnknown_init) := ⟨rfl, rfl, rfl, by decide +kernel, rfl, by decide +kernel, by decide +kernel⟩
theorem sc_NoRelation_init : FnScope ["self", "name"] ["self", "name"] (defScope s_NoRelation_init) := ⟨rfl, rfl, rfl, by decide +kernel, rfl, by decide +kernel, by decide +kernel⟩
theorem sc_NoMany_init : FnScope ["self", "name", "many"] ["self", "name", "many"] (defScope s_NoMany_init) := ⟨rfl, rfl, rfl, by decide +kernel, rfl, by decide +kernel, by decide +kernel⟩
theorem sc_NoQuestion_init : FnScope ["self", "found"] ["self", "found"] (defScope s_NoQuestion_init) := ⟨rfl, rfl, rfl, by decide +kernel, rfl, by decide +kernel, by decide +kernel⟩
theorem sc_NoForm_init : FnScope ["self", "found"] ["self", "found"] (defScope s_NoForm_init) := ⟨rfl, rfl, rfl, by decide +kernel, rfl, by decide +kernel, by decide +kernel⟩
theorem sc_NoPaper_init : FnScope ["self", "found"] ["self", "found"] (defScope s_NoPaper_init) := ⟨rfl, rfl, rfl, by decide +kernel, rfl, by decide +kernel, by decide +kernel⟩
theorem sc_TooGreat_init : FnScope ["self", "parts"] ["self", "parts"] (defScope s_TooGreat_init) := ⟨rfl, rfl, rfl, by decide +kernel, rfl, by decide +kernel, by decide +kernel⟩
theorem sc_TooMany_init : FnScope ["self", "many"] ["self", "many"] (defScope s_TooMany_init) := ⟨rfl, rfl, rfl, by decide +kernel, rfl, by decide +kernel, by decide +kernel⟩
theorem sc_NoOrder_init : FnScope ["self", "found"] ["self", "found"] (defScope s_NoOrder_init) := ⟨rfl, rfl, rfl, by decide +kernel, rfl, by decide +kernel, by decide +kernel⟩
theorem sc_Ended_init : FnScope ["self"] ["self"] (defScope s_Ended_init) := ⟨rfl, rfl, rfl, by decide +kernel, rfl, by decide +kernel, by decide +kernel⟩
theorem sc_NoLine_init : FnScope ["self", "found"] ["self", "found"] (defScope s_NoLine_init) := ⟨rfl, rfl, rfl, by decide +kernel, rfl, by decide +kernel, by decide +kernel⟩
/-! ### the exceptions' own __init__ -/
def sp_init1 (C : Addr) (f : Str) : Sp := fun vs H Q _ => ∃ (a : Addr) (v : V), vs = [.ref a, v] ∧ H a = some (exo a C none) ∧ ∀ d, H d = none → d ≠ a → Q .non (upd (upd H d (exd d [(f, v)])) a (exo a C (some d)))
/-- what is left of a made exception is its dict -/
theorem exc_heap {H : Hp} {a d : Addr} {o1 o2 o3 o4 : HO} (ha : H a = none) (hd : d ≠ a) : upd (del (upd (upd (upd H a o1) d o2) a o3) a) d o4 = upd H d o4 := by
  funext b
  by_cases h1 : b = d
  · subst h1
    rw [upd_same, upd_same]
  · rw [upd_ne h1, upd_ne h1]
    by_cases h2 : b = a
    · subst h2
      rw [del_same, ha]
    · rw [del_ne h2, upd_ne h2, upd_ne h1, upd_ne h2]
theorem un2 {k : Nat} {A : Around} (h : Room k A) : A.units + 200 < cLine := Nat.lt_of_le_of_lt (by omega) h.un
section
variable {P : Program} {w : World} {K : PySem.W.Frag} {mg : Str → Option Value} {base : Heap}
theorem ok_NoTerm (T : Env K mg) : FnOk P w K mg base CX0 1 T.i_NoTerm T.di_NoTerm ["self", "found"] (sp_init1 T.a_NoTerm "found") := by
  refine T.Fi_NoTerm.ok sc_NoTerm_init (fun vs H Q E h => ?_) (fun cdv A outer s H vs Q E hr h => ?_)
  · obtain ⟨a, v, rfl, _⟩ := h
    rfl
  · obtain ⟨a, v, rfl, ha, q⟩ := h
    refine ⟨_, pss_cons (ps_expr (pe_seinit (by rfl) T.g_SeekError T.sga T.srd T.svi (pa_cons (pv 0) (pa_cons pe_str pa_nil)))) (pss_one (ps_ost (pv 0) (pv 1))), ?_⟩
    exact ⟨_, rfl, a, T.a_NoTerm, [_], rfl, (by show 1 ≤ 1000; decide), T.x_NoTerm, ha, _, rfl, _, rfl, a, T.a_NoTerm, rfl, T.x_NoTerm, T.n_NoTerm_found, .inl ⟨ha, fun dx hd hne => q dx hd hne⟩⟩
theorem ok_NoPlace (T : Env K mg) : FnOk P w K mg base CX0 1 T.i_NoPlace T.di_NoPlace ["self", "found"] (sp_init1 T.a_NoPlace "found") := by
  refine T.Fi_NoPlace.ok sc_NoPlace_init (fun vs H Q E h => ?_) (fun cdv A outer s H vs Q E hr h => ?_)
  · obtain ⟨a, v, rfl, _⟩ := h
    rfl
  · obtain ⟨a, v, rfl, ha, q⟩ := h
    refine ⟨_, pss_cons (ps_expr (pe_seinit (by rfl) T.g_SeekError T.sga T.srd T.svi (pa_cons (pv 0) (pa_cons pe_str pa_nil)))) (pss_one (ps_ost (pv 0) (pv 1))), ?_⟩
    exact ⟨_, rfl, a, T.a_NoPlace, [_], rfl, (by show 1 ≤ 1000; decide), T.x_NoPlace, ha, _, rfl, _, rfl, a, T.a_NoPlace, rfl, T.x_NoPlace, T.n_NoPlace_found, .inl ⟨ha, fun dx hd hne => q dx hd hne⟩⟩
theorem ok_NoNumber (T : Env K mg) : FnOk P w K mg base CX0 1 T.i_NoNumber T.di_NoNumber ["self", "found"] (sp_init1 T.a_NoNumber "found") := by
  refine T.Fi_NoNumber.ok sc_NoNumber_init (fun vs H Q E h => ?_) (fun cdv A outer s H vs Q E hr h => ?_)
  · obtain ⟨a, v, rfl, _⟩ := h
    rfl
  · obtain ⟨a, v, rfl, ha, q⟩ := h
    refine ⟨_, pss_cons (ps_expr (pe_seinit (by rfl) T.g_SeekError T.sga T.srd T.svi (pa_cons (pv 0) (pa_cons pe_str pa_nil)))) (pss_one (ps_ost (pv 0) (pv 1))), ?_⟩
    exact ⟨_, rfl, a, T.a_NoNumber, [_], rfl, (by show 1 ≤ 1000; decide), T.x_NoNumber, ha, _, rfl, _, rfl, a, T.a_NoNumber, rfl, T.x_NoNumber, T.n_NoNumber_found, .inl ⟨ha, fun dx hd hne => q dx hd hne⟩⟩
theorem ok_NoText (T : Env K mg) : FnOk P w K mg base CX0 1 T.i_NoText T.di_NoText ["self", "at"] (sp_init1 T.a_NoText "at") := by
  refine T.Fi_NoText.ok sc_NoText_init (fun vs H Q E h => ?_) (fun cdv A outer s H vs Q E hr h => ?_)
  · obtain ⟨a, v, rfl, _⟩ := h
    rfl
  · obtain ⟨a, v, rfl, ha, q⟩ := h
    refine ⟨_, pss_cons (ps_expr (pe_seinit (by rfl) T.g_SeekError T.sga T.srd T.svi (pa_cons (pv 0) (pa_cons pe_str pa_nil)))) (pss_one (ps_ost (pv 0) (pv 1))), ?_⟩
    exact ⟨_, rfl, a, T.a_NoText, [_], rfl, (by show 1 ≤ 1000; decide), T.x_NoText, ha, _, rfl, _, rfl, a, T.a_NoText, rfl, T.x_NoText, T.n_NoText_at, .inl ⟨ha, fun dx hd hne => q dx hd hne⟩⟩
theorem ok_NoRow (T : Env K mg) : FnOk P w K mg base CX0 1 T.i_NoRow T.di_NoRow ["self", "found"] (sp_init1 T.a_NoRow "found") := by
  refine T.Fi_NoRow.ok sc_NoRow_init (fun vs H Q E h => ?_) (fun cdv A outer s H vs Q E hr h => ?_)
  · obtain ⟨a, v, rfl, _⟩ := h
    rfl
  · obtain ⟨a, v, rfl, ha, q⟩ := h
    refine ⟨_, pss_cons (ps_expr (pe_seinit (by rfl) T.g_SeekError T.sga T.srd T.svi (pa_cons (pv 0) (pa_cons pe_str pa_nil)))) (pss_one (ps_ost (pv 0) (pv 1))), ?_⟩
    exact ⟨_, rfl, a, T.a_NoRow, [_], rfl, (by show 1 ≤ 1000; decide), T.x_NoRow, ha, _, rfl, _, rfl, a, T.a_NoRow, rfl, T.x_NoRow, T.n_NoRow_found, .inl ⟨ha, fun dx hd hne => q dx hd hne⟩⟩
theorem ok_NoProgram (T : Env K mg) : FnOk P w K mg base CX0 1 T.i_NoProgram T.di_NoProgram ["self", "line", "at"] (sp_init2 T.a_NoProgram "line" "at") := by
  refine T.Fi_NoProgram.ok sc_NoProgram_init (fun vs H Q E h => ?_) (fun cdv A outer s H vs Q E hr h => ?_)
  · obtain ⟨a, v, u, rfl, _⟩ := h
    rfl
  · obtain ⟨a, v, u, rfl, ha, q⟩ := h
    refine ⟨_, pss_cons (ps_expr (pe_seinit (by rfl) T.g_SeekError T.sga T.srd T.svi (pa_cons (pv 0) (pa_cons pe_str pa_nil)))) (pss_cons (ps_ost (pv 0) (pv 1)) (pss_one (ps_ost (pv 0) (pv 2)))), ?_⟩
    refine ⟨_, rfl, a, T.a_NoProgram, [_], rfl, (by show 1 ≤ 1000; decide), T.x_NoProgram, ha, _, rfl, _, rfl, a, T.a_NoProgram, rfl, T.x_NoProgram, T.n_NoProgram_line, .inl ⟨ha, fun dx hd hne => ?_⟩⟩
    exact ⟨_, rfl, _, rfl, a, T.a_NoProgram, rfl, T.x_NoProgram, T.n_NoProgram_at, .inr ⟨dx, _, upd_same, by rw [upd_ne hne, upd_same], (by show 1 ≤ 900; decide), q dx hd hne⟩⟩
theorem ok_Twice (T : Env K mg) : FnOk P w K mg base CX0 1 T.i_Twice T.di_Twice ["self", "name"] (sp_init1 T.a_Twice "name") := by
  refine T.Fi_Twice.ok sc_Twice_init (fun vs H Q E h => ?_) (fun cdv A outer s H vs Q E hr h => ?_)
  · obtain ⟨a, v, rfl, _⟩ := h
    rfl
  · obtain ⟨a, v, rfl, ha, q⟩ := h
    refine ⟨_, pss_cons (ps_expr (pe_seinit (by rfl) T.g_SeekError T.sga T.srd T.svi (pa_cons (pv 0) (pa_cons pe_str pa_nil)))) (pss_one (ps_ost (pv 0) (pv 1))), ?_⟩
    exact ⟨_, rfl, a, T.a_Twice, [_], rfl, (by show 1 ≤ 1000; decide), T.x_Twice, ha, _, rfl, _, rfl, a, T.a_Twice, rfl, T.x_Twice, T.n_Twice_name, .inl ⟨ha, fun dx hd hne => q dx hd hne⟩⟩
theorem ok_NoUnknown (T : Env K mg) : FnOk P w K mg base CX0 1 T.i_NoUnknown T.di_NoUnknown ["self", "name"] (sp_init1 T.a_NoUnknown "name") := by
  refine T.Fi_NoUnknown.ok sc_NoUnknown_init (fun vs H Q E h => ?_) (fun cdv A outer s H vs Q E hr h => ?_)
  · obtain ⟨a, v, rfl, _⟩ := h
    rfl
  · obtain ⟨a, v, rfl, ha, q⟩ := h
    refine ⟨_, pss_cons (ps_expr (pe_seinit (by rfl) T.g_SeekError T.sga T.srd T.svi (pa_cons (pv 0) (pa_cons pe_str pa_nil)))) (pss_one (ps_ost (pv 0) (pv 1))), ?_⟩
    exact ⟨_, rfl, a, T.a_NoUnknown, [_], rfl, (by show 1 ≤ 1000; decide), T.x_NoUnknown, ha, _, rfl, _, rfl, a, T.a_NoUnknown, rfl, T.x_NoUnknown, T.n_NoUnknown_name, .inl ⟨ha, fun dx hd hne => q dx hd hne⟩⟩
theorem ok_NoRelation (T : Env K mg) : FnOk P w K mg base CX0 1 T.i_NoRelation T.di_NoRelation ["self", "name"] (sp_init1 T.a_NoRelation "name") := by
  refine T.Fi_NoRelation.ok sc_NoRelation_init (fun vs H Q E h => ?_) (fun cdv A outer s H vs Q E hr h => ?_)
  · obtain ⟨a, v, rfl, _⟩ := h
    rfl
  · obtain ⟨a, v, rfl, ha, q⟩ := h
    refine ⟨_, pss_cons (ps_expr (pe_seinit (by rfl) T.g_SeekError T.sga T.srd T.svi (pa_cons (pv 0) (pa_cons pe_str pa_nil)))) (pss_one (ps_ost (pv 0) (pv 1))), ?_⟩
    exact ⟨_, rfl, a, T.a_NoRelation, [_], rfl, (by show 1 ≤ 1000; decide), T.x_NoRelation, ha, _, rfl, _, rfl, a, T.a_NoRelation, rfl, T.x_NoRelation, T.n_NoRelation_name, .inl ⟨ha, fun dx hd hne => q dx hd hne⟩⟩
theorem ok_NoMany (T : Env K mg) : FnOk P w K mg base CX0 1 T.i_NoMany T.di_NoMany ["self", "name", "many"] (sp_init2 T.a_NoMany "name" "many") := by
  refine T.Fi_NoMany.ok sc_NoMany_init (fun vs H Q E h => ?_) (fun cdv A outer s H vs Q E hr h => ?_)
  · obtain ⟨a, v, u, rfl, _⟩ := h
    rfl
  · obtain ⟨a, v, u, rfl, ha, q⟩ := h
    refine ⟨_, pss_cons (ps_expr (pe_seinit (by rfl) T.g_SeekError T.sga T.srd T.svi (pa_cons (pv 0) (pa_cons pe_str pa_nil)))) (pss_cons (ps_ost (pv 0) (pv 1)) (pss_one (ps_ost (pv 0) (pv 2)))), ?_⟩
    refine ⟨_, rfl, a, T.a_NoMany, [_], rfl, (by show 1 ≤ 1000; decide), T.x_NoMany, ha, _, rfl, _, rfl, a, T.a_NoMany, rfl, T.x_NoMany, T.n_NoMany_name, .inl ⟨ha, fun dx hd hne => ?_⟩⟩
    exact ⟨_, rfl, _, rfl, a, T.a_NoMany, rfl, T.x_NoMany, T.n_NoMany_many, .inr ⟨dx, _, upd_same, by rw [upd_ne hne, upd_same], (by show 1 ≤ 900; decide), q dx hd hne⟩⟩
theorem ok_NoQuestion (T : Env K mg) : FnOk P w K mg base CX0 1 T.i_NoQuestion T.di_NoQuestion ["self", "found"] (sp_init1 T.a_NoQuestion "found") := by
  refine T.Fi_NoQuestion.ok sc_NoQuestion_init (fun vs H Q E h => ?_) (fun cdv A outer s H vs Q E hr h => ?_)
  · obtain ⟨a, v, rfl, _⟩ := h
    rfl
  · obtain ⟨a, v, rfl, ha, q⟩ := h
    refine ⟨_, pss_cons (ps_expr (pe_seinit (by rfl) T.g_SeekError T.sga T.srd T.svi (pa_cons (pv 0) (pa_cons pe_str pa_nil)))) (pss_one (ps_ost (pv 0) (pv 1))), ?_⟩
    exact ⟨_, rfl, a, T.a_NoQuestion, [_], rfl, (by show 1 ≤ 1000; decide), T.x_NoQuestion, ha, _, rfl, _, rfl, a, T.a_NoQuestion, rfl, T.x_NoQuestion, T.n_NoQuestion_found, .inl ⟨ha, fun dx hd hne => q dx hd hne⟩⟩
theorem ok_NoForm (T : Env K mg) : FnOk P w K mg base CX0 1 T.i_NoForm T.di_NoForm ["self", "found"] (sp_init1 T.a_NoForm "found") := by
  refine T.Fi_NoForm.ok sc_NoForm_init (fun vs H Q E h => ?_) (fun cdv A outer s H vs Q E hr h => ?_)
  · obtain ⟨a, v, rfl, _⟩ := h
    rfl
  · obtain ⟨a, v, rfl, ha, q⟩ := h
    refine ⟨_, pss_cons (ps_expr (pe_seinit (by rfl) T.g_SeekError T.sga T.srd T.svi (pa_cons (pv 0) (pa_cons pe_str pa_nil)))) (pss_one (ps_ost (pv 0) (pv 1))), ?_⟩
    exact ⟨_, rfl, a, T.a_NoForm, [_], rfl, (by show 1 ≤ 1000; decide), T.x_NoForm, ha, _, rfl, _, rfl, a, T.a_NoForm, rfl, T.x_NoForm, T.n_NoForm_found, .inl ⟨ha, fun dx hd hne => q dx hd hne⟩⟩
theorem ok_NoPaper (T : Env K mg) : FnOk P w K mg base CX0 1 T.i_NoPaper T.di_NoPaper ["self", "found"] (sp_init1 T.a_NoPaper "found") := by
  refine T.Fi_NoPaper.ok sc_NoPaper_init (fun vs H Q E h => ?_) (fun cdv A outer s H vs Q E hr h => ?_)
  · obtain ⟨a, v, rfl, _⟩ := h
    rfl
  · obtain ⟨a, v, rfl, ha, q⟩ := h
    refine ⟨_, pss_cons (ps_expr (pe_seinit (by rfl) T.g_SeekError T.sga T.srd T.svi (pa_cons (pv 0) (pa_cons pe_str pa_nil)))) (pss_one (ps_ost (pv 0) (pv 1))), ?_⟩
    exact ⟨_, rfl, a, T.a_NoPaper, [_], rfl, (by show 1 ≤ 1000; decide), T.x_NoPaper, ha, _, rfl, _, rfl, a, T.a_NoPaper, rfl, T.x_NoPaper, T.n_NoPaper_found, .inl ⟨ha, fun dx hd hne => q dx hd hne⟩⟩
theorem ok_TooGreat (T : Env K mg) : FnOk P w K mg base CX0 1 T.i_TooGreat T.di_TooGreat ["self", "parts"] (sp_init1 T.a_TooGreat "parts") := by
  refine T.Fi_TooGreat.ok sc_TooGreat_init (fun vs H Q E h => ?_) (fun cdv A outer s H vs Q E hr h => ?_)
  · obtain ⟨a, v, rfl, _⟩ := h
    rfl
  · obtain ⟨a, v, rfl, ha, q⟩ := h
    refine ⟨_, pss_cons (ps_expr (pe_seinit (by rfl) T.g_SeekError T.sga T.srd T.svi (pa_cons (pv 0) (pa_cons pe_str pa_nil)))) (pss_one (ps_ost (pv 0) (pv 1))), ?_⟩
    exact ⟨_, rfl, a, T.a_TooGreat, [_], rfl, (by show 1 ≤ 1000; decide), T.x_TooGreat, ha, _, rfl, _, rfl, a, T.a_TooGreat, rfl, T.x_TooGreat, T.n_TooGreat_parts, .inl ⟨ha, fun dx hd hne => q dx hd hne⟩⟩
theorem ok_TooMany (T : Env K mg) : FnOk P w K mg base CX0 1 T.i_TooMany T.di_TooMany ["self", "many"] (sp_init1 T.a_TooMany "many") := by
  refine T.Fi_TooMany.ok sc_TooMany_init (fun vs H Q E h => ?_) (fun cdv A outer s H vs Q E hr h => ?_)
  · obtain ⟨a, v, rfl, _⟩ := h
    rfl
  · obtain ⟨a, v, rfl, ha, q⟩ := h
    refine ⟨_, pss_cons (ps_expr (pe_seinit (by rfl) T.g_SeekError T.sga T.srd T.svi (pa_cons (pv 0) (pa_cons pe_str pa_nil)))) (pss_one (ps_ost (pv 0) (pv 1))), ?_⟩
    exact ⟨_, rfl, a, T.a_TooMany, [_], rfl, (by show 1 ≤ 1000; decide), T.x_TooMany, ha, _, rfl, _, rfl, a, T.a_TooMany, rfl, T.x_TooMany, T.n_TooMany_many, .inl ⟨ha, fun dx hd hne => q dx hd hne⟩⟩
theorem ok_NoOrder (T : Env K mg) : FnOk P w K mg base CX0 1 T.i_NoOrder T.di_NoOrder ["self", "found"] (sp_init1 T.a_NoOrder "found") := by
  refine T.Fi_NoOrder.ok sc_NoOrder_init (fun vs H Q E h => ?_) (fun cdv A outer s H vs Q E hr h => ?_)
  · obtain ⟨a, v, rfl, _⟩ := h
    rfl
  · obtain ⟨a, v, rfl, ha, q⟩ := h
    refine ⟨_, pss_cons (ps_expr (pe_seinit (by rfl) T.g_SeekError T.sga T.srd T.svi (pa_cons (pv 0) (pa_cons pe_str pa_nil)))) (pss_one (ps_ost (pv 0) (pv 1))), ?_⟩
    exact ⟨_, rfl, a, T.a_NoOrder, [_], rfl, (by show 1 ≤ 1000; decide), T.x_NoOrder, ha, _, rfl, _, rfl, a, T.a_NoOrder, rfl, T.x_NoOrder, T.n_NoOrder_found, .inl ⟨ha, fun dx hd hne => q dx hd hne⟩⟩
theorem ok_Ended (T : Env K mg) : FnOk P w K mg base CX0 1 T.i_Ended T.di_Ended ["self"] (sp_init0 T.a_Ended) := by
  refine T.Fi_Ended.ok sc_Ended_init (fun vs H Q E h => ?_) (fun cdv A outer s H vs Q E hr h => ?_)
  · obtain ⟨a, rfl, _⟩ := h
    rfl
  · obtain ⟨a, rfl, ha, q⟩ := h
    refine ⟨_, pss_one (ps_expr (pe_seinit (by rfl) T.g_SeekError T.sga T.srd T.svi (pa_cons (pv 0) (pa_cons pe_str pa_nil)))), ?_⟩
    exact ⟨_, rfl, a, T.a_Ended, [_], rfl, (by show 1 ≤ 1000; decide), T.x_Ended, ha, q⟩
theorem ok_NoLine (T : Env K mg) : FnOk P w K mg base CX0 1 T.i_NoLine T.di_NoLine ["self", "found"] (sp_init1 T.a_NoLine "found") := by
  refine T.Fi_NoLine.ok sc_NoLine_init (fun vs H Q E h => ?_) (fun cdv A outer s H vs Q E hr h => ?_)
  · obtain ⟨a, v, rfl, _⟩ := h
    rfl
  · obtain ⟨a, v, rfl, ha, q⟩ := h
    refine ⟨_, pss_cons (ps_expr (pe_seinit (by rfl) T.g_SeekError T.sga T.srd T.svi (pa_cons (pv 0) (pa_cons pe_str pa_nil)))) (pss_one (ps_ost (pv 0) (pv 1))), ?_⟩
    exact ⟨_, rfl, a, T.a_NoLine, [_], rfl, (by show 1 ≤ 1000; decide), T.x_NoLine, ha, _, rfl, _, rfl, a, T.a_NoLine, rfl, T.x_NoLine, T.n_NoLine_found, .inl ⟨ha, fun dx hd hne => q dx hd hne⟩⟩
end
/-- raise C(v): the reading, from the argument on -/
theorem raise1 {C : Addr} {f : Str} {v : V} {H : Hp} {Q : XK} (q : ∀ d, H d = none → Q (.ref C) (some d) (upd H d (.xd [(f, v)]))) :
    ([v] : List V).length ≤ 1000 ∧ ∀ a, H a = none → sp_init1 C f (.ref a :: ([v] ++ [])) (upd H a (exo a C none))
      (fun u H2 => u = .non ∧ ∃ (d : Addr) (fs : List (Str × V)), H2 a = some (exo a C (some d)) ∧ H2 d = some (exd d fs) ∧ H d = none ∧ Q (.ref C) (some d) (upd (del H2 a) d (.xd fs))) (fun _ _ _ => False) := by
  refine ⟨by show 1 ≤ 1000; decide, fun a ha => ⟨a, v, rfl, upd_same, fun d hd hne => ⟨rfl, d, [(f, v)], upd_same, ?_, ?_, ?_⟩⟩⟩
  · rw [upd_ne hne, upd_same]
  · rw [upd_ne hne] at hd
    exact hd
  · rw [exc_heap ha hne]
    rw [upd_ne hne] at hd
    exact q d hd


/-! ### the eighteen refusals -/
def fsOf (one other : V) : Nat → List (Str × V)
  | 3 => [("at", one)]
  | 5 => [("at", other), ("line", one)]
  | 6 => [("name", one)]
  | 7 => [("name", one)]
  | 8 => [("name", one)]
  | 9 => [("many", other), ("name", one)]
  | 13 => [("parts", one)]
  | 14 => [("many", one)]
  | 17 => []
  | _ => [("found", one)]
def csOf {K : PySem.W.Frag} {mg : Str → Option Value} (T : Env K mg) : List Addr := [T.a_NoTerm, T.a_NoPlace, T.a_NoNumber, T.a_NoText, T.a_NoRow, T.a_NoProgram, T.a_Twice, T.a_NoUnknown, T.a_NoRelation, T.a_NoMany, T.a_NoQuestion, T.a_NoForm, T.a_NoPaper, T.a_TooGreat, T.a_TooMany, T.a_NoOrder, T.a_NoLine, T.a_Ended]
theorem int_of {i j : Int} (c : decide (V.int i = V.int j) = true) : i = j := by
  have e := of_decide_eq_true c
  injection e
theorem int_no {i j : Int} (c : ¬ decide (V.int i = V.int j) = true) : i ≠ j := fun e => c (decide_eq_true (by rw [e]))
def sp_l_raised (cs : List Addr) (lo : Int) : Sp := fun vs H _ E => ∃ (i : Int) (one other : V), vs = [.int i, one, other] ∧ lo ≤ i ∧ i < 18 ∧ (∀ (k : Nat) (C : Addr), i = (k : Int) → k < 17 → cs[k]? = some C → ∀ d, H d = none → E (.ref C) (some d) (upd H d (.xd (fsOf one other k)))) ∧ ∀ C, i = 17 → cs[17]? = some C → E (.ref C) none H
section
variable {P : Program} {w : World} {K : PySem.W.Frag} {mg : Str → Option Value} {base : Heap}
theorem ok_l_raised_too (T : Env K mg) : FnOk P w K mg base (L2.CX P w) 3 T.a_l_raised_too T.d_l_raised_too ["_law_number", "_law_one", "_law_other"] (sp_l_raised (csOf T) 9) := by
  have G_NoMany := ok_NoMany (P := P) (w := w) (base := base) T
  have G_NoQuestion := ok_NoQuestion (P := P) (w := w) (base := base) T
  have G_NoForm := ok_NoForm (P := P) (w := w) (base := base) T
  have G_NoPaper := ok_NoPaper (P := P) (w := w) (base := base) T
  have G_TooGreat := ok_TooGreat (P := P) (w := w) (base := base) T
  have G_TooMany := ok_TooMany (P := P) (w := w) (base := base) T
  have G_NoOrder := ok_NoOrder (P := P) (w := w) (base := base) T
  have G_NoLine := ok_NoLine (P := P) (w := w) (base := base) T
  have G_Ended := ok_Ended (P := P) (w := w) (base := base) T
  refine T.F_l_raised_too.okX sc_l_raised_too (fun vs H Q E h => ?_) (fun cdv A outer s H vs Q E hr h => ?_)
  · obtain ⟨i, one, other, rfl, _⟩ := h
    rfl
  · obtain ⟨i, one, other, rfl, i0, i1, q, qe⟩ := h
    refine ⟨_, (pss_cons (ps_if (pt_cmpR op_eq (pv 0) pe_int (nomark _)) (pss_one (ps_raise (by rfl) (takes_of rfl rfl rfl rfl) (pmk_oex T.x_NoMany T.ii_NoMany T.ti_NoMany G_NoMany hr T.bi_NoMany .nil pass0 (by rfl) T.g_NoMany (pa_cons (pv 1) (pa_cons (pv 2) pa_nil))))) pss_nil)
      (pss_cons (ps_if (pt_cmpR op_eq (pv 0) pe_int (nomark _)) (pss_one (ps_raise (by rfl) (takes_of rfl rfl rfl rfl) (pmk_oex T.x_NoQuestion T.ii_NoQuestion T.ti_NoQuestion G_NoQuestion hr T.bi_NoQuestion .nil pass0 (by rfl) T.g_NoQuestion (pa_cons (pv 1) pa_nil)))) pss_nil)
      (pss_cons (ps_if (pt_cmpR op_eq (pv 0) pe_int (nomark _)) (pss_one (ps_raise (by rfl) (takes_of rfl rfl rfl rfl) (pmk_oex T.x_NoForm T.ii_NoForm T.ti_NoForm G_NoForm hr T.bi_NoForm .nil pass0 (by rfl) T.g_NoForm (pa_cons (pv 1) pa_nil)))) pss_nil)
      (pss_cons (ps_if (pt_cmpR op_eq (pv 0) pe_int (nomark _)) (pss_one (ps_raise (by rfl) (takes_of rfl rfl rfl rfl) (pmk_oex T.x_NoPaper T.ii_NoPaper T.ti_NoPaper G_NoPaper hr T.bi_NoPaper .nil pass0 (by rfl) T.g_NoPaper (pa_cons (pv 1) pa_nil)))) pss_nil)
      (pss_cons (ps_if (pt_cmpR op_eq (pv 0) pe_int (nomark _)) (pss_one (ps_raise (by rfl) (takes_of rfl rfl rfl rfl) (pmk_oex T.x_TooGreat T.ii_TooGreat T.ti_TooGreat G_TooGreat hr T.bi_TooGreat .nil pass0 (by rfl) T.g_TooGreat (pa_cons (pv 1) pa_nil)))) pss_nil)
      (pss_cons (ps_if (pt_cmpR op_eq (pv 0) pe_int (nomark _)) (pss_one (ps_raise (by rfl) (takes_of rfl rfl rfl rfl) (pmk_oex T.x_TooMany T.ii_TooMany T.ti_TooMany G_TooMany hr T.bi_TooMany .nil pass0 (by rfl) T.g_TooMany (pa_cons (pv 1) pa_nil)))) pss_nil)
      (pss_cons (ps_if (pt_cmpR op_eq (pv 0) pe_int (nomark _)) (pss_one (ps_raise (by rfl) (takes_of rfl rfl rfl rfl) (pmk_oex T.x_NoOrder T.ii_NoOrder T.ti_NoOrder G_NoOrder hr T.bi_NoOrder .nil pass0 (by rfl) T.g_NoOrder (pa_cons (pv 1) pa_nil)))) pss_nil)
      (pss_cons (ps_if (pt_cmpR op_eq (pv 0) pe_int (nomark _)) (pss_one (ps_raise (by rfl) (takes_of rfl rfl rfl rfl) (pmk_oex T.x_NoLine T.ii_NoLine T.ti_NoLine G_NoLine hr T.bi_NoLine .nil pass0 (by rfl) T.g_NoLine (pa_cons (pv 1) pa_nil)))) pss_nil)
      (pss_one (ps_raise (by rfl) (takes_of rfl rfl rfl rfl) (pmk_oex0 T.x_Ended T.ii_Ended T.ti_Ended G_Ended hr T.bi_Ended pass0 (by rfl) T.g_Ended))))))))))), ?_⟩
    refine ⟨_, rfl, rfl, _, rfl, ite2 (fun c => ?_) (fun c9 => ?_)⟩
    · exact ⟨_, rfl, _, rfl, raise2 fun d hd => q 9 _ (int_of c) (by decide) rfl d hd⟩
    refine ⟨_, rfl, rfl, _, rfl, ite2 (fun c => ?_) (fun c10 => ?_)⟩
    · exact ⟨_, rfl, raise1 fun d hd => q 10 _ (int_of c) (by decide) rfl d hd⟩
    refine ⟨_, rfl, rfl, _, rfl, ite2 (fun c => ?_) (fun c11 => ?_)⟩
    · exact ⟨_, rfl, raise1 fun d hd => q 11 _ (int_of c) (by decide) rfl d hd⟩
    refine ⟨_, rfl, rfl, _, rfl, ite2 (fun c => ?_) (fun c12 => ?_)⟩
    · exact ⟨_, rfl, raise1 fun d hd => q 12 _ (int_of c) (by decide) rfl d hd⟩
    refine ⟨_, rfl, rfl, _, rfl, ite2 (fun c => ?_) (fun c13 => ?_)⟩
    · exact ⟨_, rfl, raise1 fun d hd => q 13 _ (int_of c) (by decide) rfl d hd⟩
    refine ⟨_, rfl, rfl, _, rfl, ite2 (fun c => ?_) (fun c14 => ?_)⟩
    · exact ⟨_, rfl, raise1 fun d hd => q 14 _ (int_of c) (by decide) rfl d hd⟩
    refine ⟨_, rfl, rfl, _, rfl, ite2 (fun c => ?_) (fun c15 => ?_)⟩
    · exact ⟨_, rfl, raise1 fun d hd => q 15 _ (int_of c) (by decide) rfl d hd⟩
    refine ⟨_, rfl, rfl, _, rfl, ite2 (fun c => ?_) (fun c16 => ?_)⟩
    · exact ⟨_, rfl, raise1 fun d hd => q 16 _ (int_of c) (by decide) rfl d hd⟩
    have e9 := int_no c9
    have e10 := int_no c10
    have e11 := int_no c11
    have e12 := int_no c12
    have e13 := int_no c13
    have e14 := int_no c14
    have e15 := int_no c15
    have e16 := int_no c16
    exact fun a ha => ⟨a, rfl, upd_same, rfl, rfl, qe _ (by omega) rfl⟩
theorem ok_l_raised (T : Env K mg) : FnOk P w K mg base (L2.CX P w) 4 T.a_l_raised T.d_l_raised ["_law_number", "_law_one", "_law_other"] (sp_l_raised (csOf T) 0) := by
  have G_NoTerm := (ok_NoTerm (P := P) (w := w) (base := base) T).mono (k := 2) (by decide)
  have G_NoPlace := (ok_NoPlace (P := P) (w := w) (base := base) T).mono (k := 2) (by decide)
  have G_NoNumber := (ok_NoNumber (P := P) (w := w) (base := base) T).mono (k := 2) (by decide)
  have G_NoText := (ok_NoText (P := P) (w := w) (base := base) T).mono (k := 2) (by decide)
  have G_NoRow := (ok_NoRow (P := P) (w := w) (base := base) T).mono (k := 2) (by decide)
  have G_NoProgram := (ok_NoProgram (P := P) (w := w) (base := base) T).mono (k := 2) (by decide)
  have G_Twice := (ok_Twice (P := P) (w := w) (base := base) T).mono (k := 2) (by decide)
  have G_NoUnknown := (ok_NoUnknown (P := P) (w := w) (base := base) T).mono (k := 2) (by decide)
  have G_NoRelation := (ok_NoRelation (P := P) (w := w) (base := base) T).mono (k := 2) (by decide)
  have G_l_raised_too := ok_l_raised_too (P := P) (w := w) (base := base) T
  refine T.F_l_raised.okX sc_l_raised (fun vs H Q E h => ?_) (fun cdv A outer s H vs Q E hr h => ?_)
  · obtain ⟨i, one, other, rfl, _⟩ := h
    rfl
  · obtain ⟨i, one, other, rfl, i0, i1, q, qe⟩ := h
    have hr_l_raised_too := hr
    refine ⟨_, (pss_cons (ps_if (pt_cmpR op_eq (pv 0) pe_int (nomark _)) (pss_one (ps_raise (by rfl) (takes_of rfl rfl rfl rfl) (pmk_oex T.x_NoTerm T.ii_NoTerm T.ti_NoTerm G_NoTerm hr T.bi_NoTerm .nil pass0 (by rfl) T.g_NoTerm (pa_cons (pv 1) pa_nil)))) pss_nil)
      (pss_cons (ps_if (pt_cmpR op_eq (pv 0) pe_int (nomark _)) (pss_one (ps_raise (by rfl) (takes_of rfl rfl rfl rfl) (pmk_oex T.x_NoPlace T.ii_NoPlace T.ti_NoPlace G_NoPlace hr T.bi_NoPlace .nil pass0 (by rfl) T.g_NoPlace (pa_cons (pv 1) pa_nil)))) pss_nil)
      (pss_cons (ps_if (pt_cmpR op_eq (pv 0) pe_int (nomark _)) (pss_one (ps_raise (by rfl) (takes_of rfl rfl rfl rfl) (pmk_oex T.x_NoNumber T.ii_NoNumber T.ti_NoNumber G_NoNumber hr T.bi_NoNumber .nil pass0 (by rfl) T.g_NoNumber (pa_cons (pv 1) pa_nil)))) pss_nil)
      (pss_cons (ps_if (pt_cmpR op_eq (pv 0) pe_int (nomark _)) (pss_one (ps_raise (by rfl) (takes_of rfl rfl rfl rfl) (pmk_oex T.x_NoText T.ii_NoText T.ti_NoText G_NoText hr T.bi_NoText .nil pass0 (by rfl) T.g_NoText (pa_cons (pv 1) pa_nil)))) pss_nil)
      (pss_cons (ps_if (pt_cmpR op_eq (pv 0) pe_int (nomark _)) (pss_one (ps_raise (by rfl) (takes_of rfl rfl rfl rfl) (pmk_oex T.x_NoRow T.ii_NoRow T.ti_NoRow G_NoRow hr T.bi_NoRow .nil pass0 (by rfl) T.g_NoRow (pa_cons (pv 1) pa_nil)))) pss_nil)
      (pss_cons (ps_if (pt_cmpR op_eq (pv 0) pe_int (nomark _)) (pss_one (ps_raise (by rfl) (takes_of rfl rfl rfl rfl) (pmk_oex T.x_NoProgram T.ii_NoProgram T.ti_NoProgram G_NoProgram hr T.bi_NoProgram .nil pass0 (by rfl) T.g_NoProgram (pa_cons (pv 1) (pa_cons (pv 2) pa_nil))))) pss_nil)
      (pss_cons (ps_if (pt_cmpR op_eq (pv 0) pe_int (nomark _)) (pss_one (ps_raise (by rfl) (takes_of rfl rfl rfl rfl) (pmk_oex T.x_Twice T.ii_Twice T.ti_Twice G_Twice hr T.bi_Twice .nil pass0 (by rfl) T.g_Twice (pa_cons (pv 1) pa_nil)))) pss_nil)
      (pss_cons (ps_if (pt_cmpR op_eq (pv 0) pe_int (nomark _)) (pss_one (ps_raise (by rfl) (takes_of rfl rfl rfl rfl) (pmk_oex T.x_NoUnknown T.ii_NoUnknown T.ti_NoUnknown G_NoUnknown hr T.bi_NoUnknown .nil pass0 (by rfl) T.g_NoUnknown (pa_cons (pv 1) pa_nil)))) pss_nil)
      (pss_cons (ps_if (pt_cmpR op_eq (pv 0) pe_int (nomark _)) (pss_one (ps_raise (by rfl) (takes_of rfl rfl rfl rfl) (pmk_oex T.x_NoRelation T.ii_NoRelation T.ti_NoRelation G_NoRelation hr T.bi_NoRelation .nil pass0 (by rfl) T.g_NoRelation (pa_cons (pv 1) pa_nil)))) pss_nil)
      (pss_one (ps_expr (pe_callS G_l_raised_too hr_l_raised_too (by rfl) T.g_l_raised_too T.F_l_raised_too.kp T.b_l_raised_too (fun σ => passAt (takes_of rfl rfl rfl rfl) σ) (pa_cons (pv 0) (pa_cons (pv 1) (pa_cons (pv 2) pa_nil))))))))))))))), ?_⟩
    refine ⟨_, rfl, rfl, _, rfl, ite2 (fun c => ?_) (fun c0 => ?_)⟩
    · exact ⟨_, rfl, raise1 fun d hd => q 0 _ (int_of c) (by decide) rfl d hd⟩
    refine ⟨_, rfl, rfl, _, rfl, ite2 (fun c => ?_) (fun c1 => ?_)⟩
    · exact ⟨_, rfl, raise1 fun d hd => q 1 _ (int_of c) (by decide) rfl d hd⟩
    refine ⟨_, rfl, rfl, _, rfl, ite2 (fun c => ?_) (fun c2 => ?_)⟩
    · exact ⟨_, rfl, raise1 fun d hd => q 2 _ (int_of c) (by decide) rfl d hd⟩
    refine ⟨_, rfl, rfl, _, rfl, ite2 (fun c => ?_) (fun c3 => ?_)⟩
    · exact ⟨_, rfl, raise1 fun d hd => q 3 _ (int_of c) (by decide) rfl d hd⟩
    refine ⟨_, rfl, rfl, _, rfl, ite2 (fun c => ?_) (fun c4 => ?_)⟩
    · exact ⟨_, rfl, raise1 fun d hd => q 4 _ (int_of c) (by decide) rfl d hd⟩
    refine ⟨_, rfl, rfl, _, rfl, ite2 (fun c => ?_) (fun c5 => ?_)⟩
    · exact ⟨_, rfl, _, rfl, raise2 fun d hd => q 5 _ (int_of c) (by decide) rfl d hd⟩
    refine ⟨_, rfl, rfl, _, rfl, ite2 (fun c => ?_) (fun c6 => ?_)⟩
    · exact ⟨_, rfl, raise1 fun d hd => q 6 _ (int_of c) (by decide) rfl d hd⟩
    refine ⟨_, rfl, rfl, _, rfl, ite2 (fun c => ?_) (fun c7 => ?_)⟩
    · exact ⟨_, rfl, raise1 fun d hd => q 7 _ (int_of c) (by decide) rfl d hd⟩
    refine ⟨_, rfl, rfl, _, rfl, ite2 (fun c => ?_) (fun c8 => ?_)⟩
    · exact ⟨_, rfl, raise1 fun d hd => q 8 _ (int_of c) (by decide) rfl d hd⟩
    have e0 := int_no c0
    have e1 := int_no c1
    have e2 := int_no c2
    have e3 := int_no c3
    have e4 := int_no c4
    have e5 := int_no c5
    have e6 := int_no c6
    have e7 := int_no c7
    have e8 := int_no c8
    exact ⟨_, rfl, _, rfl, _, rfl, i, one, other, rfl, by omega, i1, q, qe⟩
end


/-! ### two lists that hold the very same things -/
def plainV : V → Bool
  | .byt _ => false
  | .flt _ => false
  | _ => true
def rEqSame (K : PySem.W.Frag) : R2 := fun x y H Q => ∃ a b xs, x = .ref a ∧ y = .ref b ∧ SqL K H a xs ∧ SqL K H b xs ∧ (∀ x ∈ xs, plainV x = true) ∧ Q (.bl true) H
theorem eq_same {A : Around} {s : Shared} {v : V} {u1 u2 : Value} (hv : plainV v = true) (r1 : RelV v u1) (r2 : RelV v u2) : SeqAt.EqAt A s u1 u2 true := by
  cases v with
  | int i =>
    obtain ⟨t, rfl⟩ := r1
    obtain ⟨t2, rfl⟩ := r2
    have e := SeqAt.EqAt.int_int (A := A) (s := s) i t i t2
    rw [show (i == i) = true from beq_self_eq_true i] at e
    exact e
  | str x =>
    obtain ⟨t, rfl⟩ := r1
    obtain ⟨t2, rfl⟩ := r2
    have e := (SeqRoads2.EqGives.str x x t t2).at A s
    rw [show (x.cps.toList == x.cps.toList) = true from beq_self_eq_true _] at e
    exact e
  | byt b => cases (show false = true from hv)
  | flt b => cases (show false = true from hv)
  | _ =>
    cases r1
    cases r2
    exact SeqAt.EqAt.same _
theorem op_eqSame {X : Cx} (hu : X.A.units + 64 < cLine) : OpR X (compareOp .Eq) (rEqSame X.K) := by
  intro pins s σ H x y v u Q I rx ry h
  obtain ⟨a, b, xs, rfl, rfl, hx, hy, hp, q⟩ := h
  cases rx
  cases ry
  obtain ⟨its, r, pl, _⟩ := I.list hx
  obtain ⟨its2, r2, pl2, _⟩ := I.list hy
  have hu' : X.A.units < cLine := Nat.lt_of_le_of_lt (Nat.le_add_right _ _) hu
  have el : its.length = its2.length := r.length.symm.trans r2.length
  have at1 : ∀ {vs : List V} {us ws : List Value}, (∀ x ∈ vs, plainV x = true) → Vals vs us → Vals vs ws → ∀ j (h1 : j < us.length) (h2 : j < ws.length), SeqAt.EqAt X.A.in1 s us[j] ws[j] true := by
    intro vs us ws hp p1
    induction p1 generalizing ws with
    | nil =>
      intro _ j h1
      exact absurd h1 (Nat.not_lt_zero _)
    | cons ra rr ih =>
      intro p2 j h1 h2
      cases p2 with
      | cons rb rs =>
        cases j with
        | zero => exact eq_same (hp _ List.mem_cons_self) ra rb
        | succ j => exact ih (fun x hx => hp x (List.mem_cons_of_mem _ hx)) rs j (Nat.lt_of_succ_lt_succ h1) (Nat.lt_of_succ_lt_succ h2)
  refine SeqAt.eq_listAt (e := fun _ => true) pl.isList pl2.isList (by simpa using el) hu' (fun j h1 h2 => ?_) ⟨.bl _, H, I, rfl, ?_⟩
  · have := at1 hp r r2 j (by simpa using h1) (by simpa using h2)
    simpa using this
  · rw [List.all_eq_true.mpr fun _ _ => rfl]
    exact q
/-! ### what stands apart -/
theorem kitAny_at {K : PySem.W.Frag} {cs : List Addr} {S C : Addr} {k : Nat} (h : KmT K cs S) (hk : cs[k]? = some C) : ∀ {us : List Value} {js : List Nat}, Paired (fun u j => ∃ b, u = .ref b ∧ cs[j]? = some b) us js → PySem.W.kitAny K (.ref C) us = some (js.any fun j => decide (k = j))
  | _, _, .nil => rfl
  | _, _, .cons (b := j) ⟨b, e1, e2⟩ r => by
    subst e1
    unfold PySem.W.kitAny
    rw [h.1 k j C b hk e2, List.any_cons]
    cases decide (k = j) with
    | true => rfl
    | false => exact kitAny_at h hk r
def outOf (one other : V) : Nat → List V
  | 5 => [one, other]
  | 9 => [one, other]
  | 17 => []
  | _ => [one]
def Kept (H : Hp) (a C : Addr) (k : Nat) (one other : V) : Prop := ∃ d, H a = some (exk a (.ref C) d) ∧ (∀ dd, d = some dd → ∃ fs, H dd = some (.xd fs)) ∧ (k < 17 → ∃ dd, d = some dd ∧ H dd = some (.xd (fsOf one other k)))
theorem Kept.same {H H' : Hp} {a C : Addr} {k : Nat} {one other : V} (h : Kept H a C k one other) (s : Same H H') : Kept H' a C k one other := by
  obtain ⟨d, h1, h2, h3⟩ := h
  exact ⟨d, s _ _ h1, fun dd e => let ⟨fs, q⟩ := h2 dd e; ⟨fs, s _ _ q⟩, fun e => let ⟨dd, q1, q2⟩ := h3 e; ⟨dd, q1, s _ _ q2⟩⟩
section
variable {P : Program} {w : World} {K : PySem.W.Frag} {mg : Str → Option Value} {base : Heap}
theorem y_at (T : Env K mg) : ∀ (k : Nat) (C : Addr), (csOf T)[k]? = some C → ExcC K C
  | 0, _, e => by
    cases e
    exact T.y_NoTerm
  | 1, _, e => by
    cases e
    exact T.y_NoPlace
  | 2, _, e => by
    cases e
    exact T.y_NoNumber
  | 3, _, e => by
    cases e
    exact T.y_NoText
  | 4, _, e => by
    cases e
    exact T.y_NoRow
  | 5, _, e => by
    cases e
    exact T.y_NoProgram
  | 6, _, e => by
    cases e
    exact T.y_Twice
  | 7, _, e => by
    cases e
    exact T.y_NoUnknown
  | 8, _, e => by
    cases e
    exact T.y_NoRelation
  | 9, _, e => by
    cases e
    exact T.y_NoMany
  | 10, _, e => by
    cases e
    exact T.y_NoQuestion
  | 11, _, e => by
    cases e
    exact T.y_NoForm
  | 12, _, e => by
    cases e
    exact T.y_NoPaper
  | 13, _, e => by
    cases e
    exact T.y_TooGreat
  | 14, _, e => by
    cases e
    exact T.y_TooMany
  | 15, _, e => by
    cases e
    exact T.y_NoOrder
  | 16, _, e => by
    cases e
    exact T.y_NoLine
  | 17, _, e => by
    cases e
    exact T.y_Ended
  | _ + 18, _, e => by cases e
theorem kv_at (T : Env K mg) : ∀ (k : Nat) (C : Addr), (csOf T)[k]? = some C → PySem.W.kitOne K (.ref C) (.type "ValueError") = some true
  | 0, _, e => by
    cases e
    exact T.kv_NoTerm
  | 1, _, e => by
    cases e
    exact T.kv_NoPlace
  | 2, _, e => by
    cases e
    exact T.kv_NoNumber
  | 3, _, e => by
    cases e
    exact T.kv_NoText
  | 4, _, e => by
    cases e
    exact T.kv_NoRow
  | 5, _, e => by
    cases e
    exact T.kv_NoProgram
  | 6, _, e => by
    cases e
    exact T.kv_Twice
  | 7, _, e => by
    cases e
    exact T.kv_NoUnknown
  | 8, _, e => by
    cases e
    exact T.kv_NoRelation
  | 9, _, e => by
    cases e
    exact T.kv_NoMany
  | 10, _, e => by
    cases e
    exact T.kv_NoQuestion
  | 11, _, e => by
    cases e
    exact T.kv_NoForm
  | 12, _, e => by
    cases e
    exact T.kv_NoPaper
  | 13, _, e => by
    cases e
    exact T.kv_TooGreat
  | 14, _, e => by
    cases e
    exact T.kv_TooMany
  | 15, _, e => by
    cases e
    exact T.kv_NoOrder
  | 16, _, e => by
    cases e
    exact T.kv_NoLine
  | 17, _, e => by
    cases e
    exact T.kv_Ended
  | _ + 18, _, e => by cases e
def sp_l_classes (cs : List Addr) : Sp := fun vs H Q _ => ∃ (a C : Addr) (k : Nat) (one other : V), vs = [.ref a] ∧ cs[k]? = some C ∧ Kept H a C k one other ∧ ∀ l H', Same H H' → H' l = some (.lst [.bl (decide (k = 0)), .bl (decide (k = 1)), .bl (decide (k = 2)), .bl (decide (k = 3)), .bl (decide (k = 4)), .bl (decide (k = 5)), .bl (decide (k = 6)), .bl (decide (k = 7)), .bl (decide (k = 8)), .bl (decide (k = 9)), .bl (decide (k = 10)), .bl (decide (k = 11)), .bl (decide (k = 12)), .bl (decide (k = 13)), .bl (decide (k = 14)), .bl (decide (k = 15)), .bl (decide (k = 16)), .bl (decide (k = 17))]) → Q (.ref l) H'
theorem ok_l_classes (T : Env K mg) : FnOk P w K mg base CX0 1 T.a_l_classes T.d_l_classes ["_law_e"] (sp_l_classes (csOf T)) := by
  refine T.F_l_classes.ok sc_l_classes (fun vs H Q E h => ?_) (fun cdv A outer s H vs Q E hr h => ?_)
  · obtain ⟨a, C, k, one, other, rfl, _⟩ := h
    rfl
  · obtain ⟨a, C, k, one, other, rfl, hk, hX, q⟩ := h
    refine ⟨_, (pss_cons (ps_set (i := 1) sc_l_classes.nd rfl (Or.inl rfl) (pe_lst (pa_cons (pe_callB call_isK (by rfl) T.m_isinstance PyProof.Rows.boot_isinstance (pa_cons (pv 0) (pa_cons (pe_glob (v := .ref T.a_NoTerm) (by rfl) T.g_NoTerm rfl) pa_nil))) (pa_cons (pe_callB call_isK (by rfl) T.m_isinstance PyProof.Rows.boot_isinstance (pa_cons (pv 0) (pa_cons (pe_glob (v := .ref T.a_NoPlace) (by rfl) T.g_NoPlace rfl) pa_nil))) (pa_cons (pe_callB call_isK (by rfl) T.m_isinstance PyProof.Rows.boot_isinstance (pa_cons (pv 0) (pa_cons (pe_glob (v := .ref T.a_NoNumber) (by rfl) T.g_NoNumber rfl) pa_nil))) (pa_cons (pe_callB call_isK (by rfl) T.m_isinstance PyProof.Rows.boot_isinstance (pa_cons (pv 0) (pa_cons (pe_glob (v := .ref T.a_NoText) (by rfl) T.g_NoText rfl) pa_nil))) pa_nil))))))
      (pss_cons (ps_set (i := 1) sc_l_classes.nd rfl (Or.inl rfl) (pe_op op_cat (pv 1) (pe_lst (pa_cons (pe_callB call_isK (by rfl) T.m_isinstance PyProof.Rows.boot_isinstance (pa_cons (pv 0) (pa_cons (pe_glob (v := .ref T.a_NoRow) (by rfl) T.g_NoRow rfl) pa_nil))) (pa_cons (pe_callB call_isK (by rfl) T.m_isinstance PyProof.Rows.boot_isinstance (pa_cons (pv 0) (pa_cons (pe_glob (v := .ref T.a_NoProgram) (by rfl) T.g_NoProgram rfl) pa_nil))) (pa_cons (pe_callB call_isK (by rfl) T.m_isinstance PyProof.Rows.boot_isinstance (pa_cons (pv 0) (pa_cons (pe_glob (v := .ref T.a_Twice) (by rfl) T.g_Twice rfl) pa_nil))) (pa_cons (pe_callB call_isK (by rfl) T.m_isinstance PyProof.Rows.boot_isinstance (pa_cons (pv 0) (pa_cons (pe_glob (v := .ref T.a_NoUnknown) (by rfl) T.g_NoUnknown rfl) pa_nil))) pa_nil)))))))
      (pss_cons (ps_set (i := 1) sc_l_classes.nd rfl (Or.inl rfl) (pe_op op_cat (pv 1) (pe_lst (pa_cons (pe_callB call_isK (by rfl) T.m_isinstance PyProof.Rows.boot_isinstance (pa_cons (pv 0) (pa_cons (pe_glob (v := .ref T.a_NoRelation) (by rfl) T.g_NoRelation rfl) pa_nil))) (pa_cons (pe_callB call_isK (by rfl) T.m_isinstance PyProof.Rows.boot_isinstance (pa_cons (pv 0) (pa_cons (pe_glob (v := .ref T.a_NoMany) (by rfl) T.g_NoMany rfl) pa_nil))) (pa_cons (pe_callB call_isK (by rfl) T.m_isinstance PyProof.Rows.boot_isinstance (pa_cons (pv 0) (pa_cons (pe_glob (v := .ref T.a_NoQuestion) (by rfl) T.g_NoQuestion rfl) pa_nil))) pa_nil))))))
      (pss_cons (ps_set (i := 1) sc_l_classes.nd rfl (Or.inl rfl) (pe_op op_cat (pv 1) (pe_lst (pa_cons (pe_callB call_isK (by rfl) T.m_isinstance PyProof.Rows.boot_isinstance (pa_cons (pv 0) (pa_cons (pe_glob (v := .ref T.a_NoForm) (by rfl) T.g_NoForm rfl) pa_nil))) (pa_cons (pe_callB call_isK (by rfl) T.m_isinstance PyProof.Rows.boot_isinstance (pa_cons (pv 0) (pa_cons (pe_glob (v := .ref T.a_NoPaper) (by rfl) T.g_NoPaper rfl) pa_nil))) (pa_cons (pe_callB call_isK (by rfl) T.m_isinstance PyProof.Rows.boot_isinstance (pa_cons (pv 0) (pa_cons (pe_glob (v := .ref T.a_TooGreat) (by rfl) T.g_TooGreat rfl) pa_nil))) (pa_cons (pe_callB call_isK (by rfl) T.m_isinstance PyProof.Rows.boot_isinstance (pa_cons (pv 0) (pa_cons (pe_glob (v := .ref T.a_TooMany) (by rfl) T.g_TooMany rfl) pa_nil))) pa_nil)))))))
      (pss_one (ps_ret (pe_op op_cat (pv 1) (pe_lst (pa_cons (pe_callB call_isK (by rfl) T.m_isinstance PyProof.Rows.boot_isinstance (pa_cons (pv 0) (pa_cons (pe_glob (v := .ref T.a_NoOrder) (by rfl) T.g_NoOrder rfl) pa_nil))) (pa_cons (pe_callB call_isK (by rfl) T.m_isinstance PyProof.Rows.boot_isinstance (pa_cons (pv 0) (pa_cons (pe_glob (v := .ref T.a_NoLine) (by rfl) T.g_NoLine rfl) pa_nil))) (pa_cons (pe_callB call_isK (by rfl) T.m_isinstance PyProof.Rows.boot_isinstance (pa_cons (pv 0) (pa_cons (pe_glob (v := .ref T.a_Ended) (by rfl) T.g_Ended rfl) pa_nil))) pa_nil))))))))))), ?_⟩
    obtain ⟨e_H, x_H, z_H, _⟩ := id hX
    refine ⟨_, rfl, a, C, e_H, _, x_H, z_H, y_at T k C hk, .inl ⟨_, _, rfl, .own _, T.km.1 k 0 C _ hk rfl⟩, ?_⟩
    refine ⟨_, rfl, a, C, e_H, _, x_H, z_H, y_at T k C hk, .inl ⟨_, _, rfl, .own _, T.km.1 k 1 C _ hk rfl⟩, ?_⟩
    refine ⟨_, rfl, a, C, e_H, _, x_H, z_H, y_at T k C hk, .inl ⟨_, _, rfl, .own _, T.km.1 k 2 C _ hk rfl⟩, ?_⟩
    refine ⟨_, rfl, a, C, e_H, _, x_H, z_H, y_at T k C hk, .inl ⟨_, _, rfl, .own _, T.km.1 k 3 C _ hk rfl⟩, ?_⟩
    refine ⟨(by show 4 ≤ sizeLine; decide), fun l1 hl1 => ?_⟩
    have s_H1 : Same H (upd H l1 (.lst [.bl (decide (k = 0)), .bl (decide (k = 1)), .bl (decide (k = 2)), .bl (decide (k = 3))])) := same_upd hl1
    have g_H1 : (upd H l1 (.lst [.bl (decide (k = 0)), .bl (decide (k = 1)), .bl (decide (k = 2)), .bl (decide (k = 3))])) l1 = some (.lst [.bl (decide (k = 0)), .bl (decide (k = 1)), .bl (decide (k = 2)), .bl (decide (k = 3))]) := upd_same
    generalize upd H l1 (.lst [.bl (decide (k = 0)), .bl (decide (k = 1)), .bl (decide (k = 2)), .bl (decide (k = 3))]) = H1 at s_H1 g_H1 ⊢
    have k_H1 := hX.same s_H1
    have S1 := s_H1
    obtain ⟨e_H1, x_H1, z_H1, _⟩ := id k_H1
    refine ⟨.ref l1, rfl, ?_⟩
    refine ⟨_, rfl, a, C, e_H1, _, x_H1, z_H1, y_at T k C hk, .inl ⟨_, _, rfl, .own _, T.km.1 k 4 C _ hk rfl⟩, ?_⟩
    refine ⟨_, rfl, a, C, e_H1, _, x_H1, z_H1, y_at T k C hk, .inl ⟨_, _, rfl, .own _, T.km.1 k 5 C _ hk rfl⟩, ?_⟩
    refine ⟨_, rfl, a, C, e_H1, _, x_H1, z_H1, y_at T k C hk, .inl ⟨_, _, rfl, .own _, T.km.1 k 6 C _ hk rfl⟩, ?_⟩
    refine ⟨_, rfl, a, C, e_H1, _, x_H1, z_H1, y_at T k C hk, .inl ⟨_, _, rfl, .own _, T.km.1 k 7 C _ hk rfl⟩, ?_⟩
    refine ⟨(by show 4 ≤ sizeLine; decide), fun l2 hl2 => ?_⟩
    have s_H2 : Same H1 (upd H1 l2 (.lst [.bl (decide (k = 4)), .bl (decide (k = 5)), .bl (decide (k = 6)), .bl (decide (k = 7))])) := same_upd hl2
    have g_H2 : (upd H1 l2 (.lst [.bl (decide (k = 4)), .bl (decide (k = 5)), .bl (decide (k = 6)), .bl (decide (k = 7))])) l2 = some (.lst [.bl (decide (k = 4)), .bl (decide (k = 5)), .bl (decide (k = 6)), .bl (decide (k = 7))]) := upd_same
    generalize upd H1 l2 (.lst [.bl (decide (k = 4)), .bl (decide (k = 5)), .bl (decide (k = 6)), .bl (decide (k = 7))]) = H2 at s_H2 g_H2 ⊢
    have k_H2 := k_H1.same s_H2
    have S2 := S1.trans s_H2
    refine ⟨l1, l2, _, _, rfl, rfl, s_H2 _ _ g_H1, g_H2, (by show 8 ≤ sizeLine; decide), fun l3 hl3 => ?_⟩
    have s_H3 : Same H2 (upd H2 l3 (.lst ([.bl (decide (k = 0)), .bl (decide (k = 1)), .bl (decide (k = 2)), .bl (decide (k = 3))] ++ [.bl (decide (k = 4)), .bl (decide (k = 5)), .bl (decide (k = 6)), .bl (decide (k = 7))]))) := same_upd hl3
    have g_H3 : (upd H2 l3 (.lst ([.bl (decide (k = 0)), .bl (decide (k = 1)), .bl (decide (k = 2)), .bl (decide (k = 3))] ++ [.bl (decide (k = 4)), .bl (decide (k = 5)), .bl (decide (k = 6)), .bl (decide (k = 7))]))) l3 = some (.lst ([.bl (decide (k = 0)), .bl (decide (k = 1)), .bl (decide (k = 2)), .bl (decide (k = 3))] ++ [.bl (decide (k = 4)), .bl (decide (k = 5)), .bl (decide (k = 6)), .bl (decide (k = 7))])) := upd_same
    generalize upd H2 l3 (.lst ([.bl (decide (k = 0)), .bl (decide (k = 1)), .bl (decide (k = 2)), .bl (decide (k = 3))] ++ [.bl (decide (k = 4)), .bl (decide (k = 5)), .bl (decide (k = 6)), .bl (decide (k = 7))])) = H3 at s_H3 g_H3 ⊢
    have k_H3 := k_H2.same s_H3
    have S3 := S2.trans s_H3
    obtain ⟨e_H3, x_H3, z_H3, _⟩ := id k_H3
    refine ⟨.ref l3, rfl, ?_⟩
    refine ⟨_, rfl, a, C, e_H3, _, x_H3, z_H3, y_at T k C hk, .inl ⟨_, _, rfl, .own _, T.km.1 k 8 C _ hk rfl⟩, ?_⟩
    refine ⟨_, rfl, a, C, e_H3, _, x_H3, z_H3, y_at T k C hk, .inl ⟨_, _, rfl, .own _, T.km.1 k 9 C _ hk rfl⟩, ?_⟩
    refine ⟨_, rfl, a, C, e_H3, _, x_H3, z_H3, y_at T k C hk, .inl ⟨_, _, rfl, .own _, T.km.1 k 10 C _ hk rfl⟩, ?_⟩
    refine ⟨(by show 3 ≤ sizeLine; decide), fun l4 hl4 => ?_⟩
    have s_H4 : Same H3 (upd H3 l4 (.lst [.bl (decide (k = 8)), .bl (decide (k = 9)), .bl (decide (k = 10))])) := same_upd hl4
    have g_H4 : (upd H3 l4 (.lst [.bl (decide (k = 8)), .bl (decide (k = 9)), .bl (decide (k = 10))])) l4 = some (.lst [.bl (decide (k = 8)), .bl (decide (k = 9)), .bl (decide (k = 10))]) := upd_same
    generalize upd H3 l4 (.lst [.bl (decide (k = 8)), .bl (decide (k = 9)), .bl (decide (k = 10))]) = H4 at s_H4 g_H4 ⊢
    have k_H4 := k_H3.same s_H4
    have S4 := S3.trans s_H4
    refine ⟨l3, l4, _, _, rfl, rfl, s_H4 _ _ g_H3, g_H4, (by show 11 ≤ sizeLine; decide), fun l5 hl5 => ?_⟩
    have s_H5 : Same H4 (upd H4 l5 (.lst (([.bl (decide (k = 0)), .bl (decide (k = 1)), .bl (decide (k = 2)), .bl (decide (k = 3))] ++ [.bl (decide (k = 4)), .bl (decide (k = 5)), .bl (decide (k = 6)), .bl (decide (k = 7))]) ++ [.bl (decide (k = 8)), .bl (decide (k = 9)), .bl (decide (k = 10))]))) := same_upd hl5
    have g_H5 : (upd H4 l5 (.lst (([.bl (decide (k = 0)), .bl (decide (k = 1)), .bl (decide (k = 2)), .bl (decide (k = 3))] ++ [.bl (decide (k = 4)), .bl (decide (k = 5)), .bl (decide (k = 6)), .bl (decide (k = 7))]) ++ [.bl (decide (k = 8)), .bl (decide (k = 9)), .bl (decide (k = 10))]))) l5 = some (.lst (([.bl (decide (k = 0)), .bl (decide (k = 1)), .bl (decide (k = 2)), .bl (decide (k = 3))] ++ [.bl (decide (k = 4)), .bl (decide (k = 5)), .bl (decide (k = 6)), .bl (decide (k = 7))]) ++ [.bl (decide (k = 8)), .bl (decide (k = 9)), .bl (decide (k = 10))])) := upd_same
    generalize upd H4 l5 (.lst (([.bl (decide (k = 0)), .bl (decide (k = 1)), .bl (decide (k = 2)), .bl (decide (k = 3))] ++ [.bl (decide (k = 4)), .bl (decide (k = 5)), .bl (decide (k = 6)), .bl (decide (k = 7))]) ++ [.bl (decide (k = 8)), .bl (decide (k = 9)), .bl (decide (k = 10))])) = H5 at s_H5 g_H5 ⊢
    have k_H5 := k_H4.same s_H5
    have S5 := S4.trans s_H5
    obtain ⟨e_H5, x_H5, z_H5, _⟩ := id k_H5
    refine ⟨.ref l5, rfl, ?_⟩
    refine ⟨_, rfl, a, C, e_H5, _, x_H5, z_H5, y_at T k C hk, .inl ⟨_, _, rfl, .own _, T.km.1 k 11 C _ hk rfl⟩, ?_⟩
    refine ⟨_, rfl, a, C, e_H5, _, x_H5, z_H5, y_at T k C hk, .inl ⟨_, _, rfl, .own _, T.km.1 k 12 C _ hk rfl⟩, ?_⟩
    refine ⟨_, rfl, a, C, e_H5, _, x_H5, z_H5, y_at T k C hk, .inl ⟨_, _, rfl, .own _, T.km.1 k 13 C _ hk rfl⟩, ?_⟩
    refine ⟨_, rfl, a, C, e_H5, _, x_H5, z_H5, y_at T k C hk, .inl ⟨_, _, rfl, .own _, T.km.1 k 14 C _ hk rfl⟩, ?_⟩
    refine ⟨(by show 4 ≤ sizeLine; decide), fun l6 hl6 => ?_⟩
    have s_H6 : Same H5 (upd H5 l6 (.lst [.bl (decide (k = 11)), .bl (decide (k = 12)), .bl (decide (k = 13)), .bl (decide (k = 14))])) := same_upd hl6
    have g_H6 : (upd H5 l6 (.lst [.bl (decide (k = 11)), .bl (decide (k = 12)), .bl (decide (k = 13)), .bl (decide (k = 14))])) l6 = some (.lst [.bl (decide (k = 11)), .bl (decide (k = 12)), .bl (decide (k = 13)), .bl (decide (k = 14))]) := upd_same
    generalize upd H5 l6 (.lst [.bl (decide (k = 11)), .bl (decide (k = 12)), .bl (decide (k = 13)), .bl (decide (k = 14))]) = H6 at s_H6 g_H6 ⊢
    have k_H6 := k_H5.same s_H6
    have S6 := S5.trans s_H6
    refine ⟨l5, l6, _, _, rfl, rfl, s_H6 _ _ g_H5, g_H6, (by show 15 ≤ sizeLine; decide), fun l7 hl7 => ?_⟩
    have s_H7 : Same H6 (upd H6 l7 (.lst ((([.bl (decide (k = 0)), .bl (decide (k = 1)), .bl (decide (k = 2)), .bl (decide (k = 3))] ++ [.bl (decide (k = 4)), .bl (decide (k = 5)), .bl (decide (k = 6)), .bl (decide (k = 7))]) ++ [.bl (decide (k = 8)), .bl (decide (k = 9)), .bl (decide (k = 10))]) ++ [.bl (decide (k = 11)), .bl (decide (k = 12)), .bl (decide (k = 13)), .bl (decide (k = 14))]))) := same_upd hl7
    have g_H7 : (upd H6 l7 (.lst ((([.bl (decide (k = 0)), .bl (decide (k = 1)), .bl (decide (k = 2)), .bl (decide (k = 3))] ++ [.bl (decide (k = 4)), .bl (decide (k = 5)), .bl (decide (k = 6)), .bl (decide (k = 7))]) ++ [.bl (decide (k = 8)), .bl (decide (k = 9)), .bl (decide (k = 10))]) ++ [.bl (decide (k = 11)), .bl (decide (k = 12)), .bl (decide (k = 13)), .bl (decide (k = 14))]))) l7 = some (.lst ((([.bl (decide (k = 0)), .bl (decide (k = 1)), .bl (decide (k = 2)), .bl (decide (k = 3))] ++ [.bl (decide (k = 4)), .bl (decide (k = 5)), .bl (decide (k = 6)), .bl (decide (k = 7))]) ++ [.bl (decide (k = 8)), .bl (decide (k = 9)), .bl (decide (k = 10))]) ++ [.bl (decide (k = 11)), .bl (decide (k = 12)), .bl (decide (k = 13)), .bl (decide (k = 14))])) := upd_same
    generalize upd H6 l7 (.lst ((([.bl (decide (k = 0)), .bl (decide (k = 1)), .bl (decide (k = 2)), .bl (decide (k = 3))] ++ [.bl (decide (k = 4)), .bl (decide (k = 5)), .bl (decide (k = 6)), .bl (decide (k = 7))]) ++ [.bl (decide (k = 8)), .bl (decide (k = 9)), .bl (decide (k = 10))]) ++ [.bl (decide (k = 11)), .bl (decide (k = 12)), .bl (decide (k = 13)), .bl (decide (k = 14))])) = H7 at s_H7 g_H7 ⊢
    have k_H7 := k_H6.same s_H7
    have S7 := S6.trans s_H7
    obtain ⟨e_H7, x_H7, z_H7, _⟩ := id k_H7
    refine ⟨.ref l7, rfl, ?_⟩
    refine ⟨_, rfl, a, C, e_H7, _, x_H7, z_H7, y_at T k C hk, .inl ⟨_, _, rfl, .own _, T.km.1 k 15 C _ hk rfl⟩, ?_⟩
    refine ⟨_, rfl, a, C, e_H7, _, x_H7, z_H7, y_at T k C hk, .inl ⟨_, _, rfl, .own _, T.km.1 k 16 C _ hk rfl⟩, ?_⟩
    refine ⟨_, rfl, a, C, e_H7, _, x_H7, z_H7, y_at T k C hk, .inl ⟨_, _, rfl, .own _, T.km.1 k 17 C _ hk rfl⟩, ?_⟩
    refine ⟨(by show 3 ≤ sizeLine; decide), fun l8 hl8 => ?_⟩
    have s_H8 : Same H7 (upd H7 l8 (.lst [.bl (decide (k = 15)), .bl (decide (k = 16)), .bl (decide (k = 17))])) := same_upd hl8
    have g_H8 : (upd H7 l8 (.lst [.bl (decide (k = 15)), .bl (decide (k = 16)), .bl (decide (k = 17))])) l8 = some (.lst [.bl (decide (k = 15)), .bl (decide (k = 16)), .bl (decide (k = 17))]) := upd_same
    generalize upd H7 l8 (.lst [.bl (decide (k = 15)), .bl (decide (k = 16)), .bl (decide (k = 17))]) = H8 at s_H8 g_H8 ⊢
    have k_H8 := k_H7.same s_H8
    have S8 := S7.trans s_H8
    refine ⟨l7, l8, _, _, rfl, rfl, s_H8 _ _ g_H7, g_H8, (by show 18 ≤ sizeLine; decide), fun l9 hl9 => ?_⟩
    have s_H9 : Same H8 (upd H8 l9 (.lst (((([.bl (decide (k = 0)), .bl (decide (k = 1)), .bl (decide (k = 2)), .bl (decide (k = 3))] ++ [.bl (decide (k = 4)), .bl (decide (k = 5)), .bl (decide (k = 6)), .bl (decide (k = 7))]) ++ [.bl (decide (k = 8)), .bl (decide (k = 9)), .bl (decide (k = 10))]) ++ [.bl (decide (k = 11)), .bl (decide (k = 12)), .bl (decide (k = 13)), .bl (decide (k = 14))]) ++ [.bl (decide (k = 15)), .bl (decide (k = 16)), .bl (decide (k = 17))]))) := same_upd hl9
    have g_H9 : (upd H8 l9 (.lst (((([.bl (decide (k = 0)), .bl (decide (k = 1)), .bl (decide (k = 2)), .bl (decide (k = 3))] ++ [.bl (decide (k = 4)), .bl (decide (k = 5)), .bl (decide (k = 6)), .bl (decide (k = 7))]) ++ [.bl (decide (k = 8)), .bl (decide (k = 9)), .bl (decide (k = 10))]) ++ [.bl (decide (k = 11)), .bl (decide (k = 12)), .bl (decide (k = 13)), .bl (decide (k = 14))]) ++ [.bl (decide (k = 15)), .bl (decide (k = 16)), .bl (decide (k = 17))]))) l9 = some (.lst (((([.bl (decide (k = 0)), .bl (decide (k = 1)), .bl (decide (k = 2)), .bl (decide (k = 3))] ++ [.bl (decide (k = 4)), .bl (decide (k = 5)), .bl (decide (k = 6)), .bl (decide (k = 7))]) ++ [.bl (decide (k = 8)), .bl (decide (k = 9)), .bl (decide (k = 10))]) ++ [.bl (decide (k = 11)), .bl (decide (k = 12)), .bl (decide (k = 13)), .bl (decide (k = 14))]) ++ [.bl (decide (k = 15)), .bl (decide (k = 16)), .bl (decide (k = 17))])) := upd_same
    generalize upd H8 l9 (.lst (((([.bl (decide (k = 0)), .bl (decide (k = 1)), .bl (decide (k = 2)), .bl (decide (k = 3))] ++ [.bl (decide (k = 4)), .bl (decide (k = 5)), .bl (decide (k = 6)), .bl (decide (k = 7))]) ++ [.bl (decide (k = 8)), .bl (decide (k = 9)), .bl (decide (k = 10))]) ++ [.bl (decide (k = 11)), .bl (decide (k = 12)), .bl (decide (k = 13)), .bl (decide (k = 14))]) ++ [.bl (decide (k = 15)), .bl (decide (k = 16)), .bl (decide (k = 17))])) = H9 at s_H9 g_H9 ⊢
    have k_H9 := k_H8.same s_H9
    have S9 := S8.trans s_H9
    exact q _ _ S9 g_H9
def sp_l_fields (cs : List Addr) : Sp := fun vs H Q _ => ∃ (a C : Addr) (k : Nat) (one other : V), vs = [.ref a] ∧ cs[k]? = some C ∧ Kept H a C k one other ∧ ∀ l H', Same H H' → H' l = some (.lst (outOf one other k)) → Q (.ref l) H'
theorem ok_l_fields (T : Env K mg) : FnOk P w K mg base CX0 1 T.a_l_fields T.d_l_fields ["_law_e"] (sp_l_fields (csOf T)) := by
  refine T.F_l_fields.ok sc_l_fields (fun vs H Q E h => ?_) (fun cdv A outer s H vs Q E hr h => ?_)
  · obtain ⟨a, C, k, one, other, rfl, _⟩ := h
    rfl
  · obtain ⟨a, C, k, one, other, rfl, hk, hX, q⟩ := h
    refine ⟨_, (pss_cons (ps_if (pt_val (pe_callB call_isK (by rfl) T.m_isinstance PyProof.Rows.boot_isinstance (pa_cons (pv 0) (pa_cons (pe_tup (pa_cons (pe_glob (v := .ref T.a_NoTerm) (by rfl) T.g_NoTerm rfl) (pa_cons (pe_glob (v := .ref T.a_NoPlace) (by rfl) T.g_NoPlace rfl) (pa_cons (pe_glob (v := .ref T.a_NoNumber) (by rfl) T.g_NoNumber rfl) (pa_cons (pe_glob (v := .ref T.a_NoRow) (by rfl) T.g_NoRow rfl) (pa_cons (pe_glob (v := .ref T.a_NoQuestion) (by rfl) T.g_NoQuestion rfl) (pa_cons (pe_glob (v := .ref T.a_NoForm) (by rfl) T.g_NoForm rfl) (pa_cons (pe_glob (v := .ref T.a_NoPaper) (by rfl) T.g_NoPaper rfl) (pa_cons (pe_glob (v := .ref T.a_NoOrder) (by rfl) T.g_NoOrder rfl) (pa_cons (pe_glob (v := .ref T.a_NoLine) (by rfl) T.g_NoLine rfl) pa_nil)))))))))) pa_nil)))) (pss_one (ps_ret (pe_lst (pa_cons (pe_kf (pv 0)) pa_nil)))) pss_nil)
      (pss_cons (ps_if (pt_val (pe_callB call_isK (by rfl) T.m_isinstance PyProof.Rows.boot_isinstance (pa_cons (pv 0) (pa_cons (pe_glob (v := .ref T.a_NoText) (by rfl) T.g_NoText rfl) pa_nil)))) (pss_one (ps_ret (pe_lst (pa_cons (pe_kf (pv 0)) pa_nil)))) pss_nil)
      (pss_cons (ps_if (pt_val (pe_callB call_isK (by rfl) T.m_isinstance PyProof.Rows.boot_isinstance (pa_cons (pv 0) (pa_cons (pe_glob (v := .ref T.a_NoProgram) (by rfl) T.g_NoProgram rfl) pa_nil)))) (pss_one (ps_ret (pe_lst (pa_cons (pe_kf (pv 0)) (pa_cons (pe_kf (pv 0)) pa_nil))))) pss_nil)
      (pss_cons (ps_if (pt_val (pe_callB call_isK (by rfl) T.m_isinstance PyProof.Rows.boot_isinstance (pa_cons (pv 0) (pa_cons (pe_tup (pa_cons (pe_glob (v := .ref T.a_Twice) (by rfl) T.g_Twice rfl) (pa_cons (pe_glob (v := .ref T.a_NoUnknown) (by rfl) T.g_NoUnknown rfl) (pa_cons (pe_glob (v := .ref T.a_NoRelation) (by rfl) T.g_NoRelation rfl) pa_nil)))) pa_nil)))) (pss_one (ps_ret (pe_lst (pa_cons (pe_kf (pv 0)) pa_nil)))) pss_nil)
      (pss_cons (ps_if (pt_val (pe_callB call_isK (by rfl) T.m_isinstance PyProof.Rows.boot_isinstance (pa_cons (pv 0) (pa_cons (pe_glob (v := .ref T.a_NoMany) (by rfl) T.g_NoMany rfl) pa_nil)))) (pss_one (ps_ret (pe_lst (pa_cons (pe_kf (pv 0)) (pa_cons (pe_kf (pv 0)) pa_nil))))) pss_nil)
      (pss_cons (ps_if (pt_val (pe_callB call_isK (by rfl) T.m_isinstance PyProof.Rows.boot_isinstance (pa_cons (pv 0) (pa_cons (pe_glob (v := .ref T.a_TooGreat) (by rfl) T.g_TooGreat rfl) pa_nil)))) (pss_one (ps_ret (pe_lst (pa_cons (pe_kf (pv 0)) pa_nil)))) pss_nil)
      (pss_cons (ps_if (pt_val (pe_callB call_isK (by rfl) T.m_isinstance PyProof.Rows.boot_isinstance (pa_cons (pv 0) (pa_cons (pe_glob (v := .ref T.a_TooMany) (by rfl) T.g_TooMany rfl) pa_nil)))) (pss_one (ps_ret (pe_lst (pa_cons (pe_kf (pv 0)) pa_nil)))) pss_nil)
      (pss_one (ps_ret (pe_lst pa_nil)))))))))), ?_⟩
    refine ⟨_, rfl, (by show 9 ≤ sizeLine; decide), fun t1 ht1 => ?_⟩
    have s_H1 : Same H (upd H t1 (.tup [.ref T.a_NoTerm, .ref T.a_NoPlace, .ref T.a_NoNumber, .ref T.a_NoRow, .ref T.a_NoQuestion, .ref T.a_NoForm, .ref T.a_NoPaper, .ref T.a_NoOrder, .ref T.a_NoLine])) := same_upd ht1
    have g_H1 : (upd H t1 (.tup [.ref T.a_NoTerm, .ref T.a_NoPlace, .ref T.a_NoNumber, .ref T.a_NoRow, .ref T.a_NoQuestion, .ref T.a_NoForm, .ref T.a_NoPaper, .ref T.a_NoOrder, .ref T.a_NoLine])) t1 = some (.tup [.ref T.a_NoTerm, .ref T.a_NoPlace, .ref T.a_NoNumber, .ref T.a_NoRow, .ref T.a_NoQuestion, .ref T.a_NoForm, .ref T.a_NoPaper, .ref T.a_NoOrder, .ref T.a_NoLine]) := upd_same
    generalize upd H t1 (.tup [.ref T.a_NoTerm, .ref T.a_NoPlace, .ref T.a_NoNumber, .ref T.a_NoRow, .ref T.a_NoQuestion, .ref T.a_NoForm, .ref T.a_NoPaper, .ref T.a_NoOrder, .ref T.a_NoLine]) = H1 at s_H1 g_H1 ⊢
    have k_H1 := hX.same s_H1
    have S1 : Same H _ := s_H1
    obtain ⟨d1, x1, x2, _⟩ := id k_H1
    refine ⟨a, C, d1, _, x1, x2, y_at T k C hk, .inr ⟨t1, _, _, rfl, g_H1, (.cons (.own _) (.cons (.own _) (.cons (.own _) (.cons (.own _) (.cons (.own _) (.cons (.own _) (.cons (.own _) (.cons (.own _) (.cons (.own _) .nil))))))))), kitAny_at (js := [0, 1, 2, 4, 10, 11, 12, 15, 16]) T.km hk (.cons ⟨_, rfl, rfl⟩ (.cons ⟨_, rfl, rfl⟩ (.cons ⟨_, rfl, rfl⟩ (.cons ⟨_, rfl, rfl⟩ (.cons ⟨_, rfl, rfl⟩ (.cons ⟨_, rfl, rfl⟩ (.cons ⟨_, rfl, rfl⟩ (.cons ⟨_, rfl, rfl⟩ (.cons ⟨_, rfl, rfl⟩ .nil)))))))))⟩, _, rfl, ite2 (fun c => ?_) (fun c0 => ?_)⟩
    · have c : k = 0 ∨ k = 1 ∨ k = 2 ∨ k = 4 ∨ k = 10 ∨ k = 11 ∨ k = 12 ∨ k = 15 ∨ k = 16 := by simpa [or_assoc] using c
      rcases c with rfl | rfl | rfl | rfl | rfl | rfl | rfl | rfl | rfl
      · cases hk
        obtain ⟨dx, x1, _, x3⟩ := k_H1
        obtain ⟨dd, rfl, x4⟩ := x3 (by decide)
        refine ⟨_, rfl, a, _, dd, _, one, rfl, x1, x4, T.f_NoTerm, T.n_NoTerm_found, rfl, (by show 1 ≤ sizeLine; decide), fun l hl => q l _ (S1.trans (same_upd hl)) upd_same⟩
      · cases hk
        obtain ⟨dx, x1, _, x3⟩ := k_H1
        obtain ⟨dd, rfl, x4⟩ := x3 (by decide)
        refine ⟨_, rfl, a, _, dd, _, one, rfl, x1, x4, T.f_NoPlace, T.n_NoPlace_found, rfl, (by show 1 ≤ sizeLine; decide), fun l hl => q l _ (S1.trans (same_upd hl)) upd_same⟩
      · cases hk
        obtain ⟨dx, x1, _, x3⟩ := k_H1
        obtain ⟨dd, rfl, x4⟩ := x3 (by decide)
        refine ⟨_, rfl, a, _, dd, _, one, rfl, x1, x4, T.f_NoNumber, T.n_NoNumber_found, rfl, (by show 1 ≤ sizeLine; decide), fun l hl => q l _ (S1.trans (same_upd hl)) upd_same⟩
      · cases hk
        obtain ⟨dx, x1, _, x3⟩ := k_H1
        obtain ⟨dd, rfl, x4⟩ := x3 (by decide)
        refine ⟨_, rfl, a, _, dd, _, one, rfl, x1, x4, T.f_NoRow, T.n_NoRow_found, rfl, (by show 1 ≤ sizeLine; decide), fun l hl => q l _ (S1.trans (same_upd hl)) upd_same⟩
      · cases hk
        obtain ⟨dx, x1, _, x3⟩ := k_H1
        obtain ⟨dd, rfl, x4⟩ := x3 (by decide)
        refine ⟨_, rfl, a, _, dd, _, one, rfl, x1, x4, T.f_NoQuestion, T.n_NoQuestion_found, rfl, (by show 1 ≤ sizeLine; decide), fun l hl => q l _ (S1.trans (same_upd hl)) upd_same⟩
      · cases hk
        obtain ⟨dx, x1, _, x3⟩ := k_H1
        obtain ⟨dd, rfl, x4⟩ := x3 (by decide)
        refine ⟨_, rfl, a, _, dd, _, one, rfl, x1, x4, T.f_NoForm, T.n_NoForm_found, rfl, (by show 1 ≤ sizeLine; decide), fun l hl => q l _ (S1.trans (same_upd hl)) upd_same⟩
      · cases hk
        obtain ⟨dx, x1, _, x3⟩ := k_H1
        obtain ⟨dd, rfl, x4⟩ := x3 (by decide)
        refine ⟨_, rfl, a, _, dd, _, one, rfl, x1, x4, T.f_NoPaper, T.n_NoPaper_found, rfl, (by show 1 ≤ sizeLine; decide), fun l hl => q l _ (S1.trans (same_upd hl)) upd_same⟩
      · cases hk
        obtain ⟨dx, x1, _, x3⟩ := k_H1
        obtain ⟨dd, rfl, x4⟩ := x3 (by decide)
        refine ⟨_, rfl, a, _, dd, _, one, rfl, x1, x4, T.f_NoOrder, T.n_NoOrder_found, rfl, (by show 1 ≤ sizeLine; decide), fun l hl => q l _ (S1.trans (same_upd hl)) upd_same⟩
      · cases hk
        obtain ⟨dx, x1, _, x3⟩ := k_H1
        obtain ⟨dd, rfl, x4⟩ := x3 (by decide)
        refine ⟨_, rfl, a, _, dd, _, one, rfl, x1, x4, T.f_NoLine, T.n_NoLine_found, rfl, (by show 1 ≤ sizeLine; decide), fun l hl => q l _ (S1.trans (same_upd hl)) upd_same⟩
    obtain ⟨e1, x1, z1, _⟩ := id k_H1
    refine ⟨_, rfl, a, C, e1, _, x1, z1, y_at T k C hk, .inl ⟨_, _, rfl, .own _, T.km.1 k 3 C _ hk rfl⟩, _, rfl, ite2 (fun c => ?_) (fun c1 => ?_)⟩
    · have c : k = 3 := of_decide_eq_true c
      subst c
      cases hk
      obtain ⟨dx, x1, _, x3⟩ := k_H1
      obtain ⟨dd, rfl, x4⟩ := x3 (by decide)
      refine ⟨_, rfl, a, _, dd, _, one, rfl, x1, x4, T.f_NoText, T.n_NoText_at, rfl, (by show 1 ≤ sizeLine; decide), fun l hl => q l _ (S1.trans (same_upd hl)) upd_same⟩
    obtain ⟨e2, x2, z2, _⟩ := id k_H1
    refine ⟨_, rfl, a, C, e2, _, x2, z2, y_at T k C hk, .inl ⟨_, _, rfl, .own _, T.km.1 k 5 C _ hk rfl⟩, _, rfl, ite2 (fun c => ?_) (fun c2 => ?_)⟩
    · have c : k = 5 := of_decide_eq_true c
      subst c
      cases hk
      obtain ⟨dx, x1, _, x3⟩ := k_H1
      obtain ⟨dd, rfl, x4⟩ := x3 (by decide)
      refine ⟨_, rfl, a, _, dd, _, one, rfl, x1, x4, T.f_NoProgram, T.n_NoProgram_line, rfl, _, rfl, a, _, dd, _, other, rfl, x1, x4, T.f_NoProgram, T.n_NoProgram_at, rfl, (by show 2 ≤ sizeLine; decide), fun l hl => q l _ (S1.trans (same_upd hl)) upd_same⟩
    refine ⟨_, rfl, (by show 3 ≤ sizeLine; decide), fun t2 ht2 => ?_⟩
    have s_H2 : Same H1 (upd H1 t2 (.tup [.ref T.a_Twice, .ref T.a_NoUnknown, .ref T.a_NoRelation])) := same_upd ht2
    have g_H2 : (upd H1 t2 (.tup [.ref T.a_Twice, .ref T.a_NoUnknown, .ref T.a_NoRelation])) t2 = some (.tup [.ref T.a_Twice, .ref T.a_NoUnknown, .ref T.a_NoRelation]) := upd_same
    generalize upd H1 t2 (.tup [.ref T.a_Twice, .ref T.a_NoUnknown, .ref T.a_NoRelation]) = H2 at s_H2 g_H2 ⊢
    have k_H2 := k_H1.same s_H2
    have S2 : Same H _ := S1.trans s_H2
    obtain ⟨d2, x1, x2, _⟩ := id k_H2
    refine ⟨a, C, d2, _, x1, x2, y_at T k C hk, .inr ⟨t2, _, _, rfl, g_H2, (.cons (.own _) (.cons (.own _) (.cons (.own _) .nil))), kitAny_at (js := [6, 7, 8]) T.km hk (.cons ⟨_, rfl, rfl⟩ (.cons ⟨_, rfl, rfl⟩ (.cons ⟨_, rfl, rfl⟩ .nil)))⟩, _, rfl, ite2 (fun c => ?_) (fun c3 => ?_)⟩
    · have c : k = 6 ∨ k = 7 ∨ k = 8 := by simpa [or_assoc] using c
      rcases c with rfl | rfl | rfl
      · cases hk
        obtain ⟨dx, x1, _, x3⟩ := k_H2
        obtain ⟨dd, rfl, x4⟩ := x3 (by decide)
        refine ⟨_, rfl, a, _, dd, _, one, rfl, x1, x4, T.f_Twice, T.n_Twice_name, rfl, (by show 1 ≤ sizeLine; decide), fun l hl => q l _ (S2.trans (same_upd hl)) upd_same⟩
      · cases hk
        obtain ⟨dx, x1, _, x3⟩ := k_H2
        obtain ⟨dd, rfl, x4⟩ := x3 (by decide)
        refine ⟨_, rfl, a, _, dd, _, one, rfl, x1, x4, T.f_NoUnknown, T.n_NoUnknown_name, rfl, (by show 1 ≤ sizeLine; decide), fun l hl => q l _ (S2.trans (same_upd hl)) upd_same⟩
      · cases hk
        obtain ⟨dx, x1, _, x3⟩ := k_H2
        obtain ⟨dd, rfl, x4⟩ := x3 (by decide)
        refine ⟨_, rfl, a, _, dd, _, one, rfl, x1, x4, T.f_NoRelation, T.n_NoRelation_name, rfl, (by show 1 ≤ sizeLine; decide), fun l hl => q l _ (S2.trans (same_upd hl)) upd_same⟩
    obtain ⟨e4, x4, z4, _⟩ := id k_H2
    refine ⟨_, rfl, a, C, e4, _, x4, z4, y_at T k C hk, .inl ⟨_, _, rfl, .own _, T.km.1 k 9 C _ hk rfl⟩, _, rfl, ite2 (fun c => ?_) (fun c4 => ?_)⟩
    · have c : k = 9 := of_decide_eq_true c
      subst c
      cases hk
      obtain ⟨dx, x1, _, x3⟩ := k_H2
      obtain ⟨dd, rfl, x4⟩ := x3 (by decide)
      refine ⟨_, rfl, a, _, dd, _, one, rfl, x1, x4, T.f_NoMany, T.n_NoMany_name, rfl, _, rfl, a, _, dd, _, other, rfl, x1, x4, T.f_NoMany, T.n_NoMany_many, rfl, (by show 2 ≤ sizeLine; decide), fun l hl => q l _ (S2.trans (same_upd hl)) upd_same⟩
    obtain ⟨e5, x5, z5, _⟩ := id k_H2
    refine ⟨_, rfl, a, C, e5, _, x5, z5, y_at T k C hk, .inl ⟨_, _, rfl, .own _, T.km.1 k 13 C _ hk rfl⟩, _, rfl, ite2 (fun c => ?_) (fun c5 => ?_)⟩
    · have c : k = 13 := of_decide_eq_true c
      subst c
      cases hk
      obtain ⟨dx, x1, _, x3⟩ := k_H2
      obtain ⟨dd, rfl, x4⟩ := x3 (by decide)
      refine ⟨_, rfl, a, _, dd, _, one, rfl, x1, x4, T.f_TooGreat, T.n_TooGreat_parts, rfl, (by show 1 ≤ sizeLine; decide), fun l hl => q l _ (S2.trans (same_upd hl)) upd_same⟩
    obtain ⟨e6, x6, z6, _⟩ := id k_H2
    refine ⟨_, rfl, a, C, e6, _, x6, z6, y_at T k C hk, .inl ⟨_, _, rfl, .own _, T.km.1 k 14 C _ hk rfl⟩, _, rfl, ite2 (fun c => ?_) (fun c6 => ?_)⟩
    · have c : k = 14 := of_decide_eq_true c
      subst c
      cases hk
      obtain ⟨dx, x1, _, x3⟩ := k_H2
      obtain ⟨dd, rfl, x4⟩ := x3 (by decide)
      refine ⟨_, rfl, a, _, dd, _, one, rfl, x1, x4, T.f_TooMany, T.n_TooMany_many, rfl, (by show 1 ≤ sizeLine; decide), fun l hl => q l _ (S2.trans (same_upd hl)) upd_same⟩
    have hk17 : k = 17 := by
      have hlt : k < 18 := (List.getElem?_eq_some_iff.mp hk).1
      simp at c0 c1 c2 c3 c4 c5 c6
      omega
    subst hk17
    exact ⟨Nat.zero_le _, fun l hl => q l _ (S2.trans (same_upd hl)) upd_same⟩
end


/-! ### the law's cell, purse and draws -/
section
variable {P : Program} {w : World} {K : PySem.W.Frag} {mg : Str → Option Value} {base : Heap}
def sp_l_cell (K : PySem.W.Frag) : Sp := fun vs H Q _ => ∃ (a : Addr) (ns : List Int) (k : Int), vs = [.ref a, .int k] ∧ SqL K H a (ns.map V.int) ∧ 0 ≤ k ∧ ∀ c, Q (.int c) H
theorem ok_l_cell (T : Env K mg) : FnOk P w K mg base CX0 1 T.a_l_cell T.d_l_cell ["_law_script", "_law_k"] (sp_l_cell K) := by
  refine T.F_l_cell.ok sc_l_cell (fun vs H Q E h => ?_) (fun cdv A outer s H vs Q E hr h => ?_)
  · obtain ⟨a, ns, k, rfl, _⟩ := h
    rfl
  · obtain ⟨a, ns, k, rfl, hS, h0, q⟩ := h
    refine ⟨_, (pss_cons (ps_if (pt_cmpR op_lt (pv 1) (pe_callB call_len_seq (by rfl) T.m_len PySem.boot_len (pa_cons (pv 0) pa_nil)) (nomark _)) (pss_one (ps_ret (pe_ix ix_list (pv 0) (pv 1) (fun _ _ => rfl)))) pss_nil)
      (pss_one (ps_ret (pe_op op_add (pe_op op_mul pe_int (pv 1)) pe_int)))), ?_⟩
    refine ⟨_, rfl, _, rfl, a, _, rfl, .inl hS, _, _, rfl, rfl, _, rfl, ite2 (fun c => ?_) (fun c => ?_)⟩
    · have c' : k < (((ns.map V.int).length : Nat) : Int) := of_decide_eq_true c
      obtain ⟨x, hx, hm⟩ := atI_in h0 c'
      obtain ⟨n, _, rfl⟩ := List.mem_map.mp hm
      exact ⟨_, rfl, _, rfl, a, _, k, _, rfl, rfl, hS, hx, q n⟩
    · exact ⟨_, rfl, _, _, rfl, rfl, .inl ⟨by decide, by decide⟩, _, _, rfl, rfl, q _⟩
/-- a purse stands at p -/
def Pu (H : Hp) (p : Addr) : Prop := ∃ x y z : Int, H p = some (.lst [.int x, .int y, .int z])
def sp_l_purse (K : PySem.W.Frag) : Sp := fun vs H Q _ => ∃ (c : Int), vs = [.int c] ∧ ∀ p H', H p = none → Same H H' → Pu H' p → Q (.ref p) H'
theorem ok_l_purse (T : Env K mg) : FnOk P w K mg base CX0 1 T.a_l_purse T.d_l_purse ["_law_cell_here"] (sp_l_purse K) := by
  refine T.F_l_purse.ok sc_l_purse (fun vs H Q E h => ?_) (fun cdv A outer s H vs Q E hr h => ?_)
  · obtain ⟨c, rfl, _⟩ := h
    rfl
  · obtain ⟨c, rfl, q⟩ := h
    refine ⟨_, (pss_one (ps_ret (pe_lst (pa_cons (pe_callB (call_max2 (by rfl)) (by rfl) T.m_max PyProof.Rows.boot_max (pa_cons pe_int (pa_cons (pe_op op_sub (pv 0) (pe_op op_pow pe_int pe_int)) pa_nil))) (pa_cons (pe_op op_mod (pv 0) pe_int) (pa_cons pe_int pa_nil)))))), ?_⟩
    refine ⟨_, rfl, _, _, rfl, rfl, ⟨by decide, by decide, by decide⟩, _, _, rfl, rfl, _, _, rfl, _, rfl, _, _, rfl, rfl, (by show (0 : Int) < 2147483629; decide), (by show 3 ≤ sizeLine; decide), fun p hp => ?_⟩
    exact q p _ hp (same_upd hp) ⟨_, _, _, upd_same⟩
def sp_l_take (K : PySem.W.Frag) : Sp := fun vs H Q _ => ∃ (p : Addr) (n : Int), vs = [.ref p, .int n] ∧ Pu H p ∧ 0 < n ∧ n.natAbs < 2 ^ 9000 ∧ ∀ r H', 0 ≤ r → r < n → Off p H H' → Pu H' p → Q (.int r) H'
theorem ok_l_take (T : Env K mg) : FnOk P w K mg base CX0 1 T.a_l_take T.d_l_take ["_law_purse_here", "_law_many"] (sp_l_take K) := by
  refine T.F_l_take.ok sc_l_take (fun vs H Q E h => ?_) (fun cdv A outer s H vs Q E hr h => ?_)
  · obtain ⟨p, n, rfl, _⟩ := h
    rfl
  · obtain ⟨p, n, rfl, ⟨x, y, z, hp⟩, hn, hn2, q⟩ := h
    refine ⟨_, (pss_cons (ps_asg (pe_op op_add (pe_ix ix_list (pv 0) pe_int (fun _ _ => rfl)) pe_int) (pg_sub (pv 0) pe_int set_list))
      (pss_cons (ps_if (pt_cmpR op_gt (pe_ix ix_list (pv 0) pe_int (fun _ _ => rfl)) pe_int (nomark _)) (pss_cons (ps_set (i := 2) sc_l_take.nd rfl (Or.inl rfl) (pe_op op_mod (pe_ix ix_list (pv 0) pe_int (fun _ _ => rfl)) (pv 1)))
      (pss_cons (ps_asg (pe_op op_fdivW (pe_ix ix_list (pv 0) pe_int (fun _ _ => rfl)) (pv 1)) (pg_sub (pv 0) pe_int set_list))
      (pss_one (ps_ret (pv 2))))) pss_nil)
      (pss_cons (ps_set (i := 3) sc_l_take.nd rfl (Or.inl rfl) (pe_op op_mod (pe_op op_add (pe_op op_add (pe_op op_mul (pe_ix ix_list (pv 0) pe_int (fun _ _ => rfl)) pe_int) (pe_op op_mul pe_int (pe_ix ix_list (pv 0) pe_int (fun _ _ => rfl)))) pe_int) pe_int))
      (pss_cons (ps_set (i := 3) sc_l_take.nd rfl (Or.inl rfl) (pe_op op_mod (pe_op op_mul (pv 3) (pv 3)) pe_int))
      (pss_cons (ps_set (i := 3) sc_l_take.nd rfl (Or.inl rfl) (pe_op op_mod (pe_op op_mul (pe_op op_add (pv 3) (pe_op op_mul pe_int (pe_ix ix_list (pv 0) pe_int (fun _ _ => rfl)))) pe_int) pe_int))
      (pss_one (ps_ret (pe_op op_mod (pe_op op_fdivW (pe_op op_mod (pe_op op_mul (pv 3) (pv 3)) pe_int) pe_int) (pv 1))))))))), ?_⟩
    refine ⟨_, rfl, p, _, 2, _, rfl, rfl, SqL.of hp, atI_nat (j := 2) rfl, _, _, rfl, rfl, _, rfl, p, _, 2, 2, rfl, rfl, hp, rfl, ?_⟩
    have h1 : (upd H p (.lst ([V.int x, V.int y, V.int z].set 2 (V.int (z + 1))))) p = some (.lst [V.int x, V.int y, V.int (z + 1)]) := upd_same
    refine ⟨_, rfl, p, _, 0, _, rfl, rfl, SqL.of h1, atI_nat (j := 0) rfl, _, _, rfl, rfl, _, rfl, ite2 (fun c => ?_) (fun c => ?_)⟩
    · refine ⟨_, rfl, p, _, 0, _, rfl, rfl, SqL.of h1, atI_nat (j := 0) rfl, _, rfl, _, _, rfl, rfl, hn, ?_⟩
      refine ⟨_, rfl, p, _, 0, _, rfl, rfl, SqL.of h1, atI_nat (j := 0) rfl, _, rfl, _, _, rfl, rfl, wide_div hn hn2 (by decide) (by decide), _, rfl, p, _, 0, 0, rfl, rfl, h1, rfl, ?_⟩
      refine ⟨_, rfl, ?_⟩
      exact q _ _ (Int.emod_nonneg _ (by omega)) (Int.emod_lt_of_pos _ hn) (Off.put.trans Off.put) ⟨_, _, _, upd_same⟩
    · refine ⟨_, rfl, p, _, 1, _, rfl, rfl, SqL.of h1, atI_nat (j := 1) rfl, _, _, rfl, rfl, .inr ⟨by decide, by decide⟩, _, rfl, p, _, 2, _, rfl, rfl, SqL.of h1, atI_nat (j := 2) rfl, _, _, rfl, rfl, .inl ⟨by decide, by decide⟩, _, _, rfl, rfl, _, _, rfl, rfl, _, _, rfl, rfl, (by show (0 : Int) < 2147483647; decide), ?_⟩
      have b1 : ∀ i : Int, -(2 ^ 64) < i % 2147483647 ∧ i % 2147483647 < 2 ^ 64 := fun i => by omega
      refine ⟨_, rfl, _, rfl, _, _, rfl, rfl, .inl (b1 _), _, _, rfl, rfl, (by show (0 : Int) < 2147483629; decide), ?_⟩
      refine ⟨_, rfl, _, rfl, p, _, 2, _, rfl, rfl, SqL.of h1, atI_nat (j := 2) rfl, _, _, rfl, rfl, .inl ⟨by decide, by decide⟩, _, _, rfl, rfl, _, _, rfl, rfl, .inr ⟨by decide, by decide⟩, _, _, rfl, rfl, (by show (0 : Int) < 2147483587; decide), ?_⟩
      have b2 : ∀ i : Int, -(2 ^ 64) < i % 2147483587 ∧ i % 2147483587 < 2 ^ 64 := fun i => by omega
      refine ⟨_, rfl, _, rfl, _, _, rfl, rfl, .inl (b2 _), _, _, rfl, rfl, (by show (0 : Int) < 2147483579; decide), _, _, rfl, rfl, wide_div (b := 4) (by decide) (by decide) (by decide) (by decide), _, rfl, _, _, rfl, rfl, hn, ?_⟩
      exact q _ _ (Int.emod_nonneg _ (by omega)) (Int.emod_lt_of_pos _ hn) Off.put ⟨_, _, _, upd_same⟩
end
theorem lt9000 {n : Int} (h : n.natAbs < 2 ^ 128) : n.natAbs < 2 ^ 9000 := Nat.lt_of_lt_of_le h (Nat.pow_le_pow_right (by decide) (by decide))
theorem Pu.ne {H : Hp} {p q : Addr} {o : HO} (h : Pu H p) (hq : H q = some o) (d : ∀ x y z : Int, o ≠ .lst [.int x, .int y, .int z]) : q ≠ p := fun e => by
  obtain ⟨x, y, z, hp⟩ := h
  rw [e, hp] at hq
  exact d x y z (Option.some.inj hq).symm
theorem Pu.new {H : Hp} {p q : Addr} {o : HO} (h : Pu H p) (hq : H q = none) : Pu (upd H q o) p := by
  obtain ⟨x, y, z, hp⟩ := h
  exact ⟨x, y, z, by rw [upd_ne (ne_of_none hp hq)]; exact hp⟩
theorem Pu.nne {H : Hp} {p q : Addr} (h : Pu H p) (hq : H q = none) : q ≠ p := fun e => by
  obtain ⟨x, y, z, hp⟩ := h
  rw [e, hp] at hq
  cases hq
theorem Pu.off {H : Hp} {p q : Addr} {o : HO} (h : Pu H p) (hq : q ≠ p) : Pu (upd H q o) p := by
  obtain ⟨x, y, z, hp⟩ := h
  exact ⟨x, y, z, by rw [upd_ne (Ne.symm hq)]; exact hp⟩
theorem Pu.same {H H' : Hp} {p : Addr} (h : Pu H p) (s : Same H H') : Pu H' p := by
  obtain ⟨x, y, z, hp⟩ := h
  exact ⟨x, y, z, s _ _ hp⟩
theorem cutV_mem {xs : List V} {lo hi : Option Int} {x : V} (h : x ∈ cutV xs lo hi) : x ∈ xs := List.mem_of_mem_drop (List.mem_of_mem_take h)

/-! ### repr -/
def shows (d : PyData) : Bool := d.showable && (decide (d.shown.length ≤ sizeLine) && decide (d.depth ≤ 190))
def rReprA (K : PySem.W.Frag) : List V → Hp → VK → Prop := fun xs H Q => ∃ v d, xs = [v] ∧ Dq K H v d ∧ shows d = true ∧ Q (.str d.shown) H
theorem call_reprA {X : Cx} (hgd : X.A.guards = some []) (hu : X.A.units + 200 < cLine) : CallR X (.builtin "repr") (rReprA X.K) := by
  intro pins s σ H xs us Q I r h
  obtain ⟨v, d, rfl, hq, hs, q⟩ := h
  obtain ⟨hs, h2⟩ := Bool.and_eq_true_iff.mp hs
  obtain ⟨hz, hd⟩ := Bool.and_eq_true_iff.mp h2
  have hz := of_decide_eq_true hz
  have hd := of_decide_eq_true hd
  obtain ⟨u, rfl, rx⟩ := vals1 r
  have fin : ∀ tk tk', EP X pins σ Q (.str d.shown tk) { s with toks := tk' } := fun tk tk' => ⟨.str d.shown, H, I.tok tk', ⟨tk, rfl⟩, q⟩
  cases hq with
  | non =>
    cases rx
    exact PySem.P.repr_of_none (fin _ _)
  | bl b =>
    cases rx
    cases b <;> exact PySem.P.repr_of_bool (fin _ _)
  | int i =>
    obtain ⟨t, rfl⟩ := rx
    exact PySem.P.repr_of_int (of_decide_eq_true hs) (fin _ _)
  | str x =>
    obtain ⟨t, rfl⟩ := rx
    exact PySem.P.repr_of_str (fin _ _) hz
  | @lst a ys ds hl ha =>
    cases rx
    obtain ⟨its, rv, ⟨o, n, ho, hc, _, hda⟩, _⟩ := I.list hl
    obtain ⟨⟨as, hr⟩, bs, hb, hk⟩ := DqAll.rk I ds _ its ha rv hs fun t ht => Nat.le_trans (listText_mem_le ht) hz
    have rd : Reads s.heap (.ref a) (.list ds) _ := Reads.list ho hc hda hr
    have hd' : PyData.depthAll ds + 1 ≤ 190 := hd
    cases its with
    | nil =>
      have hr' : ReadsAll s.heap [] ds as := hr
      cases hr'
      exact call_repr_slot (by omega) ⟨o, ho, hc⟩ F.slot_list_repr.toG (call_list_repr_empty ⟨o, ho, hc⟩ ho hda ⟨_, _, rfl, fin _ _⟩)
    | cons x l =>
      refine call_repr_slot (by omega) ⟨o, ho, hc⟩ F.slot_list_repr.toG (call_list_reprK ho hc hda (not_mem_of_deeper rd (Nat.lt_succ_self _) hb) (by simpa using hk.length_eq) (fun i y e => hk.item i y (by simpa using e)) hgd (fun b _ => Clear.nil b)
        (by show X.A.units + 1 + (PyData.depthAll ds + 1) < cLine; omega) (fun _ _ e => e) (fun h' u tk k => ⟨_, _, rfl, .str (PyData.shown (.list ds)), H, I.kept k, ⟨_, rfl⟩, q⟩) hz)
  | @tup a ys ds hl ha =>
    cases rx
    obtain ⟨its, rv, ⟨o, ho, hc, n, hda⟩, _⟩ := I.tuple hl
    obtain ⟨⟨as, hr⟩, bs, hb, hk⟩ := DqAll.rk I ds _ its ha rv hs fun t ht => Nat.le_trans (tupleText_mem_le ht) hz
    have rd : Reads s.heap (.ref a) (.tuple ds) _ := Reads.tuple ho hc hda hr
    have hd' : PyData.depthAll ds + 1 ≤ 190 := hd
    exact call_repr_slot (by omega) ⟨o, ho, hc⟩ F.slot_tuple_repr (call_tuple_reprK ho hc hda (not_mem_of_deeper rd (Nat.lt_succ_self _) hb) hk hgd (fun b _ => Clear.nil b)
        (by show X.A.units + 1 + (PyData.depthAll ds + 1) < cLine; omega) (fun _ _ e => e) (fun h' u tk k => ⟨_, _, rfl, .str (PyData.shown (.tuple ds)), H, I.kept k, ⟨_, rfl⟩, q⟩) hz)
  | @dct a ha =>
    cases rx
    obtain ⟨_, hsys, vs, hv, o, es, ep, ho, hc, hda, _, he, _⟩ := (show ObjOk X.prog X.w H s.heap a (.dK []) from I.hok a _ ha)
    cases hv
    have he' : es.toList = [] := by
      cases hp : es.toList with
      | nil => rfl
      | cons x l =>
        rw [hp] at he
        cases he
    have e : es = #[] := by
      cases es
      cases he'
      rfl
    subst e
    exact call_repr_slot (by omega) ⟨o, ho, hc.1⟩ F.slot_dict_repr (call_dict_reprK (as := []) (d := 0) (ps := []) ho hc.1 hda hsys (fun z => nomatch z) .nil hgd (fun b _ => Clear.nil b) (by show X.A.units + 1 + (0 + 1) < cLine; omega) (fun _ _ e => e)
      (fun h' u tk k => ⟨_, _, rfl, .str (PyData.shown (.dict [])), H, I.kept k, ⟨_, rfl⟩, q⟩) hz)


/-! ### the things drawn -/
inductive Tn (K : PySem.W.Frag) (H : Hp) : V → PyData → List Addr → Prop
  | sc {x : V} {d : PyData} {k : Kn} (h : ∀ H', Dq K H' x d) (hp : plainV x = true) (hk : ∀ H', Knd K H' x k) (hl : k.isLst = false) : Tn K H x d []
  | two {p q : Addr} : H p = some (.lst [.int 1, .ref q]) → H q = some (.lst [.int 2]) → q ≠ p → Tn K H (.ref p) (.list [.int 1, .list [.int 2]]) [p, q]
  | nil {p : Addr} : H p = some (.lst []) → Tn K H (.ref p) (.list []) [p]
  | tup {p : Addr} : H p = some (.tup [.str "a", .int 1]) → Tn K H (.ref p) (.tuple [.str "a", .int 1]) [p]
  | tup0 {p : Addr} : H p = some (.tup []) → Tn K H (.ref p) (.tuple []) [p]
  | dct {p : Addr} : H p = some (.dK []) → Tn K H (.ref p) (.dict []) [p]
section
variable {K : PySem.W.Frag} {H H' : Hp} {x : V} {d : PyData} {as : List Addr}
theorem Tn.keep (h : Tn K H x d as) (k : ∀ a ∈ as, ∀ o, H a = some o → H' a = some o) : Tn K H' x d as := by
  cases h with
  | sc h1 h2 h3 h4 => exact .sc h1 h2 h3 h4
  | two h1 h2 h3 => exact .two (k _ (by simp) _ h1) (k _ (by simp) _ h2) h3
  | nil h1 => exact .nil (k _ (by simp) _ h1)
  | tup h1 => exact .tup (k _ (by simp) _ h1)
  | tup0 h1 => exact .tup0 (k _ (by simp) _ h1)
  | dct h1 => exact .dct (k _ (by simp) _ h1)
theorem Tn.same (h : Tn K H x d as) (s : Same H H') : Tn K H' x d as := h.keep fun a _ o e => s a o e
theorem Tn.plain (h : Tn K H x d as) : plainV x = true := by
  cases h with
  | sc h1 h2 h3 h4 => exact h2
  | _ => rfl
theorem Tn.dq (h : Tn K H x d as) : Dq K H x d := by
  cases h with
  | sc h1 h2 h3 h4 => exact h1 H
  | two h1 h2 h3 => exact .lst (SqL.of h1) (.cons (.int 1) (.cons (.lst (SqL.of h2) (.cons (.int 2) .nil)) .nil))
  | nil h1 => exact .lst (SqL.of h1) .nil
  | tup h1 => exact .tup (.inl (.inl h1)) (.cons (.str "a") (.cons (.int 1) .nil))
  | tup0 h1 => exact .tup (.inl (.inl h1)) .nil
  | dct h1 => exact .dct h1
theorem Tn.have (h : Tn K H x d as) : ∀ a ∈ as, ∃ o, H a = some o := by
  intro a ha
  cases h with
  | sc h1 h2 h3 h4 => cases ha
  | two h1 h2 h3 =>
    rcases List.mem_cons.mp ha with rfl | ha
    · exact ⟨_, h1⟩
    · rw [List.mem_singleton.mp ha]
      exact ⟨_, h2⟩
  | nil h1 => rw [List.mem_singleton.mp ha]; exact ⟨_, h1⟩
  | tup h1 => rw [List.mem_singleton.mp ha]; exact ⟨_, h1⟩
  | tup0 h1 => rw [List.mem_singleton.mp ha]; exact ⟨_, h1⟩
  | dct h1 => rw [List.mem_singleton.mp ha]; exact ⟨_, h1⟩
end
def thingsD : List PyData := [.none, .str "a", .str "", .int 0, .int (-1), .bool true, .list [.int 1, .list [.int 2]], .tuple [.str "a", .int 1], .dict [], .int (10 ^ 29), .list [], .tuple []]
section
variable {P : Program} {w : World} {K : PySem.W.Frag} {mg : Str → Option Value} {base : Heap}
def sp_l_thing (K : PySem.W.Frag) : Sp := fun vs H Q _ => ∃ p, vs = [.ref p] ∧ Pu H p ∧ ∀ x d as H', Off p H H' → Pu H' p → Tn K H' x d as → (∀ a ∈ as, H a = none) → d ∈ thingsD → Q x H'
theorem ok_l_thing (T : Env K mg) : FnOk P w K mg base CX0 2 T.a_l_thing T.d_l_thing ["_law_purse_here"] (sp_l_thing K) := by
  have G_l_take : FnOk P w K mg base CX0 1 T.a_l_take T.d_l_take ["_law_purse_here", "_law_many"] (sp_l_take K) := ok_l_take T
  refine T.F_l_thing.ok sc_l_thing (fun vs H Q E h => ?_) (fun cdv A outer s H vs Q E hr h => ?_)
  · obtain ⟨p, rfl, _⟩ := h
    rfl
  · obtain ⟨p, rfl, hp, q⟩ := h
    have hr_l_take := hr
    refine ⟨_, (pss_cons (ps_set (i := 1) sc_l_thing.nd rfl (Or.inl rfl) (pe_lst (pa_cons pe_non (pa_cons pe_str (pa_cons pe_str (pa_cons pe_int (pa_cons (pe_un un_neg pe_int) (pa_cons pe_bl (pa_cons (pe_lst (pa_cons pe_int (pa_cons (pe_lst (pa_cons pe_int pa_nil)) pa_nil))) (pa_cons (pe_tup (pa_cons pe_str (pa_cons pe_int pa_nil))) (pa_cons pe_dnewK (pa_cons (pe_op op_pow pe_int pe_int) (pa_cons (pe_lst pa_nil) (pa_cons (pe_tup pa_nil) pa_nil))))))))))))))
      (pss_one (ps_ret (pe_ix ix_list (pv 1) (pe_call G_l_take hr_l_take (by rfl) T.g_l_take T.F_l_take.kp T.b_l_take .nil pass0 (pa_cons (pv 0) (pa_cons pe_int pa_nil))) (fun _ _ => rfl))))), ?_⟩
    refine ⟨1, rfl, (by show 1 ≤ sizeLine; decide), fun l1 hl1 => ?_⟩
    have s_H1 : Same H (upd H l1 (.lst [.int 2])) := same_upd hl1
    have g_H1 : (upd H l1 (.lst [.int 2])) l1 = some (.lst [.int 2]) := upd_same
    generalize upd H l1 (.lst [.int 2]) = H1 at s_H1 g_H1 ⊢
    refine ⟨(by show 2 ≤ sizeLine; decide), fun l2 hl2 => ?_⟩
    have s_H2 : Same H1 (upd H1 l2 (.lst [.int 1, .ref l1])) := same_upd hl2
    have g_H2 : (upd H1 l2 (.lst [.int 1, .ref l1])) l2 = some (.lst [.int 1, .ref l1]) := upd_same
    generalize upd H1 l2 (.lst [.int 1, .ref l1]) = H2 at s_H2 g_H2 ⊢
    refine ⟨(by show 2 ≤ sizeLine; decide), fun l3 hl3 => ?_⟩
    have s_H3 : Same H2 (upd H2 l3 (.tup [.str "a", .int 1])) := same_upd hl3
    have g_H3 : (upd H2 l3 (.tup [.str "a", .int 1])) l3 = some (.tup [.str "a", .int 1]) := upd_same
    generalize upd H2 l3 (.tup [.str "a", .int 1]) = H3 at s_H3 g_H3 ⊢
    refine fun l4 hl4 => ?_
    have s_H4 : Same H3 (upd H3 l4 (.dK [])) := same_upd hl4
    have g_H4 : (upd H3 l4 (.dK [])) l4 = some (.dK []) := upd_same
    generalize upd H3 l4 (.dK []) = H4 at s_H4 g_H4 ⊢
    refine ⟨_, _, rfl, rfl, ⟨by decide, by decide, by decide⟩, Nat.zero_le _, fun l5 hl5 => ?_⟩
    have s_H5 : Same H4 (upd H4 l5 (.lst [])) := same_upd hl5
    have g_H5 : (upd H4 l5 (.lst [])) l5 = some (.lst []) := upd_same
    generalize upd H4 l5 (.lst []) = H5 at s_H5 g_H5 ⊢
    refine ⟨Nat.zero_le _, fun l6 hl6 => ?_⟩
    have s_H6 : Same H5 (upd H5 l6 (.tup [])) := same_upd hl6
    have g_H6 : (upd H5 l6 (.tup [])) l6 = some (.tup []) := upd_same
    generalize upd H5 l6 (.tup []) = H6 at s_H6 g_H6 ⊢
    refine ⟨(by show 12 ≤ sizeLine; decide), fun L hL => ?_⟩
    have s_H7 : Same H6 (upd H6 L (.lst [.non, .str "a", .str "", .int 0, (fun i : Int => V.int (-i)) 1, .bl true, .ref l2, .ref l3, .ref l4, (fun i j : Int => V.int (i ^ j.toNat)) 10 29, .ref l5, .ref l6])) := same_upd hL
    have g_H7 : (upd H6 L (.lst [.non, .str "a", .str "", .int 0, (fun i : Int => V.int (-i)) 1, .bl true, .ref l2, .ref l3, .ref l4, (fun i j : Int => V.int (i ^ j.toNat)) 10 29, .ref l5, .ref l6])) L = some (.lst [.non, .str "a", .str "", .int 0, (fun i : Int => V.int (-i)) 1, .bl true, .ref l2, .ref l3, .ref l4, (fun i j : Int => V.int (i ^ j.toNat)) 10 29, .ref l5, .ref l6]) := upd_same
    generalize upd H6 L (.lst [.non, .str "a", .str "", .int 0, (fun i : Int => V.int (-i)) 1, .bl true, .ref l2, .ref l3, .ref l4, (fun i j : Int => V.int (i ^ j.toNat)) 10 29, .ref l5, .ref l6]) = H7 at s_H7 g_H7 ⊢
    have s57 := s_H5.trans (s_H6.trans s_H7)
    have s37 := s_H3.trans (s_H4.trans s57)
    have s17 := s_H2.trans s37
    have s07 := s_H1.trans s17
    have f2 : H l2 = none := s_H1.free hl2
    have f3 : H l3 = none := s_H1.free (s_H2.free hl3)
    have f4 : H l4 = none := s_H1.free (s_H2.free (s_H3.free hl4))
    have f5 : H l5 = none := s_H1.free (s_H2.free (s_H3.free (s_H4.free hl5)))
    have f6 : H l6 = none := s_H1.free (s_H2.free (s_H3.free (s_H4.free (s_H5.free hl6))))
    have fL : H L = none := s_H1.free (s_H2.free (s_H3.free (s_H4.free (s_H5.free (s_H6.free hL)))))
    have n12 : l1 ≠ l2 := ne_of_none g_H1 hl2
    have p7 := hp.same s07
    refine ⟨_, rfl, _, rfl, p, 12, rfl, p7, by decide, lt9000 (by decide), fun r H8 r0 r1 o8 p8 => ?_⟩
    obtain ⟨y, l8, hy, hm⟩ := lst_at (o8 L _ (hp.nne fL) g_H7) r0 r1
    refine ⟨L, _, r, y, rfl, rfl, SqL.of l8, hy, ?_⟩
    have off : Off p H H8 := (Off.of s07).trans o8
    have e1 := o8 l1 _ (hp.nne hl1) (s17 _ _ g_H1)
    have e2 := o8 l2 _ (hp.nne f2) (s37 _ _ g_H2)
    have e3 := o8 l3 _ (hp.nne f3) (s_H4.trans s57 _ _ g_H3)
    have e4 := o8 l4 _ (hp.nne f4) (s57 _ _ g_H4)
    have e5 := o8 l5 _ (hp.nne f5) (s_H6.trans s_H7 _ _ g_H5)
    have e6 := o8 l6 _ (hp.nne f6) (s_H7 _ _ g_H6)
    have fin : ∀ d as, Tn K H8 y d as → (∀ a ∈ as, H a = none) → d ∈ thingsD → Q y H8 := fun d as h1 h2 h3 => q y d as H8 off p8 h1 h2 h3
    have one : ∀ {a : Addr}, H a = none → ∀ b ∈ [a], H b = none := fun h b hb => by rw [List.mem_singleton.mp hb]; exact h
    simp only [List.mem_cons, List.not_mem_nil, or_false] at hm
    rcases hm with rfl | rfl | rfl | rfl | rfl | rfl | rfl | rfl | rfl | rfl | rfl | rfl
    · exact fin _ _ (.sc (fun _ => .non) rfl (fun _ => kn_non) rfl) (fun _ z => nomatch z) (by simp [thingsD])
    · exact fin _ _ (.sc (fun _ => .str _) rfl (fun _ => kn_str _) rfl) (fun _ z => nomatch z) (by simp [thingsD])
    · exact fin _ _ (.sc (fun _ => .str _) rfl (fun _ => kn_str _) rfl) (fun _ z => nomatch z) (by simp [thingsD])
    · exact fin _ _ (.sc (fun _ => .int _) rfl (fun _ => kn_int _) rfl) (fun _ z => nomatch z) (by simp [thingsD])
    · exact fin (.int (-1)) _ (.sc (fun _ => .int _) rfl (fun _ => kn_int _) rfl) (fun _ z => nomatch z) (by simp [thingsD])
    · exact fin _ _ (.sc (fun _ => .bl _) rfl (fun _ => kn_bl _) rfl) (fun _ z => nomatch z) (by simp [thingsD])
    · refine fin _ _ (.two e2 e1 n12) (fun b hb => ?_) (by simp [thingsD])
      rcases List.mem_cons.mp hb with rfl | hb
      · exact f2
      · rw [List.mem_singleton.mp hb]
        exact hl1
    · exact fin _ _ (.tup e3) (one f3) (by simp [thingsD])
    · exact fin _ _ (.dct e4) (one f4) (by simp [thingsD])
    · exact fin (.int (10 ^ 29)) _ (.sc (fun _ => .int _) rfl (fun _ => kn_int _) rfl) (fun _ z => nomatch z) (by simp [thingsD])
    · exact fin _ _ (.nil e5) (one f5) (by simp [thingsD])
    · exact fin _ _ (.tup0 e6) (one f6) (by simp [thingsD])
end


def outD (d1 d2 : PyData) : Nat → List PyData
  | 5 => [d1, d2]
  | 9 => [d1, d2]
  | 17 => []
  | _ => [d1]
theorem DqAll18 {K : PySem.W.Frag} {H : Hp} {one other : V} {d1 d2 : PyData} {k : Nat} (h1 : Dq K H one d1) (h2 : Dq K H other d2) : DqAll K H (outOf one other k) (outD d1 d2 k) := by
  unfold outOf outD
  split
  · exact .cons h1 (.cons h2 .nil)
  · exact .cons h1 (.cons h2 .nil)
  · exact .nil
  · rename_i a b c
    first
      | exact .cons h1 .nil
      | (split
         · exact absurd rfl a
         · exact absurd rfl b
         · exact absurd rfl c
         · exact .cons h1 .nil)
theorem Kept.put {H : Hp} {a C p : Addr} {k : Nat} {one other : V} {xs : List V} {o : HO} (h : Kept H a C k one other) (hp : H p = some (.lst xs)) : Kept (upd H p o) a C k one other := by
  obtain ⟨d, h1, h2, h3⟩ := h
  have na : a ≠ p := fun z => by
    rw [z, hp] at h1
    have z' : HO.lst xs = HO.ext _ := Option.some.inj h1
    cases z'
  have nd : ∀ {dd : Addr} {fs : List (Str × V)}, H dd = some (.xd fs) → dd ≠ p := fun q z => by
    rw [z, hp] at q
    cases q
  refine ⟨d, by rw [upd_ne na]; exact h1, fun dd e => ?_, fun e => ?_⟩
  · obtain ⟨fs, q⟩ := h2 dd e
    exact ⟨fs, by rw [upd_ne (nd q)]; exact q⟩
  · obtain ⟨dd, e1, q⟩ := h3 e
    exact ⟨dd, e1, by rw [upd_ne (nd q)]; exact q⟩
def things1 : List PyData := thingsD ++ [.list [.int 1, .list [.int 2], .str "late"], .list [.str "late"]]
theorem shows_all : things1.all (fun d1 => thingsD.all fun d2 => shows (.list [d1, d2]) && shows (.list [d1])) = true := by decide +kernel
theorem shows18 {d1 d2 : PyData} (k : Nat) (h1 : d1 ∈ things1) (h2 : d2 ∈ thingsD) : shows (.list (outD d1 d2 k)) = true := by
  obtain ⟨a, b⟩ := Bool.and_eq_true_iff.mp (List.all_eq_true.mp (List.all_eq_true.mp shows_all d1 h1) d2 h2)
  unfold outD
  split
  · exact a
  · exact a
  · decide +kernel
  · exact b
theorem plain18 {one other : V} {k : Nat} (h1 : plainV one = true) (h2 : plainV other = true) : ∀ x ∈ outOf one other k, plainV x = true := by
  intro x hx
  unfold outOf at hx
  split at hx <;> simp at hx
  all_goals first
    | (rcases hx with rfl | rfl <;> assumption)
    | (subst hx; assumption)
theorem due18 (one other : V) : ∀ k : Nat, k < 18 → ∃ m : Int, atI [V.int 1, V.int 2, V.int 0] ((if inV (V.int (k : Int)) [V.int 5, V.int 9] = true then 1 else 0) + 2 * (if decide (V.int (k : Int) = V.int 17) = true then 1 else 0)) = some (.int m) ∧ cutV [one, other] none (some m) = outOf one other k := by
  intro k hk
  have e : k = 0 ∨ k = 1 ∨ k = 2 ∨ k = 3 ∨ k = 4 ∨ k = 5 ∨ k = 6 ∨ k = 7 ∨ k = 8 ∨ k = 9 ∨ k = 10 ∨ k = 11 ∨ k = 12 ∨ k = 13 ∨ k = 14 ∨ k = 15 ∨ k = 16 ∨ k = 17 := by omega
  rcases e with rfl | rfl | rfl | rfl | rfl | rfl | rfl | rfl | rfl | rfl | rfl | rfl | rfl | rfl | rfl | rfl | rfl | rfl
  all_goals first
    | exact ⟨1, by decide +kernel, rfl⟩
    | exact ⟨2, by decide +kernel, rfl⟩
    | exact ⟨0, by decide +kernel, rfl⟩
def bAt (k j : Nat) : Bool := decide (V.int (0 + (j : Int)) = V.int (k : Int))
def bs18 (k : Nat) : List Bool := [decide (k = 0), decide (k = 1), decide (k = 2), decide (k = 3), decide (k = 4), decide (k = 5), decide (k = 6), decide (k = 7), decide (k = 8), decide (k = 9), decide (k = 10), decide (k = 11), decide (k = 12), decide (k = 13), decide (k = 14), decide (k = 15), decide (k = 16), decide (k = 17)]
theorem dp_bls {K : PySem.W.Frag} {H : Hp} : ∀ bs : List Bool, DpAll K H (bs.map V.bl) (bs.map PyData.bool)
  | [] => .nil
  | b :: r => .cons (.bl b) (dp_bls r)
theorem eq18 : ∀ k, k < 18 → SeqAt.shaped (.list ((bs18 k).map PyData.bool)) = true ∧ SeqAt.shaped (.list (((List.range 18).map (bAt k)).map PyData.bool)) = true ∧ PyData.eqv (.list ((bs18 k).map PyData.bool)) (.list (((List.range 18).map (bAt k)).map PyData.bool)) = true := by decide +kernel
section
variable {P : Program} {w : World} {K : PySem.W.Frag} {mg : Str → Option Value} {base : Heap}
def sp_l_right (K : PySem.W.Frag) : Sp := fun vs H Q _ => ∃ (k : Nat) (one other : V) (d1 d2 : PyData) (as1 as2 : List Addr), vs = [.int (k : Int), one, other] ∧ k < 18 ∧ Tn K H one d1 as1 ∧ Tn K H other d2 as2 ∧ (∀ a ∈ as1, a ∉ as2) ∧ d1 ∈ thingsD ∧ d2 ∈ thingsD ∧
  ∀ H', (∀ a o, a ∉ as1 → H a = some o → H' a = some o) → Q (.bl true) H'
set_option maxHeartbeats 8000000 in
theorem ok_l_right (T : Env K mg) : FnG P w K mg base CX0 5 T.a_l_right T.d_l_right ["_law_number", "_law_one", "_law_other"] (sp_l_right K) := by
  have G_l_raised : FnOk P w K mg base (L2.CX P w) 4 T.a_l_raised T.d_l_raised ["_law_number", "_law_one", "_law_other"] (sp_l_raised (csOf T) 0) := ok_l_raised T
  have G_l_classes : FnOk P w K mg base CX0 4 T.a_l_classes T.d_l_classes ["_law_e"] (sp_l_classes (csOf T)) := (ok_l_classes T).mono (by decide)
  have G_l_fields : FnOk P w K mg base CX0 4 T.a_l_fields T.d_l_fields ["_law_e"] (sp_l_fields (csOf T)) := (ok_l_fields T).mono (by decide)
  refine okG T.F_l_right sc_l_right (fun vs H Q E h => ?_) (fun cdv A outer s H vs Q E hr hgd h => ?_)
  · obtain ⟨k, one, other, d1, d2, as1, as2, rfl, _⟩ := h
    rfl
  · obtain ⟨k, one, other, d1, d2, as1, as2, rfl, hk, t1, t2, dis, m1, m2, q⟩ := h
    have hr_l_raised := hr
    have hr_l_classes := hr
    have hr_l_fields := hr
    refine ⟨_, (pss_cons (ps_set (i := 3) sc_l_right.nd rfl (Or.inl rfl) pe_non)
      (pss_cons (ps_try_keep rfl rfl takes0 (fun W pn xe tk po => (pss_one (ps_expr (pe_callS G_l_raised hr_l_raised (by rfl) T.g_l_raised T.F_l_raised.kp T.b_l_raised (fun σ => passAt tk σ) (pa_cons (pv 0) (pa_cons (pv 1) (pa_cons (pv 2) pa_nil))))))) ⟨rfl, by decide, .inl T.g_SeekError⟩ sc_l_right.nd (i := 4) rfl rfl (fun a pn => (pss_one (ps_set (i := 3) sc_l_right.nd rfl (Or.inl rfl) (pv 4)))))
      (pss_cons (ps_if (PW.pt (pw_or (pt_cmpR op_isN (pv 3) pe_non (nomark _)) (pw_or1 (pt_not (pt_val (pe_callB call_isK (by rfl) T.m_isinstance PyProof.Rows.boot_isinstance (pa_cons (pv 3) (pa_cons (pe_bltn (v := .ty "ValueError") (by rfl) T.m_ValueError boot_ValueError rfl) pa_nil)))))))) (pss_one (ps_ret pe_bl)) pss_nil)
      (pss_cons (ps_if (pt_cmpR (op_neD hr.units) (pe_call G_l_classes hr_l_classes (by rfl) T.g_l_classes T.F_l_classes.kp T.b_l_classes .nil pass0 (pa_cons (pv 3) pa_nil)) (pe_lc (own := [("_law_k", 7)]) (g := gName 7) (tt := tYes) (by rfl) sc_l_right.nd (pi_range1 (by rfl) T.m_range (pa_cons pe_int pa_nil)) (blkOk_by (own := [("_law_k", 7)]) (N := ["_law_number", "_law_one", "_law_other", "_law_caught", "_law_e", "_law_due", "_law_found", "_law_k"]) (sc := defScope s_l_right) (by decide +kernel)) (fun _ _ _ _ _ => (pg_name (i := 7) sc_l_right.nd rfl (Or.inl rfl))) (fun _ _ _ _ _ => pts_nil) (fun _ _ _ _ _ => (pe_cmpR op_eq (pv 7) (pv 0) (nomark _)))) (nomark _)) (pss_one (ps_ret pe_bl)) pss_nil)
      (pss_cons (ps_set (i := 5) sc_l_right.nd rfl (Or.inl rfl) (pe_slice sl_list (pe_lst (pa_cons (pv 1) (pa_cons (pv 2) pa_nil))) po_none (po_some (pe_ix ix_list (pe_lst (pa_cons pe_int (pa_cons pe_int (pa_cons pe_int pa_nil)))) (pe_op op_add (pe_callTy call_int1 (by rfl) T.m_int PyProof.Rows.boot_int (pa_cons (pe_cmpR op_in_seq (pv 0) (pe_tup (pa_cons pe_int (pa_cons pe_int pa_nil))) (by rfl)) pa_nil)) (pe_op op_mul pe_int (pe_callTy call_int1 (by rfl) T.m_int PyProof.Rows.boot_int (pa_cons (pe_cmpR op_eq (pv 0) pe_int (nomark _)) pa_nil)))) (fun _ _ => rfl)))))
      (pss_cons (ps_if (pt_val (pe_callB call_isi (by rfl) T.m_isinstance PyProof.Rows.boot_isinstance (pa_cons (pv 1) (pa_cons (pe_bltn (v := .ty "list") (by rfl) T.m_list PyProof.Rows.boot_list rfl) pa_nil)))) (pss_one (ps_expr (pe_bm PySem.F.plainAttrs_list PySem.F.slot_list_append PySem.F.type_list_append mt_append (pv 1) (pa_cons pe_str pa_nil)))) pss_nil)
      (pss_cons (ps_set (i := 6) sc_l_right.nd rfl (Or.inl rfl) (pe_call G_l_fields hr_l_fields (by rfl) T.g_l_fields T.F_l_fields.kp T.b_l_fields .nil pass0 (pa_cons (pv 3) pa_nil)))
      (pss_one (ps_ret (pe_and (pe_cmpR (op_eqSame hr.units) (pv 6) (pv 5) (nomark _)) (pe_one (pe_cmpR op_eq (pe_callB (call_reprA hgd (un2 hr)) (by rfl) T.m_repr PyProof.Rows.boot_repr (pa_cons (pv 6) pa_nil)) (pe_callB (call_reprA hgd (un2 hr)) (by rfl) T.m_repr PyProof.Rows.boot_repr (pa_cons (pv 5) pa_nil)) (nomark _))))))))))))), ?_⟩
    refine ⟨_, rfl, _, rfl, _, rfl, k, one, other, rfl, by omega, by omega, fun j C hj h17 hC d hd => ?_, fun C hj hC => ?_⟩
    · obtain rfl : k = j := by omega
      have s_H1 : Same H (upd H d (.xd (fsOf one other k))) := same_upd hd
      have g_H1 : (upd H d (.xd (fsOf one other k))) d = some (.xd (fsOf one other k)) := upd_same
      generalize upd H d (.xd (fsOf one other k)) = H1 at s_H1 g_H1 ⊢
      refine ⟨true, T.km.2.1 k C hC, fun _ e he => ?_, fun z => nomatch z⟩
      show asK 4 _ e _ _ _ _ H1
      unfold asK
      have s_H2 : Same H1 (upd H1 e (exk e (.ref C) (some d))) := same_upd he
      have g_H2 : (upd H1 e (exk e (.ref C) (some d))) e = some (exk e (.ref C) (some d)) := upd_same
      generalize upd H1 e (exk e (.ref C) (some d)) = H2 at s_H2 g_H2 ⊢
      have hX : Kept H2 e C k one other := ⟨some d, g_H2, fun dd z => by cases z; exact ⟨_, s_H2 _ _ g_H1⟩, fun _ => ⟨d, rfl, s_H2 _ _ g_H1⟩⟩
      have s2 : Same H H2 := s_H1.trans s_H2
      obtain ⟨de, x1, x2, _⟩ := id hX
      refine ⟨_, rfl, ?_⟩
      refine ⟨_, rfl, rfl, _, rfl, ?_⟩
      refine ⟨_, rfl, e, C, de, _, x1, x2, y_at T k C hC, .inl ⟨.ty "ValueError", .type "ValueError", rfl, .ty _, kv_at T k C hC⟩, _, rfl, ?_⟩
      refine ⟨_, rfl, e, C, k, one, other, rfl, hC, hX, fun l3 H3 s3 h3 => ?_⟩
      refine ⟨18, rfl, by decide, by decide, fun D hD => ?_⟩
      refine lc_it walk_range (fun i H' => Same H3 H' ∧ H' D = some (.lst (((List.range i).map (bAt k)).map V.bl))) ⟨same_upd hD, upd_same⟩ (fun _ _ _ _ => trivial) ?_ ?_
      · rintro i z H4 H5 hi ⟨s4, g4⟩ ⟨rfl, rfl⟩
        refine ⟨rfl, ?_⟩
        refine ⟨_, rfl, _, rfl, rfl, _, g4, ?_, same_mut s4 hD, ?_⟩
        · rw [List.length_map, List.length_map, List.length_range]
          exact sz_lt (by have : i < 18 := hi; omega)
        · rw [upd_same, List.range_succ, List.map_append, List.map_append]
          rfl
      rintro H4 ⟨s4, g4⟩
      obtain ⟨sh1, sh2, eq⟩ := eq18 k hk
      refine ⟨_, _, .lst (SqL.of (s4 _ _ h3)) (dp_bls (bs18 k)), .lst (SqL.of g4) (dp_bls _), sh1, sh2, false, congrArg V.bl (congrArg Bool.not eq), ?_⟩
      obtain ⟨m, ha, hcut⟩ := due18 one other k hk
      refine ⟨_, rfl, _, rfl, (by show 2 ≤ sizeLine; decide), fun l5 hl5 => ?_⟩
      have s_H5 : Same H4 (upd H4 l5 (.lst [one, other])) := same_upd hl5
      have g_H5 : (upd H4 l5 (.lst [one, other])) l5 = some (.lst [one, other]) := upd_same
      generalize upd H4 l5 (.lst [one, other]) = H5 at s_H5 g_H5 ⊢
      refine ⟨(by show 3 ≤ sizeLine; decide), fun l6 hl6 => ?_⟩
      have s_H6 : Same H5 (upd H5 l6 (.lst [.int 1, .int 2, .int 0])) := same_upd hl6
      have g_H6 : (upd H5 l6 (.lst [.int 1, .int 2, .int 0])) l6 = some (.lst [.int 1, .int 2, .int 0]) := upd_same
      generalize upd H5 l6 (.lst [.int 1, .int 2, .int 0]) = H6 at s_H6 g_H6 ⊢
      refine ⟨_, rfl, (by show 2 ≤ sizeLine; decide), fun t7 ht7 => ?_⟩
      have s_H7 : Same H6 (upd H6 t7 (.tup [.int 5, .int 9])) := same_upd ht7
      have g_H7 : (upd H6 t7 (.tup [.int 5, .int 9])) t7 = some (.tup [.int 5, .int 9]) := upd_same
      generalize upd H6 t7 (.tup [.int 5, .int 9]) = H7 at s_H7 g_H7 ⊢
      refine ⟨t7, _, rfl, .inr (.inl (.inl g_H7)), rfl, rfl, .inr ⟨_, rfl, _, rfl, rfl, .inr ⟨_, rfl, _, _, rfl, rfl, .inl ⟨by decide, by decide⟩, _, _, rfl, rfl, l6, _, _, .int m, rfl, rfl, SqL.of (s_H7 _ _ g_H6), ha, ?_⟩⟩⟩
      refine ⟨m, rfl, l5, _, rfl, SqL.of (s_H7 _ _ (s_H6 _ _ g_H5)), fun l8 hl8 => ?_⟩
      have s_H8 : Same H7 (upd H7 l8 (.lst (cutV [one, other] none (some m)))) := same_upd hl8
      have g_H8 : (upd H7 l8 (.lst (cutV [one, other] none (some m)))) l8 = some (.lst (cutV [one, other] none (some m))) := upd_same
      generalize upd H7 l8 (.lst (cutV [one, other] none (some m))) = H8 at s_H8 g_H8 ⊢
      rw [hcut] at g_H8
      have s38 := s4.trans (s_H5.trans (s_H6.trans (s_H7.trans s_H8)))
      have s28 := s3.trans s38
      have s08 := s2.trans s28
      have X8 := hX.same s28
      have u1 := t1.same s08
      have u2 := t2.same s08
      have n8 : ∀ a ∈ as1, a ≠ l8 := fun a ha z => by
        obtain ⟨o, ho⟩ := t1.have a ha
        exact ne_of_none ho (s2.free (s3.free (s4.free (s_H5.free (s_H6.free (s_H7.free hl8)))))) z
      cases u1 with
      | sc h1 h2 h3 h4 =>
        refine ⟨_, rfl, one, .ty "list", _, _, _, rfl, .ty _, h3 _, kit_lst _, _, rfl, ite2 (fun z => by rw [h4] at z; cases z) (fun _ => ?_)⟩
        have v1 : Dq K H8 one d1 := h1 H8
        have hm : d1 ∈ things1 := List.mem_append_left _ m1
        have p1 : plainV one = true := h2
        have v2 := u2.dq
        have fr : ∀ H', Same H8 H' → Q (.bl true) H' := fun H' sx => q H' fun a o _ h => sx _ _ (s08 a o h)
        refine ⟨_, rfl, e, C, k, _, other, rfl, hC, X8, fun l9 H9 s9 h9 => ?_⟩
        refine ⟨_, rfl, _, rfl, l9, l8, _, rfl, rfl, SqL.of h9, SqL.of (s9 _ _ g_H8), plain18 p1 t2.plain, ?_⟩
        have e9 := DqAll18 (k := k) (v1.same s9) (v2.same s9)
        have w9 := shows18 k hm m2
        refine ⟨_, rfl, _, rfl, _, _, rfl, .lst (SqL.of h9) e9, w9, _, rfl, _, _, rfl, .lst (SqL.of (s9 _ _ g_H8)) e9, w9, rfl, ?_⟩
        have fin := fr H9 s9
        rw [← (decide_eq_true rfl : decide (V.str (PyData.shown (.list (outD _ d2 k))) = V.str (PyData.shown (.list (outD _ d2 k)))) = true)] at fin
        exact fin
      | @tup p h1 =>
        refine ⟨_, rfl, _, .ty "list", _, _, _, rfl, .ty _, kn_tup h1, kit_lst .tup, _, rfl, ite2 (fun z => nomatch z) (fun _ => ?_)⟩
        have v1 := (Tn.tup (K := K) h1).dq
        have hm := List.mem_append_left [.list [.int 1, .list [.int 2], .str "late"], .list [.str "late"]] m1
        have p1 : plainV (.ref p) = true := rfl
        have v2 := u2.dq
        have fr : ∀ H', Same H8 H' → Q (.bl true) H' := fun H' sx => q H' fun a o _ h => sx _ _ (s08 a o h)
        refine ⟨_, rfl, e, C, k, _, other, rfl, hC, X8, fun l9 H9 s9 h9 => ?_⟩
        refine ⟨_, rfl, _, rfl, l9, l8, _, rfl, rfl, SqL.of h9, SqL.of (s9 _ _ g_H8), plain18 p1 t2.plain, ?_⟩
        have e9 := DqAll18 (k := k) (v1.same s9) (v2.same s9)
        have w9 := shows18 k hm m2
        refine ⟨_, rfl, _, rfl, _, _, rfl, .lst (SqL.of h9) e9, w9, _, rfl, _, _, rfl, .lst (SqL.of (s9 _ _ g_H8)) e9, w9, rfl, ?_⟩
        have fin := fr H9 s9
        rw [← (decide_eq_true rfl : decide (V.str (PyData.shown (.list (outD _ d2 k))) = V.str (PyData.shown (.list (outD _ d2 k)))) = true)] at fin
        exact fin
      | @tup0 p h1 =>
        refine ⟨_, rfl, _, .ty "list", _, _, _, rfl, .ty _, kn_tup h1, kit_lst .tup, _, rfl, ite2 (fun z => nomatch z) (fun _ => ?_)⟩
        have v1 := (Tn.tup0 (K := K) h1).dq
        have hm := List.mem_append_left [.list [.int 1, .list [.int 2], .str "late"], .list [.str "late"]] m1
        have p1 : plainV (.ref p) = true := rfl
        have v2 := u2.dq
        have fr : ∀ H', Same H8 H' → Q (.bl true) H' := fun H' sx => q H' fun a o _ h => sx _ _ (s08 a o h)
        refine ⟨_, rfl, e, C, k, _, other, rfl, hC, X8, fun l9 H9 s9 h9 => ?_⟩
        refine ⟨_, rfl, _, rfl, l9, l8, _, rfl, rfl, SqL.of h9, SqL.of (s9 _ _ g_H8), plain18 p1 t2.plain, ?_⟩
        have e9 := DqAll18 (k := k) (v1.same s9) (v2.same s9)
        have w9 := shows18 k hm m2
        refine ⟨_, rfl, _, rfl, _, _, rfl, .lst (SqL.of h9) e9, w9, _, rfl, _, _, rfl, .lst (SqL.of (s9 _ _ g_H8)) e9, w9, rfl, ?_⟩
        have fin := fr H9 s9
        rw [← (decide_eq_true rfl : decide (V.str (PyData.shown (.list (outD _ d2 k))) = V.str (PyData.shown (.list (outD _ d2 k)))) = true)] at fin
        exact fin
      | @dct p h1 =>
        refine ⟨_, rfl, _, .ty "list", _, _, _, rfl, .ty _, kn_dct h1, kit_lst .dct, _, rfl, ite2 (fun z => nomatch z) (fun _ => ?_)⟩
        have v1 := (Tn.dct (K := K) h1).dq
        have hm := List.mem_append_left [.list [.int 1, .list [.int 2], .str "late"], .list [.str "late"]] m1
        have p1 : plainV (.ref p) = true := rfl
        have v2 := u2.dq
        have fr : ∀ H', Same H8 H' → Q (.bl true) H' := fun H' sx => q H' fun a o _ h => sx _ _ (s08 a o h)
        refine ⟨_, rfl, e, C, k, _, other, rfl, hC, X8, fun l9 H9 s9 h9 => ?_⟩
        refine ⟨_, rfl, _, rfl, l9, l8, _, rfl, rfl, SqL.of h9, SqL.of (s9 _ _ g_H8), plain18 p1 t2.plain, ?_⟩
        have e9 := DqAll18 (k := k) (v1.same s9) (v2.same s9)
        have w9 := shows18 k hm m2
        refine ⟨_, rfl, _, rfl, _, _, rfl, .lst (SqL.of h9) e9, w9, _, rfl, _, _, rfl, .lst (SqL.of (s9 _ _ g_H8)) e9, w9, rfl, ?_⟩
        have fin := fr H9 s9
        rw [← (decide_eq_true rfl : decide (V.str (PyData.shown (.list (outD _ d2 k))) = V.str (PyData.shown (.list (outD _ d2 k)))) = true)] at fin
        exact fin
      | @nil p h1 =>
        refine ⟨_, rfl, _, .ty "list", _, _, _, rfl, .ty _, kn_lst h1, kit_lst .lst, _, rfl, ite2 (fun _ => ?_) (fun z => absurd rfl z)⟩
        refine ⟨_, rfl, .inl ⟨rfl, _, SqL.of h1⟩, p, _, _, rfl, rfl, h1, (by show 0 < sizeLine; decide), ?_⟩
        have X8 := X8.put (o := .lst ([] ++ [.str "late"])) h1
        have g_H8 : upd H8 p (.lst ([] ++ [.str "late"])) l8 = _ := (upd_ne (Ne.symm (n8 p (by simp)))).trans g_H8
        have v1 : Dq K (upd H8 p (.lst ([] ++ [.str "late"]))) (.ref p) (.list [.str "late"]) := .lst (SqL.of upd_same) (.cons (.str _) .nil)
        have hm : PyData.list [.str "late"] ∈ things1 := by simp [things1]
        have p1 : plainV (.ref p) = true := rfl
        have v2 := (u2.keep (H' := upd H8 p (.lst ([] ++ [.str "late"]))) fun a ha o h => by rw [upd_ne (fun z : a = p => dis p (by simp) (by rw [← z]; exact ha))]; exact h).dq
        have fr : ∀ H', Same (upd H8 p (.lst ([] ++ [.str "late"]))) H' → Q (.bl true) H' := fun H' sx => q H' fun a o hn h => sx _ _ (by rw [upd_ne (fun z : a = p => hn (by simp [z]))]; exact s08 a o h)
        refine ⟨_, rfl, e, C, k, _, other, rfl, hC, X8, fun l9 H9 s9 h9 => ?_⟩
        refine ⟨_, rfl, _, rfl, l9, l8, _, rfl, rfl, SqL.of h9, SqL.of (s9 _ _ g_H8), plain18 p1 t2.plain, ?_⟩
        have e9 := DqAll18 (k := k) (v1.same s9) (v2.same s9)
        have w9 := shows18 k hm m2
        refine ⟨_, rfl, _, rfl, _, _, rfl, .lst (SqL.of h9) e9, w9, _, rfl, _, _, rfl, .lst (SqL.of (s9 _ _ g_H8)) e9, w9, rfl, ?_⟩
        have fin := fr H9 s9
        rw [← (decide_eq_true rfl : decide (V.str (PyData.shown (.list (outD _ d2 k))) = V.str (PyData.shown (.list (outD _ d2 k)))) = true)] at fin
        exact fin
      | @two p p2 h1 h2 h3 =>
        refine ⟨_, rfl, _, .ty "list", _, _, _, rfl, .ty _, kn_lst h1, kit_lst .lst, _, rfl, ite2 (fun _ => ?_) (fun z => absurd rfl z)⟩
        refine ⟨_, rfl, .inl ⟨rfl, _, SqL.of h1⟩, p, _, _, rfl, rfl, h1, (by show 2 < sizeLine; decide), ?_⟩
        have X8 := X8.put (o := .lst ([.int 1, .ref p2] ++ [.str "late"])) h1
        have g_H8 : upd H8 p (.lst ([.int 1, .ref p2] ++ [.str "late"])) l8 = _ := (upd_ne (Ne.symm (n8 p (by simp)))).trans g_H8
        have v1 : Dq K (upd H8 p (.lst ([.int 1, .ref p2] ++ [.str "late"]))) (.ref p) (.list [.int 1, .list [.int 2], .str "late"]) :=
          .lst (SqL.of upd_same) (.cons (.int _) (.cons (.lst (SqL.of ((upd_ne h3).trans h2)) (.cons (.int _) .nil)) (.cons (.str _) .nil)))
        have hm : PyData.list [.int 1, .list [.int 2], .str "late"] ∈ things1 := by simp [things1]
        have p1 : plainV (.ref p) = true := rfl
        have v2 := (u2.keep (H' := upd H8 p (.lst ([.int 1, .ref p2] ++ [.str "late"]))) fun a ha o h => by rw [upd_ne (fun z : a = p => dis p (by simp) (by rw [← z]; exact ha))]; exact h).dq
        have fr : ∀ H', Same (upd H8 p (.lst ([.int 1, .ref p2] ++ [.str "late"]))) H' → Q (.bl true) H' := fun H' sx => q H' fun a o hn h => sx _ _ (by rw [upd_ne (fun z : a = p => hn (by simp [z]))]; exact s08 a o h)
        refine ⟨_, rfl, e, C, k, _, other, rfl, hC, X8, fun l9 H9 s9 h9 => ?_⟩
        refine ⟨_, rfl, _, rfl, l9, l8, _, rfl, rfl, SqL.of h9, SqL.of (s9 _ _ g_H8), plain18 p1 t2.plain, ?_⟩
        have e9 := DqAll18 (k := k) (v1.same s9) (v2.same s9)
        have w9 := shows18 k hm m2
        refine ⟨_, rfl, _, rfl, _, _, rfl, .lst (SqL.of h9) e9, w9, _, rfl, _, _, rfl, .lst (SqL.of (s9 _ _ g_H8)) e9, w9, rfl, ?_⟩
        have fin := fr H9 s9
        rw [← (decide_eq_true rfl : decide (V.str (PyData.shown (.list (outD _ d2 k))) = V.str (PyData.shown (.list (outD _ d2 k)))) = true)] at fin
        exact fin
    · have ek : k = 17 := by omega
      rw [← ek] at hC
      refine ⟨true, T.km.2.1 k C hC, fun _ e he => ?_, fun z => nomatch z⟩
      show asK 4 _ e _ _ _ _ H
      unfold asK
      have s_H2 : Same H (upd H e (exk e (.ref C) none)) := same_upd he
      have g_H2 : (upd H e (exk e (.ref C) none)) e = some (exk e (.ref C) none) := upd_same
      generalize upd H e (exk e (.ref C) none) = H2 at s_H2 g_H2 ⊢
      have hX : Kept H2 e C k one other := ⟨none, g_H2, (fun dd z => nomatch z), fun z => absurd z (by omega)⟩
      have s2 : Same H H2 := s_H2
      obtain ⟨de, x1, x2, _⟩ := id hX
      refine ⟨_, rfl, ?_⟩
      refine ⟨_, rfl, rfl, _, rfl, ?_⟩
      refine ⟨_, rfl, e, C, de, _, x1, x2, y_at T k C hC, .inl ⟨.ty "ValueError", .type "ValueError", rfl, .ty _, kv_at T k C hC⟩, _, rfl, ?_⟩
      refine ⟨_, rfl, e, C, k, one, other, rfl, hC, hX, fun l3 H3 s3 h3 => ?_⟩
      refine ⟨18, rfl, by decide, by decide, fun D hD => ?_⟩
      refine lc_it walk_range (fun i H' => Same H3 H' ∧ H' D = some (.lst (((List.range i).map (bAt k)).map V.bl))) ⟨same_upd hD, upd_same⟩ (fun _ _ _ _ => trivial) ?_ ?_
      · rintro i z H4 H5 hi ⟨s4, g4⟩ ⟨rfl, rfl⟩
        refine ⟨rfl, ?_⟩
        refine ⟨_, rfl, _, rfl, rfl, _, g4, ?_, same_mut s4 hD, ?_⟩
        · rw [List.length_map, List.length_map, List.length_range]
          exact sz_lt (by have : i < 18 := hi; omega)
        · rw [upd_same, List.range_succ, List.map_append, List.map_append]
          rfl
      rintro H4 ⟨s4, g4⟩
      obtain ⟨sh1, sh2, eq⟩ := eq18 k hk
      refine ⟨_, _, .lst (SqL.of (s4 _ _ h3)) (dp_bls (bs18 k)), .lst (SqL.of g4) (dp_bls _), sh1, sh2, false, congrArg V.bl (congrArg Bool.not eq), ?_⟩
      obtain ⟨m, ha, hcut⟩ := due18 one other k hk
      refine ⟨_, rfl, _, rfl, (by show 2 ≤ sizeLine; decide), fun l5 hl5 => ?_⟩
      have s_H5 : Same H4 (upd H4 l5 (.lst [one, other])) := same_upd hl5
      have g_H5 : (upd H4 l5 (.lst [one, other])) l5 = some (.lst [one, other]) := upd_same
      generalize upd H4 l5 (.lst [one, other]) = H5 at s_H5 g_H5 ⊢
      refine ⟨(by show 3 ≤ sizeLine; decide), fun l6 hl6 => ?_⟩
      have s_H6 : Same H5 (upd H5 l6 (.lst [.int 1, .int 2, .int 0])) := same_upd hl6
      have g_H6 : (upd H5 l6 (.lst [.int 1, .int 2, .int 0])) l6 = some (.lst [.int 1, .int 2, .int 0]) := upd_same
      generalize upd H5 l6 (.lst [.int 1, .int 2, .int 0]) = H6 at s_H6 g_H6 ⊢
      refine ⟨_, rfl, (by show 2 ≤ sizeLine; decide), fun t7 ht7 => ?_⟩
      have s_H7 : Same H6 (upd H6 t7 (.tup [.int 5, .int 9])) := same_upd ht7
      have g_H7 : (upd H6 t7 (.tup [.int 5, .int 9])) t7 = some (.tup [.int 5, .int 9]) := upd_same
      generalize upd H6 t7 (.tup [.int 5, .int 9]) = H7 at s_H7 g_H7 ⊢
      refine ⟨t7, _, rfl, .inr (.inl (.inl g_H7)), rfl, rfl, .inr ⟨_, rfl, _, rfl, rfl, .inr ⟨_, rfl, _, _, rfl, rfl, .inl ⟨by decide, by decide⟩, _, _, rfl, rfl, l6, _, _, .int m, rfl, rfl, SqL.of (s_H7 _ _ g_H6), ha, ?_⟩⟩⟩
      refine ⟨m, rfl, l5, _, rfl, SqL.of (s_H7 _ _ (s_H6 _ _ g_H5)), fun l8 hl8 => ?_⟩
      have s_H8 : Same H7 (upd H7 l8 (.lst (cutV [one, other] none (some m)))) := same_upd hl8
      have g_H8 : (upd H7 l8 (.lst (cutV [one, other] none (some m)))) l8 = some (.lst (cutV [one, other] none (some m))) := upd_same
      generalize upd H7 l8 (.lst (cutV [one, other] none (some m))) = H8 at s_H8 g_H8 ⊢
      rw [hcut] at g_H8
      have s38 := s4.trans (s_H5.trans (s_H6.trans (s_H7.trans s_H8)))
      have s28 := s3.trans s38
      have s08 := s2.trans s28
      have X8 := hX.same s28
      have u1 := t1.same s08
      have u2 := t2.same s08
      have n8 : ∀ a ∈ as1, a ≠ l8 := fun a ha z => by
        obtain ⟨o, ho⟩ := t1.have a ha
        exact ne_of_none ho (s2.free (s3.free (s4.free (s_H5.free (s_H6.free (s_H7.free hl8)))))) z
      cases u1 with
      | sc h1 h2 h3 h4 =>
        refine ⟨_, rfl, one, .ty "list", _, _, _, rfl, .ty _, h3 _, kit_lst _, _, rfl, ite2 (fun z => by rw [h4] at z; cases z) (fun _ => ?_)⟩
        have v1 : Dq K H8 one d1 := h1 H8
        have hm : d1 ∈ things1 := List.mem_append_left _ m1
        have p1 : plainV one = true := h2
        have v2 := u2.dq
        have fr : ∀ H', Same H8 H' → Q (.bl true) H' := fun H' sx => q H' fun a o _ h => sx _ _ (s08 a o h)
        refine ⟨_, rfl, e, C, k, _, other, rfl, hC, X8, fun l9 H9 s9 h9 => ?_⟩
        refine ⟨_, rfl, _, rfl, l9, l8, _, rfl, rfl, SqL.of h9, SqL.of (s9 _ _ g_H8), plain18 p1 t2.plain, ?_⟩
        have e9 := DqAll18 (k := k) (v1.same s9) (v2.same s9)
        have w9 := shows18 k hm m2
        refine ⟨_, rfl, _, rfl, _, _, rfl, .lst (SqL.of h9) e9, w9, _, rfl, _, _, rfl, .lst (SqL.of (s9 _ _ g_H8)) e9, w9, rfl, ?_⟩
        have fin := fr H9 s9
        rw [← (decide_eq_true rfl : decide (V.str (PyData.shown (.list (outD _ d2 k))) = V.str (PyData.shown (.list (outD _ d2 k)))) = true)] at fin
        exact fin
      | @tup p h1 =>
        refine ⟨_, rfl, _, .ty "list", _, _, _, rfl, .ty _, kn_tup h1, kit_lst .tup, _, rfl, ite2 (fun z => nomatch z) (fun _ => ?_)⟩
        have v1 := (Tn.tup (K := K) h1).dq
        have hm := List.mem_append_left [.list [.int 1, .list [.int 2], .str "late"], .list [.str "late"]] m1
        have p1 : plainV (.ref p) = true := rfl
        have v2 := u2.dq
        have fr : ∀ H', Same H8 H' → Q (.bl true) H' := fun H' sx => q H' fun a o _ h => sx _ _ (s08 a o h)
        refine ⟨_, rfl, e, C, k, _, other, rfl, hC, X8, fun l9 H9 s9 h9 => ?_⟩
        refine ⟨_, rfl, _, rfl, l9, l8, _, rfl, rfl, SqL.of h9, SqL.of (s9 _ _ g_H8), plain18 p1 t2.plain, ?_⟩
        have e9 := DqAll18 (k := k) (v1.same s9) (v2.same s9)
        have w9 := shows18 k hm m2
        refine ⟨_, rfl, _, rfl, _, _, rfl, .lst (SqL.of h9) e9, w9, _, rfl, _, _, rfl, .lst (SqL.of (s9 _ _ g_H8)) e9, w9, rfl, ?_⟩
        have fin := fr H9 s9
        rw [← (decide_eq_true rfl : decide (V.str (PyData.shown (.list (outD _ d2 k))) = V.str (PyData.shown (.list (outD _ d2 k)))) = true)] at fin
        exact fin
      | @tup0 p h1 =>
        refine ⟨_, rfl, _, .ty "list", _, _, _, rfl, .ty _, kn_tup h1, kit_lst .tup, _, rfl, ite2 (fun z => nomatch z) (fun _ => ?_)⟩
        have v1 := (Tn.tup0 (K := K) h1).dq
        have hm := List.mem_append_left [.list [.int 1, .list [.int 2], .str "late"], .list [.str "late"]] m1
        have p1 : plainV (.ref p) = true := rfl
        have v2 := u2.dq
        have fr : ∀ H', Same H8 H' → Q (.bl true) H' := fun H' sx => q H' fun a o _ h => sx _ _ (s08 a o h)
        refine ⟨_, rfl, e, C, k, _, other, rfl, hC, X8, fun l9 H9 s9 h9 => ?_⟩
        refine ⟨_, rfl, _, rfl, l9, l8, _, rfl, rfl, SqL.of h9, SqL.of (s9 _ _ g_H8), plain18 p1 t2.plain, ?_⟩
        have e9 := DqAll18 (k := k) (v1.same s9) (v2.same s9)
        have w9 := shows18 k hm m2
        refine ⟨_, rfl, _, rfl, _, _, rfl, .lst (SqL.of h9) e9, w9, _, rfl, _, _, rfl, .lst (SqL.of (s9 _ _ g_H8)) e9, w9, rfl, ?_⟩
        have fin := fr H9 s9
        rw [← (decide_eq_true rfl : decide (V.str (PyData.shown (.list (outD _ d2 k))) = V.str (PyData.shown (.list (outD _ d2 k)))) = true)] at fin
        exact fin
      | @dct p h1 =>
        refine ⟨_, rfl, _, .ty "list", _, _, _, rfl, .ty _, kn_dct h1, kit_lst .dct, _, rfl, ite2 (fun z => nomatch z) (fun _ => ?_)⟩
        have v1 := (Tn.dct (K := K) h1).dq
        have hm := List.mem_append_left [.list [.int 1, .list [.int 2], .str "late"], .list [.str "late"]] m1
        have p1 : plainV (.ref p) = true := rfl
        have v2 := u2.dq
        have fr : ∀ H', Same H8 H' → Q (.bl true) H' := fun H' sx => q H' fun a o _ h => sx _ _ (s08 a o h)
        refine ⟨_, rfl, e, C, k, _, other, rfl, hC, X8, fun l9 H9 s9 h9 => ?_⟩
        refine ⟨_, rfl, _, rfl, l9, l8, _, rfl, rfl, SqL.of h9, SqL.of (s9 _ _ g_H8), plain18 p1 t2.plain, ?_⟩
        have e9 := DqAll18 (k := k) (v1.same s9) (v2.same s9)
        have w9 := shows18 k hm m2
        refine ⟨_, rfl, _, rfl, _, _, rfl, .lst (SqL.of h9) e9, w9, _, rfl, _, _, rfl, .lst (SqL.of (s9 _ _ g_H8)) e9, w9, rfl, ?_⟩
        have fin := fr H9 s9
        rw [← (decide_eq_true rfl : decide (V.str (PyData.shown (.list (outD _ d2 k))) = V.str (PyData.shown (.list (outD _ d2 k)))) = true)] at fin
        exact fin
      | @nil p h1 =>
        refine ⟨_, rfl, _, .ty "list", _, _, _, rfl, .ty _, kn_lst h1, kit_lst .lst, _, rfl, ite2 (fun _ => ?_) (fun z => absurd rfl z)⟩
        refine ⟨_, rfl, .inl ⟨rfl, _, SqL.of h1⟩, p, _, _, rfl, rfl, h1, (by show 0 < sizeLine; decide), ?_⟩
        have X8 := X8.put (o := .lst ([] ++ [.str "late"])) h1
        have g_H8 : upd H8 p (.lst ([] ++ [.str "late"])) l8 = _ := (upd_ne (Ne.symm (n8 p (by simp)))).trans g_H8
        have v1 : Dq K (upd H8 p (.lst ([] ++ [.str "late"]))) (.ref p) (.list [.str "late"]) := .lst (SqL.of upd_same) (.cons (.str _) .nil)
        have hm : PyData.list [.str "late"] ∈ things1 := by simp [things1]
        have p1 : plainV (.ref p) = true := rfl
        have v2 := (u2.keep (H' := upd H8 p (.lst ([] ++ [.str "late"]))) fun a ha o h => by rw [upd_ne (fun z : a = p => dis p (by simp) (by rw [← z]; exact ha))]; exact h).dq
        have fr : ∀ H', Same (upd H8 p (.lst ([] ++ [.str "late"]))) H' → Q (.bl true) H' := fun H' sx => q H' fun a o hn h => sx _ _ (by rw [upd_ne (fun z : a = p => hn (by simp [z]))]; exact s08 a o h)
        refine ⟨_, rfl, e, C, k, _, other, rfl, hC, X8, fun l9 H9 s9 h9 => ?_⟩
        refine ⟨_, rfl, _, rfl, l9, l8, _, rfl, rfl, SqL.of h9, SqL.of (s9 _ _ g_H8), plain18 p1 t2.plain, ?_⟩
        have e9 := DqAll18 (k := k) (v1.same s9) (v2.same s9)
        have w9 := shows18 k hm m2
        refine ⟨_, rfl, _, rfl, _, _, rfl, .lst (SqL.of h9) e9, w9, _, rfl, _, _, rfl, .lst (SqL.of (s9 _ _ g_H8)) e9, w9, rfl, ?_⟩
        have fin := fr H9 s9
        rw [← (decide_eq_true rfl : decide (V.str (PyData.shown (.list (outD _ d2 k))) = V.str (PyData.shown (.list (outD _ d2 k)))) = true)] at fin
        exact fin
      | @two p p2 h1 h2 h3 =>
        refine ⟨_, rfl, _, .ty "list", _, _, _, rfl, .ty _, kn_lst h1, kit_lst .lst, _, rfl, ite2 (fun _ => ?_) (fun z => absurd rfl z)⟩
        refine ⟨_, rfl, .inl ⟨rfl, _, SqL.of h1⟩, p, _, _, rfl, rfl, h1, (by show 2 < sizeLine; decide), ?_⟩
        have X8 := X8.put (o := .lst ([.int 1, .ref p2] ++ [.str "late"])) h1
        have g_H8 : upd H8 p (.lst ([.int 1, .ref p2] ++ [.str "late"])) l8 = _ := (upd_ne (Ne.symm (n8 p (by simp)))).trans g_H8
        have v1 : Dq K (upd H8 p (.lst ([.int 1, .ref p2] ++ [.str "late"]))) (.ref p) (.list [.int 1, .list [.int 2], .str "late"]) :=
          .lst (SqL.of upd_same) (.cons (.int _) (.cons (.lst (SqL.of ((upd_ne h3).trans h2)) (.cons (.int _) .nil)) (.cons (.str _) .nil)))
        have hm : PyData.list [.int 1, .list [.int 2], .str "late"] ∈ things1 := by simp [things1]
        have p1 : plainV (.ref p) = true := rfl
        have v2 := (u2.keep (H' := upd H8 p (.lst ([.int 1, .ref p2] ++ [.str "late"]))) fun a ha o h => by rw [upd_ne (fun z : a = p => dis p (by simp) (by rw [← z]; exact ha))]; exact h).dq
        have fr : ∀ H', Same (upd H8 p (.lst ([.int 1, .ref p2] ++ [.str "late"]))) H' → Q (.bl true) H' := fun H' sx => q H' fun a o hn h => sx _ _ (by rw [upd_ne (fun z : a = p => hn (by simp [z]))]; exact s08 a o h)
        refine ⟨_, rfl, e, C, k, _, other, rfl, hC, X8, fun l9 H9 s9 h9 => ?_⟩
        refine ⟨_, rfl, _, rfl, l9, l8, _, rfl, rfl, SqL.of h9, SqL.of (s9 _ _ g_H8), plain18 p1 t2.plain, ?_⟩
        have e9 := DqAll18 (k := k) (v1.same s9) (v2.same s9)
        have w9 := shows18 k hm m2
        refine ⟨_, rfl, _, rfl, _, _, rfl, .lst (SqL.of h9) e9, w9, _, rfl, _, _, rfl, .lst (SqL.of (s9 _ _ g_H8)) e9, w9, rfl, ?_⟩
        have fin := fr H9 s9
        rw [← (decide_eq_true rfl : decide (V.str (PyData.shown (.list (outD _ d2 k))) = V.str (PyData.shown (.list (outD _ d2 k)))) = true)] at fin
        exact fin
end


section
variable {P : Program} {w : World} {K : PySem.W.Frag} {mg : Str → Option Value} {base : Heap}
theorem kitN2 {t c d : Value} (h1 : PySem.W.kitOne K t c = some false) (h2 : PySem.W.kitOne K t d = some false) : PySem.W.kitAny K t [c, d] = some false := by
  simp only [PySem.W.kitAny, h1, h2]
def sp_law (K : PySem.W.Frag) : Sp := fun vs H Q _ => ∃ (a : Addr) (ns : List Int), vs = [.ref a] ∧ SqL K H a (ns.map V.int) ∧ ns.length ≤ 63 ∧ ∀ H', Q (.bl true) H'
set_option maxHeartbeats 8000000 in
theorem ok_law (T : Env K mg) : FnG P w K mg base CX0 6 T.a_law T.d_law ["_law_script"] (sp_law K) := by
  have G_l_cell : FnOk P w K mg base CX0 5 T.a_l_cell T.d_l_cell ["_law_script", "_law_k"] (sp_l_cell K) := (ok_l_cell T).mono (by decide)
  have G_l_purse : FnOk P w K mg base CX0 5 T.a_l_purse T.d_l_purse ["_law_cell_here"] (sp_l_purse K) := (ok_l_purse T).mono (by decide)
  have G_l_thing : FnOk P w K mg base CX0 5 T.a_l_thing T.d_l_thing ["_law_purse_here"] (sp_l_thing K) := (ok_l_thing T).mono (by decide)
  have G_l_right : FnG P w K mg base CX0 5 T.a_l_right T.d_l_right ["_law_number", "_law_one", "_law_other"] (sp_l_right K) := ok_l_right T
  refine okG T.F_law sc_law (fun vs H Q E h => ?_) (fun cdv A outer s H vs Q E hr hgd h => ?_)
  · obtain ⟨a, ns, rfl, _⟩ := h
    rfl
  · obtain ⟨a, ns, rfl, hS, hlen, q⟩ := h
    have hr_l_cell := hr
    have hr_l_purse := hr
    have hr_l_thing := hr
    have hr_l_right := hr
    refine ⟨_, (pss_cons (ps_if (PW.pt (pw_or (pt_not (pt_val (pe_callB call_isK (by rfl) T.m_isinstance PyProof.Rows.boot_isinstance (pa_cons (pe_keep (pmk_own PySem.F.excBase_ValueError T.sxi T.g_SeekError T.sxk (raises_own T.sxe T.sxt) (by rfl))) (pa_cons (pe_bltn (v := .ty "ValueError") (by rfl) T.m_ValueError boot_ValueError rfl) pa_nil))))) (pw_or1 (pt_val (pe_callB call_isK (by rfl) T.m_isinstance PyProof.Rows.boot_isinstance (pa_cons (pe_keep (pmk_own PySem.F.excBase_ValueError T.sxi T.g_SeekError T.sxk (raises_own T.sxe T.sxt) (by rfl))) (pa_cons (pe_tup (pa_cons (pe_glob (v := .ref T.a_NoTerm) (by rfl) T.g_NoTerm rfl) (pa_cons (pe_glob (v := .ref T.a_Ended) (by rfl) T.g_Ended rfl) pa_nil))) pa_nil))))))) (pss_one (ps_ret pe_bl)) pss_nil)
      (pss_cons (ps_for PassesOwn.never (by rfl) (pi_list (pe_op op_cat (pe_slice sl_list (pv 0) po_none (po_some pe_int)) (pe_lst (pa_cons (pe_call G_l_cell hr_l_cell (by rfl) T.g_l_cell T.F_l_cell.kp T.b_l_cell .nil pass0 (pa_cons (pv 0) (pa_cons pe_int pa_nil))) pa_nil)))) (pg_name (i := 1) sc_law.nd rfl (Or.inl rfl)) (pss_cons (ps_set (i := 2) sc_law.nd rfl (Or.inl rfl) (pe_call G_l_purse hr_l_purse (by rfl) T.g_l_purse T.F_l_purse.kp T.b_l_purse .nil pass0 (pa_cons (pv 1) pa_nil)))
      (pss_one (ps_for PassesOwn.never (by rfl) (pi_range1 (by rfl) T.m_range (pa_cons pe_int pa_nil)) (pg_name (i := 3) sc_law.nd rfl (Or.inl rfl)) (pss_one (ps_if (pt_not (pt_val (pe_callG G_l_right hr_l_right hgd (by rfl) T.g_l_right T.F_l_right.kp T.b_l_right pass0 (pa_cons (pv 3) (pa_cons (pe_call G_l_thing hr_l_thing (by rfl) T.g_l_thing T.F_l_thing.kp T.b_l_thing .nil pass0 (pa_cons (pv 2) pa_nil)) (pa_cons (pe_call G_l_thing hr_l_thing (by rfl) T.g_l_thing T.F_l_thing.kp T.b_l_thing .nil pass0 (pa_cons (pv 2) pa_nil)) pa_nil)))))) (pss_one (ps_ret pe_bl)) pss_nil))))))
      (pss_one (ps_ret pe_bl)))), ?_⟩
    refine fun e1 he1 => ?_
    have s_H1 : Same H (upd H e1 (exk e1 (.ref T.a_SeekError) none)) := same_upd he1
    have g_H1 : (upd H e1 (exk e1 (.ref T.a_SeekError) none)) e1 = some (exk e1 (.ref T.a_SeekError) none) := upd_same
    generalize upd H e1 (exk e1 (.ref T.a_SeekError) none) = H1 at s_H1 g_H1 ⊢
    refine ⟨e1, T.a_SeekError, none, _, g_H1, (fun _ z => nomatch z), T.y_SeekError, .inl ⟨.ty "ValueError", .type "ValueError", rfl, .ty _, T.kv_SeekError⟩, _, rfl, ?_⟩
    refine fun e2 he2 => ?_
    have s_H2 : Same H1 (upd H1 e2 (exk e2 (.ref T.a_SeekError) none)) := same_upd he2
    have g_H2 : (upd H1 e2 (exk e2 (.ref T.a_SeekError) none)) e2 = some (exk e2 (.ref T.a_SeekError) none) := upd_same
    generalize upd H1 e2 (exk e2 (.ref T.a_SeekError) none) = H2 at s_H2 g_H2 ⊢
    refine ⟨(by show 2 ≤ sizeLine; decide), fun tp htp => ?_⟩
    have s_H3 : Same H2 (upd H2 tp (.tup [.ref T.a_NoTerm, .ref T.a_Ended])) := same_upd htp
    have g_H3 : (upd H2 tp (.tup [.ref T.a_NoTerm, .ref T.a_Ended])) tp = some (.tup [.ref T.a_NoTerm, .ref T.a_Ended]) := upd_same
    generalize upd H2 tp (.tup [.ref T.a_NoTerm, .ref T.a_Ended]) = H3 at s_H3 g_H3 ⊢
    refine ⟨e2, T.a_SeekError, none, _, s_H3 _ _ g_H2, (fun _ z => nomatch z), T.y_SeekError, .inr ⟨tp, _, _, rfl, g_H3, .cons (.own _) (.cons (.own _) .nil), kitN2 (T.km.2.2 0 T.a_NoTerm rfl) (T.km.2.2 17 T.a_Ended rfl)⟩, _, rfl, ?_⟩
    have hS := (s_H1.trans (s_H2.trans s_H3)).seq hS
    refine ⟨_, rfl, 12, rfl, a, _, rfl, hS, fun p1 hp1 => ?_⟩
    refine ⟨_, rfl, a, ns, 12, rfl, (same_upd hp1).seq hS, by decide, fun c => ⟨(by show 1 ≤ sizeLine; decide), fun p2 hp2 => ?_⟩⟩
    have n12 : p1 ≠ p2 := ne_of_none upd_same hp2
    refine ⟨p1, p2, _, _, rfl, rfl, (upd_ne n12).trans upd_same, upd_same, ?_, fun p3 hp3 => ?_⟩
    · have e := cutV_length (ns.map V.int) none (some 12)
      rw [List.length_map] at e
      refine sz_le ?_
      rw [List.length_singleton]
      omega
    obtain ⟨xs, ex⟩ : ∃ xs, xs = cutV (ns.map V.int) none (some 12) ++ [V.int c] := ⟨_, rfl⟩
    rw [← ex]
    have hx : ∀ x ∈ xs, ∃ i : Int, x = .int i := fun x hx => by
      rw [ex] at hx
      rcases List.mem_append.mp hx with h | h
      · obtain ⟨n, _, rfl⟩ := List.mem_map.mp (cutV_mem h)
        exact ⟨n, rfl⟩
      · exact ⟨c, List.mem_singleton.mp h⟩
    have h3 : (upd (upd (upd H3 p1 (HO.lst (cutV (ns.map V.int) none (some 12)))) p2 (HO.lst [V.int c])) p3 (HO.lst xs)) p3 = some (.lst xs) := upd_same
    refine ⟨p3, rfl, ⟨_, SqL.of h3⟩, ?_⟩
    generalize (upd (upd (upd H3 p1 (HO.lst (cutV (ns.map V.int) none (some 12)))) p2 (HO.lst [V.int c])) p3 (HO.lst xs)) = H0 at h3 ⊢
    refine for_list (K := K) (a := p3) (xs := xs) (fun i σ H' => ∃ v1 v2 v3, σ = [some (.ref a), v1, v2, v3] ∧ Same H0 H') ⟨none, none, none, rfl, Same.refl H0⟩ (fun i σ H' _ ⟨_, _, _, _, sm⟩ => sm.seq (SqL.of h3)) ?_ (fun σ H' ⟨_, _, _, e, _⟩ => ?_)
    · rintro i x σ H4 hi ⟨v1, v2, v3, rfl, s4⟩
      obtain ⟨c, rfl⟩ := hx x (List.mem_of_getElem? hi)
      refine ⟨_, rfl, c, rfl, fun p H5 np s5 p5 => ?_⟩
      have np0 : H0 p = none := s4.free np
      refine ⟨18, rfl, by decide, by decide, for_range (fun i σ H' => ∃ y, σ = [some (.ref a), some (.int c), some (.ref p), y] ∧ Same H0 H' ∧ Pu H' p) ⟨_, rfl, s4.trans s5, p5⟩ ?_ ?_⟩
      · rintro j σ H6 hj ⟨y, rfl, s6, p6⟩
        refine ⟨_, rfl, _, rfl, p, rfl, p6, fun x1 d1 as1 H7 o7 p7 t1 f1 m1 => ?_⟩
        refine ⟨_, rfl, p, rfl, p7, fun x2 d2 as2 H8 o8 p8 t2 f2 m2 => ?_⟩
        have na : ∀ b ∈ as1, b ≠ p := fun b hb => p6.nne (f1 b hb)
        refine ⟨j, x1, x2, d1, d2, as1, as2, by simp, hj, t1.keep fun b hb o e => o8 b o (na b hb) e, t2, fun b hb hb2 => ?_, m1, m2, fun H9 h9 => ⟨_, rfl, ?_⟩⟩
        · obtain ⟨o, ho⟩ := t1.have b hb
          rw [f2 b hb2] at ho
          cases ho
        · refine ⟨_, rfl, fun b o hb => ?_, ?_⟩
          · have h6 := s6 b o hb
            have nb : b ≠ p := fun z => by
              rw [z, np0] at hb
              cases hb
            refine h9 b o (fun z => ?_) (o8 b o nb (o7 b o nb h6))
            rw [f1 b z] at h6
            cases h6
          · obtain ⟨u, v, z, hp⟩ := p8
            refine ⟨u, v, z, h9 p _ (fun m => na p m rfl) hp⟩
      · rintro σ H6 ⟨y, rfl, s6, _⟩
        exact ⟨_, _, _, rfl, s6⟩
    · exact q H'
end

set_option maxHeartbeats 0 in
theorem all_mk {l : PySem.W.OpenLaw} {w : World} {K : PySem.W.Frag} {h : Heap} {mg : Str → Option Value} {fa f_l_cell f_l_purse f_l_take f_l_thing f_l_raised f_l_raised_too f_l_classes f_l_fields f_l_right f_law : Addr} (X : K.In h) (G : h.Ns mainGlobals mg) (hfa : mg "law" = some (.ref fa))
    {oc_l_cell kV_l_cell dc_l_cell pm_l_cell cd_l_cell ct_l_cell : Value} {od_l_cell an_l_cell : Option Addr} {sl_l_cell : Array (Option Value)}
    {oc_l_purse kV_l_purse dc_l_purse pm_l_purse cd_l_purse ct_l_purse : Value} {od_l_purse an_l_purse : Option Addr} {sl_l_purse : Array (Option Value)}
    {oc_l_take kV_l_take dc_l_take pm_l_take cd_l_take ct_l_take : Value} {od_l_take an_l_take : Option Addr} {sl_l_take : Array (Option Value)}
    {oc_l_thing kV_l_thing dc_l_thing pm_l_thing cd_l_thing ct_l_thing : Value} {od_l_thing an_l_thing : Option Addr} {sl_l_thing : Array (Option Value)}
    {oc_l_raised kV_l_raised dc_l_raised pm_l_raised cd_l_raised ct_l_raised : Value} {od_l_raised an_l_raised : Option Addr} {sl_l_raised : Array (Option Value)}
    {oc_l_raised_too kV_l_raised_too dc_l_raised_too pm_l_raised_too cd_l_raised_too ct_l_raised_too : Value} {od_l_raised_too an_l_raised_too : Option Addr} {sl_l_raised_too : Array (Option Value)}
    {oc_l_classes kV_l_classes dc_l_classes pm_l_classes cd_l_classes ct_l_classes : Value} {od_l_classes an_l_classes : Option Addr} {sl_l_classes : Array (Option Value)}
    {oc_l_fields kV_l_fields dc_l_fields pm_l_fields cd_l_fields ct_l_fields : Value} {od_l_fields an_l_fields : Option Addr} {sl_l_fields : Array (Option Value)}
    {oc_l_right kV_l_right dc_l_right pm_l_right cd_l_right ct_l_right : Value} {od_l_right an_l_right : Option Addr} {sl_l_right : Array (Option Value)}
    {oc_law kV_law dc_law pm_law cd_law ct_law : Value} {od_law an_law : Option Addr} {sl_law : Array (Option Value)}
    (a_l_cell : PySem.W.nsIn K mainGlobals "_law_cell" = some (some (.ref f_l_cell)))
    (l_l_cell : K.lookup f_l_cell = some ⟨oc_l_cell, od_l_cell, .func (PySem.W.fnOf "_law_cell" "_law_cell" (defArgs s_l_cell) (defBody s_l_cell) (defScope s_l_cell) .none kV_l_cell dc_l_cell pm_l_cell an_l_cell cd_l_cell ct_l_cell), sl_l_cell⟩)
    (c_l_cell : PySem.W.codeIn K cd_l_cell "_law_cell" = true)
    (k_l_cell : PySem.W.keepIn K (.ref f_l_cell) = true)
    (a_l_purse : PySem.W.nsIn K mainGlobals "_law_purse" = some (some (.ref f_l_purse)))
    (l_l_purse : K.lookup f_l_purse = some ⟨oc_l_purse, od_l_purse, .func (PySem.W.fnOf "_law_purse" "_law_purse" (defArgs s_l_purse) (defBody s_l_purse) (defScope s_l_purse) .none kV_l_purse dc_l_purse pm_l_purse an_l_purse cd_l_purse ct_l_purse), sl_l_purse⟩)
    (c_l_purse : PySem.W.codeIn K cd_l_purse "_law_purse" = true)
    (k_l_purse : PySem.W.keepIn K (.ref f_l_purse) = true)
    (a_l_take : PySem.W.nsIn K mainGlobals "_law_take" = some (some (.ref f_l_take)))
    (l_l_take : K.lookup f_l_take = some ⟨oc_l_take, od_l_take, .func (PySem.W.fnOf "_law_take" "_law_take" (defArgs s_l_take) (defBody s_l_take) (defScope s_l_take) .none kV_l_take dc_l_take pm_l_take an_l_take cd_l_take ct_l_take), sl_l_take⟩)
    (c_l_take : PySem.W.codeIn K cd_l_take "_law_take" = true)
    (k_l_take : PySem.W.keepIn K (.ref f_l_take) = true)
    (a_l_thing : PySem.W.nsIn K mainGlobals "_law_thing" = some (some (.ref f_l_thing)))
    (l_l_thing : K.lookup f_l_thing = some ⟨oc_l_thing, od_l_thing, .func (PySem.W.fnOf "_law_thing" "_law_thing" (defArgs s_l_thing) (defBody s_l_thing) (defScope s_l_thing) .none kV_l_thing dc_l_thing pm_l_thing an_l_thing cd_l_thing ct_l_thing), sl_l_thing⟩)
    (c_l_thing : PySem.W.codeIn K cd_l_thing "_law_thing" = true)
    (k_l_thing : PySem.W.keepIn K (.ref f_l_thing) = true)
    (a_l_raised : PySem.W.nsIn K mainGlobals "_law_raised" = some (some (.ref f_l_raised)))
    (l_l_raised : K.lookup f_l_raised = some ⟨oc_l_raised, od_l_raised, .func (PySem.W.fnOf "_law_raised" "_law_raised" (defArgs s_l_raised) (defBody s_l_raised) (defScope s_l_raised) .none kV_l_raised dc_l_raised pm_l_raised an_l_raised cd_l_raised ct_l_raised), sl_l_raised⟩)
    (c_l_raised : PySem.W.codeIn K cd_l_raised "_law_raised" = true)
    (k_l_raised : PySem.W.keepIn K (.ref f_l_raised) = true)
    (a_l_raised_too : PySem.W.nsIn K mainGlobals "_law_raised_too" = some (some (.ref f_l_raised_too)))
    (l_l_raised_too : K.lookup f_l_raised_too = some ⟨oc_l_raised_too, od_l_raised_too, .func (PySem.W.fnOf "_law_raised_too" "_law_raised_too" (defArgs s_l_raised_too) (defBody s_l_raised_too) (defScope s_l_raised_too) .none kV_l_raised_too dc_l_raised_too pm_l_raised_too an_l_raised_too cd_l_raised_too ct_l_raised_too), sl_l_raised_too⟩)
    (c_l_raised_too : PySem.W.codeIn K cd_l_raised_too "_law_raised_too" = true)
    (k_l_raised_too : PySem.W.keepIn K (.ref f_l_raised_too) = true)
    (a_l_classes : PySem.W.nsIn K mainGlobals "_law_classes" = some (some (.ref f_l_classes)))
    (l_l_classes : K.lookup f_l_classes = some ⟨oc_l_classes, od_l_classes, .func (PySem.W.fnOf "_law_classes" "_law_classes" (defArgs s_l_classes) (defBody s_l_classes) (defScope s_l_classes) .none kV_l_classes dc_l_classes pm_l_classes an_l_classes cd_l_classes ct_l_classes), sl_l_classes⟩)
    (c_l_classes : PySem.W.codeIn K cd_l_classes "_law_classes" = true)
    (k_l_classes : PySem.W.keepIn K (.ref f_l_classes) = true)
    (a_l_fields : PySem.W.nsIn K mainGlobals "_law_fields" = some (some (.ref f_l_fields)))
    (l_l_fields : K.lookup f_l_fields = some ⟨oc_l_fields, od_l_fields, .func (PySem.W.fnOf "_law_fields" "_law_fields" (defArgs s_l_fields) (defBody s_l_fields) (defScope s_l_fields) .none kV_l_fields dc_l_fields pm_l_fields an_l_fields cd_l_fields ct_l_fields), sl_l_fields⟩)
    (c_l_fields : PySem.W.codeIn K cd_l_fields "_law_fields" = true)
    (k_l_fields : PySem.W.keepIn K (.ref f_l_fields) = true)
    (a_l_right : PySem.W.nsIn K mainGlobals "_law_right" = some (some (.ref f_l_right)))
    (l_l_right : K.lookup f_l_right = some ⟨oc_l_right, od_l_right, .func (PySem.W.fnOf "_law_right" "_law_right" (defArgs s_l_right) (defBody s_l_right) (defScope s_l_right) .none kV_l_right dc_l_right pm_l_right an_l_right cd_l_right ct_l_right), sl_l_right⟩)
    (c_l_right : PySem.W.codeIn K cd_l_right "_law_right" = true)
    (k_l_right : PySem.W.keepIn K (.ref f_l_right) = true)
    (a_law : PySem.W.nsIn K mainGlobals "law" = some (some (.ref f_law)))
    (l_law : K.lookup f_law = some ⟨oc_law, od_law, .func (PySem.W.fnOf "law" "law" (defArgs s_law) (defBody s_law) (defScope s_law) .none kV_law dc_law pm_law an_law cd_law ct_law), sl_law⟩)
    (c_law : PySem.W.codeIn K cd_law "law" = true)
    (k_law : PySem.W.keepIn K (.ref f_law) = true)
    {ac_NoTerm ai_NoTerm N_NoTerm : Addr} {nm_NoTerm q_NoTerm : Str} {bs_NoTerm bm_NoTerm : List Value} {sn_NoTerm : List Str} {sub_NoTerm : List Value} {ab_NoTerm : Bool} {col_NoTerm : Option Bool} {dd_NoTerm : Option Addr} {k0_NoTerm k1_NoTerm k2_NoTerm k3_NoTerm k5_NoTerm : Option Value}
    {oc_NoTerm_i kV_NoTerm_i dc_NoTerm_i pm_NoTerm_i cd_NoTerm_i ct_NoTerm_i : Value} {od_NoTerm_i an_NoTerm_i : Option Addr} {sl_NoTerm_i : Array (Option Value)}
    (v_NoTerm : PySem.W.nsIn K mainGlobals "NoTerm" = some (some (.ref ac_NoTerm)))
    (xl_NoTerm : K.lookup ac_NoTerm = some (excClassObj nm_NoTerm q_NoTerm ac_NoTerm N_NoTerm bs_NoTerm bm_NoTerm true sn_NoTerm sub_NoTerm ab_NoTerm col_NoTerm dd_NoTerm k0_NoTerm k1_NoTerm k2_NoTerm k3_NoTerm k5_NoTerm "ValueError.__new__"))
    (xr_NoTerm : PySem.HandSPX.refsVE bm_NoTerm = true)
    (xsa_NoTerm : PySem.W.findIn K (.ref ac_NoTerm) "__setattr__" = some (some (.builtin "object.__setattr__")))
    (xhg_NoTerm : PySem.W.findIn K (.ref ac_NoTerm) "__getattribute__" = some (some (.builtin "BaseException.__getattribute__")))
    (xhk_NoTerm : PySem.W.findIn K (.ref ac_NoTerm) "__getattr__" = some none)
    (xha_NoTerm : PySem.W.findIn K (.ref ac_NoTerm) "__class__" = some (some (.builtin "object.__class__")))
    (xii_NoTerm : PySem.W.findIn K (.ref ac_NoTerm) "__init__" = some (some (.ref ai_NoTerm)))
    (xex_NoTerm : PySem.W.subIn K (.ref ac_NoTerm) (.type "BaseException") = some true)
    (xty_NoTerm : PySem.W.typeIn K (.ref ac_NoTerm) = some (.type "type"))
    (xk_NoTerm : PySem.W.keepIn K (.ref ac_NoTerm) = true)
    (xhd_NoTerm : PySem.W.hasDictIn K ac_NoTerm = true)
    (xhm_NoTerm : PySem.W.mroIn K ac_NoTerm (.type "object") = some true)
    (xti_NoTerm : PySem.W.typeIn K (.ref ai_NoTerm) = some (.type "function"))
    (xkv_NoTerm : PySem.W.subIn K (.ref ac_NoTerm) (.type "ValueError") = some true)
    (xn_NoTerm_found : PySem.W.findIn K (.ref ac_NoTerm) "found" = some none)
    (xil_NoTerm : K.lookup ai_NoTerm = some ⟨oc_NoTerm_i, od_NoTerm_i, .func (PySem.W.fnOf "__init__" "NoTerm.__init__" (defArgs s_NoTerm_init) (defBody s_NoTerm_init) (defScope s_NoTerm_init) .none kV_NoTerm_i dc_NoTerm_i pm_NoTerm_i an_NoTerm_i cd_NoTerm_i ct_NoTerm_i), sl_NoTerm_i⟩)
    (xic_NoTerm : PySem.W.codeIn K cd_NoTerm_i "NoTerm.__init__" = true)
    (xik_NoTerm : PySem.W.keepIn K (.ref ai_NoTerm) = true)
    {ac_NoPlace ai_NoPlace N_NoPlace : Addr} {nm_NoPlace q_NoPlace : Str} {bs_NoPlace bm_NoPlace : List Value} {sn_NoPlace : List Str} {sub_NoPlace : List Value} {ab_NoPlace : Bool} {col_NoPlace : Option Bool} {dd_NoPlace : Option Addr} {k0_NoPlace k1_NoPlace k2_NoPlace k3_NoPlace k5_NoPlace : Option Value}
    {oc_NoPlace_i kV_NoPlace_i dc_NoPlace_i pm_NoPlace_i cd_NoPlace_i ct_NoPlace_i : Value} {od_NoPlace_i an_NoPlace_i : Option Addr} {sl_NoPlace_i : Array (Option Value)}
    (v_NoPlace : PySem.W.nsIn K mainGlobals "NoPlace" = some (some (.ref ac_NoPlace)))
    (xl_NoPlace : K.lookup ac_NoPlace = some (excClassObj nm_NoPlace q_NoPlace ac_NoPlace N_NoPlace bs_NoPlace bm_NoPlace true sn_NoPlace sub_NoPlace ab_NoPlace col_NoPlace dd_NoPlace k0_NoPlace k1_NoPlace k2_NoPlace k3_NoPlace k5_NoPlace "ValueError.__new__"))
    (xr_NoPlace : PySem.HandSPX.refsVE bm_NoPlace = true)
    (xsa_NoPlace : PySem.W.findIn K (.ref ac_NoPlace) "__setattr__" = some (some (.builtin "object.__setattr__")))
    (xhg_NoPlace : PySem.W.findIn K (.ref ac_NoPlace) "__getattribute__" = some (some (.builtin "BaseException.__getattribute__")))
    (xhk_NoPlace : PySem.W.findIn K (.ref ac_NoPlace) "__getattr__" = some none)
    (xha_NoPlace : PySem.W.findIn K (.ref ac_NoPlace) "__class__" = some (some (.builtin "object.__class__")))
    (xii_NoPlace : PySem.W.findIn K (.ref ac_NoPlace) "__init__" = some (some (.ref ai_NoPlace)))
    (xex_NoPlace : PySem.W.subIn K (.ref ac_NoPlace) (.type "BaseException") = some true)
    (xty_NoPlace : PySem.W.typeIn K (.ref ac_NoPlace) = some (.type "type"))
    (xk_NoPlace : PySem.W.keepIn K (.ref ac_NoPlace) = true)
    (xhd_NoPlace : PySem.W.hasDictIn K ac_NoPlace = true)
    (xhm_NoPlace : PySem.W.mroIn K ac_NoPlace (.type "object") = some true)
    (xti_NoPlace : PySem.W.typeIn K (.ref ai_NoPlace) = some (.type "function"))
    (xkv_NoPlace : PySem.W.subIn K (.ref ac_NoPlace) (.type "ValueError") = some true)
    (xn_NoPlace_found : PySem.W.findIn K (.ref ac_NoPlace) "found" = some none)
    (xil_NoPlace : K.lookup ai_NoPlace = some ⟨oc_NoPlace_i, od_NoPlace_i, .func (PySem.W.fnOf "__init__" "NoPlace.__init__" (defArgs s_NoPlace_init) (defBody s_NoPlace_init) (defScope s_NoPlace_init) .none kV_NoPlace_i dc_NoPlace_i pm_NoPlace_i an_NoPlace_i cd_NoPlace_i ct_NoPlace_i), sl_NoPlace_i⟩)
    (xic_NoPlace : PySem.W.codeIn K cd_NoPlace_i "NoPlace.__init__" = true)
    (xik_NoPlace : PySem.W.keepIn K (.ref ai_NoPlace) = true)
    {ac_NoNumber ai_NoNumber N_NoNumber : Addr} {nm_NoNumber q_NoNumber : Str} {bs_NoNumber bm_NoNumber : List Value} {sn_NoNumber : List Str} {sub_NoNumber : List Value} {ab_NoNumber : Bool} {col_NoNumber : Option Bool} {dd_NoNumber : Option Addr} {k0_NoNumber k1_NoNumber k2_NoNumber k3_NoNumber k5_NoNumber : Option Value}
    {oc_NoNumber_i kV_NoNumber_i dc_NoNumber_i pm_NoNumber_i cd_NoNumber_i ct_NoNumber_i : Value} {od_NoNumber_i an_NoNumber_i : Option Addr} {sl_NoNumber_i : Array (Option Value)}
    (v_NoNumber : PySem.W.nsIn K mainGlobals "NoNumber" = some (some (.ref ac_NoNumber)))
    (xl_NoNumber : K.lookup ac_NoNumber = some (excClassObj nm_NoNumber q_NoNumber ac_NoNumber N_NoNumber bs_NoNumber bm_NoNumber true sn_NoNumber sub_NoNumber ab_NoNumber col_NoNumber dd_NoNumber k0_NoNumber k1_NoNumber k2_NoNumber k3_NoNumber k5_NoNumber "ValueError.__new__"))
    (xr_NoNumber : PySem.HandSPX.refsVE bm_NoNumber = true)
    (xsa_NoNumber : PySem.W.findIn K (.ref ac_NoNumber) "__setattr__" = some (some (.builtin "object.__setattr__")))
    (xhg_NoNumber : PySem.W.findIn K (.ref ac_NoNumber) "__getattribute__" = some (some (.builtin "BaseException.__getattribute__")))
    (xhk_NoNumber : PySem.W.findIn K (.ref ac_NoNumber) "__getattr__" = some none)
    (xha_NoNumber : PySem.W.findIn K (.ref ac_NoNumber) "__class__" = some (some (.builtin "object.__class__")))
    (xii_NoNumber : PySem.W.findIn K (.ref ac_NoNumber) "__init__" = some (some (.ref ai_NoNumber)))
    (xex_NoNumber : PySem.W.subIn K (.ref ac_NoNumber) (.type "BaseException") = some true)
    (xty_NoNumber : PySem.W.typeIn K (.ref ac_NoNumber) = some (.type "type"))
    (xk_NoNumber : PySem.W.keepIn K (.ref ac_NoNumber) = true)
    (xhd_NoNumber : PySem.W.hasDictIn K ac_NoNumber = true)
    (xhm_NoNumber : PySem.W.mroIn K ac_NoNumber (.type "object") = some true)
    (xti_NoNumber : PySem.W.typeIn K (.ref ai_NoNumber) = some (.type "function"))
    (xkv_NoNumber : PySem.W.subIn K (.ref ac_NoNumber) (.type "ValueError") = some true)
    (xn_NoNumber_found : PySem.W.findIn K (.ref ac_NoNumber) "found" = some none)
    (xil_NoNumber : K.lookup ai_NoNumber = some ⟨oc_NoNumber_i, od_NoNumber_i, .func (PySem.W.fnOf "__init__" "NoNumber.__init__" (defArgs s_NoNumber_init) (defBody s_NoNumber_init) (defScope s_NoNumber_init) .none kV_NoNumber_i dc_NoNumber_i pm_NoNumber_i an_NoNumber_i cd_NoNumber_i ct_NoNumber_i), sl_NoNumber_i⟩)
    (xic_NoNumber : PySem.W.codeIn K cd_NoNumber_i "NoNumber.__init__" = true)
    (xik_NoNumber : PySem.W.keepIn K (.ref ai_NoNumber) = true)
    {ac_NoText ai_NoText N_NoText : Addr} {nm_NoText q_NoText : Str} {bs_NoText bm_NoText : List Value} {sn_NoText : List Str} {sub_NoText : List Value} {ab_NoText : Bool} {col_NoText : Option Bool} {dd_NoText : Option Addr} {k0_NoText k1_NoText k2_NoText k3_NoText k5_NoText : Option Value}
    {oc_NoText_i kV_NoText_i dc_NoText_i pm_NoText_i cd_NoText_i ct_NoText_i : Value} {od_NoText_i an_NoText_i : Option Addr} {sl_NoText_i : Array (Option Value)}
    (v_NoText : PySem.W.nsIn K mainGlobals "NoText" = some (some (.ref ac_NoText)))
    (xl_NoText : K.lookup ac_NoText = some (excClassObj nm_NoText q_NoText ac_NoText N_NoText bs_NoText bm_NoText true sn_NoText sub_NoText ab_NoText col_NoText dd_NoText k0_NoText k1_NoText k2_NoText k3_NoText k5_NoText "ValueError.__new__"))
    (xr_NoText : PySem.HandSPX.refsVE bm_NoText = true)
    (xsa_NoText : PySem.W.findIn K (.ref ac_NoText) "__setattr__" = some (some (.builtin "object.__setattr__")))
    (xhg_NoText : PySem.W.findIn K (.ref ac_NoText) "__getattribute__" = some (some (.builtin "BaseException.__getattribute__")))
    (xhk_NoText : PySem.W.findIn K (.ref ac_NoText) "__getattr__" = some none)
    (xha_NoText : PySem.W.findIn K (.ref ac_NoText) "__class__" = some (some (.builtin "object.__class__")))
    (xii_NoText : PySem.W.findIn K (.ref ac_NoText) "__init__" = some (some (.ref ai_NoText)))
    (xex_NoText : PySem.W.subIn K (.ref ac_NoText) (.type "BaseException") = some true)
    (xty_NoText : PySem.W.typeIn K (.ref ac_NoText) = some (.type "type"))
    (xk_NoText : PySem.W.keepIn K (.ref ac_NoText) = true)
    (xhd_NoText : PySem.W.hasDictIn K ac_NoText = true)
    (xhm_NoText : PySem.W.mroIn K ac_NoText (.type "object") = some true)
    (xti_NoText : PySem.W.typeIn K (.ref ai_NoText) = some (.type "function"))
    (xkv_NoText : PySem.W.subIn K (.ref ac_NoText) (.type "ValueError") = some true)
    (xn_NoText_at : PySem.W.findIn K (.ref ac_NoText) "at" = some none)
    (xil_NoText : K.lookup ai_NoText = some ⟨oc_NoText_i, od_NoText_i, .func (PySem.W.fnOf "__init__" "NoText.__init__" (defArgs s_NoText_init) (defBody s_NoText_init) (defScope s_NoText_init) .none kV_NoText_i dc_NoText_i pm_NoText_i an_NoText_i cd_NoText_i ct_NoText_i), sl_NoText_i⟩)
    (xic_NoText : PySem.W.codeIn K cd_NoText_i "NoText.__init__" = true)
    (xik_NoText : PySem.W.keepIn K (.ref ai_NoText) = true)
    {ac_NoRow ai_NoRow N_NoRow : Addr} {nm_NoRow q_NoRow : Str} {bs_NoRow bm_NoRow : List Value} {sn_NoRow : List Str} {sub_NoRow : List Value} {ab_NoRow : Bool} {col_NoRow : Option Bool} {dd_NoRow : Option Addr} {k0_NoRow k1_NoRow k2_NoRow k3_NoRow k5_NoRow : Option Value}
    {oc_NoRow_i kV_NoRow_i dc_NoRow_i pm_NoRow_i cd_NoRow_i ct_NoRow_i : Value} {od_NoRow_i an_NoRow_i : Option Addr} {sl_NoRow_i : Array (Option Value)}
    (v_NoRow : PySem.W.nsIn K mainGlobals "NoRow" = some (some (.ref ac_NoRow)))
    (xl_NoRow : K.lookup ac_NoRow = some (excClassObj nm_NoRow q_NoRow ac_NoRow N_NoRow bs_NoRow bm_NoRow true sn_NoRow sub_NoRow ab_NoRow col_NoRow dd_NoRow k0_NoRow k1_NoRow k2_NoRow k3_NoRow k5_NoRow "ValueError.__new__"))
    (xr_NoRow : PySem.HandSPX.refsVE bm_NoRow = true)
    (xsa_NoRow : PySem.W.findIn K (.ref ac_NoRow) "__setattr__" = some (some (.builtin "object.__setattr__")))
    (xhg_NoRow : PySem.W.findIn K (.ref ac_NoRow) "__getattribute__" = some (some (.builtin "BaseException.__getattribute__")))
    (xhk_NoRow : PySem.W.findIn K (.ref ac_NoRow) "__getattr__" = some none)
    (xha_NoRow : PySem.W.findIn K (.ref ac_NoRow) "__class__" = some (some (.builtin "object.__class__")))
    (xii_NoRow : PySem.W.findIn K (.ref ac_NoRow) "__init__" = some (some (.ref ai_NoRow)))
    (xex_NoRow : PySem.W.subIn K (.ref ac_NoRow) (.type "BaseException") = some true)
    (xty_NoRow : PySem.W.typeIn K (.ref ac_NoRow) = some (.type "type"))
    (xk_NoRow : PySem.W.keepIn K (.ref ac_NoRow) = true)
    (xhd_NoRow : PySem.W.hasDictIn K ac_NoRow = true)
    (xhm_NoRow : PySem.W.mroIn K ac_NoRow (.type "object") = some true)
    (xti_NoRow : PySem.W.typeIn K (.ref ai_NoRow) = some (.type "function"))
    (xkv_NoRow : PySem.W.subIn K (.ref ac_NoRow) (.type "ValueError") = some true)
    (xn_NoRow_found : PySem.W.findIn K (.ref ac_NoRow) "found" = some none)
    (xil_NoRow : K.lookup ai_NoRow = some ⟨oc_NoRow_i, od_NoRow_i, .func (PySem.W.fnOf "__init__" "NoRow.__init__" (defArgs s_NoRow_init) (defBody s_NoRow_init) (defScope s_NoRow_init) .none kV_NoRow_i dc_NoRow_i pm_NoRow_i an_NoRow_i cd_NoRow_i ct_NoRow_i), sl_NoRow_i⟩)
    (xic_NoRow : PySem.W.codeIn K cd_NoRow_i "NoRow.__init__" = true)
    (xik_NoRow : PySem.W.keepIn K (.ref ai_NoRow) = true)
    {ac_NoProgram ai_NoProgram N_NoProgram : Addr} {nm_NoProgram q_NoProgram : Str} {bs_NoProgram bm_NoProgram : List Value} {sn_NoProgram : List Str} {sub_NoProgram : List Value} {ab_NoProgram : Bool} {col_NoProgram : Option Bool} {dd_NoProgram : Option Addr} {k0_NoProgram k1_NoProgram k2_NoProgram k3_NoProgram k5_NoProgram : Option Value}
    {oc_NoProgram_i kV_NoProgram_i dc_NoProgram_i pm_NoProgram_i cd_NoProgram_i ct_NoProgram_i : Value} {od_NoProgram_i an_NoProgram_i : Option Addr} {sl_NoProgram_i : Array (Option Value)}
    (v_NoProgram : PySem.W.nsIn K mainGlobals "NoProgram" = some (some (.ref ac_NoProgram)))
    (xl_NoProgram : K.lookup ac_NoProgram = some (excClassObj nm_NoProgram q_NoProgram ac_NoProgram N_NoProgram bs_NoProgram bm_NoProgram true sn_NoProgram sub_NoProgram ab_NoProgram col_NoProgram dd_NoProgram k0_NoProgram k1_NoProgram k2_NoProgram k3_NoProgram k5_NoProgram "ValueError.__new__"))
    (xr_NoProgram : PySem.HandSPX.refsVE bm_NoProgram = true)
    (xsa_NoProgram : PySem.W.findIn K (.ref ac_NoProgram) "__setattr__" = some (some (.builtin "object.__setattr__")))
    (xhg_NoProgram : PySem.W.findIn K (.ref ac_NoProgram) "__getattribute__" = some (some (.builtin "BaseException.__getattribute__")))
    (xhk_NoProgram : PySem.W.findIn K (.ref ac_NoProgram) "__getattr__" = some none)
    (xha_NoProgram : PySem.W.findIn K (.ref ac_NoProgram) "__class__" = some (some (.builtin "object.__class__")))
    (xii_NoProgram : PySem.W.findIn K (.ref ac_NoProgram) "__init__" = some (some (.ref ai_NoProgram)))
    (xex_NoProgram : PySem.W.subIn K (.ref ac_NoProgram) (.type "BaseException") = some true)
    (xty_NoProgram : PySem.W.typeIn K (.ref ac_NoProgram) = some (.type "type"))
    (xk_NoProgram : PySem.W.keepIn K (.ref ac_NoProgram) = true)
    (xhd_NoProgram : PySem.W.hasDictIn K ac_NoProgram = true)
    (xhm_NoProgram : PySem.W.mroIn K ac_NoProgram (.type "object") = some true)
    (xti_NoProgram : PySem.W.typeIn K (.ref ai_NoProgram) = some (.type "function"))
    (xkv_NoProgram : PySem.W.subIn K (.ref ac_NoProgram) (.type "ValueError") = some true)
    (xn_NoProgram_line : PySem.W.findIn K (.ref ac_NoProgram) "line" = some none)
    (xn_NoProgram_at : PySem.W.findIn K (.ref ac_NoProgram) "at" = some none)
    (xil_NoProgram : K.lookup ai_NoProgram = some ⟨oc_NoProgram_i, od_NoProgram_i, .func (PySem.W.fnOf "__init__" "NoProgram.__init__" (defArgs s_NoProgram_init) (defBody s_NoProgram_init) (defScope s_NoProgram_init) .none kV_NoProgram_i dc_NoProgram_i pm_NoProgram_i an_NoProgram_i cd_NoProgram_i ct_NoProgram_i), sl_NoProgram_i⟩)
    (xic_NoProgram : PySem.W.codeIn K cd_NoProgram_i "NoProgram.__init__" = true)
    (xik_NoProgram : PySem.W.keepIn K (.ref ai_NoProgram) = true)
    {ac_Twice ai_Twice N_Twice : Addr} {nm_Twice q_Twice : Str} {bs_Twice bm_Twice : List Value} {sn_Twice : List Str} {sub_Twice : List Value} {ab_Twice : Bool} {col_Twice : Option Bool} {dd_Twice : Option Addr} {k0_Twice k1_Twice k2_Twice k3_Twice k5_Twice : Option Value}
    {oc_Twice_i kV_Twice_i dc_Twice_i pm_Twice_i cd_Twice_i ct_Twice_i : Value} {od_Twice_i an_Twice_i : Option Addr} {sl_Twice_i : Array (Option Value)}
    (v_Twice : PySem.W.nsIn K mainGlobals "Twice" = some (some (.ref ac_Twice)))
    (xl_Twice : K.lookup ac_Twice = some (excClassObj nm_Twice q_Twice ac_Twice N_Twice bs_Twice bm_Twice true sn_Twice sub_Twice ab_Twice col_Twice dd_Twice k0_Twice k1_Twice k2_Twice k3_Twice k5_Twice "ValueError.__new__"))
    (xr_Twice : PySem.HandSPX.refsVE bm_Twice = true)
    (xsa_Twice : PySem.W.findIn K (.ref ac_Twice) "__setattr__" = some (some (.builtin "object.__setattr__")))
    (xhg_Twice : PySem.W.findIn K (.ref ac_Twice) "__getattribute__" = some (some (.builtin "BaseException.__getattribute__")))
    (xhk_Twice : PySem.W.findIn K (.ref ac_Twice) "__getattr__" = some none)
    (xha_Twice : PySem.W.findIn K (.ref ac_Twice) "__class__" = some (some (.builtin "object.__class__")))
    (xii_Twice : PySem.W.findIn K (.ref ac_Twice) "__init__" = some (some (.ref ai_Twice)))
    (xex_Twice : PySem.W.subIn K (.ref ac_Twice) (.type "BaseException") = some true)
    (xty_Twice : PySem.W.typeIn K (.ref ac_Twice) = some (.type "type"))
    (xk_Twice : PySem.W.keepIn K (.ref ac_Twice) = true)
    (xhd_Twice : PySem.W.hasDictIn K ac_Twice = true)
    (xhm_Twice : PySem.W.mroIn K ac_Twice (.type "object") = some true)
    (xti_Twice : PySem.W.typeIn K (.ref ai_Twice) = some (.type "function"))
    (xkv_Twice : PySem.W.subIn K (.ref ac_Twice) (.type "ValueError") = some true)
    (xn_Twice_name : PySem.W.findIn K (.ref ac_Twice) "name" = some none)
    (xil_Twice : K.lookup ai_Twice = some ⟨oc_Twice_i, od_Twice_i, .func (PySem.W.fnOf "__init__" "Twice.__init__" (defArgs s_Twice_init) (defBody s_Twice_init) (defScope s_Twice_init) .none kV_Twice_i dc_Twice_i pm_Twice_i an_Twice_i cd_Twice_i ct_Twice_i), sl_Twice_i⟩)
    (xic_Twice : PySem.W.codeIn K cd_Twice_i "Twice.__init__" = true)
    (xik_Twice : PySem.W.keepIn K (.ref ai_Twice) = true)
    {ac_NoUnknown ai_NoUnknown N_NoUnknown : Addr} {nm_NoUnknown q_NoUnknown : Str} {bs_NoUnknown bm_NoUnknown : List Value} {sn_NoUnknown : List Str} {sub_NoUnknown : List Value} {ab_NoUnknown : Bool} {col_NoUnknown : Option Bool} {dd_NoUnknown : Option Addr} {k0_NoUnknown k1_NoUnknown k2_NoUnknown k3_NoUnknown k5_NoUnknown : Option Value}
    {oc_NoUnknown_i kV_NoUnknown_i dc_NoUnknown_i pm_NoUnknown_i cd_NoUnknown_i ct_NoUnknown_i : Value} {od_NoUnknown_i an_NoUnknown_i : Option Addr} {sl_NoUnknown_i : Array (Option Value)}
    (v_NoUnknown : PySem.W.nsIn K mainGlobals "NoUnknown" = some (some (.ref ac_NoUnknown)))
    (xl_NoUnknown : K.lookup ac_NoUnknown = some (excClassObj nm_NoUnknown q_NoUnknown ac_NoUnknown N_NoUnknown bs_NoUnknown bm_NoUnknown true sn_NoUnknown sub_NoUnknown ab_NoUnknown col_NoUnknown dd_NoUnknown k0_NoUnknown k1_NoUnknown k2_NoUnknown k3_NoUnknown k5_NoUnknown "ValueError.__new__"))
    (xr_NoUnknown : PySem.HandSPX.refsVE bm_NoUnknown = true)
    (xsa_NoUnknown : PySem.W.findIn K (.ref ac_NoUnknown) "__setattr__" = some (some (.builtin "object.__setattr__")))
    (xhg_NoUnknown : PySem.W.findIn K (.ref ac_NoUnknown) "__getattribute__" = some (some (.builtin "BaseException.__getattribute__")))
    (xhk_NoUnknown : PySem.W.findIn K (.ref ac_NoUnknown) "__getattr__" = some none)
    (xha_NoUnknown : PySem.W.findIn K (.ref ac_NoUnknown) "__class__" = some (some (.builtin "object.__class__")))
    (xii_NoUnknown : PySem.W.findIn K (.ref ac_NoUnknown) "__init__" = some (some (.ref ai_NoUnknown)))
    (xex_NoUnknown : PySem.W.subIn K (.ref ac_NoUnknown) (.type "BaseException") = some true)
    (xty_NoUnknown : PySem.W.typeIn K (.ref ac_NoUnknown) = some (.type "type"))
    (xk_NoUnknown : PySem.W.keepIn K (.ref ac_NoUnknown) = true)
    (xhd_NoUnknown : PySem.W.hasDictIn K ac_NoUnknown = true)
    (xhm_NoUnknown : PySem.W.mroIn K ac_NoUnknown (.type "object") = some true)
    (xti_NoUnknown : PySem.W.typeIn K (.ref ai_NoUnknown) = some (.type "function"))
    (xkv_NoUnknown : PySem.W.subIn K (.ref ac_NoUnknown) (.type "ValueError") = some true)
    (xn_NoUnknown_name : PySem.W.findIn K (.ref ac_NoUnknown) "name" = some none)
    (xil_NoUnknown : K.lookup ai_NoUnknown = some ⟨oc_NoUnknown_i, od_NoUnknown_i, .func (PySem.W.fnOf "__init__" "NoUnknown.__init__" (defArgs s_NoUnknown_init) (defBody s_NoUnknown_init) (defScope s_NoUnknown_init) .none kV_NoUnknown_i dc_NoUnknown_i pm_NoUnknown_i an_NoUnknown_i cd_NoUnknown_i ct_NoUnknown_i), sl_NoUnknown_i⟩)
    (xic_NoUnknown : PySem.W.codeIn K cd_NoUnknown_i "NoUnknown.__init__" = true)
    (xik_NoUnknown : PySem.W.keepIn K (.ref ai_NoUnknown) = true)
    {ac_NoRelation ai_NoRelation N_NoRelation : Addr} {nm_NoRelation q_NoRelation : Str} {bs_NoRelation bm_NoRelation : List Value} {sn_NoRelation : List Str} {sub_NoRelation : List Value} {ab_NoRelation : Bool} {col_NoRelation : Option Bool} {dd_NoRelation : Option Addr} {k0_NoRelation k1_NoRelation k2_NoRelation k3_NoRelation k5_NoRelation : Option Value}
    {oc_NoRelation_i kV_NoRelation_i dc_NoRelation_i pm_NoRelation_i cd_NoRelation_i ct_NoRelation_i : Value} {od_NoRelation_i an_NoRelation_i : Option Addr} {sl_NoRelation_i : Array (Option Value)}
    (v_NoRelation : PySem.W.nsIn K mainGlobals "NoRelation" = some (some (.ref ac_NoRelation)))
    (xl_NoRelation : K.lookup ac_NoRelation = some (excClassObj nm_NoRelation q_NoRelation ac_NoRelation N_NoRelation bs_NoRelation bm_NoRelation true sn_NoRelation sub_NoRelation ab_NoRelation col_NoRelation dd_NoRelation k0_NoRelation k1_NoRelation k2_NoRelation k3_NoRelation k5_NoRelation "ValueError.__new__"))
    (xr_NoRelation : PySem.HandSPX.refsVE bm_NoRelation = true)
    (xsa_NoRelation : PySem.W.findIn K (.ref ac_NoRelation) "__setattr__" = some (some (.builtin "object.__setattr__")))
    (xhg_NoRelation : PySem.W.findIn K (.ref ac_NoRelation) "__getattribute__" = some (some (.builtin "BaseException.__getattribute__")))
    (xhk_NoRelation : PySem.W.findIn K (.ref ac_NoRelation) "__getattr__" = some none)
    (xha_NoRelation : PySem.W.findIn K (.ref ac_NoRelation) "__class__" = some (some (.builtin "object.__class__")))
    (xii_NoRelation : PySem.W.findIn K (.ref ac_NoRelation) "__init__" = some (some (.ref ai_NoRelation)))
    (xex_NoRelation : PySem.W.subIn K (.ref ac_NoRelation) (.type "BaseException") = some true)
    (xty_NoRelation : PySem.W.typeIn K (.ref ac_NoRelation) = some (.type "type"))
    (xk_NoRelation : PySem.W.keepIn K (.ref ac_NoRelation) = true)
    (xhd_NoRelation : PySem.W.hasDictIn K ac_NoRelation = true)
    (xhm_NoRelation : PySem.W.mroIn K ac_NoRelation (.type "object") = some true)
    (xti_NoRelation : PySem.W.typeIn K (.ref ai_NoRelation) = some (.type "function"))
    (xkv_NoRelation : PySem.W.subIn K (.ref ac_NoRelation) (.type "ValueError") = some true)
    (xn_NoRelation_name : PySem.W.findIn K (.ref ac_NoRelation) "name" = some none)
    (xil_NoRelation : K.lookup ai_NoRelation = some ⟨oc_NoRelation_i, od_NoRelation_i, .func (PySem.W.fnOf "__init__" "NoRelation.__init__" (defArgs s_NoRelation_init) (defBody s_NoRelation_init) (defScope s_NoRelation_init) .none kV_NoRelation_i dc_NoRelation_i pm_NoRelation_i an_NoRelation_i cd_NoRelation_i ct_NoRelation_i), sl_NoRelation_i⟩)
    (xic_NoRelation : PySem.W.codeIn K cd_NoRelation_i "NoRelation.__init__" = true)
    (xik_NoRelation : PySem.W.keepIn K (.ref ai_NoRelation) = true)
    {ac_NoMany ai_NoMany N_NoMany : Addr} {nm_NoMany q_NoMany : Str} {bs_NoMany bm_NoMany : List Value} {sn_NoMany : List Str} {sub_NoMany : List Value} {ab_NoMany : Bool} {col_NoMany : Option Bool} {dd_NoMany : Option Addr} {k0_NoMany k1_NoMany k2_NoMany k3_NoMany k5_NoMany : Option Value}
    {oc_NoMany_i kV_NoMany_i dc_NoMany_i pm_NoMany_i cd_NoMany_i ct_NoMany_i : Value} {od_NoMany_i an_NoMany_i : Option Addr} {sl_NoMany_i : Array (Option Value)}
    (v_NoMany : PySem.W.nsIn K mainGlobals "NoMany" = some (some (.ref ac_NoMany)))
    (xl_NoMany : K.lookup ac_NoMany = some (excClassObj nm_NoMany q_NoMany ac_NoMany N_NoMany bs_NoMany bm_NoMany true sn_NoMany sub_NoMany ab_NoMany col_NoMany dd_NoMany k0_NoMany k1_NoMany k2_NoMany k3_NoMany k5_NoMany "ValueError.__new__"))
    (xr_NoMany : PySem.HandSPX.refsVE bm_NoMany = true)
    (xsa_NoMany : PySem.W.findIn K (.ref ac_NoMany) "__setattr__" = some (some (.builtin "object.__setattr__")))
    (xhg_NoMany : PySem.W.findIn K (.ref ac_NoMany) "__getattribute__" = some (some (.builtin "BaseException.__getattribute__")))
    (xhk_NoMany : PySem.W.findIn K (.ref ac_NoMany) "__getattr__" = some none)
    (xha_NoMany : PySem.W.findIn K (.ref ac_NoMany) "__class__" = some (some (.builtin "object.__class__")))
    (xii_NoMany : PySem.W.findIn K (.ref ac_NoMany) "__init__" = some (some (.ref ai_NoMany)))
    (xex_NoMany : PySem.W.subIn K (.ref ac_NoMany) (.type "BaseException") = some true)
    (xty_NoMany : PySem.W.typeIn K (.ref ac_NoMany) = some (.type "type"))
    (xk_NoMany : PySem.W.keepIn K (.ref ac_NoMany) = true)
    (xhd_NoMany : PySem.W.hasDictIn K ac_NoMany = true)
    (xhm_NoMany : PySem.W.mroIn K ac_NoMany (.type "object") = some true)
    (xti_NoMany : PySem.W.typeIn K (.ref ai_NoMany) = some (.type "function"))
    (xkv_NoMany : PySem.W.subIn K (.ref ac_NoMany) (.type "ValueError") = some true)
    (xn_NoMany_name : PySem.W.findIn K (.ref ac_NoMany) "name" = some none)
    (xn_NoMany_many : PySem.W.findIn K (.ref ac_NoMany) "many" = some none)
    (xil_NoMany : K.lookup ai_NoMany = some ⟨oc_NoMany_i, od_NoMany_i, .func (PySem.W.fnOf "__init__" "NoMany.__init__" (defArgs s_NoMany_init) (defBody s_NoMany_init) (defScope s_NoMany_init) .none kV_NoMany_i dc_NoMany_i pm_NoMany_i an_NoMany_i cd_NoMany_i ct_NoMany_i), sl_NoMany_i⟩)
    (xic_NoMany : PySem.W.codeIn K cd_NoMany_i "NoMany.__init__" = true)
    (xik_NoMany : PySem.W.keepIn K (.ref ai_NoMany) = true)
    {ac_NoQuestion ai_NoQuestion N_NoQuestion : Addr} {nm_NoQuestion q_NoQuestion : Str} {bs_NoQuestion bm_NoQuestion : List Value} {sn_NoQuestion : List Str} {sub_NoQuestion : List Value} {ab_NoQuestion : Bool} {col_NoQuestion : Option Bool} {dd_NoQuestion : Option Addr} {k0_NoQuestion k1_NoQuestion k2_NoQuestion k3_NoQuestion k5_NoQuestion : Option Value}
    {oc_NoQuestion_i kV_NoQuestion_i dc_NoQuestion_i pm_NoQuestion_i cd_NoQuestion_i ct_NoQuestion_i : Value} {od_NoQuestion_i an_NoQuestion_i : Option Addr} {sl_NoQuestion_i : Array (Option Value)}
    (v_NoQuestion : PySem.W.nsIn K mainGlobals "NoQuestion" = some (some (.ref ac_NoQuestion)))
    (xl_NoQuestion : K.lookup ac_NoQuestion = some (excClassObj nm_NoQuestion q_NoQuestion ac_NoQuestion N_NoQuestion bs_NoQuestion bm_NoQuestion true sn_NoQuestion sub_NoQuestion ab_NoQuestion col_NoQuestion dd_NoQuestion k0_NoQuestion k1_NoQuestion k2_NoQuestion k3_NoQuestion k5_NoQuestion "ValueError.__new__"))
    (xr_NoQuestion : PySem.HandSPX.refsVE bm_NoQuestion = true)
    (xsa_NoQuestion : PySem.W.findIn K (.ref ac_NoQuestion) "__setattr__" = some (some (.builtin "object.__setattr__")))
    (xhg_NoQuestion : PySem.W.findIn K (.ref ac_NoQuestion) "__getattribute__" = some (some (.builtin "BaseException.__getattribute__")))
    (xhk_NoQuestion : PySem.W.findIn K (.ref ac_NoQuestion) "__getattr__" = some none)
    (xha_NoQuestion : PySem.W.findIn K (.ref ac_NoQuestion) "__class__" = some (some (.builtin "object.__class__")))
    (xii_NoQuestion : PySem.W.findIn K (.ref ac_NoQuestion) "__init__" = some (some (.ref ai_NoQuestion)))
    (xex_NoQuestion : PySem.W.subIn K (.ref ac_NoQuestion) (.type "BaseException") = some true)
    (xty_NoQuestion : PySem.W.typeIn K (.ref ac_NoQuestion) = some (.type "type"))
    (xk_NoQuestion : PySem.W.keepIn K (.ref ac_NoQuestion) = true)
    (xhd_NoQuestion : PySem.W.hasDictIn K ac_NoQuestion = true)
    (xhm_NoQuestion : PySem.W.mroIn K ac_NoQuestion (.type "object") = some true)
    (xti_NoQuestion : PySem.W.typeIn K (.ref ai_NoQuestion) = some (.type "function"))
    (xkv_NoQuestion : PySem.W.subIn K (.ref ac_NoQuestion) (.type "ValueError") = some true)
    (xn_NoQuestion_found : PySem.W.findIn K (.ref ac_NoQuestion) "found" = some none)
    (xil_NoQuestion : K.lookup ai_NoQuestion = some ⟨oc_NoQuestion_i, od_NoQuestion_i, .func (PySem.W.fnOf "__init__" "NoQuestion.__init__" (defArgs s_NoQuestion_init) (defBody s_NoQuestion_init) (defScope s_NoQuestion_init) .none kV_NoQuestion_i dc_NoQuestion_i pm_NoQuestion_i an_NoQuestion_i cd_NoQuestion_i ct_NoQuestion_i), sl_NoQuestion_i⟩)
    (xic_NoQuestion : PySem.W.codeIn K cd_NoQuestion_i "NoQuestion.__init__" = true)
    (xik_NoQuestion : PySem.W.keepIn K (.ref ai_NoQuestion) = true)
    {ac_NoForm ai_NoForm N_NoForm : Addr} {nm_NoForm q_NoForm : Str} {bs_NoForm bm_NoForm : List Value} {sn_NoForm : List Str} {sub_NoForm : List Value} {ab_NoForm : Bool} {col_NoForm : Option Bool} {dd_NoForm : Option Addr} {k0_NoForm k1_NoForm k2_NoForm k3_NoForm k5_NoForm : Option Value}
    {oc_NoForm_i kV_NoForm_i dc_NoForm_i pm_NoForm_i cd_NoForm_i ct_NoForm_i : Value} {od_NoForm_i an_NoForm_i : Option Addr} {sl_NoForm_i : Array (Option Value)}
    (v_NoForm : PySem.W.nsIn K mainGlobals "NoForm" = some (some (.ref ac_NoForm)))
    (xl_NoForm : K.lookup ac_NoForm = some (excClassObj nm_NoForm q_NoForm ac_NoForm N_NoForm bs_NoForm bm_NoForm true sn_NoForm sub_NoForm ab_NoForm col_NoForm dd_NoForm k0_NoForm k1_NoForm k2_NoForm k3_NoForm k5_NoForm "ValueError.__new__"))
    (xr_NoForm : PySem.HandSPX.refsVE bm_NoForm = true)
    (xsa_NoForm : PySem.W.findIn K (.ref ac_NoForm) "__setattr__" = some (some (.builtin "object.__setattr__")))
    (xhg_NoForm : PySem.W.findIn K (.ref ac_NoForm) "__getattribute__" = some (some (.builtin "BaseException.__getattribute__")))
    (xhk_NoForm : PySem.W.findIn K (.ref ac_NoForm) "__getattr__" = some none)
    (xha_NoForm : PySem.W.findIn K (.ref ac_NoForm) "__class__" = some (some (.builtin "object.__class__")))
    (xii_NoForm : PySem.W.findIn K (.ref ac_NoForm) "__init__" = some (some (.ref ai_NoForm)))
    (xex_NoForm : PySem.W.subIn K (.ref ac_NoForm) (.type "BaseException") = some true)
    (xty_NoForm : PySem.W.typeIn K (.ref ac_NoForm) = some (.type "type"))
    (xk_NoForm : PySem.W.keepIn K (.ref ac_NoForm) = true)
    (xhd_NoForm : PySem.W.hasDictIn K ac_NoForm = true)
    (xhm_NoForm : PySem.W.mroIn K ac_NoForm (.type "object") = some true)
    (xti_NoForm : PySem.W.typeIn K (.ref ai_NoForm) = some (.type "function"))
    (xkv_NoForm : PySem.W.subIn K (.ref ac_NoForm) (.type "ValueError") = some true)
    (xn_NoForm_found : PySem.W.findIn K (.ref ac_NoForm) "found" = some none)
    (xil_NoForm : K.lookup ai_NoForm = some ⟨oc_NoForm_i, od_NoForm_i, .func (PySem.W.fnOf "__init__" "NoForm.__init__" (defArgs s_NoForm_init) (defBody s_NoForm_init) (defScope s_NoForm_init) .none kV_NoForm_i dc_NoForm_i pm_NoForm_i an_NoForm_i cd_NoForm_i ct_NoForm_i), sl_NoForm_i⟩)
    (xic_NoForm : PySem.W.codeIn K cd_NoForm_i "NoForm.__init__" = true)
    (xik_NoForm : PySem.W.keepIn K (.ref ai_NoForm) = true)
    {ac_NoPaper ai_NoPaper N_NoPaper : Addr} {nm_NoPaper q_NoPaper : Str} {bs_NoPaper bm_NoPaper : List Value} {sn_NoPaper : List Str} {sub_NoPaper : List Value} {ab_NoPaper : Bool} {col_NoPaper : Option Bool} {dd_NoPaper : Option Addr} {k0_NoPaper k1_NoPaper k2_NoPaper k3_NoPaper k5_NoPaper : Option Value}
    {oc_NoPaper_i kV_NoPaper_i dc_NoPaper_i pm_NoPaper_i cd_NoPaper_i ct_NoPaper_i : Value} {od_NoPaper_i an_NoPaper_i : Option Addr} {sl_NoPaper_i : Array (Option Value)}
    (v_NoPaper : PySem.W.nsIn K mainGlobals "NoPaper" = some (some (.ref ac_NoPaper)))
    (xl_NoPaper : K.lookup ac_NoPaper = some (excClassObj nm_NoPaper q_NoPaper ac_NoPaper N_NoPaper bs_NoPaper bm_NoPaper true sn_NoPaper sub_NoPaper ab_NoPaper col_NoPaper dd_NoPaper k0_NoPaper k1_NoPaper k2_NoPaper k3_NoPaper k5_NoPaper "ValueError.__new__"))
    (xr_NoPaper : PySem.HandSPX.refsVE bm_NoPaper = true)
    (xsa_NoPaper : PySem.W.findIn K (.ref ac_NoPaper) "__setattr__" = some (some (.builtin "object.__setattr__")))
    (xhg_NoPaper : PySem.W.findIn K (.ref ac_NoPaper) "__getattribute__" = some (some (.builtin "BaseException.__getattribute__")))
    (xhk_NoPaper : PySem.W.findIn K (.ref ac_NoPaper) "__getattr__" = some none)
    (xha_NoPaper : PySem.W.findIn K (.ref ac_NoPaper) "__class__" = some (some (.builtin "object.__class__")))
    (xii_NoPaper : PySem.W.findIn K (.ref ac_NoPaper) "__init__" = some (some (.ref ai_NoPaper)))
    (xex_NoPaper : PySem.W.subIn K (.ref ac_NoPaper) (.type "BaseException") = some true)
    (xty_NoPaper : PySem.W.typeIn K (.ref ac_NoPaper) = some (.type "type"))
    (xk_NoPaper : PySem.W.keepIn K (.ref ac_NoPaper) = true)
    (xhd_NoPaper : PySem.W.hasDictIn K ac_NoPaper = true)
    (xhm_NoPaper : PySem.W.mroIn K ac_NoPaper (.type "object") = some true)
    (xti_NoPaper : PySem.W.typeIn K (.ref ai_NoPaper) = some (.type "function"))
    (xkv_NoPaper : PySem.W.subIn K (.ref ac_NoPaper) (.type "ValueError") = some true)
    (xn_NoPaper_found : PySem.W.findIn K (.ref ac_NoPaper) "found" = some none)
    (xil_NoPaper : K.lookup ai_NoPaper = some ⟨oc_NoPaper_i, od_NoPaper_i, .func (PySem.W.fnOf "__init__" "NoPaper.__init__" (defArgs s_NoPaper_init) (defBody s_NoPaper_init) (defScope s_NoPaper_init) .none kV_NoPaper_i dc_NoPaper_i pm_NoPaper_i an_NoPaper_i cd_NoPaper_i ct_NoPaper_i), sl_NoPaper_i⟩)
    (xic_NoPaper : PySem.W.codeIn K cd_NoPaper_i "NoPaper.__init__" = true)
    (xik_NoPaper : PySem.W.keepIn K (.ref ai_NoPaper) = true)
    {ac_TooGreat ai_TooGreat N_TooGreat : Addr} {nm_TooGreat q_TooGreat : Str} {bs_TooGreat bm_TooGreat : List Value} {sn_TooGreat : List Str} {sub_TooGreat : List Value} {ab_TooGreat : Bool} {col_TooGreat : Option Bool} {dd_TooGreat : Option Addr} {k0_TooGreat k1_TooGreat k2_TooGreat k3_TooGreat k5_TooGreat : Option Value}
    {oc_TooGreat_i kV_TooGreat_i dc_TooGreat_i pm_TooGreat_i cd_TooGreat_i ct_TooGreat_i : Value} {od_TooGreat_i an_TooGreat_i : Option Addr} {sl_TooGreat_i : Array (Option Value)}
    (v_TooGreat : PySem.W.nsIn K mainGlobals "TooGreat" = some (some (.ref ac_TooGreat)))
    (xl_TooGreat : K.lookup ac_TooGreat = some (excClassObj nm_TooGreat q_TooGreat ac_TooGreat N_TooGreat bs_TooGreat bm_TooGreat true sn_TooGreat sub_TooGreat ab_TooGreat col_TooGreat dd_TooGreat k0_TooGreat k1_TooGreat k2_TooGreat k3_TooGreat k5_TooGreat "ValueError.__new__"))
    (xr_TooGreat : PySem.HandSPX.refsVE bm_TooGreat = true)
    (xsa_TooGreat : PySem.W.findIn K (.ref ac_TooGreat) "__setattr__" = some (some (.builtin "object.__setattr__")))
    (xhg_TooGreat : PySem.W.findIn K (.ref ac_TooGreat) "__getattribute__" = some (some (.builtin "BaseException.__getattribute__")))
    (xhk_TooGreat : PySem.W.findIn K (.ref ac_TooGreat) "__getattr__" = some none)
    (xha_TooGreat : PySem.W.findIn K (.ref ac_TooGreat) "__class__" = some (some (.builtin "object.__class__")))
    (xii_TooGreat : PySem.W.findIn K (.ref ac_TooGreat) "__init__" = some (some (.ref ai_TooGreat)))
    (xex_TooGreat : PySem.W.subIn K (.ref ac_TooGreat) (.type "BaseException") = some true)
    (xty_TooGreat : PySem.W.typeIn K (.ref ac_TooGreat) = some (.type "type"))
    (xk_TooGreat : PySem.W.keepIn K (.ref ac_TooGreat) = true)
    (xhd_TooGreat : PySem.W.hasDictIn K ac_TooGreat = true)
    (xhm_TooGreat : PySem.W.mroIn K ac_TooGreat (.type "object") = some true)
    (xti_TooGreat : PySem.W.typeIn K (.ref ai_TooGreat) = some (.type "function"))
    (xkv_TooGreat : PySem.W.subIn K (.ref ac_TooGreat) (.type "ValueError") = some true)
    (xn_TooGreat_parts : PySem.W.findIn K (.ref ac_TooGreat) "parts" = some none)
    (xil_TooGreat : K.lookup ai_TooGreat = some ⟨oc_TooGreat_i, od_TooGreat_i, .func (PySem.W.fnOf "__init__" "TooGreat.__init__" (defArgs s_TooGreat_init) (defBody s_TooGreat_init) (defScope s_TooGreat_init) .none kV_TooGreat_i dc_TooGreat_i pm_TooGreat_i an_TooGreat_i cd_TooGreat_i ct_TooGreat_i), sl_TooGreat_i⟩)
    (xic_TooGreat : PySem.W.codeIn K cd_TooGreat_i "TooGreat.__init__" = true)
    (xik_TooGreat : PySem.W.keepIn K (.ref ai_TooGreat) = true)
    {ac_TooMany ai_TooMany N_TooMany : Addr} {nm_TooMany q_TooMany : Str} {bs_TooMany bm_TooMany : List Value} {sn_TooMany : List Str} {sub_TooMany : List Value} {ab_TooMany : Bool} {col_TooMany : Option Bool} {dd_TooMany : Option Addr} {k0_TooMany k1_TooMany k2_TooMany k3_TooMany k5_TooMany : Option Value}
    {oc_TooMany_i kV_TooMany_i dc_TooMany_i pm_TooMany_i cd_TooMany_i ct_TooMany_i : Value} {od_TooMany_i an_TooMany_i : Option Addr} {sl_TooMany_i : Array (Option Value)}
    (v_TooMany : PySem.W.nsIn K mainGlobals "TooMany" = some (some (.ref ac_TooMany)))
    (xl_TooMany : K.lookup ac_TooMany = some (excClassObj nm_TooMany q_TooMany ac_TooMany N_TooMany bs_TooMany bm_TooMany true sn_TooMany sub_TooMany ab_TooMany col_TooMany dd_TooMany k0_TooMany k1_TooMany k2_TooMany k3_TooMany k5_TooMany "ValueError.__new__"))
    (xr_TooMany : PySem.HandSPX.refsVE bm_TooMany = true)
    (xsa_TooMany : PySem.W.findIn K (.ref ac_TooMany) "__setattr__" = some (some (.builtin "object.__setattr__")))
    (xhg_TooMany : PySem.W.findIn K (.ref ac_TooMany) "__getattribute__" = some (some (.builtin "BaseException.__getattribute__")))
    (xhk_TooMany : PySem.W.findIn K (.ref ac_TooMany) "__getattr__" = some none)
    (xha_TooMany : PySem.W.findIn K (.ref ac_TooMany) "__class__" = some (some (.builtin "object.__class__")))
    (xii_TooMany : PySem.W.findIn K (.ref ac_TooMany) "__init__" = some (some (.ref ai_TooMany)))
    (xex_TooMany : PySem.W.subIn K (.ref ac_TooMany) (.type "BaseException") = some true)
    (xty_TooMany : PySem.W.typeIn K (.ref ac_TooMany) = some (.type "type"))
    (xk_TooMany : PySem.W.keepIn K (.ref ac_TooMany) = true)
    (xhd_TooMany : PySem.W.hasDictIn K ac_TooMany = true)
    (xhm_TooMany : PySem.W.mroIn K ac_TooMany (.type "object") = some true)
    (xti_TooMany : PySem.W.typeIn K (.ref ai_TooMany) = some (.type "function"))
    (xkv_TooMany : PySem.W.subIn K (.ref ac_TooMany) (.type "ValueError") = some true)
    (xn_TooMany_many : PySem.W.findIn K (.ref ac_TooMany) "many" = some none)
    (xil_TooMany : K.lookup ai_TooMany = some ⟨oc_TooMany_i, od_TooMany_i, .func (PySem.W.fnOf "__init__" "TooMany.__init__" (defArgs s_TooMany_init) (defBody s_TooMany_init) (defScope s_TooMany_init) .none kV_TooMany_i dc_TooMany_i pm_TooMany_i an_TooMany_i cd_TooMany_i ct_TooMany_i), sl_TooMany_i⟩)
    (xic_TooMany : PySem.W.codeIn K cd_TooMany_i "TooMany.__init__" = true)
    (xik_TooMany : PySem.W.keepIn K (.ref ai_TooMany) = true)
    {ac_NoOrder ai_NoOrder N_NoOrder : Addr} {nm_NoOrder q_NoOrder : Str} {bs_NoOrder bm_NoOrder : List Value} {sn_NoOrder : List Str} {sub_NoOrder : List Value} {ab_NoOrder : Bool} {col_NoOrder : Option Bool} {dd_NoOrder : Option Addr} {k0_NoOrder k1_NoOrder k2_NoOrder k3_NoOrder k5_NoOrder : Option Value}
    {oc_NoOrder_i kV_NoOrder_i dc_NoOrder_i pm_NoOrder_i cd_NoOrder_i ct_NoOrder_i : Value} {od_NoOrder_i an_NoOrder_i : Option Addr} {sl_NoOrder_i : Array (Option Value)}
    (v_NoOrder : PySem.W.nsIn K mainGlobals "NoOrder" = some (some (.ref ac_NoOrder)))
    (xl_NoOrder : K.lookup ac_NoOrder = some (excClassObj nm_NoOrder q_NoOrder ac_NoOrder N_NoOrder bs_NoOrder bm_NoOrder true sn_NoOrder sub_NoOrder ab_NoOrder col_NoOrder dd_NoOrder k0_NoOrder k1_NoOrder k2_NoOrder k3_NoOrder k5_NoOrder "ValueError.__new__"))
    (xr_NoOrder : PySem.HandSPX.refsVE bm_NoOrder = true)
    (xsa_NoOrder : PySem.W.findIn K (.ref ac_NoOrder) "__setattr__" = some (some (.builtin "object.__setattr__")))
    (xhg_NoOrder : PySem.W.findIn K (.ref ac_NoOrder) "__getattribute__" = some (some (.builtin "BaseException.__getattribute__")))
    (xhk_NoOrder : PySem.W.findIn K (.ref ac_NoOrder) "__getattr__" = some none)
    (xha_NoOrder : PySem.W.findIn K (.ref ac_NoOrder) "__class__" = some (some (.builtin "object.__class__")))
    (xii_NoOrder : PySem.W.findIn K (.ref ac_NoOrder) "__init__" = some (some (.ref ai_NoOrder)))
    (xex_NoOrder : PySem.W.subIn K (.ref ac_NoOrder) (.type "BaseException") = some true)
    (xty_NoOrder : PySem.W.typeIn K (.ref ac_NoOrder) = some (.type "type"))
    (xk_NoOrder : PySem.W.keepIn K (.ref ac_NoOrder) = true)
    (xhd_NoOrder : PySem.W.hasDictIn K ac_NoOrder = true)
    (xhm_NoOrder : PySem.W.mroIn K ac_NoOrder (.type "object") = some true)
    (xti_NoOrder : PySem.W.typeIn K (.ref ai_NoOrder) = some (.type "function"))
    (xkv_NoOrder : PySem.W.subIn K (.ref ac_NoOrder) (.type "ValueError") = some true)
    (xn_NoOrder_found : PySem.W.findIn K (.ref ac_NoOrder) "found" = some none)
    (xil_NoOrder : K.lookup ai_NoOrder = some ⟨oc_NoOrder_i, od_NoOrder_i, .func (PySem.W.fnOf "__init__" "NoOrder.__init__" (defArgs s_NoOrder_init) (defBody s_NoOrder_init) (defScope s_NoOrder_init) .none kV_NoOrder_i dc_NoOrder_i pm_NoOrder_i an_NoOrder_i cd_NoOrder_i ct_NoOrder_i), sl_NoOrder_i⟩)
    (xic_NoOrder : PySem.W.codeIn K cd_NoOrder_i "NoOrder.__init__" = true)
    (xik_NoOrder : PySem.W.keepIn K (.ref ai_NoOrder) = true)
    {ac_Ended ai_Ended N_Ended : Addr} {nm_Ended q_Ended : Str} {bs_Ended bm_Ended : List Value} {sn_Ended : List Str} {sub_Ended : List Value} {ab_Ended : Bool} {col_Ended : Option Bool} {dd_Ended : Option Addr} {k0_Ended k1_Ended k2_Ended k3_Ended k5_Ended : Option Value}
    {oc_Ended_i kV_Ended_i dc_Ended_i pm_Ended_i cd_Ended_i ct_Ended_i : Value} {od_Ended_i an_Ended_i : Option Addr} {sl_Ended_i : Array (Option Value)}
    (v_Ended : PySem.W.nsIn K mainGlobals "Ended" = some (some (.ref ac_Ended)))
    (xl_Ended : K.lookup ac_Ended = some (excClassObj nm_Ended q_Ended ac_Ended N_Ended bs_Ended bm_Ended true sn_Ended sub_Ended ab_Ended col_Ended dd_Ended k0_Ended k1_Ended k2_Ended k3_Ended k5_Ended "ValueError.__new__"))
    (xr_Ended : PySem.HandSPX.refsVE bm_Ended = true)
    (xsa_Ended : PySem.W.findIn K (.ref ac_Ended) "__setattr__" = some (some (.builtin "object.__setattr__")))
    (xhg_Ended : PySem.W.findIn K (.ref ac_Ended) "__getattribute__" = some (some (.builtin "BaseException.__getattribute__")))
    (xhk_Ended : PySem.W.findIn K (.ref ac_Ended) "__getattr__" = some none)
    (xha_Ended : PySem.W.findIn K (.ref ac_Ended) "__class__" = some (some (.builtin "object.__class__")))
    (xii_Ended : PySem.W.findIn K (.ref ac_Ended) "__init__" = some (some (.ref ai_Ended)))
    (xex_Ended : PySem.W.subIn K (.ref ac_Ended) (.type "BaseException") = some true)
    (xty_Ended : PySem.W.typeIn K (.ref ac_Ended) = some (.type "type"))
    (xk_Ended : PySem.W.keepIn K (.ref ac_Ended) = true)
    (xhd_Ended : PySem.W.hasDictIn K ac_Ended = true)
    (xhm_Ended : PySem.W.mroIn K ac_Ended (.type "object") = some true)
    (xti_Ended : PySem.W.typeIn K (.ref ai_Ended) = some (.type "function"))
    (xkv_Ended : PySem.W.subIn K (.ref ac_Ended) (.type "ValueError") = some true)
    (xil_Ended : K.lookup ai_Ended = some ⟨oc_Ended_i, od_Ended_i, .func (PySem.W.fnOf "__init__" "Ended.__init__" (defArgs s_Ended_init) (defBody s_Ended_init) (defScope s_Ended_init) .none kV_Ended_i dc_Ended_i pm_Ended_i an_Ended_i cd_Ended_i ct_Ended_i), sl_Ended_i⟩)
    (xic_Ended : PySem.W.codeIn K cd_Ended_i "Ended.__init__" = true)
    (xik_Ended : PySem.W.keepIn K (.ref ai_Ended) = true)
    {ac_NoLine ai_NoLine N_NoLine : Addr} {nm_NoLine q_NoLine : Str} {bs_NoLine bm_NoLine : List Value} {sn_NoLine : List Str} {sub_NoLine : List Value} {ab_NoLine : Bool} {col_NoLine : Option Bool} {dd_NoLine : Option Addr} {k0_NoLine k1_NoLine k2_NoLine k3_NoLine k5_NoLine : Option Value}
    {oc_NoLine_i kV_NoLine_i dc_NoLine_i pm_NoLine_i cd_NoLine_i ct_NoLine_i : Value} {od_NoLine_i an_NoLine_i : Option Addr} {sl_NoLine_i : Array (Option Value)}
    (v_NoLine : PySem.W.nsIn K mainGlobals "NoLine" = some (some (.ref ac_NoLine)))
    (xl_NoLine : K.lookup ac_NoLine = some (excClassObj nm_NoLine q_NoLine ac_NoLine N_NoLine bs_NoLine bm_NoLine true sn_NoLine sub_NoLine ab_NoLine col_NoLine dd_NoLine k0_NoLine k1_NoLine k2_NoLine k3_NoLine k5_NoLine "ValueError.__new__"))
    (xr_NoLine : PySem.HandSPX.refsVE bm_NoLine = true)
    (xsa_NoLine : PySem.W.findIn K (.ref ac_NoLine) "__setattr__" = some (some (.builtin "object.__setattr__")))
    (xhg_NoLine : PySem.W.findIn K (.ref ac_NoLine) "__getattribute__" = some (some (.builtin "BaseException.__getattribute__")))
    (xhk_NoLine : PySem.W.findIn K (.ref ac_NoLine) "__getattr__" = some none)
    (xha_NoLine : PySem.W.findIn K (.ref ac_NoLine) "__class__" = some (some (.builtin "object.__class__")))
    (xii_NoLine : PySem.W.findIn K (.ref ac_NoLine) "__init__" = some (some (.ref ai_NoLine)))
    (xex_NoLine : PySem.W.subIn K (.ref ac_NoLine) (.type "BaseException") = some true)
    (xty_NoLine : PySem.W.typeIn K (.ref ac_NoLine) = some (.type "type"))
    (xk_NoLine : PySem.W.keepIn K (.ref ac_NoLine) = true)
    (xhd_NoLine : PySem.W.hasDictIn K ac_NoLine = true)
    (xhm_NoLine : PySem.W.mroIn K ac_NoLine (.type "object") = some true)
    (xti_NoLine : PySem.W.typeIn K (.ref ai_NoLine) = some (.type "function"))
    (xkv_NoLine : PySem.W.subIn K (.ref ac_NoLine) (.type "ValueError") = some true)
    (xn_NoLine_found : PySem.W.findIn K (.ref ac_NoLine) "found" = some none)
    (xil_NoLine : K.lookup ai_NoLine = some ⟨oc_NoLine_i, od_NoLine_i, .func (PySem.W.fnOf "__init__" "NoLine.__init__" (defArgs s_NoLine_init) (defBody s_NoLine_init) (defScope s_NoLine_init) .none kV_NoLine_i dc_NoLine_i pm_NoLine_i an_NoLine_i cd_NoLine_i ct_NoLine_i), sl_NoLine_i⟩)
    (xic_NoLine : PySem.W.codeIn K cd_NoLine_i "NoLine.__init__" = true)
    (xik_NoLine : PySem.W.keepIn K (.ref ai_NoLine) = true)
    (xhn : PySem.W.specialIn K (.builtin "object.__class__") "__get__" = some (some (.builtin "getset_descriptor.__get__")))
    (xht : PySem.W.takesIn K (.builtin "object.__class__") = some true)
    {ac_SeekError : Addr}
    (v_SeekError : PySem.W.nsIn K mainGlobals "SeekError" = some (some (.ref ac_SeekError)))
    (sga : PySem.W.specialIn K (.ref ac_SeekError) "__getattribute__" = some (some (.builtin "type.__getattribute__")))
    (srd : PySem.W.readsIn K ac_SeekError (.type "type") = true)
    (svi : PySem.W.findCls K (.ref ac_SeekError) (.type "type") "__init__" = some (.val (.builtin "ValueError.__init__")))
    (xex_SeekError : PySem.W.subIn K (.ref ac_SeekError) (.type "BaseException") = some true)
    (xty_SeekError : PySem.W.typeIn K (.ref ac_SeekError) = some (.type "type"))
    (xhd_SeekError : PySem.W.hasDictIn K ac_SeekError = true)
    (sxi : PySem.W.excIn K ac_SeekError [.type "ValueError", .type "Exception", .type "BaseException", .type "object"] "ValueError.__new__" = true)
    (sxk : PySem.W.keepIn K (.ref ac_SeekError) = true)
    (xhg_SeekError : PySem.W.findIn K (.ref ac_SeekError) "__getattribute__" = some (some (.builtin "BaseException.__getattribute__")))
    (xhk_SeekError : PySem.W.findIn K (.ref ac_SeekError) "__getattr__" = some none)
    (xha_SeekError : PySem.W.findIn K (.ref ac_SeekError) "__class__" = some (some (.builtin "object.__class__")))
    (xhm_SeekError : PySem.W.mroIn K ac_SeekError (.type "object") = some true)
    (xkv_SeekError : PySem.W.subIn K (.ref ac_SeekError) (.type "ValueError") = some true)
    (kmB : kmB K [ac_NoTerm, ac_NoPlace, ac_NoNumber, ac_NoText, ac_NoRow, ac_NoProgram, ac_Twice, ac_NoUnknown, ac_NoRelation, ac_NoMany, ac_NoQuestion, ac_NoForm, ac_NoPaper, ac_TooGreat, ac_TooMany, ac_NoOrder, ac_NoLine, ac_Ended] ac_SeekError = true)
    (z_ValueError : PySem.W.nsIn K mainGlobals "ValueError" = some none)
    (z_isinstance : PySem.W.nsIn K mainGlobals "isinstance" = some none)
    (z_list : PySem.W.nsIn K mainGlobals "list" = some none)
    (z_len : PySem.W.nsIn K mainGlobals "len" = some none)
    (z_max : PySem.W.nsIn K mainGlobals "max" = some none)
    (z_range : PySem.W.nsIn K mainGlobals "range" = some none)
    (z_repr : PySem.W.nsIn K mainGlobals "repr" = some none)
    (z_int : PySem.W.nsIn K mainGlobals "int" = some none)
    : ∃ fd : FuncData, (∀ (s : Shared) (v : Value), BindsTo s fd ⟨[v], []⟩ [("_law_script", v)]) ∧ ∀ base : Heap, K.In base → base.Ns mainGlobals mg → FnG l.prog w K mg base CX0 6 fa fd ["_law_script"] (sp_law K) := by
  have e : f_law = fa := (Value.ref.inj (Option.some.inj (hfa.symm.trans (PySem.W.mg_of X G a_law)))).symm
  subst e
  have F_l_cell := fun_mk (st := s_l_cell) l_l_cell c_l_cell k_l_cell
  have b_l_cell := F_l_cell.binds (ps := ["_law_script", "_law_k"]) fun _ _ _ _ _ _ us hl => match us, hl with | [_, _], _ => rfl
  have F_l_purse := fun_mk (st := s_l_purse) l_l_purse c_l_purse k_l_purse
  have b_l_purse := F_l_purse.binds (ps := ["_law_cell_here"]) fun _ _ _ _ _ _ us hl => match us, hl with | [_], _ => rfl
  have F_l_take := fun_mk (st := s_l_take) l_l_take c_l_take k_l_take
  have b_l_take := F_l_take.binds (ps := ["_law_purse_here", "_law_many"]) fun _ _ _ _ _ _ us hl => match us, hl with | [_, _], _ => rfl
  have F_l_thing := fun_mk (st := s_l_thing) l_l_thing c_l_thing k_l_thing
  have b_l_thing := F_l_thing.binds (ps := ["_law_purse_here"]) fun _ _ _ _ _ _ us hl => match us, hl with | [_], _ => rfl
  have F_l_raised := fun_mk (st := s_l_raised) l_l_raised c_l_raised k_l_raised
  have b_l_raised := F_l_raised.binds (ps := ["_law_number", "_law_one", "_law_other"]) fun _ _ _ _ _ _ us hl => match us, hl with | [_, _, _], _ => rfl
  have F_l_raised_too := fun_mk (st := s_l_raised_too) l_l_raised_too c_l_raised_too k_l_raised_too
  have b_l_raised_too := F_l_raised_too.binds (ps := ["_law_number", "_law_one", "_law_other"]) fun _ _ _ _ _ _ us hl => match us, hl with | [_, _, _], _ => rfl
  have F_l_classes := fun_mk (st := s_l_classes) l_l_classes c_l_classes k_l_classes
  have b_l_classes := F_l_classes.binds (ps := ["_law_e"]) fun _ _ _ _ _ _ us hl => match us, hl with | [_], _ => rfl
  have F_l_fields := fun_mk (st := s_l_fields) l_l_fields c_l_fields k_l_fields
  have b_l_fields := F_l_fields.binds (ps := ["_law_e"]) fun _ _ _ _ _ _ us hl => match us, hl with | [_], _ => rfl
  have F_l_right := fun_mk (st := s_l_right) l_l_right c_l_right k_l_right
  have b_l_right := F_l_right.binds (ps := ["_law_number", "_law_one", "_law_other"]) fun _ _ _ _ _ _ us hl => match us, hl with | [_, _, _], _ => rfl
  have F_law := fun_mk (st := s_law) l_law c_law k_law
  have b_law := F_law.binds (ps := ["_law_script"]) fun _ _ _ _ _ _ us hl => match us, hl with | [_], _ => rfl
  have Fi_NoTerm := fun_mk (st := s_NoTerm_init) xil_NoTerm xic_NoTerm xik_NoTerm
  have bi_NoTerm := Fi_NoTerm.binds (ps := ["self", "found"]) fun _ _ _ _ _ _ us hl => match us, hl with | [_, _], _ => rfl
  have Fi_NoPlace := fun_mk (st := s_NoPlace_init) xil_NoPlace xic_NoPlace xik_NoPlace
  have bi_NoPlace := Fi_NoPlace.binds (ps := ["self", "found"]) fun _ _ _ _ _ _ us hl => match us, hl with | [_, _], _ => rfl
  have Fi_NoNumber := fun_mk (st := s_NoNumber_init) xil_NoNumber xic_NoNumber xik_NoNumber
  have bi_NoNumber := Fi_NoNumber.binds (ps := ["self", "found"]) fun _ _ _ _ _ _ us hl => match us, hl with | [_, _], _ => rfl
  have Fi_NoText := fun_mk (st := s_NoText_init) xil_NoText xic_NoText xik_NoText
  have bi_NoText := Fi_NoText.binds (ps := ["self", "at"]) fun _ _ _ _ _ _ us hl => match us, hl with | [_, _], _ => rfl
  have Fi_NoRow := fun_mk (st := s_NoRow_init) xil_NoRow xic_NoRow xik_NoRow
  have bi_NoRow := Fi_NoRow.binds (ps := ["self", "found"]) fun _ _ _ _ _ _ us hl => match us, hl with | [_, _], _ => rfl
  have Fi_NoProgram := fun_mk (st := s_NoProgram_init) xil_NoProgram xic_NoProgram xik_NoProgram
  have bi_NoProgram := Fi_NoProgram.binds (ps := ["self", "line", "at"]) fun _ _ _ _ _ _ us hl => match us, hl with | [_, _, _], _ => rfl
  have Fi_Twice := fun_mk (st := s_Twice_init) xil_Twice xic_Twice xik_Twice
  have bi_Twice := Fi_Twice.binds (ps := ["self", "name"]) fun _ _ _ _ _ _ us hl => match us, hl with | [_, _], _ => rfl
  have Fi_NoUnknown := fun_mk (st := s_NoUnknown_init) xil_NoUnknown xic_NoUnknown xik_NoUnknown
  have bi_NoUnknown := Fi_NoUnknown.binds (ps := ["self", "name"]) fun _ _ _ _ _ _ us hl => match us, hl with | [_, _], _ => rfl
  have Fi_NoRelation := fun_mk (st := s_NoRelation_init) xil_NoRelation xic_NoRelation xik_NoRelation
  have bi_NoRelation := Fi_NoRelation.binds (ps := ["self", "name"]) fun _ _ _ _ _ _ us hl => match us, hl with | [_, _], _ => rfl
  have Fi_NoMany := fun_mk (st := s_NoMany_init) xil_NoMany xic_NoMany xik_NoMany
  have bi_NoMany := Fi_NoMany.binds (ps := ["self", "name", "many"]) fun _ _ _ _ _ _ us hl => match us, hl with | [_, _, _], _ => rfl
  have Fi_NoQuestion := fun_mk (st := s_NoQuestion_init) xil_NoQuestion xic_NoQuestion xik_NoQuestion
  have bi_NoQuestion := Fi_NoQuestion.binds (ps := ["self", "found"]) fun _ _ _ _ _ _ us hl => match us, hl with | [_, _], _ => rfl
  have Fi_NoForm := fun_mk (st := s_NoForm_init) xil_NoForm xic_NoForm xik_NoForm
  have bi_NoForm := Fi_NoForm.binds (ps := ["self", "found"]) fun _ _ _ _ _ _ us hl => match us, hl with | [_, _], _ => rfl
  have Fi_NoPaper := fun_mk (st := s_NoPaper_init) xil_NoPaper xic_NoPaper xik_NoPaper
  have bi_NoPaper := Fi_NoPaper.binds (ps := ["self", "found"]) fun _ _ _ _ _ _ us hl => match us, hl with | [_, _], _ => rfl
  have Fi_TooGreat := fun_mk (st := s_TooGreat_init) xil_TooGreat xic_TooGreat xik_TooGreat
  have bi_TooGreat := Fi_TooGreat.binds (ps := ["self", "parts"]) fun _ _ _ _ _ _ us hl => match us, hl with | [_, _], _ => rfl
  have Fi_TooMany := fun_mk (st := s_TooMany_init) xil_TooMany xic_TooMany xik_TooMany
  have bi_TooMany := Fi_TooMany.binds (ps := ["self", "many"]) fun _ _ _ _ _ _ us hl => match us, hl with | [_, _], _ => rfl
  have Fi_NoOrder := fun_mk (st := s_NoOrder_init) xil_NoOrder xic_NoOrder xik_NoOrder
  have bi_NoOrder := Fi_NoOrder.binds (ps := ["self", "found"]) fun _ _ _ _ _ _ us hl => match us, hl with | [_, _], _ => rfl
  have Fi_Ended := fun_mk (st := s_Ended_init) xil_Ended xic_Ended xik_Ended
  have bi_Ended := Fi_Ended.binds (ps := ["self"]) fun _ _ _ _ _ _ us hl => match us, hl with | [_], _ => rfl
  have Fi_NoLine := fun_mk (st := s_NoLine_init) xil_NoLine xic_NoLine xik_NoLine
  have bi_NoLine := Fi_NoLine.binds (ps := ["self", "found"]) fun _ _ _ _ _ _ us hl => match us, hl with | [_, _], _ => rfl
  refine ⟨PySem.W.fnOf "law" "law" (defArgs s_law) (defBody s_law) (defScope s_law) .none kV_law dc_law pm_law an_law cd_law ct_law, fun s v => .of_eq rfl, fun base _ _ => ok_law (P := l.prog) (w := w) (base := base) (K := K) (mg := mg) {
    a_l_cell := f_l_cell, d_l_cell := _, F_l_cell := F_l_cell, b_l_cell := b_l_cell, g_l_cell := PySem.W.mg_of X G a_l_cell,
    a_l_purse := f_l_purse, d_l_purse := _, F_l_purse := F_l_purse, b_l_purse := b_l_purse, g_l_purse := PySem.W.mg_of X G a_l_purse,
    a_l_take := f_l_take, d_l_take := _, F_l_take := F_l_take, b_l_take := b_l_take, g_l_take := PySem.W.mg_of X G a_l_take,
    a_l_thing := f_l_thing, d_l_thing := _, F_l_thing := F_l_thing, b_l_thing := b_l_thing, g_l_thing := PySem.W.mg_of X G a_l_thing,
    a_l_raised := f_l_raised, d_l_raised := _, F_l_raised := F_l_raised, b_l_raised := b_l_raised, g_l_raised := PySem.W.mg_of X G a_l_raised,
    a_l_raised_too := f_l_raised_too, d_l_raised_too := _, F_l_raised_too := F_l_raised_too, b_l_raised_too := b_l_raised_too, g_l_raised_too := PySem.W.mg_of X G a_l_raised_too,
    a_l_classes := f_l_classes, d_l_classes := _, F_l_classes := F_l_classes, b_l_classes := b_l_classes, g_l_classes := PySem.W.mg_of X G a_l_classes,
    a_l_fields := f_l_fields, d_l_fields := _, F_l_fields := F_l_fields, b_l_fields := b_l_fields, g_l_fields := PySem.W.mg_of X G a_l_fields,
    a_l_right := f_l_right, d_l_right := _, F_l_right := F_l_right, b_l_right := b_l_right, g_l_right := PySem.W.mg_of X G a_l_right,
    a_law := f_law, d_law := _, F_law := F_law, b_law := b_law, g_law := PySem.W.mg_of X G a_law,
    a_NoTerm := ac_NoTerm, g_NoTerm := PySem.W.mg_of X G v_NoTerm, x_NoTerm := ⟨⟨_, _, _, _, _, _, _, _, _, _, _, _, _, _, _, xl_NoTerm, xr_NoTerm⟩, xsa_NoTerm, xex_NoTerm, xty_NoTerm, xk_NoTerm⟩,
    y_NoTerm := ⟨xhg_NoTerm, xhk_NoTerm, xex_NoTerm, xhd_NoTerm, xha_NoTerm, xhn, xht, xhm_NoTerm⟩, f_NoTerm := ⟨xhg_NoTerm, xhk_NoTerm, xex_NoTerm, xhd_NoTerm⟩,
    i_NoTerm := ai_NoTerm, di_NoTerm := _, Fi_NoTerm := Fi_NoTerm, bi_NoTerm := bi_NoTerm, ii_NoTerm := xii_NoTerm, ti_NoTerm := xti_NoTerm, kv_NoTerm := kit_tyE xkv_NoTerm (by decide +kernel),
    n_NoTerm_found := xn_NoTerm_found,
    a_NoPlace := ac_NoPlace, g_NoPlace := PySem.W.mg_of X G v_NoPlace, x_NoPlace := ⟨⟨_, _, _, _, _, _, _, _, _, _, _, _, _, _, _, xl_NoPlace, xr_NoPlace⟩, xsa_NoPlace, xex_NoPlace, xty_NoPlace, xk_NoPlace⟩,
    y_NoPlace := ⟨xhg_NoPlace, xhk_NoPlace, xex_NoPlace, xhd_NoPlace, xha_NoPlace, xhn, xht, xhm_NoPlace⟩, f_NoPlace := ⟨xhg_NoPlace, xhk_NoPlace, xex_NoPlace, xhd_NoPlace⟩,
    i_NoPlace := ai_NoPlace, di_NoPlace := _, Fi_NoPlace := Fi_NoPlace, bi_NoPlace := bi_NoPlace, ii_NoPlace := xii_NoPlace, ti_NoPlace := xti_NoPlace, kv_NoPlace := kit_tyE xkv_NoPlace (by decide +kernel),
    n_NoPlace_found := xn_NoPlace_found,
    a_NoNumber := ac_NoNumber, g_NoNumber := PySem.W.mg_of X G v_NoNumber, x_NoNumber := ⟨⟨_, _, _, _, _, _, _, _, _, _, _, _, _, _, _, xl_NoNumber, xr_NoNumber⟩, xsa_NoNumber, xex_NoNumber, xty_NoNumber, xk_NoNumber⟩,
    y_NoNumber := ⟨xhg_NoNumber, xhk_NoNumber, xex_NoNumber, xhd_NoNumber, xha_NoNumber, xhn, xht, xhm_NoNumber⟩, f_NoNumber := ⟨xhg_NoNumber, xhk_NoNumber, xex_NoNumber, xhd_NoNumber⟩,
    i_NoNumber := ai_NoNumber, di_NoNumber := _, Fi_NoNumber := Fi_NoNumber, bi_NoNumber := bi_NoNumber, ii_NoNumber := xii_NoNumber, ti_NoNumber := xti_NoNumber, kv_NoNumber := kit_tyE xkv_NoNumber (by decide +kernel),
    n_NoNumber_found := xn_NoNumber_found,
    a_NoText := ac_NoText, g_NoText := PySem.W.mg_of X G v_NoText, x_NoText := ⟨⟨_, _, _, _, _, _, _, _, _, _, _, _, _, _, _, xl_NoText, xr_NoText⟩, xsa_NoText, xex_NoText, xty_NoText, xk_NoText⟩,
    y_NoText := ⟨xhg_NoText, xhk_NoText, xex_NoText, xhd_NoText, xha_NoText, xhn, xht, xhm_NoText⟩, f_NoText := ⟨xhg_NoText, xhk_NoText, xex_NoText, xhd_NoText⟩,
    i_NoText := ai_NoText, di_NoText := _, Fi_NoText := Fi_NoText, bi_NoText := bi_NoText, ii_NoText := xii_NoText, ti_NoText := xti_NoText, kv_NoText := kit_tyE xkv_NoText (by decide +kernel),
    n_NoText_at := xn_NoText_at,
    a_NoRow := ac_NoRow, g_NoRow := PySem.W.mg_of X G v_NoRow, x_NoRow := ⟨⟨_, _, _, _, _, _, _, _, _, _, _, _, _, _, _, xl_NoRow, xr_NoRow⟩, xsa_NoRow, xex_NoRow, xty_NoRow, xk_NoRow⟩,
    y_NoRow := ⟨xhg_NoRow, xhk_NoRow, xex_NoRow, xhd_NoRow, xha_NoRow, xhn, xht, xhm_NoRow⟩, f_NoRow := ⟨xhg_NoRow, xhk_NoRow, xex_NoRow, xhd_NoRow⟩,
    i_NoRow := ai_NoRow, di_NoRow := _, Fi_NoRow := Fi_NoRow, bi_NoRow := bi_NoRow, ii_NoRow := xii_NoRow, ti_NoRow := xti_NoRow, kv_NoRow := kit_tyE xkv_NoRow (by decide +kernel),
    n_NoRow_found := xn_NoRow_found,
    a_NoProgram := ac_NoProgram, g_NoProgram := PySem.W.mg_of X G v_NoProgram, x_NoProgram := ⟨⟨_, _, _, _, _, _, _, _, _, _, _, _, _, _, _, xl_NoProgram, xr_NoProgram⟩, xsa_NoProgram, xex_NoProgram, xty_NoProgram, xk_NoProgram⟩,
    y_NoProgram := ⟨xhg_NoProgram, xhk_NoProgram, xex_NoProgram, xhd_NoProgram, xha_NoProgram, xhn, xht, xhm_NoProgram⟩, f_NoProgram := ⟨xhg_NoProgram, xhk_NoProgram, xex_NoProgram, xhd_NoProgram⟩,
    i_NoProgram := ai_NoProgram, di_NoProgram := _, Fi_NoProgram := Fi_NoProgram, bi_NoProgram := bi_NoProgram, ii_NoProgram := xii_NoProgram, ti_NoProgram := xti_NoProgram, kv_NoProgram := kit_tyE xkv_NoProgram (by decide +kernel),
    n_NoProgram_line := xn_NoProgram_line,
    n_NoProgram_at := xn_NoProgram_at,
    a_Twice := ac_Twice, g_Twice := PySem.W.mg_of X G v_Twice, x_Twice := ⟨⟨_, _, _, _, _, _, _, _, _, _, _, _, _, _, _, xl_Twice, xr_Twice⟩, xsa_Twice, xex_Twice, xty_Twice, xk_Twice⟩,
    y_Twice := ⟨xhg_Twice, xhk_Twice, xex_Twice, xhd_Twice, xha_Twice, xhn, xht, xhm_Twice⟩, f_Twice := ⟨xhg_Twice, xhk_Twice, xex_Twice, xhd_Twice⟩,
    i_Twice := ai_Twice, di_Twice := _, Fi_Twice := Fi_Twice, bi_Twice := bi_Twice, ii_Twice := xii_Twice, ti_Twice := xti_Twice, kv_Twice := kit_tyE xkv_Twice (by decide +kernel),
    n_Twice_name := xn_Twice_name,
    a_NoUnknown := ac_NoUnknown, g_NoUnknown := PySem.W.mg_of X G v_NoUnknown, x_NoUnknown := ⟨⟨_, _, _, _, _, _, _, _, _, _, _, _, _, _, _, xl_NoUnknown, xr_NoUnknown⟩, xsa_NoUnknown, xex_NoUnknown, xty_NoUnknown, xk_NoUnknown⟩,
    y_NoUnknown := ⟨xhg_NoUnknown, xhk_NoUnknown, xex_NoUnknown, xhd_NoUnknown, xha_NoUnknown, xhn, xht, xhm_NoUnknown⟩, f_NoUnknown := ⟨xhg_NoUnknown, xhk_NoUnknown, xex_NoUnknown, xhd_NoUnknown⟩,
    i_NoUnknown := ai_NoUnknown, di_NoUnknown := _, Fi_NoUnknown := Fi_NoUnknown, bi_NoUnknown := bi_NoUnknown, ii_NoUnknown := xii_NoUnknown, ti_NoUnknown := xti_NoUnknown, kv_NoUnknown := kit_tyE xkv_NoUnknown (by decide +kernel),
    n_NoUnknown_name := xn_NoUnknown_name,
    a_NoRelation := ac_NoRelation, g_NoRelation := PySem.W.mg_of X G v_NoRelation, x_NoRelation := ⟨⟨_, _, _, _, _, _, _, _, _, _, _, _, _, _, _, xl_NoRelation, xr_NoRelation⟩, xsa_NoRelation, xex_NoRelation, xty_NoRelation, xk_NoRelation⟩,
    y_NoRelation := ⟨xhg_NoRelation, xhk_NoRelation, xex_NoRelation, xhd_NoRelation, xha_NoRelation, xhn, xht, xhm_NoRelation⟩, f_NoRelation := ⟨xhg_NoRelation, xhk_NoRelation, xex_NoRelation, xhd_NoRelation⟩,
    i_NoRelation := ai_NoRelation, di_NoRelation := _, Fi_NoRelation := Fi_NoRelation, bi_NoRelation := bi_NoRelation, ii_NoRelation := xii_NoRelation, ti_NoRelation := xti_NoRelation, kv_NoRelation := kit_tyE xkv_NoRelation (by decide +kernel),
    n_NoRelation_name := xn_NoRelation_name,
    a_NoMany := ac_NoMany, g_NoMany := PySem.W.mg_of X G v_NoMany, x_NoMany := ⟨⟨_, _, _, _, _, _, _, _, _, _, _, _, _, _, _, xl_NoMany, xr_NoMany⟩, xsa_NoMany, xex_NoMany, xty_NoMany, xk_NoMany⟩,
    y_NoMany := ⟨xhg_NoMany, xhk_NoMany, xex_NoMany, xhd_NoMany, xha_NoMany, xhn, xht, xhm_NoMany⟩, f_NoMany := ⟨xhg_NoMany, xhk_NoMany, xex_NoMany, xhd_NoMany⟩,
    i_NoMany := ai_NoMany, di_NoMany := _, Fi_NoMany := Fi_NoMany, bi_NoMany := bi_NoMany, ii_NoMany := xii_NoMany, ti_NoMany := xti_NoMany, kv_NoMany := kit_tyE xkv_NoMany (by decide +kernel),
    n_NoMany_name := xn_NoMany_name,
    n_NoMany_many := xn_NoMany_many,
    a_NoQuestion := ac_NoQuestion, g_NoQuestion := PySem.W.mg_of X G v_NoQuestion, x_NoQuestion := ⟨⟨_, _, _, _, _, _, _, _, _, _, _, _, _, _, _, xl_NoQuestion, xr_NoQuestion⟩, xsa_NoQuestion, xex_NoQuestion, xty_NoQuestion, xk_NoQuestion⟩,
    y_NoQuestion := ⟨xhg_NoQuestion, xhk_NoQuestion, xex_NoQuestion, xhd_NoQuestion, xha_NoQuestion, xhn, xht, xhm_NoQuestion⟩, f_NoQuestion := ⟨xhg_NoQuestion, xhk_NoQuestion, xex_NoQuestion, xhd_NoQuestion⟩,
    i_NoQuestion := ai_NoQuestion, di_NoQuestion := _, Fi_NoQuestion := Fi_NoQuestion, bi_NoQuestion := bi_NoQuestion, ii_NoQuestion := xii_NoQuestion, ti_NoQuestion := xti_NoQuestion, kv_NoQuestion := kit_tyE xkv_NoQuestion (by decide +kernel),
    n_NoQuestion_found := xn_NoQuestion_found,
    a_NoForm := ac_NoForm, g_NoForm := PySem.W.mg_of X G v_NoForm, x_NoForm := ⟨⟨_, _, _, _, _, _, _, _, _, _, _, _, _, _, _, xl_NoForm, xr_NoForm⟩, xsa_NoForm, xex_NoForm, xty_NoForm, xk_NoForm⟩,
    y_NoForm := ⟨xhg_NoForm, xhk_NoForm, xex_NoForm, xhd_NoForm, xha_NoForm, xhn, xht, xhm_NoForm⟩, f_NoForm := ⟨xhg_NoForm, xhk_NoForm, xex_NoForm, xhd_NoForm⟩,
    i_NoForm := ai_NoForm, di_NoForm := _, Fi_NoForm := Fi_NoForm, bi_NoForm := bi_NoForm, ii_NoForm := xii_NoForm, ti_NoForm := xti_NoForm, kv_NoForm := kit_tyE xkv_NoForm (by decide +kernel),
    n_NoForm_found := xn_NoForm_found,
    a_NoPaper := ac_NoPaper, g_NoPaper := PySem.W.mg_of X G v_NoPaper, x_NoPaper := ⟨⟨_, _, _, _, _, _, _, _, _, _, _, _, _, _, _, xl_NoPaper, xr_NoPaper⟩, xsa_NoPaper, xex_NoPaper, xty_NoPaper, xk_NoPaper⟩,
    y_NoPaper := ⟨xhg_NoPaper, xhk_NoPaper, xex_NoPaper, xhd_NoPaper, xha_NoPaper, xhn, xht, xhm_NoPaper⟩, f_NoPaper := ⟨xhg_NoPaper, xhk_NoPaper, xex_NoPaper, xhd_NoPaper⟩,
    i_NoPaper := ai_NoPaper, di_NoPaper := _, Fi_NoPaper := Fi_NoPaper, bi_NoPaper := bi_NoPaper, ii_NoPaper := xii_NoPaper, ti_NoPaper := xti_NoPaper, kv_NoPaper := kit_tyE xkv_NoPaper (by decide +kernel),
    n_NoPaper_found := xn_NoPaper_found,
    a_TooGreat := ac_TooGreat, g_TooGreat := PySem.W.mg_of X G v_TooGreat, x_TooGreat := ⟨⟨_, _, _, _, _, _, _, _, _, _, _, _, _, _, _, xl_TooGreat, xr_TooGreat⟩, xsa_TooGreat, xex_TooGreat, xty_TooGreat, xk_TooGreat⟩,
    y_TooGreat := ⟨xhg_TooGreat, xhk_TooGreat, xex_TooGreat, xhd_TooGreat, xha_TooGreat, xhn, xht, xhm_TooGreat⟩, f_TooGreat := ⟨xhg_TooGreat, xhk_TooGreat, xex_TooGreat, xhd_TooGreat⟩,
    i_TooGreat := ai_TooGreat, di_TooGreat := _, Fi_TooGreat := Fi_TooGreat, bi_TooGreat := bi_TooGreat, ii_TooGreat := xii_TooGreat, ti_TooGreat := xti_TooGreat, kv_TooGreat := kit_tyE xkv_TooGreat (by decide +kernel),
    n_TooGreat_parts := xn_TooGreat_parts,
    a_TooMany := ac_TooMany, g_TooMany := PySem.W.mg_of X G v_TooMany, x_TooMany := ⟨⟨_, _, _, _, _, _, _, _, _, _, _, _, _, _, _, xl_TooMany, xr_TooMany⟩, xsa_TooMany, xex_TooMany, xty_TooMany, xk_TooMany⟩,
    y_TooMany := ⟨xhg_TooMany, xhk_TooMany, xex_TooMany, xhd_TooMany, xha_TooMany, xhn, xht, xhm_TooMany⟩, f_TooMany := ⟨xhg_TooMany, xhk_TooMany, xex_TooMany, xhd_TooMany⟩,
    i_TooMany := ai_TooMany, di_TooMany := _, Fi_TooMany := Fi_TooMany, bi_TooMany := bi_TooMany, ii_TooMany := xii_TooMany, ti_TooMany := xti_TooMany, kv_TooMany := kit_tyE xkv_TooMany (by decide +kernel),
    n_TooMany_many := xn_TooMany_many,
    a_NoOrder := ac_NoOrder, g_NoOrder := PySem.W.mg_of X G v_NoOrder, x_NoOrder := ⟨⟨_, _, _, _, _, _, _, _, _, _, _, _, _, _, _, xl_NoOrder, xr_NoOrder⟩, xsa_NoOrder, xex_NoOrder, xty_NoOrder, xk_NoOrder⟩,
    y_NoOrder := ⟨xhg_NoOrder, xhk_NoOrder, xex_NoOrder, xhd_NoOrder, xha_NoOrder, xhn, xht, xhm_NoOrder⟩, f_NoOrder := ⟨xhg_NoOrder, xhk_NoOrder, xex_NoOrder, xhd_NoOrder⟩,
    i_NoOrder := ai_NoOrder, di_NoOrder := _, Fi_NoOrder := Fi_NoOrder, bi_NoOrder := bi_NoOrder, ii_NoOrder := xii_NoOrder, ti_NoOrder := xti_NoOrder, kv_NoOrder := kit_tyE xkv_NoOrder (by decide +kernel),
    n_NoOrder_found := xn_NoOrder_found,
    a_Ended := ac_Ended, g_Ended := PySem.W.mg_of X G v_Ended, x_Ended := ⟨⟨_, _, _, _, _, _, _, _, _, _, _, _, _, _, _, xl_Ended, xr_Ended⟩, xsa_Ended, xex_Ended, xty_Ended, xk_Ended⟩,
    y_Ended := ⟨xhg_Ended, xhk_Ended, xex_Ended, xhd_Ended, xha_Ended, xhn, xht, xhm_Ended⟩, f_Ended := ⟨xhg_Ended, xhk_Ended, xex_Ended, xhd_Ended⟩,
    i_Ended := ai_Ended, di_Ended := _, Fi_Ended := Fi_Ended, bi_Ended := bi_Ended, ii_Ended := xii_Ended, ti_Ended := xti_Ended, kv_Ended := kit_tyE xkv_Ended (by decide +kernel),
    a_NoLine := ac_NoLine, g_NoLine := PySem.W.mg_of X G v_NoLine, x_NoLine := ⟨⟨_, _, _, _, _, _, _, _, _, _, _, _, _, _, _, xl_NoLine, xr_NoLine⟩, xsa_NoLine, xex_NoLine, xty_NoLine, xk_NoLine⟩,
    y_NoLine := ⟨xhg_NoLine, xhk_NoLine, xex_NoLine, xhd_NoLine, xha_NoLine, xhn, xht, xhm_NoLine⟩, f_NoLine := ⟨xhg_NoLine, xhk_NoLine, xex_NoLine, xhd_NoLine⟩,
    i_NoLine := ai_NoLine, di_NoLine := _, Fi_NoLine := Fi_NoLine, bi_NoLine := bi_NoLine, ii_NoLine := xii_NoLine, ti_NoLine := xti_NoLine, kv_NoLine := kit_tyE xkv_NoLine (by decide +kernel),
    n_NoLine_found := xn_NoLine_found,
    a_SeekError := ac_SeekError, g_SeekError := PySem.W.mg_of X G v_SeekError, sga := sga, srd := srd, svi := svi,
    sxi := sxi, sxk := sxk, sxe := xex_SeekError, sxt := xty_SeekError, y_SeekError := ⟨xhg_SeekError, xhk_SeekError, xex_SeekError, xhd_SeekError, xha_SeekError, xhn, xht, xhm_SeekError⟩, kv_SeekError := kit_tyE xkv_SeekError (by decide +kernel), km := km_of kmB,
    m_ValueError := PySem.W.mg_none_of X G z_ValueError,
    m_isinstance := PySem.W.mg_none_of X G z_isinstance,
    m_list := PySem.W.mg_none_of X G z_list,
    m_len := PySem.W.mg_none_of X G z_len,
    m_max := PySem.W.mg_none_of X G z_max,
    m_range := PySem.W.mg_none_of X G z_range,
    m_repr := PySem.W.mg_none_of X G z_repr,
    m_int := PySem.W.mg_none_of X G z_int }⟩
end Fs
open PySem PySem.W PyProof.Rows
set_option maxRecDepth 100000 in
set_option maxHeartbeats 0 in
theorem PySem.Challenge.cw_fairseek_k02_refusals_apart_holds : PySem.Challenge.rw_fairseek_k02_refusals_apart.Holds := by
  w_on; o_law; k_head; (case hw => w_witness2)
  k_fill
  refine Fs.walkG (l := PySem.Challenge.rw_fairseek_k02_refusals_apart) (n := 63) (k := 6) (x := "_law_script") (sp := Fs.sp_law) rfl (by decide) rfl ⟨rfl, by decide, by decide⟩ (fun w h Y => PySem.W.kIn_of Y) ?F (fun _ _ a ns hl hS => ⟨a, ns, rfl, hS, hl, fun _ => rfl⟩)
  case F =>
    intro w mg fa h KX G hmg
    refine' Fs.all_mk KX G hmg ?a_l_cell ?l_l_cell ?c_l_cell ?k_l_cell ?a_l_purse ?l_l_purse ?c_l_purse ?k_l_purse ?a_l_take ?l_l_take ?c_l_take ?k_l_take ?a_l_thing ?l_l_thing ?c_l_thing ?k_l_thing ?a_l_raised ?l_l_raised ?c_l_raised ?k_l_raised ?a_l_raised_too ?l_l_raised_too ?c_l_raised_too ?k_l_raised_too ?a_l_classes ?l_l_classes ?c_l_classes ?k_l_classes ?a_l_fields ?l_l_fields ?c_l_fields ?k_l_fields ?a_l_right ?l_l_right ?c_l_right ?k_l_right ?a_law ?l_law ?c_law ?k_law ?v_NoTerm ?xl_NoTerm ?xr_NoTerm ?xsa_NoTerm ?xhg_NoTerm ?xhk_NoTerm ?xha_NoTerm ?xii_NoTerm ?xex_NoTerm ?xty_NoTerm ?xk_NoTerm ?xhd_NoTerm ?xhm_NoTerm ?xti_NoTerm ?xkv_NoTerm ?xn_NoTerm_found ?xil_NoTerm ?xic_NoTerm ?xik_NoTerm ?v_NoPlace ?xl_NoPlace ?xr_NoPlace ?xsa_NoPlace ?xhg_NoPlace ?xhk_NoPlace ?xha_NoPlace ?xii_NoPlace ?xex_NoPlace ?xty_NoPlace ?xk_NoPlace ?xhd_NoPlace ?xhm_NoPlace ?xti_NoPlace ?xkv_NoPlace ?xn_NoPlace_found ?xil_NoPlace ?xic_NoPlace ?xik_NoPlace ?v_NoNumber ?xl_NoNumber ?xr_NoNumber ?xsa_NoNumber ?xhg_NoNumber ?xhk_NoNumber ?xha_NoNumber ?xii_NoNumber ?xex_NoNumber ?xty_NoNumber ?xk_NoNumber ?xhd_NoNumber ?xhm_NoNumber ?xti_NoNumber ?xkv_NoNumber ?xn_NoNumber_found ?xil_NoNumber ?xic_NoNumber ?xik_NoNumber ?v_NoText ?xl_NoText ?xr_NoText ?xsa_NoText ?xhg_NoText ?xhk_NoText ?xha_NoText ?xii_NoText ?xex_NoText ?xty_NoText ?xk_NoText ?xhd_NoText ?xhm_NoText ?xti_NoText ?xkv_NoText ?xn_NoText_at ?xil_NoText ?xic_NoText ?xik_NoText ?v_NoRow ?xl_NoRow ?xr_NoRow ?xsa_NoRow ?xhg_NoRow ?xhk_NoRow ?xha_NoRow ?xii_NoRow ?xex_NoRow ?xty_NoRow ?xk_NoRow ?xhd_NoRow ?xhm_NoRow ?xti_NoRow ?xkv_NoRow ?xn_NoRow_found ?xil_NoRow ?xic_NoRow ?xik_NoRow ?v_NoProgram ?xl_NoProgram ?xr_NoProgram ?xsa_NoProgram ?xhg_NoProgram ?xhk_NoProgram ?xha_NoProgram ?xii_NoProgram ?xex_NoProgram ?xty_NoProgram ?xk_NoProgram ?xhd_NoProgram ?xhm_NoProgram ?xti_NoProgram ?xkv_NoProgram ?xn_NoProgram_line ?xn_NoProgram_at ?xil_NoProgram ?xic_NoProgram ?xik_NoProgram ?v_Twice ?xl_Twice ?xr_Twice ?xsa_Twice ?xhg_Twice ?xhk_Twice ?xha_Twice ?xii_Twice ?xex_Twice ?xty_Twice ?xk_Twice ?xhd_Twice ?xhm_Twice ?xti_Twice ?xkv_Twice ?xn_Twice_name ?xil_Twice ?xic_Twice ?xik_Twice ?v_NoUnknown ?xl_NoUnknown ?xr_NoUnknown ?xsa_NoUnknown ?xhg_NoUnknown ?xhk_NoUnknown ?xha_NoUnknown ?xii_NoUnknown ?xex_NoUnknown ?xty_NoUnknown ?xk_NoUnknown ?xhd_NoUnknown ?xhm_NoUnknown ?xti_NoUnknown ?xkv_NoUnknown ?xn_NoUnknown_name ?xil_NoUnknown ?xic_NoUnknown ?xik_NoUnknown ?v_NoRelation ?xl_NoRelation ?xr_NoRelation ?xsa_NoRelation ?xhg_NoRelation ?xhk_NoRelation ?xha_NoRelation ?xii_NoRelation ?xex_NoRelation ?xty_NoRelation ?xk_NoRelation ?xhd_NoRelation ?xhm_NoRelation ?xti_NoRelation ?xkv_NoRelation ?xn_NoRelation_name ?xil_NoRelation ?xic_NoRelation ?xik_NoRelation ?v_NoMany ?xl_NoMany ?xr_NoMany ?xsa_NoMany ?xhg_NoMany ?xhk_NoMany ?xha_NoMany ?xii_NoMany ?xex_NoMany ?xty_NoMany ?xk_NoMany ?xhd_NoMany ?xhm_NoMany ?xti_NoMany ?xkv_NoMany ?xn_NoMany_name ?xn_NoMany_many ?xil_NoMany ?xic_NoMany ?xik_NoMany ?v_NoQuestion ?xl_NoQuestion ?xr_NoQuestion ?xsa_NoQuestion ?xhg_NoQuestion ?xhk_NoQuestion ?xha_NoQuestion ?xii_NoQuestion ?xex_NoQuestion ?xty_NoQuestion ?xk_NoQuestion ?xhd_NoQuestion ?xhm_NoQuestion ?xti_NoQuestion ?xkv_NoQuestion ?xn_NoQuestion_found ?xil_NoQuestion ?xic_NoQuestion ?xik_NoQuestion ?v_NoForm ?xl_NoForm ?xr_NoForm ?xsa_NoForm ?xhg_NoForm ?xhk_NoForm ?xha_NoForm ?xii_NoForm ?xex_NoForm ?xty_NoForm ?xk_NoForm ?xhd_NoForm ?xhm_NoForm ?xti_NoForm ?xkv_NoForm ?xn_NoForm_found ?xil_NoForm ?xic_NoForm ?xik_NoForm ?v_NoPaper ?xl_NoPaper ?xr_NoPaper ?xsa_NoPaper ?xhg_NoPaper ?xhk_NoPaper ?xha_NoPaper ?xii_NoPaper ?xex_NoPaper ?xty_NoPaper ?xk_NoPaper ?xhd_NoPaper ?xhm_NoPaper ?xti_NoPaper ?xkv_NoPaper ?xn_NoPaper_found ?xil_NoPaper ?xic_NoPaper ?xik_NoPaper ?v_TooGreat ?xl_TooGreat ?xr_TooGreat ?xsa_TooGreat ?xhg_TooGreat ?xhk_TooGreat ?xha_TooGreat ?xii_TooGreat ?xex_TooGreat ?xty_TooGreat ?xk_TooGreat ?xhd_TooGreat ?xhm_TooGreat ?xti_TooGreat ?xkv_TooGreat ?xn_TooGreat_parts ?xil_TooGreat ?xic_TooGreat ?xik_TooGreat ?v_TooMany ?xl_TooMany ?xr_TooMany ?xsa_TooMany ?xhg_TooMany ?xhk_TooMany ?xha_TooMany ?xii_TooMany ?xex_TooMany ?xty_TooMany ?xk_TooMany ?xhd_TooMany ?xhm_TooMany ?xti_TooMany ?xkv_TooMany ?xn_TooMany_many ?xil_TooMany ?xic_TooMany ?xik_TooMany ?v_NoOrder ?xl_NoOrder ?xr_NoOrder ?xsa_NoOrder ?xhg_NoOrder ?xhk_NoOrder ?xha_NoOrder ?xii_NoOrder ?xex_NoOrder ?xty_NoOrder ?xk_NoOrder ?xhd_NoOrder ?xhm_NoOrder ?xti_NoOrder ?xkv_NoOrder ?xn_NoOrder_found ?xil_NoOrder ?xic_NoOrder ?xik_NoOrder ?v_Ended ?xl_Ended ?xr_Ended ?xsa_Ended ?xhg_Ended ?xhk_Ended ?xha_Ended ?xii_Ended ?xex_Ended ?xty_Ended ?xk_Ended ?xhd_Ended ?xhm_Ended ?xti_Ended ?xkv_Ended ?xil_Ended ?xic_Ended ?xik_Ended ?v_NoLine ?xl_NoLine ?xr_NoLine ?xsa_NoLine ?xhg_NoLine ?xhk_NoLine ?xha_NoLine ?xii_NoLine ?xex_NoLine ?xty_NoLine ?xk_NoLine ?xhd_NoLine ?xhm_NoLine ?xti_NoLine ?xkv_NoLine ?xn_NoLine_found ?xil_NoLine ?xic_NoLine ?xik_NoLine ?xhn ?xht ?v_SeekError ?sga ?srd ?svi ?xex_SeekError ?xty_SeekError ?xhd_SeekError ?sxi ?sxk ?xhg_SeekError ?xhk_SeekError ?xha_SeekError ?xhm_SeekError ?xkv_SeekError ?kmB ?z_ValueError ?z_isinstance ?z_list ?z_len ?z_max ?z_range ?z_repr ?z_int
    (case a_l_cell => k_is)
    (case l_l_cell => k_is)
    (case c_l_cell => k_is)
    (case k_l_cell => k_is)
    (case a_l_purse => k_is)
    (case l_l_purse => k_is)
    (case c_l_purse => k_is)
    (case k_l_purse => k_is)
    (case a_l_take => k_is)
    (case l_l_take => k_is)
    (case c_l_take => k_is)
    (case k_l_take => k_is)
    (case a_l_thing => k_is)
    (case l_l_thing => k_is)
    (case c_l_thing => k_is)
    (case k_l_thing => k_is)
    (case a_l_raised => k_is)
    (case l_l_raised => k_is)
    (case c_l_raised => k_is)
    (case k_l_raised => k_is)
    (case a_l_raised_too => k_is)
    (case l_l_raised_too => k_is)
    (case c_l_raised_too => k_is)
    (case k_l_raised_too => k_is)
    (case a_l_classes => k_is)
    (case l_l_classes => k_is)
    (case c_l_classes => k_is)
    (case k_l_classes => k_is)
    (case a_l_fields => k_is)
    (case l_l_fields => k_is)
    (case c_l_fields => k_is)
    (case k_l_fields => k_is)
    (case a_l_right => k_is)
    (case l_l_right => k_is)
    (case c_l_right => k_is)
    (case k_l_right => k_is)
    (case a_law => k_is)
    (case l_law => k_is)
    (case c_law => k_is)
    (case k_law => k_is)
    (case v_NoTerm => k_is)
    (case xl_NoTerm => k_is)
    (case xr_NoTerm => decide +kernel)
    (case xsa_NoTerm => k_is)
    (case xhg_NoTerm => k_is)
    (case xhk_NoTerm => k_is)
    (case xha_NoTerm => k_is)
    (case xii_NoTerm => k_is)
    (case xex_NoTerm => k_is)
    (case xty_NoTerm => k_is)
    (case xk_NoTerm => k_is)
    (case xhd_NoTerm => k_is)
    (case xhm_NoTerm => k_is)
    (case xti_NoTerm => k_is)
    (case xkv_NoTerm => k_is)
    (case xn_NoTerm_found => k_is)
    (case xil_NoTerm => k_is)
    (case xic_NoTerm => k_is)
    (case xik_NoTerm => k_is)
    (case v_NoPlace => k_is)
    (case xl_NoPlace => k_is)
    (case xr_NoPlace => decide +kernel)
    (case xsa_NoPlace => k_is)
    (case xhg_NoPlace => k_is)
    (case xhk_NoPlace => k_is)
    (case xha_NoPlace => k_is)
    (case xii_NoPlace => k_is)
    (case xex_NoPlace => k_is)
    (case xty_NoPlace => k_is)
    (case xk_NoPlace => k_is)
    (case xhd_NoPlace => k_is)
    (case xhm_NoPlace => k_is)
    (case xti_NoPlace => k_is)
    (case xkv_NoPlace => k_is)
    (case xn_NoPlace_found => k_is)
    (case xil_NoPlace => k_is)
    (case xic_NoPlace => k_is)
    (case xik_NoPlace => k_is)
    (case v_NoNumber => k_is)
    (case xl_NoNumber => k_is)
    (case xr_NoNumber => decide +kernel)
    (case xsa_NoNumber => k_is)
    (case xhg_NoNumber => k_is)
    (case xhk_NoNumber => k_is)
    (case xha_NoNumber => k_is)
    (case xii_NoNumber => k_is)
    (case xex_NoNumber => k_is)
    (case xty_NoNumber => k_is)
    (case xk_NoNumber => k_is)
    (case xhd_NoNumber => k_is)
    (case xhm_NoNumber => k_is)
    (case xti_NoNumber => k_is)
    (case xkv_NoNumber => k_is)
    (case xn_NoNumber_found => k_is)
    (case xil_NoNumber => k_is)
    (case xic_NoNumber => k_is)
    (case xik_NoNumber => k_is)
    (case v_NoText => k_is)
    (case xl_NoText => k_is)
    (case xr_NoText => decide +kernel)
    (case xsa_NoText => k_is)
    (case xhg_NoText => k_is)
    (case xhk_NoText => k_is)
    (case xha_NoText => k_is)
    (case xii_NoText => k_is)
    (case xex_NoText => k_is)
    (case xty_NoText => k_is)
    (case xk_NoText => k_is)
    (case xhd_NoText => k_is)
    (case xhm_NoText => k_is)
    (case xti_NoText => k_is)
    (case xkv_NoText => k_is)
    (case xn_NoText_at => k_is)
    (case xil_NoText => k_is)
    (case xic_NoText => k_is)
    (case xik_NoText => k_is)
    (case v_NoRow => k_is)
    (case xl_NoRow => k_is)
    (case xr_NoRow => decide +kernel)
    (case xsa_NoRow => k_is)
    (case xhg_NoRow => k_is)
    (case xhk_NoRow => k_is)
    (case xha_NoRow => k_is)
    (case xii_NoRow => k_is)
    (case xex_NoRow => k_is)
    (case xty_NoRow => k_is)
    (case xk_NoRow => k_is)
    (case xhd_NoRow => k_is)
    (case xhm_NoRow => k_is)
    (case xti_NoRow => k_is)
    (case xkv_NoRow => k_is)
    (case xn_NoRow_found => k_is)
    (case xil_NoRow => k_is)
    (case xic_NoRow => k_is)
    (case xik_NoRow => k_is)
    (case v_NoProgram => k_is)
    (case xl_NoProgram => k_is)
    (case xr_NoProgram => decide +kernel)
    (case xsa_NoProgram => k_is)
    (case xhg_NoProgram => k_is)
    (case xhk_NoProgram => k_is)
    (case xha_NoProgram => k_is)
    (case xii_NoProgram => k_is)
    (case xex_NoProgram => k_is)
    (case xty_NoProgram => k_is)
    (case xk_NoProgram => k_is)
    (case xhd_NoProgram => k_is)
    (case xhm_NoProgram => k_is)
    (case xti_NoProgram => k_is)
    (case xkv_NoProgram => k_is)
    (case xn_NoProgram_line => k_is)
    (case xn_NoProgram_at => k_is)
    (case xil_NoProgram => k_is)
    (case xic_NoProgram => k_is)
    (case xik_NoProgram => k_is)
    (case v_Twice => k_is)
    (case xl_Twice => k_is)
    (case xr_Twice => decide +kernel)
    (case xsa_Twice => k_is)
    (case xhg_Twice => k_is)
    (case xhk_Twice => k_is)
    (case xha_Twice => k_is)
    (case xii_Twice => k_is)
    (case xex_Twice => k_is)
    (case xty_Twice => k_is)
    (case xk_Twice => k_is)
    (case xhd_Twice => k_is)
    (case xhm_Twice => k_is)
    (case xti_Twice => k_is)
    (case xkv_Twice => k_is)
    (case xn_Twice_name => k_is)
    (case xil_Twice => k_is)
    (case xic_Twice => k_is)
    (case xik_Twice => k_is)
    (case v_NoUnknown => k_is)
    (case xl_NoUnknown => k_is)
    (case xr_NoUnknown => decide +kernel)
    (case xsa_NoUnknown => k_is)
    (case xhg_NoUnknown => k_is)
    (case xhk_NoUnknown => k_is)
    (case xha_NoUnknown => k_is)
    (case xii_NoUnknown => k_is)
    (case xex_NoUnknown => k_is)
    (case xty_NoUnknown => k_is)
    (case xk_NoUnknown => k_is)
    (case xhd_NoUnknown => k_is)
    (case xhm_NoUnknown => k_is)
    (case xti_NoUnknown => k_is)
    (case xkv_NoUnknown => k_is)
    (case xn_NoUnknown_name => k_is)
    (case xil_NoUnknown => k_is)
    (case xic_NoUnknown => k_is)
    (case xik_NoUnknown => k_is)
    (case v_NoRelation => k_is)
    (case xl_NoRelation => k_is)
    (case xr_NoRelation => decide +kernel)
    (case xsa_NoRelation => k_is)
    (case xhg_NoRelation => k_is)
    (case xhk_NoRelation => k_is)
    (case xha_NoRelation => k_is)
    (case xii_NoRelation => k_is)
    (case xex_NoRelation => k_is)
    (case xty_NoRelation => k_is)
    (case xk_NoRelation => k_is)
    (case xhd_NoRelation => k_is)
    (case xhm_NoRelation => k_is)
    (case xti_NoRelation => k_is)
    (case xkv_NoRelation => k_is)
    (case xn_NoRelation_name => k_is)
    (case xil_NoRelation => k_is)
    (case xic_NoRelation => k_is)
    (case xik_NoRelation => k_is)
    (case v_NoMany => k_is)
    (case xl_NoMany => k_is)
    (case xr_NoMany => decide +kernel)
    (case xsa_NoMany => k_is)
    (case xhg_NoMany => k_is)
    (case xhk_NoMany => k_is)
    (case xha_NoMany => k_is)
    (case xii_NoMany => k_is)
    (case xex_NoMany => k_is)
    (case xty_NoMany => k_is)
    (case xk_NoMany => k_is)
    (case xhd_NoMany => k_is)
    (case xhm_NoMany => k_is)
    (case xti_NoMany => k_is)
    (case xkv_NoMany => k_is)
    (case xn_NoMany_name => k_is)
    (case xn_NoMany_many => k_is)
    (case xil_NoMany => k_is)
    (case xic_NoMany => k_is)
    (case xik_NoMany => k_is)
    (case v_NoQuestion => k_is)
    (case xl_NoQuestion => k_is)
    (case xr_NoQuestion => decide +kernel)
    (case xsa_NoQuestion => k_is)
    (case xhg_NoQuestion => k_is)
    (case xhk_NoQuestion => k_is)
    (case xha_NoQuestion => k_is)
    (case xii_NoQuestion => k_is)
    (case xex_NoQuestion => k_is)
    (case xty_NoQuestion => k_is)
    (case xk_NoQuestion => k_is)
    (case xhd_NoQuestion => k_is)
    (case xhm_NoQuestion => k_is)
    (case xti_NoQuestion => k_is)
    (case xkv_NoQuestion => k_is)
    (case xn_NoQuestion_found => k_is)
    (case xil_NoQuestion => k_is)
    (case xic_NoQuestion => k_is)
    (case xik_NoQuestion => k_is)
    (case v_NoForm => k_is)
    (case xl_NoForm => k_is)
    (case xr_NoForm => decide +kernel)
    (case xsa_NoForm => k_is)
    (case xhg_NoForm => k_is)
    (case xhk_NoForm => k_is)
    (case xha_NoForm => k_is)
    (case xii_NoForm => k_is)
    (case xex_NoForm => k_is)
    (case xty_NoForm => k_is)
    (case xk_NoForm => k_is)
    (case xhd_NoForm => k_is)
    (case xhm_NoForm => k_is)
    (case xti_NoForm => k_is)
    (case xkv_NoForm => k_is)
    (case xn_NoForm_found => k_is)
    (case xil_NoForm => k_is)
    (case xic_NoForm => k_is)
    (case xik_NoForm => k_is)
    (case v_NoPaper => k_is)
    (case xl_NoPaper => k_is)
    (case xr_NoPaper => decide +kernel)
    (case xsa_NoPaper => k_is)
    (case xhg_NoPaper => k_is)
    (case xhk_NoPaper => k_is)
    (case xha_NoPaper => k_is)
    (case xii_NoPaper => k_is)
    (case xex_NoPaper => k_is)
    (case xty_NoPaper => k_is)
    (case xk_NoPaper => k_is)
    (case xhd_NoPaper => k_is)
    (case xhm_NoPaper => k_is)
    (case xti_NoPaper => k_is)
    (case xkv_NoPaper => k_is)
    (case xn_NoPaper_found => k_is)
    (case xil_NoPaper => k_is)
    (case xic_NoPaper => k_is)
    (case xik_NoPaper => k_is)
    (case v_TooGreat => k_is)
    (case xl_TooGreat => k_is)
    (case xr_TooGreat => decide +kernel)
    (case xsa_TooGreat => k_is)
    (case xhg_TooGreat => k_is)
    (case xhk_TooGreat => k_is)
    (case xha_TooGreat => k_is)
    (case xii_TooGreat => k_is)
    (case xex_TooGreat => k_is)
    (case xty_TooGreat => k_is)
    (case xk_TooGreat => k_is)
    (case xhd_TooGreat => k_is)
    (case xhm_TooGreat => k_is)
    (case xti_TooGreat => k_is)
    (case xkv_TooGreat => k_is)
    (case xn_TooGreat_parts => k_is)
    (case xil_TooGreat => k_is)
    (case xic_TooGreat => k_is)
    (case xik_TooGreat => k_is)
    (case v_TooMany => k_is)
    (case xl_TooMany => k_is)
    (case xr_TooMany => decide +kernel)
    (case xsa_TooMany => k_is)
    (case xhg_TooMany => k_is)
    (case xhk_TooMany => k_is)
    (case xha_TooMany => k_is)
    (case xii_TooMany => k_is)
    (case xex_TooMany => k_is)
    (case xty_TooMany => k_is)
    (case xk_TooMany => k_is)
    (case xhd_TooMany => k_is)
    (case xhm_TooMany => k_is)
    (case xti_TooMany => k_is)
    (case xkv_TooMany => k_is)
    (case xn_TooMany_many => k_is)
    (case xil_TooMany => k_is)
    (case xic_TooMany => k_is)
    (case xik_TooMany => k_is)
    (case v_NoOrder => k_is)
    (case xl_NoOrder => k_is)
    (case xr_NoOrder => decide +kernel)
    (case xsa_NoOrder => k_is)
    (case xhg_NoOrder => k_is)
    (case xhk_NoOrder => k_is)
    (case xha_NoOrder => k_is)
    (case xii_NoOrder => k_is)
    (case xex_NoOrder => k_is)
    (case xty_NoOrder => k_is)
    (case xk_NoOrder => k_is)
    (case xhd_NoOrder => k_is)
    (case xhm_NoOrder => k_is)
    (case xti_NoOrder => k_is)
    (case xkv_NoOrder => k_is)
    (case xn_NoOrder_found => k_is)
    (case xil_NoOrder => k_is)
    (case xic_NoOrder => k_is)
    (case xik_NoOrder => k_is)
    (case v_Ended => k_is)
    (case xl_Ended => k_is)
    (case xr_Ended => decide +kernel)
    (case xsa_Ended => k_is)
    (case xhg_Ended => k_is)
    (case xhk_Ended => k_is)
    (case xha_Ended => k_is)
    (case xii_Ended => k_is)
    (case xex_Ended => k_is)
    (case xty_Ended => k_is)
    (case xk_Ended => k_is)
    (case xhd_Ended => k_is)
    (case xhm_Ended => k_is)
    (case xti_Ended => k_is)
    (case xkv_Ended => k_is)
    (case xil_Ended => k_is)
    (case xic_Ended => k_is)
    (case xik_Ended => k_is)
    (case v_NoLine => k_is)
    (case xl_NoLine => k_is)
    (case xr_NoLine => decide +kernel)
    (case xsa_NoLine => k_is)
    (case xhg_NoLine => k_is)
    (case xhk_NoLine => k_is)
    (case xha_NoLine => k_is)
    (case xii_NoLine => k_is)
    (case xex_NoLine => k_is)
    (case xty_NoLine => k_is)
    (case xk_NoLine => k_is)
    (case xhd_NoLine => k_is)
    (case xhm_NoLine => k_is)
    (case xti_NoLine => k_is)
    (case xkv_NoLine => k_is)
    (case xn_NoLine_found => k_is)
    (case xil_NoLine => k_is)
    (case xic_NoLine => k_is)
    (case xik_NoLine => k_is)
    (case xhn => k_is)
    (case xht => k_is)
    (case v_SeekError => k_is)
    (case sga => k_is)
    (case srd => k_is)
    (case svi => k_is)
    (case xex_SeekError => k_is)
    (case xty_SeekError => k_is)
    (case xhd_SeekError => k_is)
    (case sxi => k_exc)
    (case sxk => k_is)
    (case xhg_SeekError => k_is)
    (case xhk_SeekError => k_is)
    (case xha_SeekError => k_is)
    (case xhm_SeekError => k_is)
    (case xkv_SeekError => k_is)
    (case kmB => kernel_rfl)
    (case z_ValueError => k_is)
    (case z_isinstance => k_is)
    (case z_list => k_is)
    (case z_len => k_is)
    (case z_max => k_is)
    (case z_range => k_is)
    (case z_repr => k_is)
    (case z_int => k_is)
#print axioms PySem.Challenge.cw_fairseek_k02_refusals_apart_holds

