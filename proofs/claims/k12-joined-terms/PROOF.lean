import PyProof.Rows.All
import Wide.All
import OpenK.AllK
import Wide.FinOn
import HandS.ForMost
import HandS.IsInst
import HandS.Style
import HandS.Wide
import HandS.Walk
import HandS.ForExc
import HandS.ExcInit
import HandS.ExcField
import HandS.ExcIs
import HandS.TupAny
import HandS.Conv
import PyProof.ReprRoads
import PyProof.ReprBulk
import HandS.ExcBuiltin
import HandS.Defaults
import HandS.CallSlots
import HandS.Rev
import HandS.Deep
import HandS.SetKeys
import KE.GoesMore
import PyProof.EnumMake
import HandS.DictTup
import HandS.More
import HandS.Keys
import KE.KRevSl
import HandS.DictComp
import HandS.ExcValue
import HandS.TupLen
import KE.KDictKeyed
import KE.KeyNested
import HandS.Spec
import PySem.Challenge.RW_fairseek_k12_joined_terms
set_option Elab.async false
set_option linter.all false
set_option maxRecDepth 100000
namespace Fs
open PySem PySem.Spec PyProof.Rows L2
/-! ### heaps -/
theorem same_upd {H : Hp} {p : Addr} {o : HO} (h : H p = none) : Same H (upd H p o) := fun b x e => by
  rw [upd_ne (ne_of_none e h)]
  exact e
/-- all but what stands at p is as it was -/
def Off (p : Addr) (H H' : Hp) : Prop := ∀ b o, b ≠ p → H b = some o → H' b = some o
theorem Off.refl (p : Addr) (H : Hp) : Off p H H := fun _ _ _ h => h
theorem Off.trans {p : Addr} {H H1 H2 : Hp} (a : Off p H H1) (b : Off p H1 H2) : Off p H H2 := fun c o n h => b c o n (a c o n h)
theorem Off.of {p : Addr} {H H' : Hp} (a : Same H H') : Off p H H' := fun c o _ h => a c o h
theorem Off.put {p : Addr} {H : Hp} {o : HO} : Off p H (upd H p o) := fun c u n h => by
  rw [upd_ne n]
  exact h
theorem Off.new {p q : Addr} {H H' : Hp} {o : HO} (a : Off p H H') (h : H' q = none) : Off p H (upd H' q o) := fun c u n e => by
  have e' := a c u n e
  rw [upd_ne (ne_of_none e' h)]
  exact e'
theorem Off.free {p q : Addr} {H H' : Hp} (a : Off p H H') (h : H' q = none) (n : q ≠ p) : H q = none := by
  cases e : H q with
  | none => rfl
  | some o =>
    rw [a q o n e] at h
    cases h
theorem Off.mut {p q : Addr} {H H' : Hp} {o : HO} (a : Off p H H') (h : H q = none) : Off p H (upd H' q o) := fun c u n e => by
  rw [upd_ne (ne_of_none e h)]
  exact a c u n e
/-- p is new: nothing of old is touched -/
theorem Off.same {p : Addr} {H0 H H' : Hp} (s : Same H0 H) (n : H0 p = none) (a : Off p H H') : Same H0 H' := fun c o e =>
  a c o (ne_of_none e n) (s c o e)
theorem same_mut {H H' : Hp} {p : Addr} {o : HO} (e : Same H H') (h : H p = none) : Same H (upd H' p o) := fun b x q => by
  rw [upd_ne (ne_of_none q h)]
  exact e b x q
theorem sz_le {n : Nat} (h : n ≤ 1000000) : n ≤ sizeLine := Nat.le_trans h (by decide)
theorem sz_lt {n : Nat} (h : n < 1000000) : n < sizeLine := Nat.lt_of_lt_of_le h (by decide)
/-! ### kinds of things -/
inductive Kn where
  | non | bl | int | str | lst | tup | dct
def Kn.name : Kn → String
  | .non => "NoneType" | .bl => "bool" | .int => "int" | .str => "str" | .lst => "list" | .tup => "tuple" | .dct => "dict"
def Kn.isBl : Kn → Bool
  | .bl => true | _ => false
def Kn.isInt : Kn → Bool
  | .bl => true | .int => true | _ => false
def Kn.isWhole : Kn → Bool
  | .int => true | _ => false
def Kn.isStr : Kn → Bool
  | .str => true | _ => false
def Kn.isTup : Kn → Bool
  | .tup => true | _ => false
def Kn.isLst : Kn → Bool
  | .lst => true | _ => false
abbrev Knd (K : PySem.W.Frag) (H : Hp) (x : V) (k : Kn) : Prop := TyX K H x (.type k.name)
theorem kit_bl {K : PySem.W.Frag} (k : Kn) : PySem.W.kitOne K (.type k.name) (.type "bool") = some k.isBl := kit_ty (by cases k <;> decide +kernel)
theorem kit_int {K : PySem.W.Frag} (k : Kn) : PySem.W.kitOne K (.type k.name) (.type "int") = some k.isInt := kit_ty (by cases k <;> decide +kernel)
theorem kit_str {K : PySem.W.Frag} (k : Kn) : PySem.W.kitOne K (.type k.name) (.type "str") = some k.isStr := kit_ty (by cases k <;> decide +kernel)
theorem kit_tup {K : PySem.W.Frag} (k : Kn) : PySem.W.kitOne K (.type k.name) (.type "tuple") = some k.isTup := kit_ty (by cases k <;> decide +kernel)
theorem kit_lst {K : PySem.W.Frag} (k : Kn) : PySem.W.kitOne K (.type k.name) (.type "list") = some k.isLst := kit_ty (by cases k <;> decide +kernel)
section
variable {K : PySem.W.Frag} {H : Hp}
theorem kn_non : Knd K H .non .non := .base .non
theorem kn_bl (b : Bool) : Knd K H (.bl b) .bl := .base (.bl b)
theorem kn_int (i : Int) : Knd K H (.int i) .int := .base (.int i)
theorem kn_str (x : Str) : Knd K H (.str x) .str := .base (.str x)
theorem kn_lst {a : Addr} {xs : List V} (e : H a = some (.lst xs)) : Knd K H (.ref a) .lst := .base (.lst e)
theorem kn_tup {a : Addr} {xs : List V} (e : H a = some (.tup xs)) : Knd K H (.ref a) .tup := .base (.tup e)
theorem kn_dct {a : Addr} {xs : List (Key × V)} (e : H a = some (.dK xs)) : Knd K H (.ref a) .dct := .base (.dK e)
end
theorem Knd.same {K : PySem.W.Frag} {H H' : Hp} {x : V} {k : Kn} (h : Knd K H x k) (s : Same H H') : Knd K H' x k := by
  revert h
  show TyX K H x (.type k.name) → TyX K H' x (.type k.name)
  generalize Value.type k.name = t
  intro h
  cases h with
  | base b =>
    cases b with
    | non => exact .base .non
    | bl x => exact .base (.bl x)
    | int i => exact .base (.int i)
    | str x => exact .base (.str x)
    | flt x => exact .base (.flt x)
    | lst e => exact .base (.lst (s _ _ e))
    | frz e => exact .base (.frz (s _ _ e))
    | tup e => exact .base (.tup (s _ _ e))
    | dK e => exact .base (.dK (s _ _ e))
    | dT e => exact .base (.dT (s _ _ e))
    | ins e cl ha hn htk hm => exact .base (.ins (s _ _ e) cl ha hn htk hm)
  | byt b => exact .byt b
  | set e => exact .set (s _ _ e)
  | kList e c => exact .kList e c
  | kTuple e c => exact .kTuple e c
  | kDict e c => exact .kDict e c
  | fTuple e => exact .fTuple (s _ _ e)
  | fDict e => exact .fDict (s _ _ e)
/-! ### indices -/
theorem atI_of {α : Type} {xs : List α} {i : Int} {x : α} (h0 : 0 ≤ i) (h : xs[i.toNat]? = some x) : atI xs i = some x := by
  have e : i = ((i.toNat : Nat) : Int) := by omega
  rw [e]
  exact atI_nat h
theorem atI_in {α : Type} {xs : List α} {i : Int} (h0 : 0 ≤ i) (h1 : i < (xs.length : Int)) : ∃ x, atI xs i = some x ∧ x ∈ xs := by
  have hl : i.toNat < xs.length := by omega
  exact ⟨xs[i.toNat], atI_of h0 (List.getElem?_eq_getElem hl), List.getElem_mem hl⟩
theorem lst_at {H : Hp} {l : Addr} {xs : List V} {i : Int} (h : H l = some (.lst xs)) (h0 : 0 ≤ i) (h1 : i < (xs.length : Int)) : ∃ x, H l = some (.lst xs) ∧ atI xs i = some x ∧ x ∈ xs := by
  obtain ⟨x, a, b⟩ := atI_in h0 h1
  exact ⟨x, h, a, b⟩
/-! ### texts -/
def OkS (z : Str) : Prop := ∀ c ∈ z.cps.toList, c < 1114112
theorem OkS.dec {z : Str} (h : z.cps.toList.all (fun c => decide (c < 1114112)) = true) : OkS z := fun c hc => of_decide_eq_true (List.all_eq_true.mp h c hc)
theorem OkS.strOk {z : Str} (h : OkS z) : PyData.strOk z = true := by
  unfold PyData.strOk
  rw [← Array.all_toList, List.all_eq_true]
  exact fun c hc => decide_eq_true (h c hc)
theorem cps_app (a b : Str) : (a ++ b).cps.toList = a.cps.toList ++ b.cps.toList := by
  show (a.cps ++ b.cps).toList = _
  simp
theorem OkS.app {a b : Str} (ha : OkS a) (hb : OkS b) : OkS (a ++ b) := fun c hc => by
  rw [cps_app] at hc
  rcases List.mem_append.mp hc with h | h
  · exact ha c h
  · exact hb c h
theorem OkS.cut {a : Str} (ha : OkS a) (lo hi : Option Int) : OkS (cutS a lo hi) := fun c hc => by
  unfold cutS at hc
  rw [List.toList_toArray] at hc
  exact ha c (List.mem_of_mem_drop (List.mem_of_mem_take hc))
theorem OkS.one {c : Nat} (h : c < 1114112) : OkS ⟨#[c]⟩ := fun d hd => by
  have e : d = c := by simpa using hd
  rw [e]
  exact h
theorem cps_glued (sep : Str) : ∀ (rest : List Str) (acc : Array Nat), (rest.foldl (fun acc p => acc ++ sep.cps ++ p.cps) acc).toList = acc.toList ++ (rest.map fun p => sep.cps.toList ++ p.cps.toList).flatten
  | [], acc => by simp
  | p :: r, acc => by
    rw [List.foldl_cons, cps_glued sep r]
    simp
theorem OkS.join {sep : Str} (hs : OkS sep) : ∀ {ys : List Str}, (∀ y ∈ ys, OkS y) → OkS (Txt.join sep ys)
  | [], _ => fun c hc => by
    have e : (Txt.join sep []).cps.toList = [] := rfl
    rw [e] at hc
    cases hc
  | y :: r, h => fun c hc => by
    have e : (Txt.join sep (y :: r)).cps.toList = y.cps.toList ++ (r.map fun p => sep.cps.toList ++ p.cps.toList).flatten := cps_glued sep r y.cps
    rw [e] at hc
    rcases List.mem_append.mp hc with hc | hc
    · exact h y List.mem_cons_self c hc
    · obtain ⟨l, hl, hc⟩ := List.mem_flatten.mp hc
      obtain ⟨p, hp, rfl⟩ := List.mem_map.mp hl
      rcases List.mem_append.mp hc with hc | hc
      · exact hs c hc
      · exact h p (List.mem_cons_of_mem _ hp) c hc
/-- a ≤ b ≤ c, c a name's value -/
theorem chain_var {a b c : Int} {R : VK} {H : Hp} {σ : L2.St} {i : Nat} (hi : σ[i]? = some (some (.int c))) (h : R (.bl (decide (a ≤ b) && decide (b ≤ c))) H) :
    ∃ k, V.bl (decide (a ≤ b)) = .bl k ∧ (if k = true then tVar i σ H (fun w' H4 => rI0 (fun i j => .bl (decide (i ≤ j))) (.int b) w' H4 R) else R (.bl false) H) := by
  refine ⟨_, rfl, ?_⟩
  by_cases c1 : a ≤ b
  · rw [decide_eq_true c1] at h ⊢
    exact ⟨_, hi, _, _, rfl, rfl, h⟩
  · rw [decide_eq_false c1] at h ⊢
    exact h

/-! ### a def whose promise may lean on this: nothing is being shown around (repr's own guard is empty) -/
structure FnG (P : Program) (w : World) (K : PySem.W.Frag) (mg : Str → Option Value) (base : Heap) (CX : CXT) (k : Nat) (f : Addr) (fd : FuncData) (ps : List Str) (sp : Sp) : Prop where
  len : ∀ vs H Q E, sp vs H Q E → vs.length = ps.length
  go : ∀ (A : Around) (outer : List PySem.Env) (s : Shared) (H : Hp) (args : Args) (us : List Value) (vs : List V) (Q : VK) (E : XK), Room k A → A.guards = some [] → Env0 P w K mg base A outer s H → BindsTo s fd args (ps.zip us) → Vals vs us → sp vs H Q E →
    codeAny (model P w) A (.call (.ref f) args) (CR CX outer P w H s Q E) s
theorem FnG.of {P : Program} {w : World} {K : PySem.W.Frag} {mg : Str → Option Value} {base : Heap} {CX : CXT} {k : Nat} {f : Addr} {fd : FuncData} {ps : List Str} {sp : Sp} (F : FnOk P w K mg base CX k f fd ps sp) : FnG P w K mg base CX k f fd ps sp :=
  ⟨F.len, fun A outer s H args us vs Q E hr _ => F.run A outer s H args us vs Q E hr⟩
theorem FnG.mono {P : Program} {w : World} {K : PySem.W.Frag} {mg : Str → Option Value} {base : Heap} {CX : CXT} {j k : Nat} {f : Addr} {fd : FuncData} {ps : List Str} {sp : Sp} (F : FnG P w K mg base CX j f fd ps sp) (h : j ≤ k) : FnG P w K mg base CX k f fd ps sp :=
  ⟨F.len, fun A outer s H args us vs Q E hr => F.go A outer s H args us vs Q E (hr.mono h)⟩
section
variable {P : Program} {w : World} {K : PySem.W.Frag} {mg : Str → Option Value} {base : Heap}
theorem fnG_of {CX : CXT} {x qual : Str} {st : Stmt} {f : Addr} {fd : FuncData} {N ps : List Str} {k : Nat} {sp : Sp} (F : Fun K x qual st f fd) (S : FnScope N ps (defScope st)) (len : ∀ vs H Q E, sp vs H Q E → vs.length = ps.length)
    (hbody : ∀ (cdv : Value) (A : Around) (outer : List PySem.Env) (s : Shared) (H : Hp) (vs : List V) (Q : VK) (E : XK), Room k (A.deeper (envOfC qual (defScope st) s.heap.objs.size f cdv)) → A.guards = some [] → sp vs H Q E →
      ∃ t, PSs (cxOf CX P w K mg base N qual (defScope st) f cdv A outer s H E) (defBody st) t ∧ t { nx := fun _ H' => Q .non H', rt := Q } (L2.start N vs) H) : FnG P w K mg base CX (k + 1) f fd ps sp := by
  obtain ⟨oc, od, kV, doc, pm, an, cdv, ct, osl, rfl, lk, hcd⟩ := F.ex
  refine ⟨len, fun A outer s H args us vs Q E hr hg e0 hb r hsp => ?_⟩
  have kept : ∀ b o, base.get? b = some o → s.heap.get? b = some o := fun b o e => (e0.bs b o e).1
  have KX := e0.mod.kin.keeps kept
  have lim := e0.mod.nolimit.keeps kept
  refine codeAny_call_function hr.depth (KX _ _ lk) rfl S.co S.gen rfl (PySem.W.codeRec_of KX hcd) (hb _ _ _ _ (wpAny_newFunctionEnv_cells S.kind (fun y hy => ?_) fun env he s1 x => ?_))
  · rcases S.par y.1 (List.of_mem_zip hy).1 with q | q
    · exact .inl q
    · exact .inr ⟨q, PySem.W.cellsFrom_some _ _ _ (.inl q)⟩
  · subst he
    obtain ⟨t, ht, hq⟩ := hbody cdv A outer s H vs Q E (hr.deeper _) hg hsp
    refine ⟨lim.keeps x.toInCall.keep, codeAny_func (wpAny_mono (ht.run [] s1 (L2.start N vs) H _ (inv_start S hr.hd e0 (len _ _ _ _ hsp) r x) hq) (fun fl s' hs => ?_) fun e s' hs => hs)⟩
    cases fl with
    | ret u =>
      obtain ⟨v, _, H', J, rv, q⟩ := hs
      exact ⟨v, H', J.os, J.bare, J.base, J.hok, rv, q⟩
    | next =>
      obtain ⟨_, H', J, q⟩ := hs
      exact ⟨.non, H', J.os, J.bare, J.base, J.hok, rfl, q⟩
    | brk => exact hs.choose_spec.choose_spec.2.elim
    | cont => exact hs.choose_spec.choose_spec.2.elim
/-- a def that lets nothing out -/
theorem okG {x qual : Str} {st : Stmt} {f : Addr} {fd : FuncData} {N ps : List Str} {k : Nat} {sp : Sp} (F : Fun K x qual st f fd) (S : FnScope N ps (defScope st)) (len : ∀ vs H Q E, sp vs H Q E → vs.length = ps.length)
    (hbody : ∀ (cdv : Value) (A : Around) (outer : List PySem.Env) (s : Shared) (H : Hp) (vs : List V) (Q : VK) (E : XK), Room k (A.deeper (envOfC qual (defScope st) s.heap.objs.size f cdv)) → A.guards = some [] → sp vs H Q E →
      ∃ t, PSs (cxOf CX0 P w K mg base N qual (defScope st) f cdv A outer s H E).nox (defBody st) t ∧ t { nx := fun _ H' => Q .non H', rt := Q } (L2.start N vs) H) : FnG P w K mg base CX0 (k + 1) f fd ps sp :=
  fnG_of F S len fun cdv A outer s H vs Q E hr hg h => by
    obtain ⟨t, ht, q⟩ := hbody cdv A outer s H vs Q E hr hg h
    exact ⟨t, ht.nox, q⟩
end
section
variable {X : Cx} {CX : CXT} {k : Nat} {f : Addr} {fd : FuncData} {ps : List Str} {sp : Sp} {E : XK} {x : Str} {p pos : Pos} {e : Expr} {es : List Expr} {t : TA}
theorem runG {pins : List (Addr × Obj)} {σ : L2.St} {H : Hp} {s : Shared} {Q : VK} {us : List Value} {vs : List V} (F : FnG X.prog X.w X.K X.mg X.base CX k f fd ps sp) (hr : Room k X.A) (hgd : X.A.guards = some []) (hb : Binds X.K fd ps []) (hx : Passes CX X E)
    (I : Inv X pins σ H s) (r : Vals vs us) (h : sp (vs ++ []) H Q E) : wpAny (model X.prog X.w) X.A (call (.ref f) us) (EP X pins σ Q) X.xe s := by
  have r2 : Vals (vs ++ []) (us ++ []) := r.append .nil
  have hl : (us ++ []).length = ps.length := r2.length.symm.trans (F.len _ _ _ _ h)
  refine wpAny_call (codeAny_mono (F.go X.A X.stack s H ⟨us, []⟩ (us ++ []) (vs ++ []) Q E hr hgd I.env0 (hb s us I.kIn hl) r2 h) fun r s' hq => ?_)
  match r, hq with
  | .error e, hq => exact hx pins σ H s e s' I hq
  | .ok (.ret u), hq => exact I.after hq
theorem pe_callG (F : FnG X.prog X.w X.K X.mg X.base CX k f fd ps sp) (hr : Room k X.A) (hgd : X.A.guards = some []) (hg : Gl X x) (hm : X.mg x = some (.ref f)) (hk : PySem.W.keepIn X.K (.ref f) = true) (hb : Binds X.K fd ps []) (hx : Passes CX X E)
    (ha : PA X (e :: es) t) (hdb : (x == ("__debug__" : Str)) = false := by decide) (he : starEach (e :: es) X.env = (false, eval e X.env) :: starEach es X.env := by rfl) (hpl : (backTo pos (starEach es X.env)).any (·.1) = false := by rfl) :
    PE X (.Call (.Name x p) (e :: es) [] pos) (tCall sp [] E t) :=
  ⟨fun pins s σ H Q I h => wpAny_Call_Name_kw (ld_glob I hg hm (PySem.W.callWith_K (h₀ := X.base) I.ok.mod.kin hk
    (thn (ha.run pos pins s σ H _ I h) fun us s1 ⟨vs, H1, I1, r, q⟩ => ⟨I1.kIn, runG F hr hgd hb hx I1 r q⟩) he hpl) hdb)⟩
theorem pe_callG0 (F : FnG X.prog X.w X.K X.mg X.base CX k f fd ps sp) (hr : Room k X.A) (hgd : X.A.guards = some []) (hg : Gl X x) (hm : X.mg x = some (.ref f)) (hk : PySem.W.keepIn X.K (.ref f) = true) (hb : Binds X.K fd ps []) (hx : Passes CX X E)
    (hdb : (x == ("__debug__" : Str)) = false := by decide) : PE X (.Call (.Name x p) [] [] pos) (tCall sp [] E tNil) :=
  ⟨fun pins s σ H Q I h => wpAny_Call_Name_kw (ld_glob I hg hm (PySem.W.callWith_K0 I.kIn hk (runG (us := []) F hr hgd hb hx I .nil h)) hdb)⟩
end
/-! ### the end of a law whose def is such a one -/
theorem lawG {P : Program} {w : World} {K : PySem.W.Frag} {mg mb : Str → Option Value} {k : Nat} {fa a : Addr} {fd : FuncData} {x : Str} {sp : Sp} {s1 : Shared} {vs : List Value} {ns : List Int}
    (KX : K.In s1.heap) (hns : s1.heap.Ns mainGlobals mg) (hb : s1.heap.Ns builtinsNs mb) (hbb : ∀ x : Str, x ≠ "__name__" → mb x = bootBuiltins x) (hlim : s1.heap.NoLimit) (hg : s1.gens = #[])
    (ha : s1.heap.get? a = some { cls := .type "list", data := .seq vs.toArray }) (hi : IntsAre vs ns) (hl : ns.length ≤ sizeLine) (hr : Room k callerA)
    (F : ∀ base : Heap, K.In base → base.Ns mainGlobals mg → FnG P w K mg base CX0 k fa fd [x] sp) (hbind : ∀ (s : Shared) (u : Value), BindsTo s fd ⟨[u], []⟩ [(x, u)])
    (hsp : ∀ H : Hp, SqL K H a (ns.map V.int) → sp [.ref a] H (fun v _ => v = .bl true) fun _ _ _ => False) :
    codeAny (model P w) callerA (.call (.ref fa) ⟨[.ref a], []⟩) (fun r s' => r = .ok (.ret (.bool true)) ∧ OldK s1.heap s'.heap ∧ s'.os = s1.os ∧ AllBare s'.gens) s1 := by
  have rv := vals_ints hi
  have key : ∀ H : Hp, SqL K H a (ns.map V.int) → HOk P w H s1.heap → (∀ b u, H b = some u → b = a ∧ (∃ o xs, u = .frz o (.lst xs)) ∧ K.lookup a = none) →
      codeAny (model P w) callerA (.call (.ref fa) ⟨[.ref a], []⟩) (fun r s' => r = .ok (.ret (.bool true)) ∧ OldK s1.heap s'.heap ∧ s'.os = s1.os ∧ AllBare s'.gens) s1 := by
    intro H hS hok hA
    have free : ∀ {b : Addr}, (∀ o, s1.heap.get? b = some o → ¬ (b = a ∧ K.lookup a = none)) → ∀ o, s1.heap.get? b = some o → H b = none := fun {b} n o e => by
      cases q : H b with
      | none => rfl
      | some u => exact absurd ⟨(hA b u q).1, (hA b u q).2.2⟩ (n o e)
    have nsK : ∀ {b : Addr} {m : Str → Option Value}, s1.heap.Ns b m → (hidT s1.heap H).Ns b m := fun {b m} ⟨o, es, ep, e, d, r⟩ =>
      ⟨o, es, ep, hidT_get e (free (fun o2 e2 z => by
        rw [z.1, ha] at e
        cases e
        cases d) o e), d, r⟩
    have hKb : K.In (hidT s1.heap H) := fun b o e => hidT_get (KX b o e) (free (fun o2 e2 z => by
      rw [z.1, z.2] at e
      cases e) o (KX b o e))
    have hM : Mod K mg (hidT s1.heap H) := ⟨hKb, nsK hns, ⟨mb, nsK hb, hbb⟩, let ⟨mc, h1, h2⟩ := hlim; ⟨mc, nsK h1, h2⟩⟩
    have no : ∀ b : Addr, b ∉ ([] : List Addr) := fun b => by simp
    have e0 : Env0 P w K mg (hidT s1.heap H) callerA [] s1 H := ⟨rfl, hM, fun b o e => of_hidT e, Nat.le_of_eq (hidT_size _ _), trivial, fun b hb => absurd hb (no b), hok, .of_eq hg⟩
    refine codeAny_mono ((F _ hKb (nsK hns)).go callerA [] s1 H ⟨[.ref a], []⟩ [.ref a] [.ref a] _ _ hr rfl e0 (hbind s1 (.ref a)) (.cons rfl .nil) (hsp H hS)) fun r s' h => ?_
    match r, h with
    | .error e, h => exact h.elim
    | .ok (.ret u), h =>
      obtain ⟨v, H', os, bare, un, hok', r', q⟩ := h
      cases (show v = .bl true from q)
      cases (show u = Value.bool true from r')
      refine ⟨rfl, OldK.of_keep fun b o e => ?_, os, bare⟩
      cases q : H b with
      | none => exact un.keep b o e q (no b) (no b)
      | some u =>
        obtain ⟨_, ⟨ob, xs, rfl⟩, _⟩ := hA b u q
        have e1 := (hok b _ q).1
        rw [e] at e1
        cases e1
        exact (hok' b _ (un.frzs b _ _ q)).1
  cases hk : K.lookup a with
  | some o =>
    have e := KX a o hk
    rw [ha] at e
    cases e
    exact key (fun _ => none) (.inr ⟨_, vs.toArray, _, hk, rfl, rfl, rfl, by rw [List.size_toArray, hi.length]; exact hl, by simpa using rv⟩) (fun b u z => nomatch z) fun b u z => nomatch z
  | none =>
    let ob : Obj := { cls := .type "list", data := .seq vs.toArray }
    have at_ : ∀ b u, (fun c : Addr => if c = a then some (HO.frz ob (.lst (ns.map V.int))) else none) b = some u → b = a ∧ u = .frz ob (.lst (ns.map V.int)) := fun b u z => by
      by_cases hb : b = a
      · exact ⟨hb, (Option.some.inj ((if_pos hb).symm.trans z)).symm⟩
      · have z' := (if_neg hb).symm.trans z
        cases z'
    refine key (fun c => if c = a then some (.frz ob (.lst (ns.map V.int))) else none) (.inl (.inr ⟨ob, if_pos rfl⟩)) (fun b u z => ?_) fun b u z => ?_
    · obtain ⟨rfl, rfl⟩ := at_ b u z
      exact ⟨ha, by rw [List.length_map]; exact hl, vs, _, rv, ha⟩
    · obtain ⟨rfl, rfl⟩ := at_ b u z
      exact ⟨rfl, ⟨_, _, rfl⟩, hk⟩
theorem walkG {l : PySem.W.OpenLaw} {n k : Nat} {q : Program} {loose : List Str} {XP : (Str → Option Value) → Heap → Prop} {YP : World → Heap → Prop} {d : DefRec} {K : Params → PySem.W.Frag} {sp : PySem.W.Frag → Sp} {x : Str}
    (hn : l.most = some n) (hn2 : n ≤ sizeLine) (hdf : d.params.defaults = []) (hr : Room k callerA) (hY : ∀ (w : World) (h : Heap), YP w h → (K w.params).In h)
    (F : ∀ (w : World) (mg : Str → Option Value) (fa : Addr) (h : Heap), (K w.params).In h → h.Ns mainGlobals mg → mg d.name = some (.ref fa) →
      ∃ fd : FuncData, (∀ (s : Shared) (u : Value), BindsTo s fd ⟨[u], []⟩ [(x, u)]) ∧ ∀ base : Heap, (K w.params).In base → base.Ns mainGlobals mg → FnG l.prog w (K w.params) mg base CX0 k fa fd [x] (sp (K w.params)))
    (hsp : ∀ (K : PySem.W.Frag) (H : Hp) (a : Addr) (ns : List Int), ns.length ≤ n → SqL K H a (ns.map V.int) → sp K [.ref a] H (fun v _ => v = .bl true) fun _ _ _ => False) :
    PySem.W.WalkO q loose XP YP l.row.toRowW d [] (fun f vs => PySem.call f vs) := by
  refine Att.attach_call hn hdf fun w s0 s1 mg mb fa o pm cd doc a vs ns G Y ho hd hcd hmg hobj hints hlen hg => ?_
  obtain ⟨fd, hb, hF⟩ := F w mg fa _ (hY w _ Y) G.T.g hmg
  exact lawG (hY w _ Y) G.T.g G.T.b G.T.builtins G.T.nolimit hg hobj hints (Nat.le_trans hlen hn2) hr hF hb fun H hS => hsp _ H a ns hlen hS


/-! ### a list held against the empty list, whatever stands in it -/
def rNilL (K : PySem.W.Frag) (neg : Bool) : R2 := fun x y H Q => ∃ a b xs, x = .ref a ∧ y = .ref b ∧ SqL K H a xs ∧ SqL K H b [] ∧ Q (.bl (if neg then !xs.isEmpty else xs.isEmpty)) H
section
variable {X : Cx}
theorem op_neNil (hu : X.A.units + 64 < cLine) : OpR X (compareOp .NotEq) (rNilL X.K true) := by
  intro pins s σ H x y v u Q I rx ry h
  obtain ⟨a, b, xs, rfl, rfl, hx, hy, q⟩ := h
  cases rx
  cases ry
  obtain ⟨its, r, pl, _⟩ := I.list hx
  obtain ⟨its2, r2, pl2, _⟩ := I.list hy
  cases r2
  have hu' : X.A.units < cLine := Nat.lt_of_le_of_lt (Nat.le_add_right _ _) hu
  cases r with
  | nil =>
    exact SeqAt.RcNeAt.lists (e := fun _ => true) pl.isList pl2.isList rfl hu' (fun j h1 => absurd h1 (by simp)) X.prog X.w X.xe _ ⟨.bl false, H, I, rfl, q⟩
  | cons r1 r2 =>
    exact SeqAt.RcNeAt.lists_lengths pl.isList pl2.isList (by simp) hu' X.prog X.w X.xe _ ⟨.bl true, H, I, rfl, q⟩
theorem op_eqNil (hu : X.A.units + 64 < cLine) : OpR X (compareOp .Eq) (rNilL X.K false) := by
  intro pins s σ H x y v u Q I rx ry h
  obtain ⟨a, b, xs, rfl, rfl, hx, hy, q⟩ := h
  cases rx
  cases ry
  obtain ⟨its, r, pl, _⟩ := I.list hx
  obtain ⟨its2, r2, pl2, _⟩ := I.list hy
  cases r2
  have hu' : X.A.units < cLine := Nat.lt_of_le_of_lt (Nat.le_add_right _ _) hu
  cases r with
  | nil => exact SeqAt.eq_listAt (e := fun _ => true) pl.isList pl2.isList rfl hu' (fun j h1 => absurd h1 (by simp)) ⟨.bl true, H, I, rfl, q⟩
  | cons r1 r2 => exact SeqAt.eq_list_lengthsAt pl.isList pl2.isList (by simp) hu' ⟨.bl false, H, I, rfl, q⟩
end
/-! ### data, empty dicts too -/
mutual
inductive Dq (K : PySem.W.Frag) (H : Hp) : V → PyData → Prop
  | non : Dq K H .non .none
  | bl (b : Bool) : Dq K H (.bl b) (.bool b)
  | int (i : Int) : Dq K H (.int i) (.int i)
  | str (x : Str) : Dq K H (.str x) (.str x)
  | lst {a : Addr} {xs : List V} {ds : List PyData} : SqL K H a xs → DqAll K H xs ds → Dq K H (.ref a) (.list ds)
  | tup {a : Addr} {xs : List V} {ds : List PyData} : SqT K H a xs → DqAll K H xs ds → Dq K H (.ref a) (.tuple ds)
  | dct {a : Addr} : H a = some (.dK []) → Dq K H (.ref a) (.dict [])
inductive DqAll (K : PySem.W.Frag) (H : Hp) : List V → List PyData → Prop
  | nil : DqAll K H [] []
  | cons {v : V} {vs : List V} {d : PyData} {ds : List PyData} : Dq K H v d → DqAll K H vs ds → DqAll K H (v :: vs) (d :: ds)
end
section
variable {K : PySem.W.Frag} {H H' : Hp}
theorem seqT {a : Addr} {xs : List V} (e : Same H H') (h : SqT K H a xs) : SqT K H' a xs := by
  rcases h with (h | ⟨o, h⟩) | h
  · exact .inl (.inl (e _ _ h))
  · exact .inl (.inr ⟨o, e _ _ h⟩)
  · exact .inr h
mutual
theorem Dq.same (s : Same H H') : ∀ {v : V} {d : PyData}, Dq K H v d → Dq K H' v d
  | _, _, .non => .non
  | _, _, .bl b => .bl b
  | _, _, .int i => .int i
  | _, _, .str x => .str x
  | _, _, .lst h r => .lst (s.seq h) (DqAll.same s r)
  | _, _, .tup h r => .tup (seqT s h) (DqAll.same s r)
  | _, _, .dct h => .dct (s _ _ h)
theorem DqAll.same (s : Same H H') : ∀ {vs : List V} {ds : List PyData}, DqAll K H vs ds → DqAll K H' vs ds
  | _, _, .nil => .nil
  | _, _, .cons h r => .cons (Dq.same s h) (DqAll.same s r)
end
theorem DqAll.length : ∀ {vs : List V} {ds : List PyData}, DqAll K H vs ds → vs.length = ds.length
  | _, _, .nil => rfl
  | _, _, .cons _ r => congrArg Nat.succ r.length
end
section
variable {X : Cx} {pins : List (Addr × Obj)} {σ : L2.St} {H : Hp} {s : Shared}
/-- how a value is read and shown -/
def Rk (X : Cx) (h : Heap) (u : Value) (d : PyData) : Prop := (∃ as, Reads h u d as) ∧ ∃ bs, ReadAtMost h d.depth bs ∧ ReprK X.prog X.w bs h d.depth u d.shown
def RkAll (X : Cx) (h : Heap) (us : List Value) (ds : List PyData) : Prop := (∃ as, ReadsAll h us ds as) ∧ ∃ bs, ReadAtMost h (PyData.depthAll ds) bs ∧ ReprAllK X.prog X.w bs h (PyData.depthAll ds) us (PyData.shownAll ds)
theorem rk_leaf {h : Heap} {u : Value} {d : PyData} (r : Reads h u d []) (i : ReprIs X.prog X.w u d.shown) : Rk X h u d := ⟨⟨_, r⟩, [], (fun _ z => nomatch z), .of_is i _ _ _⟩
mutual
theorem Dq.rk (I : Inv X pins σ H s) : ∀ (d : PyData) (v : V) (u : Value), Dq X.K H v d → RelV v u → d.showable = true → d.shown.length ≤ sizeLine → Rk X s.heap u d
  | .none, _, _, h, r, _, _ => by
    cases h
    cases r
    exact rk_leaf .none ReprIs.none
  | .bool b, _, _, h, r, _, _ => by
    cases h
    cases r
    exact rk_leaf (.bool b) (ReprIs.bool b)
  | .int i, _, _, h, r, hs, _ => by
    cases h
    obtain ⟨t, rfl⟩ := r
    exact rk_leaf (.int i t) (ReprIs.int t (of_decide_eq_true hs))
  | .str x, _, _, h, r, _, hz => by
    cases h
    obtain ⟨t, rfl⟩ := r
    exact rk_leaf (.str x t) (ReprIs.str x t hz)
  | .list ds, _, _, h, r, hs, hz => by
    cases h with
    | @lst a xs _ hq ha =>
      cases r
      obtain ⟨its, rv, ⟨o, n, ho, hc, _, hd⟩, _⟩ := I.list hq
      obtain ⟨⟨as, hr⟩, bs, hb, hk⟩ := DqAll.rk I ds _ its ha rv hs fun t ht => Nat.le_trans (listText_mem_le ht) hz
      have rd : Reads s.heap (.ref a) (.list ds) _ := Reads.list ho hc hd hr
      refine ⟨⟨_, rd⟩, a :: bs, ReadAtMost.cons rd (Nat.le_succ _) hb, ?_⟩
      cases its with
      | nil =>
        cases hr
        exact ReprK.listEmpty ho hc hd
      | cons x l => exact ReprK.list ho hc hd (not_mem_of_deeper rd (Nat.lt_succ_self _) hb) (by simpa using hk.length_eq) fun i y e => hk.item i y (by simpa using e)
  | .tuple ds, _, _, h, r, hs, hz => by
    cases h with
    | @tup a xs _ hq ha =>
      cases r
      obtain ⟨its, rv, ⟨o, ho, hc, n, hd⟩, _⟩ := I.tuple hq
      obtain ⟨⟨as, hr⟩, bs, hb, hk⟩ := DqAll.rk I ds _ its ha rv hs fun t ht => Nat.le_trans (tupleText_mem_le ht) hz
      have rd : Reads s.heap (.ref a) (.tuple ds) _ := Reads.tuple ho hc hd hr
      exact ⟨⟨_, rd⟩, a :: bs, ReadAtMost.cons rd (Nat.le_succ _) hb, ReprK.tuple ho hc hd (not_mem_of_deeper rd (Nat.lt_succ_self _) hb) hk⟩
  | .dict kvs, _, _, h, r, hs, hz => by
    cases h with
    | @dct a ha =>
      cases r
      obtain ⟨_, hsys, vs, hv, o, es, ep, ho, hc, hd, _, he, _⟩ := (show ObjOk X.prog X.w H s.heap a (.dK []) from I.hok a _ ha)
      cases hv
      have he' : es.toList = [] := by
        cases hp : es.toList with
        | nil => rfl
        | cons x l =>
          rw [hp] at he
          cases he
      have e : es = #[] := by
        cases es
        cases he'
        rfl
      subst e
      have rd : Reads s.heap (.ref a) (.dict []) _ := Reads.dict ho hc.1 hd ReadsAll.nil ReadsAll.nil
      exact ⟨⟨_, rd⟩, [a], ReadAtMost.cons rd (Nat.zero_le _) (fun _ z => nomatch z), ReprK.dict ho hc.1 hd hsys (fun z => nomatch z) .nil⟩
theorem DqAll.rk (I : Inv X pins σ H s) : ∀ (ds : List PyData) (vs : List V) (us : List Value), DqAll X.K H vs ds → Vals vs us → PyData.showableAll ds = true → (∀ t ∈ PyData.shownAll ds, t.length ≤ sizeLine) → RkAll X s.heap us ds
  | [], _, _, h, r, _, _ => by
    cases h
    cases r
    exact ⟨⟨_, .nil⟩, [], (fun _ z => nomatch z), .nil⟩
  | d :: ds, _, _, h, r, hs, hz => by
    cases h with
    | cons h1 h2 =>
      cases r with
      | cons r1 r2 =>
        obtain ⟨s1, s2⟩ := Bool.and_eq_true_iff.mp hs
        obtain ⟨⟨_, q1⟩, b1, m1, k1⟩ := Dq.rk I d _ _ h1 r1 s1 (hz _ List.mem_cons_self)
        obtain ⟨⟨_, q2⟩, b2, m2, k2⟩ := DqAll.rk I ds _ _ h2 r2 s2 fun t ht => hz t (List.mem_cons_of_mem _ ht)
        exact ⟨⟨_, .cons q1 q2⟩, b1 ++ b2, (m1.mono (Nat.le_max_left _ _)).append (m2.mono (Nat.le_max_right _ _)),
          .cons ((k1.more fun _ z => List.mem_append_left _ z).level_le (Nat.le_max_left _ _)) (k2.more_le (fun _ z => List.mem_append_right _ z) (Nat.le_max_right _ _))⟩
end
/-- repr of a list -/
def rReprL (K : PySem.W.Frag) : List V → Hp → VK → Prop := fun xs H Q => ∃ (a : Addr) (d : PyData) (ds : List PyData), xs = [.ref a] ∧ Dq K H (.ref a) (.list (d :: ds)) ∧ PyData.showable (.list (d :: ds)) = true ∧ (PyData.shown (.list (d :: ds))).length ≤ sizeLine ∧
  PyData.depth (.list (d :: ds)) ≤ 190 ∧ Q (.str (PyData.shown (.list (d :: ds)))) H
theorem call_reprL (hgd : X.A.guards = some []) (hu : X.A.units + 200 < cLine) : CallR X (.builtin "repr") (rReprL X.K) := by
  intro pins s σ H xs us Q I r h
  obtain ⟨a, d, ds, rfl, hq, hs, hz, hd, q⟩ := h
  obtain ⟨u, rfl, rx⟩ := vals1 r
  cases rx
  cases hq with
  | @lst _ ys _ hl ha =>
    obtain ⟨its, rv, ⟨o, n, ho, hc, _, hda⟩, _⟩ := I.list hl
    obtain ⟨⟨as, hr⟩, bs, hb, hk⟩ := DqAll.rk I (d :: ds) _ its ha rv hs fun t ht => Nat.le_trans (listText_mem_le ht) hz
    have rd : Reads s.heap (.ref a) (.list (d :: ds)) _ := Reads.list ho hc hda hr
    cases its with
    | nil =>
      have hr' : ReadsAll s.heap [] (d :: ds) as := hr
      cases hr'
    | cons x l =>
      have hd' : PyData.depthAll (d :: ds) + 1 ≤ 190 := hd
      refine call_repr_slot (by omega) ⟨o, ho, hc⟩ F.slot_list_repr.toG (call_list_reprK ho hc hda (not_mem_of_deeper rd (Nat.lt_succ_self _) hb) (by simpa using hk.length_eq) (fun i y e => hk.item i y (by simpa using e)) hgd (fun b _ => Clear.nil b)
        (by show X.A.units + 1 + (PyData.depthAll (d :: ds) + 1) < cLine; omega) (fun _ _ e => e) (fun h' u tk k => ⟨_, _, rfl, .str (PyData.shown (.list (d :: ds))), H, I.kept k, ⟨_, rfl⟩, q⟩) hz)
end
/-! ### len, its deed by a name -/
def rLenS (K : PySem.W.Frag) : List V → Hp → VK → Prop := fun xs H Q => ∃ p ys, xs = [.ref p] ∧ (SqL K H p ys ∨ SqT K H p ys) ∧ Q (.int ys.length) H
theorem call_lenS {X : Cx} : CallR X (.builtin "len") (rLenS X.K) := call_len_seq

/-! ### walking what is a list or a tuple -/
/-- a list (true) or a tuple (false) -/
def SeqB (b : Bool) (K : PySem.W.Frag) (H : Hp) (a : Addr) (xs : List V) : Prop := if b = true then SqL K H a xs else SqT K H a xs
theorem SeqB.same {b : Bool} {K : PySem.W.Frag} {H H' : Hp} {a : Addr} {xs : List V} (h : SeqB b K H a xs) (s : Same H H') : SeqB b K H' a xs := by
  cases b with
  | true => exact s.seq h
  | false => exact seqT s h
theorem SeqB.or {b : Bool} {K : PySem.W.Frag} {H : Hp} {a : Addr} {xs : List V} (h : SeqB b K H a xs) : SqL K H a xs ∨ SqT K H a xs := by
  cases b with
  | true => exact .inl h
  | false => exact .inr h
theorem SeqB.knd {b : Bool} {K : PySem.W.Frag} {H : Hp} {a : Addr} {xs : List V} (h : SeqB b K H a xs) : ∃ k : Kn, Knd K H (.ref a) k ∧ (k.isLst || k.isTup) = true := by
  cases b with
  | true =>
    refine ⟨.lst, ?_, rfl⟩
    rcases h with (h | ⟨o, h⟩) | ⟨o, its, n, h, c, _⟩
    · exact .base (.lst h)
    · exact .base (.frz h)
    · exact .kList h c
  | false =>
    refine ⟨.tup, ?_, rfl⟩
    rcases h with (h | ⟨o, h⟩) | ⟨o, its, n, h, c, _⟩
    · exact .base (.tup h)
    · exact .fTuple h
    · exact .kTuple h c
section
variable {X : Cx} {tg : Expr}
/-- the walk of a list or a tuple at a: whichever it is, its turns are the items -/
def iSeqA (K : PySem.W.Frag) (tl : TE) : TI := fun σ H R => tl σ H fun x H1 => ∃ a xs b, x = .ref a ∧ SeqB b K H1 a xs ∧
  ∀ J : It, Walk J xs.length (fun H => SeqB b K H a xs) (YAt xs) → R J H1
theorem pi_seqA {l : Expr} {tl : TE} (hl : PE X l tl) : PI X tg l (iSeqA X.K tl) := by
  refine ⟨fun pins s σ H R I h => ?_⟩
  refine thn (hl.run pins s σ H _ I h) fun v s1 ⟨x, H1, I1, r1, q1⟩ => ?_
  obtain ⟨a, xs, b, e, hq, q⟩ := q1
  subst e
  cases r1
  cases b with
  | true =>
    have hq : SqL X.K H1 a xs := hq
    have q := q (Itl X.K a) walk_list
    obtain ⟨its, rv, p, hz⟩ := I1.list hq
    refine wpAny_pyIter_list p.isList ?_
    refine ⟨s1.heap.objs.size, [s1.heap.objs.size], _, _, H1, rfl, I1.kept (t' := s1.toks) fun b o e => Heap.get?_push_of_some _ e, turn_list a _, ⟨_, Heap.get?_push_size _ rfl, rfl, rfl⟩, fun b hb => ?_, q⟩
    have e : b = s1.heap.objs.size := by simpa using hb
    subst e
    exact I1.fpOk (Nat.le_refl _) (I1.hok.fresh (Nat.le_refl _))
  | false =>
    have hq : SqT X.K H1 a xs := hq
    have q := q (Itt X.K a) walk_tup
    obtain ⟨its, rv, p, hz⟩ := I1.tuple hq
    refine wpAny_pyIter_tuple (show s1.heap.IsTuple a its.toArray from p) ?_
    refine ⟨s1.heap.objs.size, [s1.heap.objs.size], _, _, H1, rfl, I1.kept (t' := s1.toks) fun b o e => Heap.get?_push_of_some _ e, turn_tuple a _, ⟨_, Heap.get?_push_size _ rfl, rfl, rfl⟩, fun b hb => ?_, q⟩
    have e : b = s1.heap.objs.size := by simpa using hb
    subst e
    exact I1.fpOk (Nat.le_refl _) (I1.hok.fresh (Nat.le_refl _))
end
/-! ### reversed(..) of a list or a tuple -/
section
variable {X : Cx} {tg : Expr}
theorem pe_wide {e : Expr} {te : TE} (h : PE X e te) : PE X e (fun σ H Q => ∃ Q' : VK, te σ H Q' ∧ ∀ v H1, Q' v H1 → Q v H1) :=
  ⟨fun pins s σ H Q I ⟨Q', q, m⟩ => wpAny_mono (h.run pins s σ H Q' I q) (fun _ _ ⟨v, H1, J, r, z⟩ => ⟨v, H1, J, r, m v H1 z⟩) fun _ _ z => z⟩
theorem walk_revT {K : PySem.W.Frag} {a : Addr} {xs : List V} : Walk (RT.ItvT K a xs.length) xs.length (fun H => SqT K H a xs) (fun i H x H' => H' = H ∧ xs[xs.length - 1 - i]? = some x) :=
  ⟨fun i _ hi q => ⟨hi, xs, xs[xs.length - 1 - i]'(by omega), q, by simp [show xs.length - 1 - i < xs.length by omega]⟩, fun _ _ => Nat.le_refl _, fun _ _ _ _ _ q y => ⟨y.1, y.2 xs q⟩⟩
def iRevS (K : PySem.W.Frag) (te : TE) : TI := fun σ H R => te σ H fun v H1 => ∃ (a : Addr) (xs : List V) (b : Bool), v = .ref a ∧ SeqB b K H1 a xs ∧
  ∀ J : It, Walk J xs.length (fun H => SeqB b K H a xs) (fun i H x H' => H' = H ∧ xs[xs.length - 1 - i]? = some x) → R J H1
theorem pi_revS {e : Expr} {te : TE} {p pos : Pos} (hg : Gl X "reversed") (hm : X.mg "reversed" = none) (he : PE X e te) (hs : starEach [e] X.env = (false, eval e X.env) :: starEach [] X.env := by rfl) : PI X tg (.Call (.Name "reversed" p) [e] [] pos) (iRevS X.K te) := by
  refine ⟨fun pins s σ H R I h => (RT.pi_revA hg hm (pe_wide he) hs).run pins s σ H R I ⟨_, h, fun v H1 hh => ?_⟩⟩
  obtain ⟨a, xs, b, ev, hq, q⟩ := hh
  cases b with
  | true => exact ⟨a, xs, ev, .inl ⟨hq, q _ walk_rev⟩⟩
  | false => exact ⟨a, xs, ev, .inr ⟨hq, q _ walk_revT⟩⟩
end
theorem kit_lt {K : PySem.W.Frag} (k : Kn) : PySem.W.kitAny K (.type k.name) [.type "list", .type "tuple"] = some (k.isLst || k.isTup) := by
  have h1 := kit_lst (K := K) k
  have h2 := kit_tup (K := K) k
  unfold PySem.W.kitAny
  rw [h1]
  cases k.isLst with
  | true => rfl
  | false =>
    show PySem.W.kitAny K (.type k.name) [.type "tuple"] = _
    unfold PySem.W.kitAny
    rw [h2]
    cases k.isTup <;> rfl


/-! ### SeekError.__init__(self, ..): the class's own name, the built-in's deed -/
section
variable {X : Cx} {e : Expr} {es : List Expr} {ta : TA} {p1 p2 pos : Pos} {S : Addr} {mc : Value}
theorem pe_seinit {x : Str} {pl : Sem Bool} (hg : Gl X x) (hm : X.mg x = some (.ref S)) (hga : PySem.W.specialIn X.K (.ref S) "__getattribute__" = some (some (.builtin "type.__getattribute__"))) (hrd : PySem.W.readsIn X.K S mc = true)
    (vV : PySem.W.findCls X.K (.ref S) mc "__init__" = some (.val (.builtin "ValueError.__init__"))) (ha : PA X (e :: es) ta) (hdb : (x == ("__debug__" : Str)) = false := by decide)
    (hc : eval (.Call (.Attribute (.Name x p1) "__init__" p2) (e :: es) [] pos) X.env = (do
      let ov ← eval (.Name x p1) X.env
      standAt p2.atName
      let (f, first) ← holding [ov] (getMethod ov "__init__" pl)
      callWith pos f first (backTo pos (starEach (e :: es) X.env)) (backToKw pos (keywordEach [] X.env))) := by rfl)
    (he : starEach (e :: es) X.env = (false, eval e X.env) :: starEach es X.env := by rfl) (hpl : (backTo pos (starEach es X.env)).any (·.1) = false := by rfl) :
    PE X (.Call (.Attribute (.Name x p1) "__init__" p2) (e :: es) [] pos) (tVeI X.K ta) := by
  refine ⟨fun pins s σ H Q I h => PySem.W.methodCall_KW (ld_glob I hg hm (PySem.W.method_cls I.kIn hga (PySem.W.cls_value I.kIn hrd vV (by decide +kernel) ?_)) hdb) hc⟩
  show wpAny _ _ (callWith pos (Value.builtin "ValueError.__init__") [] (backTo pos (starEach (e :: es) X.env)) []) _ _ _
  refine PyProof.Rows.callWith_method1 (thn (ha.run pos pins _ σ H _ (I.tok _) h) fun us s1 ⟨vs, H1, I1, r1, a, C, ws, ev, hl, T, ea, q⟩ => ?_) he hpl
  subst ev
  match us, r1 with
  | u0 :: ur, .cons ra rr =>
    cases (show u0 = Value.ref a from ra)
    exact oinit_ok T I1 ea (by rw [← Paired.length rr, sizeLine_eq]; omega) fun s' J => ⟨.non, H1, J, rfl, q⟩
end
/-! ### isinstance(e, C), isinstance(e, (C, D)), e the caught exception with its dict -/
section
open PySem.W
variable {prog : Program} {w : World} {A : Around} {E : Value → Shared → Prop} {s : Shared} {K : Frag} {x D : Addr} {ox : Obj} {od : Option Obj}
theorem class_of_exc (C : ExcC K D) {Q : Option Value → Shared → Prop} (X : K.In s.heap) (I : InstAt s.heap x ox D od) (h : Q (some (.ref D)) { s with toks := s.toks + 1 }) : wpAny (model prog w) A (getAttr? (.ref x) "__class__") Q E s := by
  have hf : findObj K D od "__class__" = some (.bind (.builtin "getset_descriptor.__get__") (.builtin "object.__class__")) := by
    obtain ⟨cd, hc, _⟩ := any_some C.hd
    unfold findObj
    rw [hc, Option.bind_some, C.ha, Option.bind_some]
    simp [C.hn, C.ht]
  obtain ⟨hp, g, d, t, os⟩ := s
  have L0 := I.type (M := model prog w)
  have no : (onTheHeap (Value.ref D) && Value.builtin "BaseException.__getattribute__" == Value.builtin "object.__getattribute__") = false := by
    rw [show (Value.builtin "BaseException.__getattribute__" == Value.builtin "object.__getattribute__") = false by decide +kernel]
    rfl
  unfold getAttr? getAttrBy? getAttrBy
  refine wpAny_bind (wpAny_mkText (wpAny_bind (wpAny_attempt (wpAny_holding (wpAny_bind (L0.at (wpAny_bind ((looks_findIn X C.hg).at ?_))))))))
  dsimp only
  rw [no, if_neg Bool.false_ne_true]
  unfold getAttrByItsOwn hookBefore
  refine wpAny_bind ?_
  rw [if_pos (show onTheHeap (Value.ref D) = true from rfl)]
  refine (looks_findIn X C.hk).at (wpAny_bind (wpAny_attempt (wpAny_holding ?_)))
  unfold callGetattribute
  rw [if_neg (show ¬ (false && onTheHeap (Value.builtin "BaseException.__getattribute__")) = true from Bool.false_ne_true)]
  unfold boundAndCalled
  rw [PySem.F.excAttr_ValueError.ga.bind (.ref x)]
  refine wpAny_bind (wpAny_pure (wpAny_call (codeAny_call_builtin PySem.F.excAttr_ValueError.ga.plain PySem.F.entry_bexc_ga ?_)))
  refine @check_slot (model prog w) _ _ ⟨hp, g, d, t + 1, os⟩ "BaseException.__getattribute__" "BaseException" "__getattribute__" (.ref x) [.str "__class__" t] [] _ (by decide +kernel) (by decide +kernel) (L0.andThen (looks_subIn X C.hs)) (PySem.F.args_bexc_ga (.ref x) (.str "__class__" t)) ?_
  unfold Builtin.«object.__getattribute__»
  refine wpAny_bind (wpAny_of_eq (a := ((Value.ref x : Value), [Value.str "__class__" t])) (by first | rfl | (simp only [slotArgs]; rfl)) ?_)
  refine wpAny_bind (wpAny_pure (wpAny_bind (L0.at (wpAny_bind ((looks_find (M := model prog w) X I hf).at ?_)))))
  show wpAny _ _ (holding [Value.builtin "object.__class__"] (call (.builtin "getset_descriptor.__get__") [.builtin "object.__class__", .ref x, .ref D]) >>= ret) _ _ _
  refine wpAny_bind (wpAny_holding (wpAny_call (class_get (s := ⟨hp, g, d, t + 1, os⟩) (ox := ox) (od := od) X I C.hm (wpAny_pure ?_))))
  show wpAny _ _ (handedOut (.ref D)) _ _ _
  rw [handedOut_of (v := .ref D) rfl]
  first
    | exact wpAny_pure (wpAny_pure h)
    | exact wpAny_pure h
    | exact wpAny_pure (wpAny_bind (wpAny_pure (wpAny_pure h)))
theorem kit_exc (C : ExcC K D) (hd : ∃ cd, clsIn K D = some cd) : KitX K (.ref x) (.ref D) (fun h => InstAt h x ox D od) where
  ty := fun _ _ _ I => I.type
  it := fun _ _ X _ => by
    obtain ⟨cdD, hcD⟩ := hd
    unfold clsIn at hcD
    split at hcD
    · rename_i c' d' cd' sl' ho
      intro A' Q' E' s' k q
      unfold isType loadHead
      exact wpAny_bind (wpAny_loadPart (k _ _ (X _ _ ho)) (wpAny_pure q))
    · cases hcD
  ne := fun h tp dd its n sl X htp => by
    obtain ⟨cdD, hcD⟩ := hd
    refine Bool.eq_false_iff.mpr fun q => ?_
    cases (Value.ref.inj (beq_iff_eq.mp q))
    unfold clsIn at hcD
    split at hcD
    · rename_i c' d' cd' sl' ho
      cases (X _ _ ho).symm.trans htp
    · cases hcD
  ca := fun X I k => class_of_exc C X I k
end
/-- isinstance of the exception at a that the suite holds; its class D, its dict dd -/
def rIsX (K : PySem.W.Frag) (a : Addr) (cls : Value) (d : Option Addr) : List V → Hp → VK → Prop := fun xs H Q => ∃ (D dd : Addr) (fs : List (Str × V)) (b : Bool), cls = .ref D ∧ d = some dd ∧ H dd = some (.xd fs) ∧ ExcC K D ∧
  ((∃ c cv, xs = [.ref a, c] ∧ ClsV c cv ∧ PySem.W.kitOne K (.ref D) cv = some b) ∨ ∃ tp cs us, xs = [.ref a, .ref tp] ∧ H tp = some (.tup cs) ∧ Paired ClsV cs us ∧ PySem.W.kitAny K (.ref D) us = some b) ∧ Q (.bl b) H
theorem call_isX {X : Cx} {a : Addr} {oe : Obj} {cls : Value} {d : Option Addr} {pn : List (Addr × Obj)} (hz : Zc cls d oe) (hf : ∃ vs, oe.data = .fields vs) : CallR (X.suite a ((a, oe) :: pn)) (.builtin "isinstance") (rIsX X.K a cls d) := by
  intro pins s σ H xs us Q I r h
  obtain ⟨D, dd, fs, b, rfl, rfl, hdd, C, hk, q⟩ := h
  obtain ⟨hget, _⟩ := I.pin (a, oe) (List.mem_append_left _ List.mem_cons_self)
  obtain ⟨vs, hv⟩ := hf
  obtain ⟨mA, hns, _⟩ := (show ObjOk X.prog X.w H s.heap dd (.xd fs) from I.hok dd _ hdd)
  obtain ⟨od, ho, _⟩ := lookIn_ns hns
  have J : PySem.W.InstAt s.heap a oe D (some od) := ⟨hget, hz.1, by unfold PySem.W.notCls; rw [hv] <;> rfl, by rw [hz.2]; exact ho⟩
  have Z := kit_exc (x := a) (ox := oe) (od := some od) C (let ⟨cd, hc, _⟩ := PySem.W.any_some C.hd; ⟨cd, hc⟩)
  have fin : ∀ tk, EP (X.suite a ((a, oe) :: pn)) pins σ Q (.bool b) { s with toks := tk } := fun tk => ⟨.bl b, H, I.tok tk, rfl, q⟩
  rcases hk with ⟨c, cv, rfl, k, e⟩ | ⟨tp, cs, ws, rfl, hT, k, e⟩
  · obtain ⟨u1, u2, rfl, r1, r2⟩ := vals2 r
    cases r1
    have e2 := k.eq r2
    subst e2
    exact PySem.W.kia_one Z I.kIn J e (fun z => nomatch z) fin
  · obtain ⟨u1, u2, rfl, r1, r2⟩ := vals2 r
    cases r1
    cases (show u2 = Value.ref tp from r2)
    obtain ⟨_, its, rv, o, h1, h2, n, h3⟩ := (show ObjOk X.prog X.w H s.heap tp (.tup cs) from I.hok tp _ hT)
    have e3 := ClsV.all k rv
    subst e3
    obtain ⟨oc, oD, dt, sl⟩ := o
    simp only at h2 h3
    subst h2 h3
    exact PySem.W.kia_tup Z I.kIn J h1 e (fun z => nomatch z) fin
/-! ### try with several clauses, named or not -/
abbrev HdR := Value × (Addr → Value → Option Addr → TS)
/-- what the clauses wish of what the body raises, the first that fits -/
def wMix (K : PySem.W.Frag) (Wout : WX) (D : Ends) : List HdR → WX
  | [] => Wout
  | (c, r) :: l => fun cls d σ H => ∃ b, PySem.W.exmOne K cls c = some b ∧ (b = true → ∀ a, H a = none → r a cls d D σ H) ∧ (b = false → wMix K Wout D l cls d σ H)
/-- a named clause's suite: the name holds the exception, and is gone behind it -/
def asName (i : Nat) (ts : Addr → Value → Option Addr → TS) : Addr → Value → Option Addr → TS := fun a cls d D σ H =>
  ts a cls d { nx := fun σ' H' => D.nx (σ'.set i none) H', rt := D.rt, bk := fun σ' H' => D.bk (σ'.set i none) H', ct := fun σ' H' => D.ct (σ'.set i none) H' } (σ.set i (some (.ref a))) H
def SuiteOk (X : Cx) (b : List Stmt) (ts : Addr → Value → Option Addr → TS) : Prop :=
  ∀ (a : Addr) (oe : Obj) (cls : Value) (d : Option Addr) (pn : List (Addr × Obj)), Zc cls d oe → (∃ vs, oe.data = .fields vs) → PSs (X.suite a ((a, oe) :: pn)) b (ts a cls d)
inductive MixOk (X : Cx) : List ExceptHandler → List HdR → Prop
  | nil : MixOk X [] []
  | bare {x : Str} {c : Value} {ts : Addr → Value → Option Addr → TS} {b0 : Stmt} {bs : List Stmt} {np ps : Pos} {hds : List ExceptHandler} {l : List HdR} (hc : Names X x c) (hsu : SuiteOk X (b0 :: bs) ts) (r : MixOk X hds l) :
      MixOk X (.ExceptHandler (some (.Name x np)) none (b0 :: bs) ps :: hds) ((c, ts) :: l)
  | named {x n : Str} {i : Nat} {c : Value} {ts : Addr → Value → Option Addr → TS} {b0 : Stmt} {bs : List Stmt} {np ps : Pos} {hds : List ExceptHandler} {l : List HdR} (hc : Names X x c) (hN : X.N.Nodup) (hi : X.N[i]? = some n) (hln : X.env.kindOf n = some .local)
      (hsu : SuiteOk X (b0 :: bs) ts) (r : MixOk X hds l) : MixOk X (.ExceptHandler (some (.Name x np)) (some n) (b0 :: bs) ps :: hds) ((c, asName i ts) :: l)
section
variable {X : Cx} {body : List Stmt} {h0 : ExceptHandler} {hds : List ExceptHandler} {l : List HdR} {pos : Pos} {tb : WX → TS} {Wout : WX}
theorem ps_try_mix (hs : X.stack = X.env :: X.outer) (hf : X.env.frame = some X.env.locals) (tk : Takes X Wout)
    (hb : ∀ (W : WX) (pn : List (Addr × Obj)) (xe : Value → Shared → Prop), Takes (X.tr pn xe) W → PassesOwn (model X.prog X.w) X.A X.env xe → PSs (X.tr pn xe) body (tb W))
    (hh : MixOk X (h0 :: hds) l) : PS X (.Try body (h0 :: hds) [] [] pos) (fun D σ H => tb (wMix X.K Wout D l) D σ H) := by
  refine ⟨fun pins s σ H D I h => wpAny_Try_except ?_⟩
  have ok := I.ok
  refine wpAny_mono ((hb (wMix X.K Wout D l) (X.pn ++ pins) _ (fun u s' xx => ?_) PassesOwn.looking).run [] s σ H D (I.toTry _) h) (fun f s1 hsp => ?_) (fun e s1 he => he)
  · -- what was raised is looked at by the clauses
    obtain ⟨a, B, sI, pins', σ', H', cls, d, rfl, J', nb, up, sky, na, os, ag, w⟩ := xx
    have J : Inv X pins σ' H' sI := J'.ofTry ok
    rw [hs] at sky
    refine Sky.land Zc.steady (show X.A.frames = some (X.env :: X.outer) by rw [ok.frames, hs]) hf sky fun h3 fl3 up3 => ?_
    have land : ∀ {h4 : Heap}, HandSPX.FlyingZ B (X.env :: X.outer) a (Zc cls d) h4 → _ → Inv X pins σ' H' { s' with heap := h4 } := fun {h4} fl4 up4 => J.landed nb fl4.1 (up.trans up4) os ag
    have J3 := land fl3 up3
    obtain ⟨oe3, vs3, he3, hz3, hd3⟩ := fl3.there
    have nfr : a ∉ frs (X.env :: X.outer) := fun hm => by
      obtain ⟨_, o', e', hnf⟩ := fl3.2.2.1.mem hm
      rw [he3] at e'
      cases e'
      exact hnf _ hd3
    have nL : a ≠ X.env.locals := fun z => nfr (List.mem_filterMap.mpr ⟨X.env, List.mem_cons_self, by rw [hf, z]⟩)
    have nF : a ∉ X.fs := fun hm => by
      obtain ⟨e, he, q⟩ := List.mem_filterMap.mp hm
      exact nfr (List.mem_filterMap.mpr ⟨e, List.mem_cons_of_mem _ he, q⟩)
    have S3 := J3.suite he3 hd3 na nL nF
    have LT : PySem.W.Looks (model X.prog X.w) h3 (typeOf (.ref a)) cls := fun A Q E s k q => wpAny_typeOf_ref (k _ _ he3) (by rw [hz3.1]; exact q)
    have test : ∀ {x : Str} {c : Value} {np : Pos} {Q : Value → Shared → Prop} {E : Value → Shared → Prop}, Names X x c → Q c { s' with heap := h3 } → wpAny (model X.prog X.w) (X.A.mark (some (.ref a))) (eval (.Name x np) X.env) Q E { s' with heap := h3 } := fun {x c np Q E} hc q => by
      obtain ⟨hg, hdbg, hm | ⟨hm, hv, hnn⟩⟩ := hc
      · exact ld_glob (X := X.suite a ((a, oe3) :: (X.pn ++ pins))) S3 hg hm q hdbg
      · exact ld_blt (X := X.suite a ((a, oe3) :: (X.pn ++ pins))) S3 hg hm hv q hnn hdbg
    have go : ∀ {hds' : List ExceptHandler} {l' : List HdR}, MixOk X hds' l' → wMix X.K Wout D l' cls d σ' H' → wpAny (model X.prog X.w) X.A (handleBy (.ref a) X.env hds') (SP X pins D) X.xe { s' with heap := h3 } := by
      intro hds' l' hk
      induction hk with
      | nil =>
        intro w
        refine wpAny_handleBy_nil ?_
        obtain ⟨_, _, _, oe, vs, T, oT, ts', he, hz, hd, h1, hr⟩ := id fl3
        unfold PySem.passOn
        refine wpAny_bind (wpAny_field he hd h1 ?_)
        rw [if_neg (show ¬ ((Value.ref T == Value.none) = true) by simp)]
        have fin : wpAny (model X.prog X.w) X.A (setFlight (.ref a) X.env.frame) (fun _ s4 => wpAny (model X.prog X.w) X.A (throw (.ref a) : Sem Flow) (SP X pins D) X.xe s4) X.xe { s' with heap := h3 } := by
          rw [hf]
          exact HandSPX.setFlight_upZ fl3 fun h4 hh4 up4 => wpAny_throw (tk _ _ ⟨a, B, sI, pins, σ', H', cls, d, rfl, J, nb, (up.trans up3).trans up4, .inr (.inr (by rw [hs]; exact hh4)), na, os, ag, w⟩)
        first
          | exact wpAny_bind (wpAny_pure (wpAny_bind fin))
          | exact wpAny_bind fin
      | bare hc hsu r ih =>
        intro w
        obtain ⟨b, hb1, hyes, hno⟩ := w
        refine wpAny_handleBy_cons (codeAny_handlers_test (test hc ((PySem.W.exm_one (M := model X.prog X.w) J3.kIn LT hb1).here ?_))) (by intro q; cases q)
        cases b with
        | false => exact ih (hno rfl)
        | true =>
          refine codeAny_handlers_suite (HandSPX.lands_againZ fl3 fun h4 fl4 up4 => ?_)
          obtain ⟨oe4, vs4, he4, hz4, hd4⟩ := fl4.there
          have S4 := (land fl4 (up3.trans up4)).suite he4 hd4 na nL nF
          refine wpAny_mono ((hsu a oe4 cls d (X.pn ++ pins) hz4 ⟨_, hd4⟩).run [] _ _ H' _ S4 (hyes rfl a na)) (fun f s6 hsp => ?_) (fun _ _ z => z.elim)
          match f, hsp with
          | .next, ⟨σ6, H6, S6, q6⟩ => exact ⟨_, _, S6.unsuite ok, q6⟩
          | .brk, ⟨σ6, H6, S6, q6⟩ => exact ⟨_, _, S6.unsuite ok, q6⟩
          | .cont, ⟨σ6, H6, S6, q6⟩ => exact ⟨_, _, S6.unsuite ok, q6⟩
          | .ret u, ⟨v6, σ6, H6, S6, r6, q6⟩ => exact ⟨_, _, _, S6.unsuite ok, r6, q6⟩
      | @named x n i c ts b0 bs np ps hds2 l2 hc hN hi hln hsu r ih =>
        intro w
        obtain ⟨b, hb1, hyes, hno⟩ := w
        refine wpAny_handleBy_cons (codeAny_handlers_test (test hc ((PySem.W.exm_one (M := model X.prog X.w) J3.kIn LT hb1).here ?_))) (by intro q; cases q)
        cases b with
        | false => exact ih (hno rfl)
        | true =>
          refine codeAny_handlers_suite_as (HandSPX.lands_againZ fl3 fun h4 fl4 up4 => ?_)
          obtain ⟨oe4, vs4, he4, hz4, hd4⟩ := fl4.there
          have S4 := (land fl4 (up3.trans up4)).suite he4 hd4 na nL nF
          refine store_ok (X := X.suite a ((a, oe4) :: (X.pn ++ pins))) (v := .ref a) S4 hN hi (.inl hln) rfl (fun s5 S5 => ?_) (.inr hln)
          refine wpAny_mono ((hsu a oe4 cls d (X.pn ++ pins) hz4 ⟨_, hd4⟩).run [] s5 _ H' _ S5 (hyes rfl a na)) (fun f s6 hsp => ?_) (fun _ _ z => z.elim)
          match f, hsp with
          | .next, ⟨σ6, H6, S6, q6⟩ => exact gone_ok (S6.unsuite ok) hN hi hln fun s7 J7 => ⟨_, _, J7, q6⟩
          | .brk, ⟨σ6, H6, S6, q6⟩ => exact gone_ok (S6.unsuite ok) hN hi hln fun s7 J7 => ⟨_, _, J7, q6⟩
          | .cont, ⟨σ6, H6, S6, q6⟩ => exact gone_ok (S6.unsuite ok) hN hi hln fun s7 J7 => ⟨_, _, J7, q6⟩
          | .ret u, ⟨v6, σ6, H6, S6, r6, q6⟩ => exact gone_ok (S6.unsuite ok) hN hi hln fun s7 J7 => ⟨_, _, _, J7, r6, q6⟩
    exact go hh w
  · match f, hsp with
    | .next, ⟨σ', H', J', q⟩ => exact wpAny_execs_nil ⟨σ', H', J'.ofTry ok, q⟩
    | .brk, ⟨σ', H', J', q⟩ => exact ⟨σ', H', J'.ofTry ok, q⟩
    | .cont, ⟨σ', H', J', q⟩ => exact ⟨σ', H', J'.ofTry ok, q⟩
    | .ret u, ⟨v, σ', H', J', r, q⟩ => exact ⟨v, σ', H', J'.ofTry ok, r, q⟩
end
/-! ### isinstance against an own class, against a built-in one -/
theorem kit_refE {K : PySem.W.Frag} {C : Addr} {cls : Value} {b : Bool} (hdct : PySem.W.hasDictIn K C = true) (ht : PySem.W.typeIn K (.ref C) = some (.type "type")) (h4 : PySem.W.subIn K cls (.ref C) = some b) (hb : cls = .ref C → some true = some b) : PySem.W.kitOne K cls (.ref C) = some b := by
  obtain ⟨cd, hc, _⟩ := PySem.W.any_some hdct
  have e2 : ((PySem.W.clsIn K C).isSome && PySem.W.typeIn K (.ref C) == some (.type "type")) = true := by rw [hc, ht] <;> rfl
  unfold PySem.W.kitOne
  by_cases e : (cls == .ref C) = true
  · rw [if_pos e]
    exact hb (eq_of_beq e)
  · rw [if_neg e]
    show (if ((PySem.W.clsIn K C).isSome && PySem.W.typeIn K (.ref C) == some (.type "type")) = true then PySem.W.subIn K cls (.ref C) else none) = some b
    rw [if_pos e2]
    exact h4
theorem kit_tyE {K : PySem.W.Frag} {C : Addr} {n : String} {b : Bool} (h : PySem.W.subIn K (.ref C) (.type n) = some b) (hm : PySem.W.kitMeta n = true) : PySem.W.kitOne K (.ref C) (.type n) = some b := by
  unfold PySem.W.kitOne
  rw [if_neg (show ¬ ((Value.ref C == Value.type n) = true) by simp)]
  show (if PySem.W.kitMeta n = true then PySem.W.subIn K (.ref C) (.type n) else none) = some b
  rw [if_pos hm]
  exact h


/-! ## the mirror: what a def computes, told without the heap -/
/-- kinds of containers; the truth: whether it is owned (may change) -/
inductive Kd where
  | tup | lst (o : Bool) | dct (o : Bool) (ks : List Key) | ob (o : Bool) (c : Str) (fs : List Str)
/-- a mirrored value: data that stays, or a container -/
inductive T where
  | f (d : PyData)
  | nd (k : Kd) (ts : List T)
abbrev T.lst (ts : List T) : T := .nd (.lst true) ts
abbrev T.dct (ks : List Key) (ts : List T) : T := .nd (.dct true ks) ts
abbrev MEnv := List (Option T)
inductive Ou (α : Type) where
  | no | ok (a : α) (ρ : MEnv) | ex (c : Nat) (p : List (Str × PyData)) (ρ : MEnv)
def Ou.bd {α β : Type} (m : Ou α) (k : α → MEnv → Ou β) : Ou β := match m with
  | .no => .no
  | .ok a ρ => k a ρ
  | .ex c p ρ => .ex c p ρ
def Ou.of {α : Type} (x : Option α) (ρ : MEnv) : Ou α := match x with
  | some a => .ok a ρ
  | none => .no
inductive Fl where
  | nx | bk | ct | rt (t : T)
abbrev MV := MEnv → Ou PyData
abbrev ME := MEnv → Ou T
abbrev MB := MEnv → Ou Bool
abbrev MA := MEnv → Ou (List PyData)
abbrev MO := MEnv → Ou (Option Int)
abbrev MS := MEnv → Ou Fl
abbrev Mf := List T → Ou T
def gt : MEnv → Nat → Option T
  | [], _ => none
  | x :: _, 0 => x
  | _ :: r, i + 1 => gt r i
def st : MEnv → Nat → Option T → MEnv
  | [], _, _ => []
  | _ :: r, 0, t => t :: r
  | x :: r, i + 1, t => x :: st r i t
/-- all data -/
def allF : List T → Option (List PyData)
  | [] => some []
  | .f d :: r => match allF r with
    | some ds => some (d :: ds)
    | none => none
  | .nd _ _ :: _ => none
def Kd.frz : Kd → Kd
  | .tup => .tup
  | .lst _ => .lst false
  | .dct _ ks => .dct false ks
  | .ob _ c fs => .ob false c fs
/-- a container whose parts have been frozen -/
def mkF (k : Kd) (ts : List T) : T := match k, allF ts with
  | .tup, some ds => .f (.tuple ds)
  | .lst _, some ds => .f (.list ds)
  | .dct _ [], some [] => .f (.dict [])
  | k, _ => .nd k.frz ts
mutual
def T.frz : T → T
  | .f d => .f d
  | .nd k ts => mkF k (frzAll ts)
def frzAll : List T → List T
  | [] => []
  | t :: r => t.frz :: frzAll r
end
/-! ### the relation -/
abbrev AS := Addr → Prop
def Disj (S S' : AS) : Prop := ∀ b, S b → S' b → False
/-- the cell of a container -/
def Cell (K : PySem.W.Frag) (F H : Hp) (S : AS) (a : Addr) (vs : List V) : Kd → Prop
  | .tup => SqT K F a vs
  | .lst true => F a = none ∧ H a = some (.lst vs) ∧ S a
  | .lst false => F a = some (.lst vs)
  | .dct true ks => F a = none ∧ H a = some (.dK (ks.zip vs)) ∧ ks.length = vs.length ∧ S a
  | .dct false ks => F a = some (.dK (ks.zip vs)) ∧ ks.length = vs.length
  | .ob _ _ _ => False
inductive Rl (K : PySem.W.Frag) (F H : Hp) : V → T → AS → Prop
  | f {v : V} {d : PyData} {S : AS} : Dq K F v d → Rl K F H v (.f d) S
  | nd {a : Addr} {k : Kd} {vs : List V} {ts : List T} {S : AS} (Sf : Nat → AS) : Cell K F H S a vs k → vs.length = ts.length → (∀ i v t, vs[i]? = some v → ts[i]? = some t → Rl K F H v t (Sf i)) →
      (∀ i b, Sf i b → S b) → (∀ i j, i ≠ j → Disj (Sf i) (Sf j)) → (∀ i, ¬ Sf i a) → Rl K F H (.ref a) (.nd k ts) S
def EnvR (K : PySem.W.Frag) (F H : Hp) (σ : L2.St) (ρ : MEnv) (S : AS) : Prop := σ.length = ρ.length ∧ ∃ Sf : Nat → AS, (∀ i t, gt ρ i = some t → ∃ v, σ[i]? = some (some v) ∧ Rl K F H v t (Sf i)) ∧ (∀ i b, Sf i b → S b) ∧ ∀ i j, i ≠ j → Disj (Sf i) (Sf j)
/-- F: what never changes; S: what is owned -/
structure Gd (F H : Hp) (S : AS) : Prop where
  sm : Same F H
  ow : ∀ b, S b → H b ≠ none ∧ F b = none
structure To (F H : Hp) (S : AS) (F' H' : Hp) (S' : AS) : Prop where
  fr : ∀ b o, H b = some o → ¬ S b → H' b = some o
  fs : Same F F'
  nw : ∀ b, F' b ≠ none → F b ≠ none ∨ S b ∨ H b = none
  sn : ∀ b, S' b → S b ∨ H b = none
  gd : Gd F' H' S'
abbrev noS : AS := fun _ => False
abbrev AS.or (S S' : AS) : AS := fun b => S b ∨ S' b
section
variable {K : PySem.W.Frag} {F H F' H' F2 H2 : Hp} {S S' S2 S0 : AS}
theorem To.refl (g : Gd F H S) : To F H S F H S := ⟨fun _ _ h _ => h, Same.refl F, fun _ h => .inl h, fun _ h => .inl h, g⟩
theorem To.trans (a : To F H S F' H' S') (b : To F' H' S' F2 H2 S2) : To F H S F2 H2 S2 := by
  refine ⟨fun c o h n => b.fr c o (a.fr c o h n) fun z => ?_, a.fs.trans b.fs, fun c h => ?_, fun c h => ?_, b.gd⟩
  · rcases a.sn c z with z | z
    · exact n z
    · rw [h] at z
      cases z
  · rcases b.nw c h with z | z | z
    · exact a.nw c z
    · exact .inr (a.sn c z)
    · by_cases q : S c
      · exact .inr (.inl q)
      · cases e : H c with
        | none => exact .inr (.inr rfl)
        | some o =>
          rw [a.fr c o e q] at z
          cases z
  · rcases b.sn c h with z | z
    · exact a.sn c z
    · by_cases q : S c
      · exact .inl q
      · cases e : H c with
        | none => exact .inr rfl
        | some o =>
          rw [a.fr c o e q] at z
          cases z
theorem Gd.wk (g : Gd F H S) (h : ∀ b, S' b → S b) : Gd F H S' := ⟨g.sm, fun b z => g.ow b (h b z)⟩
theorem Gd.or (g : Gd F H S) (g' : Gd F H S') : Gd F H (S.or S') := ⟨g.sm, fun b z => z.elim (g.ow b) (g'.ow b)⟩
theorem To.wk (a : To F H S F' H' S') (h : ∀ b, S2 b → S' b) : To F H S F' H' S2 := ⟨a.fr, a.fs, a.nw, fun b z => a.sn b (h b z), a.gd.wk h⟩
/-- what is owned elsewhere stays -/
theorem To.keep (a : To F H S F' H' S') (g : Gd F H S0) (d : Disj S0 S) {b : Addr} (h : S0 b) : H' b = H b ∧ F' b = none := by
  obtain ⟨h1, h2⟩ := g.ow b h
  cases e : H b with
  | none => exact absurd e h1
  | some o =>
    refine ⟨a.fr b o e fun z => d b h z, ?_⟩
    cases e2 : F' b with
    | none => rfl
    | some u =>
      rcases a.nw b (by rw [e2]; exact fun z => by cases z) with z | z | z
      · exact absurd h2 z
      · exact (d b h z).elim
      · exact absurd z h1
theorem To.gdo (a : To F H S F' H' S') (g : Gd F H S0) (d : Disj S0 S) : Gd F' H' S0 := ⟨a.gd.sm, fun b h => by
  obtain ⟨h1, h2⟩ := a.keep g d h
  exact ⟨by rw [h1]; exact (g.ow b h).1, h2⟩⟩
theorem To.dis (a : To F H S F' H' S') (g : Gd F H S0) (d : Disj S0 S) : Disj S0 S' := fun b h z => by
  rcases a.sn b z with z | z
  · exact d b h z
  · exact (g.ow b h).1 z
/-- the same with what is owned elsewhere beside it -/
theorem To.beside (a : To F H S F' H' S') (g : Gd F H S0) (d : Disj S0 S) : To F H (S0.or S) F' H' (S0.or S') :=
  ⟨fun b o h n => a.fr b o h fun z => n (.inr z), a.fs, fun b h => by
    rcases a.nw b h with z | z | z
    · exact .inl z
    · exact .inr (.inl (.inr z))
    · exact .inr (.inr z), fun b h => by
    rcases h with z | z
    · exact .inl (.inl z)
    · rcases a.sn b z with z | z
      · exact .inl (.inr z)
      · exact .inr z, (a.gdo g d).or a.gd⟩
theorem Cell.frame {a : Addr} {vs : List V} {k : Kd} (hF : Same F F') (hH : ∀ b o, S b → H b = some o → H' b = some o) (hN : ∀ b, S b → F' b = none) (c : Cell K F H S a vs k) : Cell K F' H' S a vs k := by
  match k, c with
  | .tup, c => exact seqT hF c
  | .lst true, c => exact ⟨hN _ c.2.2, hH _ _ c.2.2 c.2.1, c.2.2⟩
  | .lst false, c => exact hF _ _ c
  | .dct true ks, c => exact ⟨hN _ c.2.2.2, hH _ _ c.2.2.2 c.2.1, c.2.2⟩
  | .dct false ks, c => exact ⟨hF _ _ c.1, c.2⟩
theorem Cell.wk {a : Addr} {vs : List V} {k : Kd} (h : ∀ b, S b → S' b) (c : Cell K F H S a vs k) : Cell K F H S' a vs k := by
  match k, c with
  | .tup, c => exact c
  | .lst true, c => exact ⟨c.1, c.2.1, h _ c.2.2⟩
  | .lst false, c => exact c
  | .dct true ks, c => exact ⟨c.1, c.2.1, c.2.2.1, h _ c.2.2.2⟩
  | .dct false ks, c => exact c
theorem Rl.frame {v : V} {t : T} (r : Rl K F H v t S) (hF : Same F F') (hH : ∀ b o, S b → H b = some o → H' b = some o) (hN : ∀ b, S b → F' b = none) : Rl K F' H' v t S := by
  induction r with
  | f h => exact .f (h.same hF)
  | nd Sf c hl hc hs hd hn ih => exact .nd Sf (c.frame hF hH hN) hl (fun i v t hv ht => ih i v t hv ht (fun b o z => hH b o (hs i b z)) fun b z => hN b (hs i b z)) hs hd hn
theorem Rl.wk {v : V} {t : T} (r : Rl K F H v t S) (h : ∀ b, S b → S' b) : Rl K F H v t S' := by
  cases r with
  | f h => exact .f h
  | nd Sf c hl hc hs hd hn => exact .nd Sf (c.wk h) hl hc (fun i b z => h b (hs i b z)) hd hn
theorem To.rl (a : To F H S F' H' S') (g : Gd F H S0) (d : Disj S0 S) {v : V} {t : T} (r : Rl K F H v t S0) : Rl K F' H' v t S0 :=
  r.frame a.fs (fun b o z e => by rw [(a.keep g d z).1]; exact e) fun b z => (a.keep g d z).2
theorem EnvR.frame {σ : L2.St} {ρ : MEnv} (r : EnvR K F H σ ρ S) (hF : Same F F') (hH : ∀ b o, S b → H b = some o → H' b = some o) (hN : ∀ b, S b → F' b = none) : EnvR K F' H' σ ρ S := by
  obtain ⟨hl, Sf, h1, h2, h3⟩ := r
  refine ⟨hl, Sf, fun i t e => ?_, h2, h3⟩
  obtain ⟨v, e1, e2⟩ := h1 i t e
  exact ⟨v, e1, e2.frame hF (fun b o z => hH b o (h2 i b z)) fun b z => hN b (h2 i b z)⟩
theorem EnvR.wk {σ : L2.St} {ρ : MEnv} (r : EnvR K F H σ ρ S) (h : ∀ b, S b → S' b) : EnvR K F H σ ρ S' := by
  obtain ⟨hl, Sf, h1, h2, h3⟩ := r
  exact ⟨hl, Sf, h1, fun i b z => h b (h2 i b z), h3⟩
theorem To.env (a : To F H S F' H' S') (g : Gd F H S0) (d : Disj S0 S) {σ : L2.St} {ρ : MEnv} (r : EnvR K F H σ ρ S0) : EnvR K F' H' σ ρ S0 :=
  r.frame a.fs (fun b o z e => by rw [(a.keep g d z).1]; exact e) fun b z => (a.keep g d z).2
/-! ### slots -/
theorem gt_len : ∀ {ρ : MEnv} {i : Nat} {t : T}, gt ρ i = some t → i < ρ.length
  | x :: _, 0, _, _ => Nat.zero_lt_succ _
  | _ :: r, i + 1, _, h => Nat.succ_lt_succ (gt_len (ρ := r) h)
theorem st_len : ∀ (ρ : MEnv) (i : Nat) (x : Option T), (st ρ i x).length = ρ.length
  | [], _, _ => rfl
  | _ :: _, 0, _ => rfl
  | _ :: r, i + 1, x => congrArg Nat.succ (st_len r i x)
theorem st_st : ∀ (ρ : MEnv) (i : Nat) {x y : Option T}, st (st ρ i x) i y = st ρ i y
  | [], _, _, _ => rfl
  | _ :: _, 0, _, _ => rfl
  | a :: r, i + 1, x, y => congrArg (a :: ·) (st_st r i)
theorem gt_st : ∀ {ρ : MEnv} {i j : Nat} {x : Option T} {t : T}, gt (st ρ i x) j = some t → (j = i ∧ x = some t) ∨ (j ≠ i ∧ gt ρ j = some t)
  | _ :: _, 0, 0, _, _, h => .inl ⟨rfl, h⟩
  | _ :: _, 0, j + 1, _, _, h => .inr ⟨by omega, h⟩
  | _ :: _, _ + 1, 0, _, _, h => .inr ⟨by omega, h⟩
  | _ :: r, i + 1, j + 1, x, t, h => by
    rcases gt_st (ρ := r) (i := i) (j := j) (x := x) (t := t) h with ⟨e1, e2⟩ | ⟨e1, e2⟩
    · exact .inl ⟨by omega, e2⟩
    · exact .inr ⟨by omega, e2⟩
/-- a slot's value taken out -/
theorem EnvR.take {σ : L2.St} {ρ : MEnv} {i : Nat} {t : T} (r : EnvR K F H σ ρ S) (e : gt ρ i = some t) :
    ∃ v S1 S2, σ[i]? = some (some v) ∧ Rl K F H v t S1 ∧ EnvR K F H σ (st ρ i none) S2 ∧ (∀ b, S1 b → S b) ∧ (∀ b, S2 b → S b) ∧ Disj S1 S2 := by
  obtain ⟨hl, Sf, h1, h2, h3⟩ := r
  obtain ⟨v, e1, e2⟩ := h1 i t e
  refine ⟨v, Sf i, fun b => ∃ j, j ≠ i ∧ Sf j b, e1, e2, ⟨by rw [st_len]; exact hl, fun j b => j ≠ i ∧ Sf j b, fun j t' e' => ?_, fun j b z => ⟨j, z⟩, fun j k n b z z' => h3 j k n b z.2 z'.2⟩, h2 i, fun b ⟨j, _, z⟩ => h2 j b z, fun b z ⟨j, n, z'⟩ => h3 i j (Ne.symm n) b z z'⟩
  rcases gt_st e' with ⟨_, z⟩ | ⟨n, z⟩
  · cases z
  · obtain ⟨w, q1, q2⟩ := h1 j t' z
    exact ⟨w, q1, q2.wk fun b z => ⟨n, z⟩⟩
/-- a slot filled -/
theorem EnvR.put {σ : L2.St} {ρ : MEnv} {i : Nat} {t : T} {v : V} (r : EnvR K F H σ ρ S) (rv : Rl K F H v t S') (d : Disj S' S) : EnvR K F H (σ.set i (some v)) (st ρ i (some t)) (S'.or S) := by
  obtain ⟨hl, Sf, h1, h2, h3⟩ := r
  refine ⟨by rw [st_len, List.length_set]; exact hl, fun j b => (j = i ∧ S' b) ∨ (j ≠ i ∧ Sf j b), fun j t' e' => ?_, fun j b z => ?_, fun j k n b z z' => ?_⟩
  · have hj := gt_len e'
    rw [st_len] at hj
    rcases gt_st e' with ⟨rfl, z⟩ | ⟨n, z⟩
    · cases z
      refine ⟨v, ?_, rv.wk fun b z => .inl ⟨rfl, z⟩⟩
      rw [List.getElem?_set_self (by omega)]
    · obtain ⟨w, q1, q2⟩ := h1 j t' z
      refine ⟨w, ?_, q2.wk fun b z => .inr ⟨n, z⟩⟩
      rw [List.getElem?_set_ne (Ne.symm n)]
      exact q1
  · rcases z with z | z
    · exact .inl z.2
    · exact .inr (h2 j b z.2)
  · rcases z with ⟨e, z⟩ | ⟨e, z⟩
    · rcases z' with ⟨e', z'⟩ | ⟨e', z'⟩
      · exact n (e.trans e'.symm)
      · exact d b z (h2 k b z')
    · rcases z' with ⟨e', z'⟩ | ⟨e', z'⟩
      · exact d b z' (h2 j b z)
      · exact h3 j k n b z z'
/-- the same, the slot's place unchanged -/
theorem EnvR.back {σ : L2.St} {ρ : MEnv} {i : Nat} {t : T} {v : V} (r : EnvR K F H σ ρ S) (hv : σ[i]? = some (some v)) (rv : Rl K F H v t S') (d : Disj S' S) : EnvR K F H σ (st ρ i (some t)) (S'.or S) := by
  have h := r.put (i := i) rv d
  have e : σ.set i (some v) = σ := by
    refine List.ext_getElem? fun j => ?_
    by_cases q : j = i
    · subst q
      have hj : j < σ.length := (List.getElem?_eq_some_iff.mp hv).1
      rw [List.getElem?_set_self hj, hv]
    · rw [List.getElem?_set_ne (Ne.symm q)]
  rw [e] at h
  exact h
theorem EnvR.drop {σ : L2.St} {ρ : MEnv} {i : Nat} {x : Option V} (r : EnvR K F H σ ρ S) : EnvR K F H (σ.set i x) (st ρ i none) S := by
  obtain ⟨hl, Sf, h1, h2, h3⟩ := r
  refine ⟨by rw [st_len, List.length_set]; exact hl, Sf, fun j t' e' => ?_, h2, h3⟩
  rcases gt_st e' with ⟨rfl, z⟩ | ⟨n, z⟩
  · cases z
  · obtain ⟨w, q1, q2⟩ := h1 j t' z
    refine ⟨w, ?_, q2⟩
    rw [List.getElem?_set_ne (Ne.symm n)]
    exact q1
end


/-! ### freezing -/
open Classical in
noncomputable def frzH (F H : Hp) (S : AS) : Hp := fun b => if S b then H b else F b
section
variable {K : PySem.W.Frag} {F H F' H' F2 H2 : Hp} {S S' S2 S0 S1 : AS}
theorem frzH_in {b : Addr} (h : S b) : frzH F H S b = H b := by
  unfold frzH
  rw [if_pos h]
theorem frzH_out {b : Addr} (h : ¬ S b) : frzH F H S b = F b := by
  unfold frzH
  rw [if_neg h]
theorem frzH_same (g : Same F H) : Same F (frzH F H S) := fun b o e => by
  by_cases h : S b
  · rw [frzH_in h]
    exact g b o e
  · rw [frzH_out h]
    exact e
theorem frzH_sub (g : Same F H) : Same (frzH F H S) H := fun b o e => by
  by_cases h : S b
  · rw [frzH_in h] at e
    exact e
  · rw [frzH_out h] at e
    exact g b o e
theorem To.frz (g : Gd F H S) (h1 : ∀ b, S1 b → S b) (h2 : ∀ b, S2 b → S b) (d : Disj S1 S2) : To F H S (frzH F H S1) H S2 := by
  refine ⟨fun _ _ h _ => h, frzH_same g.sm, fun b h => ?_, fun b h => .inl (h2 b h), frzH_sub g.sm, fun b h => ?_⟩
  · by_cases z : S1 b
    · exact .inr (.inl (h1 b z))
    · rw [frzH_out z] at h
      exact .inl h
  · rw [frzH_out fun z => d b z h]
    exact g.ow b (h2 b h)
theorem Rl.dq {v : V} {d : PyData} (r : Rl K F H v (.f d) S) : Dq K F v d := by
  cases r with
  | f h => exact h
theorem allF_dq : ∀ {ts : List T} {vs : List V} {ds : List PyData} {Sf : Nat → AS}, allF ts = some ds → vs.length = ts.length → (∀ i v t, vs[i]? = some v → ts[i]? = some t → Rl K F H v t (Sf i)) → DqAll K F vs ds
  | [], [], _, _, e, _, _ => by
    cases e
    exact .nil
  | .f d :: r, v :: vs, ds, Sf, e, hl, h => by
    have e' : (match allF r with | some ds => some (d :: ds) | none => none) = some ds := e
    cases q : allF r with
    | none =>
      rw [q] at e'
      cases e'
    | some es =>
      rw [q] at e'
      cases e'
      exact .cons (h 0 v _ rfl rfl).dq (allF_dq (Sf := fun i => Sf (i + 1)) q (Nat.succ.inj hl) fun i v t hv ht => h (i + 1) v t hv ht)
theorem frzAll_get : ∀ {ts : List T} {i : Nat} {t : T}, (frzAll ts)[i]? = some t → ∃ u, ts[i]? = some u ∧ t = u.frz
  | u :: _, 0, _, h => ⟨u, rfl, (Option.some.inj h).symm⟩
  | _ :: r, i + 1, _, h => frzAll_get (ts := r) (i := i) h
theorem frzAll_len : ∀ ts : List T, (frzAll ts).length = ts.length
  | [] => rfl
  | _ :: r => congrArg Nat.succ (frzAll_len r)
theorem Cell.frz {a : Addr} {vs : List V} {k : Kd} (g : Same F H) (h : ∀ b, S b → S0 b) (c : Cell K F H S a vs k) : Cell K (frzH F H S0) H' S' a vs k.frz := by
  match k, c with
  | .tup, c => exact seqT (frzH_same g) c
  | .lst true, c =>
    show frzH F H S0 a = _
    rw [frzH_in (h _ c.2.2)]
    exact c.2.1
  | .lst false, c => exact frzH_same g _ _ c
  | .dct true ks, c =>
    refine ⟨?_, c.2.2.1⟩
    rw [frzH_in (h _ c.2.2.2)]
    exact c.2.1
  | .dct false ks, c => exact ⟨frzH_same g _ _ c.1, c.2⟩
theorem mkF_rl {a : Addr} {k : Kd} {vs : List V} {ts : List T} (c : Cell K F H noS a vs k.frz) (hl : vs.length = ts.length) (h : ∀ (i : Nat) (v : V) (t : T), vs[i]? = some v → ts[i]? = some t → Rl K F H v t noS) : Rl K F H (.ref a) (mkF k ts) noS := by
  have gen : Rl K F H (.ref a) (.nd k.frz ts) noS := .nd (fun _ => noS) c hl h (fun _ _ z => z) (fun _ _ _ _ z => z.elim) fun _ z => z
  cases e : allF ts with
  | none =>
    have e1 : mkF k ts = .nd k.frz ts := by
      unfold mkF
      rw [e]
      cases k with
      | tup => rfl
      | lst o => rfl
      | dct o ks => cases ks <;> rfl
      | ob o c fs => rfl
    rw [e1]
    exact gen
  | some ds =>
    have hd : DqAll K F vs ds := allF_dq (H := H) (Sf := fun _ => noS) e hl h
    cases k with
    | tup =>
      have e1 : mkF .tup ts = .f (.tuple ds) := by
        unfold mkF
        rw [e]
      rw [e1]
      exact .f (.tup c hd)
    | lst o =>
      have e1 : mkF (.lst o) ts = .f (.list ds) := by
        unfold mkF
        rw [e]
      rw [e1]
      exact .f (.lst (SqL.of c) hd)
    | dct o ks =>
      cases ks with
      | nil =>
        cases ds with
        | nil =>
          have e1 : mkF (.dct o []) ts = .f (.dict []) := by
            unfold mkF
            rw [e]
          rw [e1]
          exact .f (.dct c.1)
        | cons x y =>
          have e1 : mkF (.dct o []) ts = .nd (Kd.dct o []).frz ts := by
            unfold mkF
            rw [e]
          rw [e1]
          exact gen
      | cons x y =>
        have e1 : mkF (.dct o (x :: y)) ts = .nd (Kd.dct o (x :: y)).frz ts := by
          unfold mkF
          rw [e]
        rw [e1]
        exact gen
    | ob o cn fs =>
      have e1 : mkF (.ob o cn fs) ts = .nd (Kd.ob o cn fs).frz ts := by
        unfold mkF
        rw [e]
      rw [e1]
      exact gen
theorem Kd.frz_frz (k : Kd) : k.frz.frz = k.frz := by cases k <;> rfl
theorem Rl.frz {v : V} {t : T} (g : Same F H) (r : Rl K F H v t S) : ∀ S0 : AS, (∀ b, S b → S0 b) → Rl K (frzH F H S0) H v t.frz noS := by
  induction r with
  | f h => exact fun S0 _ => .f (h.same (frzH_same g))
  | nd Sf c hl hc hs hd hn ih =>
    intro S0 h0
    refine mkF_rl (c.frz g h0) (by rw [frzAll_len]; exact hl) fun i v t hv ht => ?_
    obtain ⟨u, hu, rfl⟩ := frzAll_get ht
    exact ih i v u hv hu S0 fun b z => h0 b (hs i b z)
end
/-! ### judgements -/
/-- an exception on its way: class, its dict -/
def XR (K : PySem.W.Frag) (xa : Nat → Addr) (F : Hp) (cls : Value) (d : Option Addr) (c : Nat) (p : List (Str × PyData)) : Prop := ∃ (dd : Addr) (fs : List (Str × V)), cls = .ref (xa c) ∧ d = some dd ∧ F dd = some (.xd fs) ∧ fs.map (·.1) = p.map (·.1) ∧ DqAll K F (fs.map (·.2)) (p.map (·.2))
section
variable (K : PySem.W.Frag) (xa : Nat → Addr) (W : WX)
/-- what is wished of an exception -/
def PX (F H : Hp) (σ : L2.St) (S : AS) (c : Nat) (p : List (Str × PyData)) (ρ : MEnv) : Prop := ∀ cls d F' H' S', To F H S F' H' S' → EnvR K F' H' σ ρ S' → XR K xa F' cls d c p → W cls d σ H'
/-- what is wished of an outcome; R: how the value and its mirror are held together -/
def PO_ {α β : Type} (R : Hp → β → α → Prop) (F H : Hp) (σ : L2.St) (S : AS) (Q : β → Hp → Prop) : Ou α → Prop
  | .no => False
  | .ok a ρ => ∀ v F' H' S', To F H S F' H' S' → EnvR K F' H' σ ρ S' → R F' v a → Q v H'
  | .ex c p ρ => PX K xa W F H σ S c p ρ
/-- of a value that may be owned -/
def PT_ (F H : Hp) (σ : L2.St) (S : AS) (Q : VK) : Ou T → Prop
  | .no => False
  | .ok t ρ => ∀ v F' H' S1 S2, To F H S F' H' (S1.or S2) → Disj S1 S2 → EnvR K F' H' σ ρ S2 → Rl K F' H' v t S1 → Q v H'
  | .ex c p ρ => PX K xa W F H σ S c p ρ
def Sim {α β : Type} (R : Hp → β → α → Prop) (t : L2.St → Hp → (β → Hp → Prop) → Prop) (m : MEnv → Ou α) : Prop := ∀ F H σ ρ S Q, EnvR K F H σ ρ S → Gd F H S → PO_ K xa W R F H σ S Q (m ρ) → t σ H Q
abbrev RV_ : Hp → V → PyData → Prop := fun F v d => Dq K F v d
abbrev RA_ : Hp → List V → List PyData → Prop := fun F vs ds => DqAll K F vs ds
abbrev RE_ {α : Type} : Hp → α → α → Prop := fun _ a b => a = b
abbrev SimV (t : TE) (m : MV) : Prop := Sim K xa W (RV_ K) t m
abbrev SimA (t : TA) (m : MA) : Prop := Sim K xa W (RA_ K) t m
abbrev SimB (t : TT) (m : MB) : Prop := Sim K xa W (RE_ (α := Bool)) t m
abbrev SimO (t : TO) (m : MO) : Prop := Sim K xa W (RE_ (α := Option Int)) t m
def SimE (t : TE) (m : ME) : Prop := ∀ F H σ ρ S Q, EnvR K F H σ ρ S → Gd F H S → PT_ K xa W F H σ S Q (m ρ) → t σ H Q
end
/-- only new cells -/
structure Nw (F H F' H' : Hp) : Prop where
  hs : Same H H'
  fs : Same F F'
  sm : Same F' H'
  nw : ∀ b, F' b ≠ none → F b ≠ none ∨ H b = none
section
variable {K : PySem.W.Frag} {xa : Nat → Addr} {W : WX} {F H F' H' F1 H1 F2 H2 : Hp} {S S' S1 S2 : AS} {σ : L2.St} {ρ : MEnv}
theorem Nw.refl (g : Same F H) : Nw F H F H := ⟨Same.refl H, Same.refl F, g, fun _ h => .inl h⟩
theorem Nw.to (n : Nw F H F' H') (g : Gd F H S) : To F H S F' H' S := by
  refine ⟨fun b o h _ => n.hs b o h, n.fs, fun b h => ?_, fun _ h => .inl h, n.sm, fun b h => ?_⟩
  · rcases n.nw b h with z | z
    · exact .inl z
    · exact .inr (.inr z)
  · obtain ⟨h1, h2⟩ := g.ow b h
    constructor
    · cases e : H b with
      | none => exact absurd e h1
      | some o =>
        rw [n.hs b o e]
        exact fun z => by cases z
    · cases e : F' b with
      | none => rfl
      | some o =>
        rcases n.nw b (by rw [e]; exact fun z => by cases z) with z | z
        · exact absurd h2 z
        · exact absurd z h1
theorem Nw.env (n : Nw F H F' H') (g : Gd F H S) (r : EnvR K F H σ ρ S) : EnvR K F' H' σ ρ S := r.frame n.fs (fun b o _ e => n.hs b o e) fun b z => ((n.to g).gd.ow b z).2
theorem Nw.rl (n : Nw F H F' H') (g : Gd F H S) {v : V} {t : T} (r : Rl K F H v t S) : Rl K F' H' v t S := r.frame n.fs (fun b o _ e => n.hs b o e) fun b z => ((n.to g).gd.ow b z).2
theorem nw_new {p : Addr} {o : HO} (g : Same F H) (h : H p = none) : Nw F H (upd F p o) (upd H p o) := by
  have hf : F p = none := g.free h
  refine ⟨same_upd h, same_upd hf, fun b u e => ?_, fun b z => ?_⟩
  · by_cases q : b = p
    · subst q
      rw [upd_same] at e ⊢
      exact e
    · rw [upd_ne q] at e ⊢
      exact g b u e
  · by_cases q : b = p
    · subst q
      exact .inr h
    · rw [upd_ne q] at z
      exact .inl z
theorem PX.step {c : Nat} {p : List (Str × PyData)} (h : PX K xa W F H σ S c p ρ) (t : To F H S F1 H1 S1) : PX K xa W F1 H1 σ S1 c p ρ := fun cls d F' H' S' t' => h cls d F' H' S' (t.trans t')
theorem PO.step {α β : Type} {R : Hp → β → α → Prop} {Q : β → Hp → Prop} {o : Ou α} (h : PO_ K xa W R F H σ S Q o) (t : To F H S F1 H1 S1) : PO_ K xa W R F1 H1 σ S1 Q o := by
  cases o with
  | no => exact h
  | ok a ρ => exact fun v F' H' S' t' => h v F' H' S' (t.trans t')
  | ex c p ρ => exact PX.step h t
theorem PT.step {Q : VK} {o : Ou T} (h : PT_ K xa W F H σ S Q o) (t : To F H S F1 H1 S1) : PT_ K xa W F1 H1 σ S1 Q o := by
  cases o with
  | no => exact h
  | ok a ρ => exact fun v F' H' S1 S2 t' => h v F' H' S1 S2 (t.trans t')
  | ex c p ρ => exact PX.step h t
theorem PO.bind {α β γ δ : Type} {R : Hp → β → α → Prop} {R2 : Hp → δ → γ → Prop} {Q : δ → Hp → Prop} {Q' : β → Hp → Prop} {m : Ou α} {k : α → MEnv → Ou γ} (h : PO_ K xa W R2 F H σ S Q (m.bd k))
    (q : ∀ a ρ1 v F1 H1 S1, To F H S F1 H1 S1 → EnvR K F1 H1 σ ρ1 S1 → R F1 v a → PO_ K xa W R2 F1 H1 σ S1 Q (k a ρ1) → Q' v H1) : PO_ K xa W R F H σ S Q' m := by
  cases m with
  | no => exact h
  | ok a ρ => exact fun v F' H' S' t' r hr => q a ρ v F' H' S' t' r hr (PO.step (show PO_ K xa W R2 F H σ S Q (k a ρ) from h) t')
  | ex c p ρ => exact h
/-- the same, behind it a value that may be owned -/
theorem PO.bindT {α β : Type} {R : Hp → β → α → Prop} {Q : VK} {Q' : β → Hp → Prop} {m : Ou α} {k : α → MEnv → Ou T} (h : PT_ K xa W F H σ S Q (m.bd k))
    (q : ∀ a ρ1 v F1 H1 S1, To F H S F1 H1 S1 → EnvR K F1 H1 σ ρ1 S1 → R F1 v a → PT_ K xa W F1 H1 σ S1 Q (k a ρ1) → Q' v H1) : PO_ K xa W R F H σ S Q' m := by
  cases m with
  | no => exact h
  | ok a ρ => exact fun v F' H' S' t' r hr => q a ρ v F' H' S' t' r hr (PT.step (show PT_ K xa W F H σ S Q (k a ρ) from h) t')
  | ex c p ρ => exact h
theorem PO.of {α β : Type} {R : Hp → β → α → Prop} {Q : β → Hp → Prop} {x : Option α} (h : PO_ K xa W R F H σ S Q (Ou.of x ρ)) : ∃ a, x = some a ∧ ∀ v F' H' S', To F H S F' H' S' → EnvR K F' H' σ ρ S' → R F' v a → Q v H' := by
  cases x with
  | none => exact h.elim
  | some a => exact ⟨a, rfl, h⟩
end


/-! ### expressions: what is computed -/
def vC (d : PyData) : MV := fun ρ => .ok d ρ
def vVar (i : Nat) : MV := fun ρ => match gt ρ i with
  | some (.f d) => .ok d ρ
  | some (.nd k ts) => (match (T.nd k ts).frz with
    | .f d => .ok d (st ρ i (some (.f d)))
    | _ => .no)
  | none => .no
def v1 (g : PyData → Option PyData) (a : MV) : MV := fun ρ => (a ρ).bd fun x ρ => .of (g x) ρ
def v2 (g : PyData → PyData → Option PyData) (a b : MV) : MV := fun ρ => (a ρ).bd fun x ρ => (b ρ).bd fun y ρ => .of (g x y) ρ
def aNil : MA := fun ρ => .ok [] ρ
def aCons (a : MV) (r : MA) : MA := fun ρ => (a ρ).bd fun x ρ => (r ρ).bd fun xs ρ => .ok (x :: xs) ρ
def vN (g : List PyData → Option PyData) (a : MA) : MV := fun ρ => (a ρ).bd fun xs ρ => .of (g xs) ρ
def asB : PyData → Option Bool
  | .bool b => some b
  | _ => none
def vAnd (a b : MV) : MV := fun ρ => (a ρ).bd fun x ρ => match x with
  | .bool true => b ρ
  | .bool false => .ok (.bool false) ρ
  | _ => .no
def vOr (a b : MV) : MV := fun ρ => (a ρ).bd fun x ρ => match x with
  | .bool true => .ok (.bool true) ρ
  | .bool false => b ρ
  | _ => .no
def bIf {α : Type} (c : MB) (a b : MEnv → Ou α) : MEnv → Ou α := fun ρ => (c ρ).bd fun x ρ => match x with
  | true => a ρ
  | false => b ρ
def bV (a : MV) : MB := fun ρ => (a ρ).bd fun x ρ => .of (asB x) ρ
def bNot (a : MB) : MB := fun ρ => (a ρ).bd fun x ρ => .ok (!x) ρ
def bAnd (a b : MB) : MB := bIf a b (fun ρ => .ok false ρ)
def bOr (a b : MB) : MB := bIf a (fun ρ => .ok true ρ) b
def oNone : MO := fun ρ => .ok none ρ
def asI : PyData → Option (Option Int)
  | .int i => some (some i)
  | _ => none
def oSome (a : MV) : MO := fun ρ => (a ρ).bd fun x ρ => .of (asI x) ρ
def vSl (g : PyData → Option Int → Option Int → Option PyData) (a : MV) (lo hi : MO) : MV := fun ρ => (a ρ).bd fun x ρ => (lo ρ).bd fun l ρ => (hi ρ).bd fun h ρ => .of (g x l h) ρ
def vChain (g g' : PyData → PyData → Option PyData) (a b c : MV) : MV := fun ρ => (a ρ).bd fun x ρ => (b ρ).bd fun y ρ => match g x y with
  | some (.bool true) => (c ρ).bd fun z ρ => .of (g' y z) ρ
  | some (.bool false) => .ok (.bool false) ρ
  | _ => .no
/-! ### operators on data -/
def pAdd : PyData → PyData → Option PyData
  | .int i, .int j => some (.int (i + j))
  | .str a, .str b => if a.length + b.length ≤ sizeLine then some (.str (a ++ b)) else none
  | .list a, .list b => if a.length + b.length ≤ sizeLine then some (.list (a ++ b)) else none
  | .tuple a, .tuple b => if a.length + b.length ≤ sizeLine then some (.tuple (a ++ b)) else none
  | _, _ => none
def pI (f : Int → Int → Option PyData) : PyData → PyData → Option PyData
  | .int i, .int j => f i j
  | _, _ => none
def pSub := pI fun i j => some (.int (i - j))
def pMul := pI fun i j => if i.natAbs.log2 + j.natAbs.log2 < 1000000 then some (.int (i * j)) else none
def pMod := pI fun i j => if 0 < j then some (.int (i % j)) else none
def pDiv := pI fun i j => if 0 < j ∧ j.natAbs.log2 < 9000 then some (.int (i / j)) else none
def pPow := pI fun i j => if 0 ≤ j ∧ j ≤ 1000000 ∧ i.natAbs < 2 ^ 64 then some (.int (i ^ j.toNat)) else none
def pNeg : PyData → Option PyData
  | .int i => some (.int (-i))
  | _ => none
def pNot : PyData → Option PyData
  | .bool b => some (.bool (!b))
  | _ => none
def pCmp (f : Int → Int → Bool) (g : Str → Str → Bool) : PyData → PyData → Option PyData
  | .int i, .int j => some (.bool (f i j))
  | .str i, .str j => some (.bool (g i j))
  | _, _ => none
def pLt := pCmp (fun i j => decide (i < j)) fun i j => decide (i.cps.toList < j.cps.toList)
def pGt := pCmp (fun i j => decide (j < i)) fun i j => decide (j.cps.toList < i.cps.toList)
def pLe := pCmp (fun i j => decide (i ≤ j)) fun i j => !decide (j.cps.toList < i.cps.toList)
def pGe := pCmp (fun i j => decide (j ≤ i)) fun i j => !decide (i.cps.toList < j.cps.toList)
/-! a dict stands nowhere in it -/
mutual
def noDict : PyData → Bool
  | .list ds => noDictAll ds
  | .tuple ds => noDictAll ds
  | .dict _ => false
  | _ => true
def noDictAll : List PyData → Bool
  | [] => true
  | d :: r => noDict d && noDictAll r
end
def shapely (d : PyData) : Bool := noDict d && SeqAt.shaped d
/-- scalars -/
def eqSc : PyData → PyData → Option Bool
  | .none, .none => some true
  | .none, .int _ => some false
  | .none, .bool _ => some false
  | .none, .str _ => some false
  | .int _, .none => some false
  | .bool _, .none => some false
  | .str _, .none => some false
  | .int i, .int j => some (decide (i = j))
  | .bool i, .bool j => some (decide (i = j))
  | .str i, .str j => some (decide (i = j))
  | .int _, .str _ => some false
  | .str _, .int _ => some false
  | .bool _, .str _ => some false
  | .str _, .bool _ => some false
  | _, _ => none
def eqD (d e : PyData) : Option Bool := match eqSc d e with
  | some b => some b
  | none => if shapely d && shapely e then some (PyData.eqv d e) else none
def pEq (d e : PyData) : Option PyData := (eqD d e).map PyData.bool
def pNe (d e : PyData) : Option PyData := (eqD d e).map fun b => .bool (!b)
def pIsNone (neg : Bool) : PyData → PyData → Option PyData
  | .none, .none => some (.bool (!neg))
  | _, .none => some (.bool neg)
  | _, _ => none
def pIsB (neg : Bool) : PyData → PyData → Option PyData
  | .bool a, .bool b => some (.bool (xor neg (decide (a = b))))
  | _, _ => none
def flatD : PyData → Bool
  | .none | .bool _ | .int _ | .str _ => true
  | _ => false
def eqF : PyData → PyData → Bool
  | .none, .none => true
  | .bool a, .bool b => a == b
  | .bool a, .int b => (if a then 1 else 0) == b
  | .int a, .bool b => a == (if b then 1 else 0)
  | .int a, .int b => a == b
  | .str a, .str b => a == b
  | _, _ => false
/-- x in y -/
def inD (x : PyData) : PyData → Option Bool
  | .list ds => if flatD x && ds.all flatD then some (ds.any fun y => eqF y x) else if shapely x && shapely (.list ds) then some (ds.any fun z => PyData.eqv z x) else none
  | .tuple ds => if flatD x && ds.all flatD then some (ds.any fun y => eqF y x) else none
  | .str z => (match x with
    | .str ⟨⟨[c]⟩⟩ => some (decide (c ∈ z.cps.toList))
    | _ => none)
  | _ => none
def pIn (neg : Bool) (x y : PyData) : Option PyData := (inD x y).map fun b => .bool (xor neg b)
def pIx : PyData → PyData → Option PyData
  | .list ds, .int i => atI ds i
  | .tuple ds, .int i => atI ds i
  | .str z, .int i => if z.length ≤ sizeLine then (atI z.cps.toList i).map fun c => .str ⟨#[c]⟩ else none
  | _, _ => none
def cutD {α : Type} (xs : List α) (lo hi : Option Int) : List α := (xs.drop (HT.sIx xs.length 0 lo)).take (HT.sIx xs.length xs.length hi - HT.sIx xs.length 0 lo)
def pCut : PyData → Option Int → Option Int → Option PyData
  | .list ds, lo, hi => some (.list (cutD ds lo hi))
  | .tuple ds, lo, hi => some (.tuple (cutD ds lo hi))
  | .str z, lo, hi => if z.length ≤ sizeLine then some (.str (cutS z lo hi)) else none
  | _, _, _ => none
def pTup (ds : List PyData) : Option PyData := if ds.length ≤ sizeLine then some (.tuple ds) else none
def pLst (ds : List PyData) : Option PyData := if ds.length ≤ sizeLine then some (.list ds) else none
/-! ### their rules -/
def Op2 (K : PySem.W.Frag) (r : R2) (g : PyData → PyData → Option PyData) : Prop := ∀ F H x y d e z Q, Same F H → Dq K F x d → Dq K F y e → g d e = some z → (∀ v F' H', Nw F H F' H' → Dq K F' v z → Q v H') → r x y H Q
def Op1 (K : PySem.W.Frag) (r : V → Hp → VK → Prop) (g : PyData → Option PyData) : Prop := ∀ F H x d z Q, Same F H → Dq K F x d → g d = some z → (∀ v F' H', Nw F H F' H' → Dq K F' v z → Q v H') → r x H Q
def OpN (K : PySem.W.Frag) (r : List V → Hp → VK → Prop) (g : List PyData → Option PyData) : Prop := ∀ F H xs ds z Q, Same F H → DqAll K F xs ds → g ds = some z → (∀ v F' H', Nw F H F' H' → Dq K F' v z → Q v H') → r xs H Q
def OpS (K : PySem.W.Frag) (r : V → Option Int → Option Int → Hp → VK → Prop) (g : PyData → Option Int → Option Int → Option PyData) : Prop := ∀ F H x d lo hi z Q, Same F H → Dq K F x d → g d lo hi = some z → (∀ v F' H', Nw F H F' H' → Dq K F' v z → Q v H') → r x lo hi H Q
theorem OpR.or {X : Cx} {f : Value → Value → Sem Value} {r r' : R2} (h : OpR X f r) (h' : OpR X f r') : OpR X f (fun x y H Q => r x y H Q ∨ r' x y H Q) := fun pins s σ H x y v u Q I rx ry q => q.elim (h pins s σ H x y v u Q I rx ry) (h' pins s σ H x y v u Q I rx ry)
theorem Op2.left {K : PySem.W.Frag} {r r' : R2} {g : PyData → PyData → Option PyData} (h : Op2 K r g) : Op2 K (fun x y H Q => r x y H Q ∨ r' x y H Q) g := fun F H x y d e z Q sm hx hy hg q => .inl (h F H x y d e z Q sm hx hy hg q)
section
variable {K : PySem.W.Frag}
theorem op2_int {C : Int → Int → Prop} {f : Int → Int → Option PyData} {k : Int → Int → V} (h : ∀ i j z, f i j = some z → C i j ∧ ∀ F, Dq K F (k i j) z) : Op2 K (rI C k) (pI f) := by
  intro F H x y d e z Q sm hx hy hg q
  cases hx with
  | int i =>
    cases hy with
    | int j =>
      obtain ⟨h1, h2⟩ := h i j z hg
      exact ⟨i, j, rfl, rfl, h1, q _ F H (Nw.refl sm) (h2 F)⟩
    | _ => cases hg
  | _ => cases hg
theorem o_sub : Op2 K (rI0 fun i j => .int (i - j)) pSub := by
  intro F H x y d e z Q sm hx hy hg q
  cases hx with
  | int i =>
    cases hy with
    | int j =>
      cases hg
      exact ⟨i, j, rfl, rfl, q _ F H (Nw.refl sm) (.int _)⟩
    | _ => cases hg
  | _ => cases hg
theorem o_mul : Op2 K (rI CMulW fun i j => .int (i * j)) pMul := op2_int fun i j z h => by
  split at h
  · rename_i c
    cases h
    exact ⟨c, fun F => .int _⟩
  · cases h
theorem o_mod : Op2 K (rI (fun _ j => 0 < j) fun i j => .int (i % j)) pMod := op2_int fun i j z h => by
  split at h
  · rename_i c
    cases h
    exact ⟨c, fun F => .int _⟩
  · cases h
theorem o_div : Op2 K (rI CDivW fun i j => .int (i / j)) pDiv := op2_int fun i j z h => by
  split at h
  · rename_i c
    cases h
    exact ⟨c, fun F => .int _⟩
  · cases h
theorem o_pow : Op2 K (rI CPow fun i j => .int (i ^ j.toNat)) pPow := op2_int fun i j z h => by
  split at h
  · rename_i c
    cases h
    exact ⟨c, fun F => .int _⟩
  · cases h
theorem o_neg : Op1 K (rU fun i => .int (-i)) pNeg := by
  intro F H x d z Q sm hx hg q
  cases hx with
  | int i =>
    cases hg
    exact ⟨i, rfl, q _ F H (Nw.refl sm) (.int _)⟩
  | _ => cases hg
def rCmpA (f : Int → Int → Bool) (g : Str → Str → Bool) : R2 := fun x y H Q => rI0 (fun i j => .bl (f i j)) x y H Q ∨ ∃ i j, x = .str i ∧ y = .str j ∧ Q (.bl (g i j)) H
theorem o_cmp {f : Int → Int → Bool} {g : Str → Str → Bool} : Op2 K (rCmpA f g) (pCmp f g) := by
  intro F H x y d e z Q sm hx hy hg q
  cases hx with
  | int i =>
    cases hy with
    | int j =>
      cases hg
      exact .inl ⟨i, j, rfl, rfl, q _ F H (Nw.refl sm) (.bl _)⟩
    | _ => cases hg
  | str i =>
    cases hy with
    | str j =>
      cases hg
      exact .inr ⟨i, j, rfl, rfl, q _ F H (Nw.refl sm) (.bl _)⟩
    | _ => cases hg
  | _ => cases hg
/-- list + list -/
def rCatS (K : PySem.W.Frag) : R2 := fun x y H Q => ∃ l b xs zs, x = .ref l ∧ y = .ref b ∧ SqL K H l xs ∧ SqL K H b zs ∧ xs.length + zs.length ≤ sizeLine ∧ ∀ p, H p = none → Q (.ref p) (upd H p (.lst (xs ++ zs)))
theorem op_catS {X : Cx} : OpR X (binaryOp .Add) (rCatS X.K) := by
  intro pins s σ H x y v u Q I rx ry h
  obtain ⟨l, b, xs, zs, rfl, rfl, hH, hB, hz, q⟩ := h
  cases rx
  cases ry
  obtain ⟨its, r, ⟨⟨c1, dd1, dt1, sl1⟩, n1, ho, hc, hd, hs⟩, hl⟩ := I.list hH
  obtain ⟨its2, r2, ⟨⟨c2, dd2, dt2, sl2⟩, n2, ho2, hc2, hd2, hs2⟩, hl2⟩ := I.list hB
  simp only at hc hd hs hc2 hd2 hs2
  subst hc hd hs hc2 hd2 hs2
  have ea : its.toArray ++ its2.toArray = (its ++ its2).toArray := by simp
  have hz' : its.toArray.size + its2.toArray.size ≤ sizeLine := by
    rw [List.size_toArray, List.size_toArray, ← r.length, ← r2.length]
    exact hz
  refine concat_meets ⟨_, ho, rfl⟩ ⟨_, ho2, rfl⟩ noFill_list_add seq_list_add PySem.F.slot_list_add PySem.F.entry_list_add (PySem.F.args_list_add_2 _ _) (list_addW l b its.toArray its2.toArray n1 n2 none none sl1 sl2 hz') ⟨ho, ho2, ?_⟩
  rw [ea]
  exact ⟨.ref _, _, I.lnew (t' := s.toks) (r.append r2) (by rw [List.length_append]; omega), rfl, q _ I.fresh⟩
def rAddS : R2 := fun x y H Q => ∃ i j, x = .str i ∧ y = .str j ∧ i.length + j.length ≤ sizeLine ∧ Q (.str (i ++ j)) H
def rAddA (K : PySem.W.Frag) : R2 := fun x y H Q => rI0 (fun i j => .int (i + j)) x y H Q ∨ (rAddS x y H Q ∨ (rCatS K x y H Q ∨ rCatA K x y H Q))
theorem op_addA {X : Cx} : OpR X (binaryOp .Add) (rAddA X.K) := OpR.or op_add (OpR.or op_add_str (OpR.or op_catS op_catA))
theorem DqAll.cat {H : Hp} : ∀ {vs ws : List V} {ds es : List PyData}, DqAll K H vs ds → DqAll K H ws es → DqAll K H (vs ++ ws) (ds ++ es)
  | _, _, _, _, .nil, h => h
  | _, _, _, _, .cons a r, h => .cons a (r.cat h)
theorem new_lst {F H : Hp} {p : Addr} {vs : List V} {ds : List PyData} (h : DqAll K F vs ds) (hf : F p = none) : Dq K (upd F p (.lst vs)) (.ref p) (.list ds) := .lst (SqL.of upd_same) (h.same (same_upd hf))
theorem new_tup {F H : Hp} {p : Addr} {vs : List V} {ds : List PyData} (h : DqAll K F vs ds) (hf : F p = none) : Dq K (upd F p (.tup vs)) (.ref p) (.tuple ds) := .tup (SqT.of upd_same) (h.same (same_upd hf))
theorem o_add : Op2 K (rAddA K) pAdd := by
  intro F H x y d e z Q sm hx hy hg q
  cases hx with
  | int i =>
    cases hy with
    | int j =>
      cases hg
      exact .inl ⟨i, j, rfl, rfl, q _ F H (Nw.refl sm) (.int _)⟩
    | _ => cases hg
  | str i =>
    cases hy with
    | str j =>
      have hg' : (if i.length + j.length ≤ sizeLine then some (PyData.str (i ++ j)) else none) = some z := hg
      split at hg'
      · rename_i c
        cases hg'
        exact .inr (.inl ⟨i, j, rfl, rfl, c, q _ F H (Nw.refl sm) (.str _)⟩)
      · cases hg'
    | _ => cases hg
  | @lst a xs ds h1 h2 =>
    cases hy with
    | @lst b ys es h3 h4 =>
      have hg' : (if ds.length + es.length ≤ sizeLine then some (PyData.list (ds ++ es)) else none) = some z := hg
      split at hg'
      · rename_i c
        cases hg'
        refine .inr (.inr (.inl ⟨a, b, xs, ys, rfl, rfl, sm.seq h1, sm.seq h3, by rw [h2.length, h4.length]; exact c, fun p hp => q _ _ _ (nw_new sm hp) (new_lst (H := H) (h2.cat h4) (sm.free hp))⟩))
      · cases hg'
    | _ => cases hg
  | @tup a xs ds h1 h2 =>
    cases hy with
    | @tup b ys es h3 h4 =>
      have hg' : (if ds.length + es.length ≤ sizeLine then some (PyData.tuple (ds ++ es)) else none) = some z := hg
      split at hg'
      · rename_i c
        cases hg'
        refine .inr (.inr (.inr ⟨a, b, xs, ys, rfl, rfl, seqT sm h1, seqT sm h3, by rw [h2.length, h4.length]; exact c, fun e => ?_, fun _ e => ?_, fun _ _ p hp => q _ _ _ (nw_new sm hp) (new_tup (H := H) (h2.cat h4) (sm.free hp))⟩))
        · subst e
          cases h2
          exact q _ F H (Nw.refl sm) (.tup h3 h4)
        · subst e
          cases h4
          rw [List.append_nil] at q
          exact q _ F H (Nw.refl sm) (.tup h1 h2)
      · cases hg'
    | _ => cases hg
  | _ => cases hg
end


def knD : PyData → Kn
  | .none => .non | .bool _ => .bl | .int _ => .int | .str _ => .str | .list _ => .lst | .tuple _ => .tup | .dict _ => .dct
section
variable {K : PySem.W.Frag} {H : Hp}
theorem Dq.knd {v : V} {d : PyData} (h : Dq K H v d) : Knd K H v (knD d) := by
  cases h with
  | non => exact kn_non
  | bl b => exact kn_bl b
  | int i => exact kn_int i
  | str x => exact kn_str x
  | lst hs _ =>
    rcases hs with (h | ⟨o, h⟩) | ⟨o, its, n, h, c, _⟩
    · exact .base (.lst h)
    · exact .base (.frz h)
    · exact .kList h c
  | tup hs _ =>
    rcases hs with (h | ⟨o, h⟩) | ⟨o, its, n, h, c, _⟩
    · exact .base (.tup h)
    · exact .fTuple h
    · exact .kTuple h c
  | dct h => exact kn_dct h
mutual
theorem Dq.dpN : ∀ (d : PyData) (v : V), noDict d = true → Dq K H v d → Dp K H v d
  | .none, _, _, h => by
    cases h
    exact .non
  | .bool b, _, _, h => by
    cases h
    exact .bl b
  | .int i, _, _, h => by
    cases h
    exact .int i
  | .str i, _, _, h => by
    cases h
    exact .str i
  | .list ds, _, e, h => by
    cases h with
    | lst h r => exact .lst h (DqAll.dpN ds _ e r)
  | .dict _, _, e, _ => by cases e
  | .tuple ds, _, e, h => by
    cases h with
    | tup h r => exact .tup h (DqAll.dpN ds _ e r)
theorem DqAll.dpN : ∀ (ds : List PyData) (vs : List V), noDictAll ds = true → DqAll K H vs ds → DpAll K H vs ds
  | [], _, _, h => by
    cases h
    exact .nil
  | d :: ds, _, e, h => by
    cases h with
    | cons h r => exact .cons (Dq.dpN d _ (Bool.and_eq_true_iff.mp e).1 h) (DqAll.dpN ds _ (Bool.and_eq_true_iff.mp e).2 r)
end
theorem Dq.shp {v : V} {d : PyData} (h : Dq K H v d) (s : shapely d = true) : Dp K H v d ∧ SeqAt.shaped d = true :=
  ⟨Dq.dpN d v (Bool.and_eq_true_iff.mp s).1 h, (Bool.and_eq_true_iff.mp s).2⟩
def rEqA (K : PySem.W.Frag) : R2 := fun x y H Q => rEq x y H Q ∨ rEqD K x y H Q
def rNeA (K : PySem.W.Frag) : R2 := fun x y H Q => rNe x y H Q ∨ rNeD K x y H Q
theorem op_eqA {X : Cx} (hu : X.A.units + 64 < cLine) : OpR X (compareOp .Eq) (rEqA X.K) := OpR.or op_eq (op_eqD hu)
theorem op_neA {X : Cx} (hu : X.A.units + 64 < cLine) : OpR X (compareOp .NotEq) (rNeA X.K) := OpR.or op_ne (op_neD hu)
theorem eqSc_V {x y : V} {d e : PyData} {b : Bool} (hx : Dq K H x d) (hy : Dq K H y e) (h : eqSc d e = some b) : scal x y = true ∧ decide (x = y) = b := by
  cases hx <;> cases hy <;> cases h <;> exact ⟨rfl, by simp⟩
theorem eqD_cases {d e : PyData} {b : Bool} (h : eqD d e = some b) : eqSc d e = some b ∨ (shapely d = true ∧ shapely e = true ∧ PyData.eqv d e = b) := by
  unfold eqD at h
  split at h
  · rename_i c q
    exact .inl (q.trans h)
  · split at h
    · rename_i c
      exact .inr ⟨(Bool.and_eq_true_iff.mp c).1, (Bool.and_eq_true_iff.mp c).2, Option.some.inj h⟩
    · cases h
theorem o_eq : Op2 K (rEqA K) pEq := by
  intro F H x y d e z Q sm hx hy hg q
  unfold pEq at hg
  cases e1 : eqD d e with
  | none =>
    rw [e1] at hg
    cases hg
  | some b =>
    rw [e1] at hg
    cases hg
    rcases eqD_cases e1 with h | ⟨h1, h2, h3⟩
    · obtain ⟨s1, s2⟩ := eqSc_V hx hy h
      refine .inl ⟨s1, ?_⟩
      rw [s2]
      exact q _ F H (Nw.refl sm) (.bl _)
    · refine .inr ⟨d, e, ((hx.same sm).shp h1).1, ((hy.same sm).shp h2).1, ((hx.same sm).shp h1).2, ((hy.same sm).shp h2).2, ?_⟩
      rw [h3]
      exact q _ F H (Nw.refl sm) (.bl _)
theorem o_ne : Op2 K (rNeA K) pNe := by
  intro F H x y d e z Q sm hx hy hg q
  unfold pNe at hg
  cases e1 : eqD d e with
  | none =>
    rw [e1] at hg
    cases hg
  | some b =>
    rw [e1] at hg
    cases hg
    rcases eqD_cases e1 with h | ⟨h1, h2, h3⟩
    · obtain ⟨s1, s2⟩ := eqSc_V hx hy h
      refine .inl ⟨s1, ?_⟩
      rw [s2]
      exact q _ F H (Nw.refl sm) (.bl _)
    · refine .inr ⟨d, e, ((hx.same sm).shp h1).1, ((hy.same sm).shp h2).1, ((hx.same sm).shp h1).2, ((hy.same sm).shp h2).2, ?_⟩
      rw [h3]
      exact q _ F H (Nw.refl sm) (.bl _)
theorem o_isN : Op2 K (fun x y H Q => y = .non ∧ Q (.bl (decide (x = .non))) H) (pIsNone false) := by
  intro F H x y d e z Q sm hx hy hg q
  cases hy with
  | non =>
    refine ⟨rfl, ?_⟩
    cases hx with
    | non =>
      cases hg
      exact q _ F H (Nw.refl sm) (.bl _)
    | _ =>
      cases hg
      exact q _ F H (Nw.refl sm) (.bl _)
  | _ => cases hx <;> cases hg
theorem o_notN : Op2 K (fun x y H Q => y = .non ∧ Q (.bl (!decide (x = .non))) H) (pIsNone true) := by
  intro F H x y d e z Q sm hx hy hg q
  cases hy with
  | non =>
    refine ⟨rfl, ?_⟩
    cases hx with
    | non =>
      cases hg
      exact q _ F H (Nw.refl sm) (.bl _)
    | _ =>
      cases hg
      exact q _ F H (Nw.refl sm) (.bl _)
  | _ => cases hx <;> cases hg
theorem o_isB : Op2 K rIsB (pIsB false) := by
  intro F H x y d e z Q sm hx hy hg q
  cases hx with
  | bl a =>
    cases hy with
    | bl b =>
      cases hg
      refine ⟨a, b, rfl, rfl, q _ F H (Nw.refl sm) ?_⟩
      rw [Bool.false_xor]
      exact .bl _
    | _ => cases hg
  | _ => cases hg
theorem o_notB : Op2 K rNotB (pIsB true) := by
  intro F H x y d e z Q sm hx hy hg q
  cases hx with
  | bl a =>
    cases hy with
    | bl b =>
      cases hg
      refine ⟨a, b, rfl, rfl, q _ F H (Nw.refl sm) ?_⟩
      rw [Bool.true_xor]
      exact .bl _
    | _ => cases hg
  | _ => cases hg
/-! in -/
theorem flat_V {x : V} {d : PyData} (h : Dq K H x d) (f : flatD d = true) : flatV x = true := by
  cases h <;> first
    | rfl
    | cases f
theorem eqF_V {x y : V} {d e : PyData} (hx : Dq K H x d) (hy : Dq K H y e) (f : flatD d = true) (g : flatD e = true) : eqV x y = eqF d e := by
  cases hx <;> cases hy <;> first
    | rfl
    | cases f
    | cases g
theorem inV_D {x : V} {d : PyData} (hx : Dq K H x d) (f : flatD d = true) : ∀ {vs : List V} {ds : List PyData}, DqAll K H vs ds → ds.all flatD = true → vs.all flatV = true ∧ inV x vs = ds.any fun y => eqF y d
  | _, _, .nil, _ => ⟨rfl, rfl⟩
  | _, _, .cons h r, g => by
    obtain ⟨g1, g2⟩ := Bool.and_eq_true_iff.mp (show (flatD _ && List.all _ flatD) = true from g)
    obtain ⟨i1, i2⟩ := inV_D hx f r g2
    refine ⟨Bool.and_eq_true_iff.mpr ⟨flat_V h g1, i1⟩, ?_⟩
    show (eqV _ x || inV x _) = (eqF _ d || List.any _ _)
    rw [eqF_V h hx g1 f, i2]
def rInA (K : PySem.W.Frag) (neg : Bool) : R2 := fun x y H Q => rIn K neg x y H Q ∨ ((∃ d ds, Dp K H x d ∧ Dp K H y (.list ds) ∧ SeqAt.shaped d = true ∧ SeqAt.shaped (.list ds) = true ∧ Q (.bl (xor neg (ds.any fun z => PyData.eqv z d))) H) ∨
  ∃ (c : Nat) (z : Str), x = .str ⟨#[c]⟩ ∧ y = .str z ∧ Q (.bl (xor neg (decide (c ∈ z.cps.toList)))) H)
theorem OpR.cong {X : Cx} {f : Value → Value → Sem Value} {r r' : R2} (h : OpR X f r) (e : ∀ x y H Q, r' x y H Q → r x y H Q) : OpR X f r' := fun pins s σ H x y v u Q I rx ry q => h pins s σ H x y v u Q I rx ry (e x y H Q q)
theorem op_inA {X : Cx} (hu : X.A.units + 65 < cLine) : OpR X (compareOp .In) (rInA X.K false) := OpR.or op_in_seq (OpR.or (OpR.cong (op_inD hu) fun x y H Q ⟨d, ds, h1, h2, h3, h4, q⟩ => ⟨d, ds, h1, h2, h3, h4, by rw [Bool.false_xor] at q; exact q⟩) (OpR.cong op_in_sign fun x y H Q ⟨c, z, h1, h2, q⟩ => ⟨c, z, h1, h2, by rw [Bool.false_xor] at q; exact q⟩))
theorem op_notInA {X : Cx} (hu : X.A.units + 65 < cLine) : OpR X (compareOp .NotIn) (rInA X.K true) := OpR.or op_notIn_seq (OpR.or (OpR.cong (op_notInD hu) fun x y H Q ⟨d, ds, h1, h2, h3, h4, q⟩ => ⟨d, ds, h1, h2, h3, h4, by rw [Bool.true_xor] at q; exact q⟩) (OpR.cong op_notIn_sign fun x y H Q ⟨c, z, h1, h2, q⟩ => ⟨c, z, h1, h2, by rw [Bool.true_xor] at q; exact q⟩))
theorem neg_if (neg b : Bool) : (if neg then !b else b) = xor neg b := by cases neg <;> cases b <;> rfl
theorem o_in (neg : Bool) : Op2 K (rInA K neg) (pIn neg) := by
  intro F H x y d e z Q sm hx hy hg q
  unfold pIn at hg
  cases e1 : inD d e with
  | none =>
    rw [e1] at hg
    cases hg
  | some b =>
    rw [e1] at hg
    cases hg
    have q' := q _ F H (Nw.refl sm) (.bl (xor neg b))
    cases hy with
    | @lst a xs ds h1 h2 =>
      have e1 : (if (flatD d && ds.all flatD) = true then some (ds.any fun y => eqF y d) else if (shapely d && shapely (.list ds)) = true then some (ds.any fun z => PyData.eqv z d) else none) = some b := e1
      split at e1
      · rename_i c
        cases e1
        obtain ⟨c1, c2⟩ := Bool.and_eq_true_iff.mp c
        obtain ⟨i1, i2⟩ := inV_D hx c1 h2 c2
        refine .inl ⟨a, xs, rfl, .inl (sm.seq h1), flat_V hx c1, i1, ?_⟩
        rw [neg_if, i2]
        exact q'
      · split at e1
        · rename_i c
          cases e1
          obtain ⟨c1, c2⟩ := Bool.and_eq_true_iff.mp c
          have s1 := (hx.same sm).shp c1
          have s2 := ((Dq.lst h1 h2).same sm).shp c2
          exact .inr (.inl ⟨d, ds, s1.1, s2.1, s1.2, s2.2, q'⟩)
        · cases e1
    | @tup a xs ds h1 h2 =>
      have e1 : (if (flatD d && ds.all flatD) = true then some (ds.any fun y => eqF y d) else none) = some b := e1
      split at e1
      · rename_i c
        cases e1
        obtain ⟨c1, c2⟩ := Bool.and_eq_true_iff.mp c
        obtain ⟨i1, i2⟩ := inV_D hx c1 h2 c2
        refine .inl ⟨a, xs, rfl, .inr (seqT sm h1), flat_V hx c1, i1, ?_⟩
        rw [neg_if, i2]
        exact q'
      · cases e1
    | str z =>
      match d, hx, e1 with
      | .str ⟨⟨[c]⟩⟩, .str _, e1 =>
        cases e1
        exact .inr (.inr ⟨c, z, rfl, rfl, q'⟩)
    | _ => cases e1
/-! places, parts -/
theorem DqAll.nth : ∀ {vs : List V} {ds : List PyData} {i : Nat} {d : PyData}, DqAll K H vs ds → ds[i]? = some d → ∃ v, vs[i]? = some v ∧ Dq K H v d
  | _, _, 0, _, .cons h _, e => ⟨_, rfl, by cases e; exact h⟩
  | _, _, i + 1, _, .cons _ r, e => DqAll.nth r (i := i) e
theorem DqAll.at {vs : List V} {ds : List PyData} {i : Int} {d : PyData} (h : DqAll K H vs ds) (e : atI ds i = some d) : ∃ v, atI vs i = some v ∧ Dq K H v d := by
  unfold atI at e ⊢
  rw [h.length]
  cases q : ixN ds.length i with
  | none =>
    rw [q] at e
    cases e
  | some j =>
    rw [q] at e
    exact h.nth e
theorem o_ix : Op2 K (rIx K) pIx := by
  intro F H x y d e z Q sm hx hy hg q
  cases hx with
  | @lst a xs ds h1 h2 =>
    cases hy with
    | int i =>
      obtain ⟨v, e1, e2⟩ := h2.at hg
      exact .inl ⟨a, xs, i, v, rfl, rfl, sm.seq h1, e1, q _ F H (Nw.refl sm) e2⟩
    | _ => cases hg
  | @tup a xs ds h1 h2 =>
    cases hy with
    | int i =>
      obtain ⟨v, e1, e2⟩ := h2.at hg
      exact .inr (.inl ⟨a, xs, i, v, rfl, rfl, seqT sm h1, e1, q _ F H (Nw.refl sm) e2⟩)
    | _ => cases hg
  | str s =>
    cases hy with
    | int i =>
      have hg' : (if s.length ≤ sizeLine then (atI s.cps.toList i).map fun c => PyData.str ⟨#[c]⟩ else none) = some z := hg
      split at hg'
      · rename_i c
        cases e1 : atI s.cps.toList i with
        | none =>
          rw [e1] at hg'
          cases hg'
        | some k =>
          rw [e1] at hg'
          cases hg'
          exact .inr (.inr ⟨s, i, k, rfl, rfl, c, e1, q _ F H (Nw.refl sm) (.str _)⟩)
      · cases hg'
    | _ => cases hg
  | _ => cases hg
theorem DqAll.takeM : ∀ (n : Nat) {vs : List V} {ds : List PyData}, DqAll K H vs ds → DqAll K H (vs.take n) (ds.take n)
  | 0, _, _, _ => .nil
  | _ + 1, _, _, .nil => .nil
  | n + 1, _, _, .cons h r => .cons h (DqAll.takeM n r)
theorem DqAll.dropM : ∀ (n : Nat) {vs : List V} {ds : List PyData}, DqAll K H vs ds → DqAll K H (vs.drop n) (ds.drop n)
  | 0, _, _, h => h
  | _ + 1, _, _, .nil => .nil
  | n + 1, _, _, .cons _ r => DqAll.dropM n r
theorem DqAll.cut {vs : List V} {ds : List PyData} (h : DqAll K H vs ds) (lo hi : Option Int) : DqAll K H (cutV vs lo hi) (cutD ds lo hi) := by
  unfold cutV cutD
  rw [h.length]
  exact (h.dropM _).takeM _
theorem cut_all {α : Type} {xs : List α} {lo hi : Option Int} (h : HT.sIx xs.length 0 lo = 0 ∧ HT.sIx xs.length xs.length hi = xs.length) : cutD xs lo hi = xs := by
  unfold cutD
  rw [h.1, h.2]
  simp
def rCutA (K : PySem.W.Frag) : V → Option Int → Option Int → Hp → VK → Prop := fun x lo hi H Q => rSlL K x lo hi H Q ∨ (rSlA K x lo hi H Q ∨ rSlS x lo hi H Q)
theorem sl_all {X : Cx} : L2.SlR X (rCutA X.K) := sl_list.or (sl_tupA.or sl_str)
theorem o_cut : OpS K (rCutA K) pCut := by
  intro F H x d lo hi z Q sm hx hg q
  cases hx with
  | @lst a xs ds h1 h2 =>
    cases hg
    exact .inl ⟨a, xs, rfl, sm.seq h1, fun p hp => q _ _ _ (nw_new sm hp) (new_lst (H := H) (h2.cut lo hi) (sm.free hp))⟩
  | @tup a xs ds h1 h2 =>
    cases hg
    refine .inr (.inl ⟨a, xs, rfl, seqT sm h1, fun e => ?_, fun _ p hp => q _ _ _ (nw_new sm hp) (new_tup (H := H) (h2.cut lo hi) (sm.free hp))⟩)
    rw [h2.length] at e
    rw [cut_all e] at q
    exact q _ F H (Nw.refl sm) (.tup h1 h2)
  | str s =>
    have hg' : (if s.length ≤ sizeLine then some (PyData.str (cutS s lo hi)) else none) = some z := hg
    split at hg'
    · rename_i c
      cases hg'
      exact .inr (.inr ⟨s, rfl, c, q _ F H (Nw.refl sm) (.str _)⟩)
    · cases hg'
  | _ => cases hg
/-! calls of built-in functions -/
def pLen : List PyData → Option PyData
  | [.list ds] => some (.int ds.length)
  | [.tuple ds] => some (.int ds.length)
  | [.dict []] => some (.int 0)
  | [.str z] => if z.length ≤ sizeLine then some (.int z.length) else none
  | _ => none
theorem CallR.or {X : Cx} {f : Value} {r r' : List V → Hp → VK → Prop} (h : CallR X f r) (h' : CallR X f r') : CallR X f (fun xs H Q => r xs H Q ∨ r' xs H Q) := fun pins s σ H xs us Q I rx q => q.elim (h pins s σ H xs us Q I rx) (h' pins s σ H xs us Q I rx)
def rLenA (K : PySem.W.Frag) : List V → Hp → VK → Prop := fun xs H Q => rLenS K xs H Q ∨ ((∃ z, xs = [.str z] ∧ z.length ≤ sizeLine ∧ Q (.int z.length) H) ∨ ∃ a kvs, xs = [V.ref a] ∧ H a = some (.dK kvs) ∧ Q (.int kvs.length) H)
theorem call_lenA {X : Cx} : CallR X (.builtin "len") (rLenA X.K) := CallR.or call_lenS (CallR.or call_len_str call_lenD)
theorem o_len : OpN K (rLenA K) pLen := by
  intro F H xs ds z Q sm hx hg q
  match ds, hx, hg with
  | a :: b :: r, _, hg => simp [pLen] at hg
  | [d], .cons hd .nil, hg =>
    cases hd with
    | @lst a xs ds h1 h2 =>
      cases hg
      refine .inl ⟨a, xs, rfl, .inl (sm.seq h1), ?_⟩
      rw [h2.length]
      exact q _ F H (Nw.refl sm) (.int _)
    | @tup a xs ds h1 h2 =>
      cases hg
      refine .inl ⟨a, xs, rfl, .inr (seqT sm h1), ?_⟩
      rw [h2.length]
      exact q _ F H (Nw.refl sm) (.int _)
    | str s =>
      have hg' : (if s.length ≤ sizeLine then some (PyData.int s.length) else none) = some z := hg
      split at hg'
      · rename_i c
        cases hg'
        exact .inr (.inl ⟨s, rfl, c, q _ F H (Nw.refl sm) (.int _)⟩)
      · cases hg'
    | dct h =>
      cases hg
      exact .inr (.inr ⟨_, [], rfl, sm _ _ h, q _ F H (Nw.refl sm) (.int _)⟩)
    | _ => cases hg
def ints? : List PyData → Option (List Int)
  | [] => some []
  | .int i :: r => (ints? r).map (i :: ·)
  | _ => none
def bools? : List PyData → Option (List Bool)
  | [] => some []
  | .bool i :: r => (bools? r).map (i :: ·)
  | _ => none
theorem ints_V : ∀ {vs : List V} {ds : List PyData} {ns : List Int}, DqAll K H vs ds → ints? ds = some ns → vs = ns.map V.int
  | _, [], _, .nil, e => by
    cases e
    rfl
  | _, _ :: r, ns, .cons h t, e => by
    cases h with
    | int i =>
      have e' : (ints? r).map (i :: ·) = some ns := e
      cases q : ints? r with
      | none =>
        rw [q] at e'
        cases e'
      | some ms =>
        rw [q] at e'
        cases e'
        rw [ints_V t q]
        rfl
    | _ => cases e
theorem bools_V : ∀ {vs : List V} {ds : List PyData} {ns : List Bool}, DqAll K H vs ds → bools? ds = some ns → vs = ns.map V.bl
  | _, [], _, .nil, e => by
    cases e
    rfl
  | _, _ :: r, ns, .cons h t, e => by
    cases h with
    | bl i =>
      have e' : (bools? r).map (i :: ·) = some ns := e
      cases q : bools? r with
      | none =>
        rw [q] at e'
        cases e'
      | some ms =>
        rw [q] at e'
        cases e'
        rw [bools_V t q]
        rfl
    | _ => cases e
def pSum : List PyData → Option PyData
  | [.list ds] => (ints? ds).map fun ns => .int ns.sum
  | _ => none
def pAll : List PyData → Option PyData
  | [.list ds] => (bools? ds).map fun ns => .bool (ns.all id)
  | _ => none
def pAny : List PyData → Option PyData
  | [.list ds] => (bools? ds).map fun ns => .bool (ns.any id)
  | _ => none
theorem o_sum : OpN K (rSum K) pSum := by
  intro F H xs ds z Q sm hx hg q
  match ds, hx, hg with
  | [.list ds], .cons (.lst h1 h2) .nil, hg =>
    have hg : (ints? ds).map (fun ns => PyData.int ns.sum) = some z := hg
    cases e : ints? ds with
    | none =>
      rw [e] at hg
      cases hg
    | some ns =>
      rw [e] at hg
      cases hg
      refine ⟨_, ns, rfl, ?_, q _ F H (Nw.refl sm) (.int _)⟩
      rw [← ints_V h2 e]
      exact sm.seq h1
theorem o_all : OpN K (rAll K) pAll := by
  intro F H xs ds z Q sm hx hg q
  match ds, hx, hg with
  | [.list ds], .cons (.lst h1 h2) .nil, hg =>
    have hg : (bools? ds).map (fun ns => PyData.bool (ns.all id)) = some z := hg
    cases e : bools? ds with
    | none =>
      rw [e] at hg
      cases hg
    | some ns =>
      rw [e] at hg
      cases hg
      refine ⟨_, ns, rfl, ?_, q _ F H (Nw.refl sm) (.bl _)⟩
      rw [← bools_V h2 e]
      exact sm.seq h1
def pMax2 : List PyData → Option PyData
  | [.int i, .int j] => some (.int (if j > i then j else i))
  | _ => none
def pMin2 : List PyData → Option PyData
  | [.int i, .int j] => some (.int (if j < i then j else i))
  | _ => none
theorem o_max2 : OpN K (fun xs H Q => ∃ i j, xs = [.int i, .int j] ∧ Q (.int (if j > i then j else i)) H) pMax2 := by
  intro F H xs ds z Q sm hx hg q
  match ds, hx, hg with
  | [.int i, .int j], .cons (.int _) (.cons (.int _) .nil), hg =>
    cases hg
    exact ⟨i, j, rfl, q _ F H (Nw.refl sm) (.int _)⟩
theorem o_min2 : OpN K (fun xs H Q => ∃ i j, xs = [.int i, .int j] ∧ Q (.int (if j < i then j else i)) H) pMin2 := by
  intro F H xs ds z Q sm hx hg q
  match ds, hx, hg with
  | [.int i, .int j], .cons (.int _) (.cons (.int _) .nil), hg =>
    cases hg
    exact ⟨i, j, rfl, q _ F H (Nw.refl sm) (.int _)⟩
def pStr : List PyData → Option PyData
  | [.int i] => if i.natAbs.log2 < 1920 then some (.str (toString i)) else none
  | _ => none
theorem o_str : OpN K (fun xs H Q => ∃ i, xs = [.int i] ∧ i.natAbs.log2 < 1920 ∧ Q (.str (toString i)) H) pStr := by
  intro F H xs ds z Q sm hx hg q
  match ds, hx, hg with
  | [.int i], .cons (.int _) .nil, hg =>
    have hg' : (if i.natAbs.log2 < 1920 then some (PyData.str (toString i)) else none) = some z := hg
    split at hg'
    · rename_i c
      cases hg'
      exact ⟨i, rfl, c, q _ F H (Nw.refl sm) (.str _)⟩
    · cases hg'
def pInt1 : List PyData → Option PyData
  | [.int i] => some (.int i)
  | [.bool k] => some (.int (if k then 1 else 0))
  | _ => none
theorem o_int1 : OpN K (fun xs H Q => (∃ i, xs = [.int i] ∧ Q (.int i) H) ∨ ∃ k, xs = [.bl k] ∧ Q (.int (if k then 1 else 0)) H) pInt1 := by
  intro F H xs ds z Q sm hx hg q
  match ds, hx, hg with
  | [.int i], .cons (.int _) .nil, hg =>
    cases hg
    exact .inl ⟨i, rfl, q _ F H (Nw.refl sm) (.int _)⟩
  | [.bool i], .cons (.bl _) .nil, hg =>
    cases hg
    exact .inr ⟨i, rfl, q _ F H (Nw.refl sm) (.int _)⟩
def pListOf : List PyData → Option PyData
  | [.list ds] => some (.list ds)
  | [.tuple ds] => some (.list ds)
  | _ => none
def pTupOf : List PyData → Option PyData
  | [.list ds] => some (.tuple ds)
  | [.tuple ds] => some (.tuple ds)
  | _ => none
theorem o_listOf : OpN K (fun xs H Q => ∃ p ys, xs = [.ref p] ∧ (SqL K H p ys ∨ SqT K H p ys) ∧ ∀ l, H l = none → Q (.ref l) (upd H l (.lst ys))) pListOf := by
  intro F H xs ds z Q sm hx hg q
  match ds, hx, hg with
  | [.list ds], .cons (.lst h1 h2) .nil, hg =>
    cases hg
    exact ⟨_, _, rfl, .inl (sm.seq h1), fun p hp => q _ _ _ (nw_new sm hp) (new_lst (H := H) h2 (sm.free hp))⟩
  | [.tuple ds], .cons (.tup h1 h2) .nil, hg =>
    cases hg
    exact ⟨_, _, rfl, .inr (seqT sm h1), fun p hp => q _ _ _ (nw_new sm hp) (new_lst (H := H) h2 (sm.free hp))⟩
theorem o_tupOf : OpN K (fun xs H Q => ∃ p ys, xs = [.ref p] ∧ ((SqL K H p ys ∧ ∀ l, H l = none → Q (.ref l) (upd H l (.tup ys))) ∨ (SqT K H p ys ∧ Q (.ref p) H))) pTupOf := by
  intro F H xs ds z Q sm hx hg q
  match ds, hx, hg with
  | [.list ds], .cons (.lst h1 h2) .nil, hg =>
    cases hg
    exact ⟨_, _, rfl, .inl ⟨sm.seq h1, fun p hp => q _ _ _ (nw_new sm hp) (new_tup (H := H) h2 (sm.free hp))⟩⟩
  | [.tuple ds], .cons (.tup h1 h2) .nil, hg =>
    cases hg
    exact ⟨_, _, rfl, .inr ⟨seqT sm h1, q _ F H (Nw.refl sm) (.tup h1 h2)⟩⟩
end


/-! ### a construct, its mirror -/
def QV (X : Cx) (xa : Nat → Addr) (W : WX) (e : Expr) (m : MV) : Prop := ∃ t, PE X e t ∧ SimV X.K xa W t m
def QE (X : Cx) (xa : Nat → Addr) (W : WX) (e : Expr) (m : ME) : Prop := ∃ t, PE X e t ∧ SimE X.K xa W t m
def QA (X : Cx) (xa : Nat → Addr) (W : WX) (es : List Expr) (m : MA) : Prop := ∃ t, PA X es t ∧ SimA X.K xa W t m
def QB (X : Cx) (xa : Nat → Addr) (W : WX) (e : Expr) (m : MB) : Prop := ∃ t, PT X e t ∧ SimB X.K xa W t m
def QW (X : Cx) (xa : Nat → Addr) (W : WX) (e : Expr) (m : MB) : Prop := ∃ t, PW X e t ∧ SimB X.K xa W t m
def QO (X : Cx) (xa : Nat → Addr) (W : WX) (e : Option Expr) (m : MO) : Prop := ∃ t, PO X e t ∧ SimO X.K xa W t m
section
variable {K : PySem.W.Frag} {xa : Nat → Addr} {W : WX}
theorem sim_c {v : V} {d : PyData} (h : ∀ F, Dq K F v d) : SimV K xa W (tC v) (vC d) := fun F H σ ρ S Q re gd q => q v F H S (To.refl gd) re (h F)
theorem sim_var (i : Nat) : SimV K xa W (tVar i) (vVar i) := by
  intro F H σ ρ S Q re gd q
  unfold vVar at q
  cases e : gt ρ i with
  | none =>
    rw [e] at q
    exact q.elim
  | some t =>
    rw [e] at q
    cases t with
    | f d =>
      obtain ⟨hl, Sf, h1, h2, h3⟩ := id re
      obtain ⟨v, e1, e2⟩ := h1 i _ e
      exact ⟨v, e1, q v F H S (To.refl gd) re e2.dq⟩
    | nd k ts =>
      obtain ⟨v, S1, S2, e1, r1, r2, w1, w2, dj⟩ := re.take e
      have q : PO_ K xa W (RV_ K) F H σ S Q (match (T.nd k ts).frz with | .f d => .ok d (st ρ i (some (.f d))) | _ => .no) := q
      refine ⟨v, e1, ?_⟩
      have fz := r1.frz gd.sm S1 fun _ z => z
      cases e2 : (T.nd k ts).frz with
      | nd k2 ts2 =>
        rw [e2] at q
        exact q.elim
      | f d =>
        rw [e2] at q fz
        have to := To.frz gd w1 w2 dj
        have r3 : EnvR K (frzH F H S1) H σ (st ρ i none) S2 := r2.frame (frzH_same gd.sm) (fun _ _ _ h => h) fun b z => (to.gd.ow b z).2
        have r4 := r3.back (i := i) e1 fz fun _ z => z.elim
        have e5 : st (st ρ i none) i (some (.f d)) = st ρ i (some (.f d)) := st_st _ _
        rw [e5] at r4
        exact q v _ H S2 to (r4.wk fun b z => z.elim (fun z => z.elim) fun z => z) fz.dq
theorem sim_v2 {ta tb : TE} {ma mb : MV} {r : R2} {g : PyData → PyData → Option PyData} (ho : Op2 K r g) (ha : SimV K xa W ta ma) (hb : SimV K xa W tb mb) : SimV K xa W (tOp r ta tb) (v2 g ma mb) := by
  intro F H σ ρ S Q re gd q
  refine ha F H σ ρ S _ re gd (PO.bind q fun a ρ1 v F1 H1 S1 t1 r1 h1 q1 => hb F1 H1 σ ρ1 S1 _ r1 t1.gd (PO.bind q1 fun b ρ2 u F2 H2 S2 t2 r2 h2 q2 => ?_))
  obtain ⟨z, e, q3⟩ := PO.of q2
  exact ho F2 H2 v u a b z Q t2.gd.sm (h1.same t2.fs) h2 e fun w F' H' n hw => q3 w F' H' S2 (n.to t2.gd) (n.env t2.gd r2) hw
theorem sim_v1 {ta : TE} {ma : MV} {r : V → Hp → VK → Prop} {g : PyData → Option PyData} (ho : Op1 K r g) (ha : SimV K xa W ta ma) : SimV K xa W (tUn r ta) (v1 g ma) := by
  intro F H σ ρ S Q re gd q
  refine ha F H σ ρ S _ re gd (PO.bind q fun a ρ1 v F1 H1 S1 t1 r1 h1 q1 => ?_)
  obtain ⟨z, e, q3⟩ := PO.of q1
  exact ho F1 H1 v a z Q t1.gd.sm h1 e fun w F' H' n hw => q3 w F' H' S1 (n.to t1.gd) (n.env t1.gd r1) hw
theorem sim_nil : SimA K xa W tNil aNil := fun F H σ ρ S Q re gd q => q [] F H S (To.refl gd) re .nil
theorem sim_cons {ta : TE} {ma : MV} {tr : TA} {mr : MA} (ha : SimV K xa W ta ma) (hr : SimA K xa W tr mr) : SimA K xa W (tCons ta tr) (aCons ma mr) := by
  intro F H σ ρ S Q re gd q
  refine ha F H σ ρ S _ re gd (PO.bind q fun a ρ1 v F1 H1 S1 t1 r1 h1 q1 => hr F1 H1 σ ρ1 S1 _ r1 t1.gd (PO.bind q1 fun b ρ2 u F2 H2 S2 t2 r2 h2 q2 => ?_))
  exact q2 _ F2 H2 S2 (To.refl t2.gd) r2 (.cons (h1.same t2.fs) h2)
theorem sim_vN {ta : TA} {ma : MA} {r : List V → Hp → VK → Prop} {g : List PyData → Option PyData} (ho : OpN K r g) (ha : SimA K xa W ta ma) : SimV K xa W (tCB r ta) (vN g ma) := by
  intro F H σ ρ S Q re gd q
  refine ha F H σ ρ S _ re gd (PO.bind q fun a ρ1 v F1 H1 S1 t1 r1 h1 q1 => ?_)
  obtain ⟨z, e, q3⟩ := PO.of q1
  exact ho F1 H1 v a z Q t1.gd.sm h1 e fun w F' H' n hw => q3 w F' H' S1 (n.to t1.gd) (n.env t1.gd r1) hw
theorem sim_tup {ta : TA} {ma : MA} (ha : SimA K xa W ta ma) : SimV K xa W (tTup ta) (vN pTup ma) := by
  intro F H σ ρ S Q re gd q
  refine ha F H σ ρ S _ re gd (PO.bind q fun a ρ1 v F1 H1 S1 t1 r1 h1 q1 => ?_)
  obtain ⟨z, e, q3⟩ := PO.of q1
  unfold pTup at e
  split at e
  · rename_i c
    cases e
    refine ⟨by rw [h1.length]; exact c, fun p hp => ?_⟩
    have n := nw_new (o := .tup v) t1.gd.sm hp
    exact q3 _ _ _ S1 (n.to t1.gd) (n.env t1.gd r1) (new_tup (H := H1) h1 (t1.gd.sm.free hp))
  · cases e
theorem sim_lst {ta : TA} {ma : MA} (ha : SimA K xa W ta ma) : SimV K xa W (tLst ta) (vN pLst ma) := by
  intro F H σ ρ S Q re gd q
  refine ha F H σ ρ S _ re gd (PO.bind q fun a ρ1 v F1 H1 S1 t1 r1 h1 q1 => ?_)
  obtain ⟨z, e, q3⟩ := PO.of q1
  unfold pLst at e
  split at e
  · rename_i c
    cases e
    refine ⟨by rw [h1.length]; exact c, fun p hp => ?_⟩
    have n := nw_new (o := .lst v) t1.gd.sm hp
    exact q3 _ _ _ S1 (n.to t1.gd) (n.env t1.gd r1) (new_lst (H := H1) h1 (t1.gd.sm.free hp))
  · cases e
theorem Dq.blOf {H : Hp} {v : V} {b : Bool} (h : Dq K H v (.bool b)) : v = .bl b := by
  cases h
  rfl
theorem sim_and {ta tb : TE} {ma mb : MV} (ha : SimV K xa W ta ma) (hb : SimV K xa W tb mb) : SimV K xa W (tAndV ta tb) (vAnd ma mb) := by
  intro F H σ ρ S Q re gd q
  refine ha F H σ ρ S _ re gd (PO.bind q fun a ρ1 v F1 H1 S1 t1 r1 h1 q1 => ?_)
  match a, h1, q1 with
  | .bool true, h1, q1 => exact ⟨true, h1.blOf, hb F1 H1 σ ρ1 S1 _ r1 t1.gd q1⟩
  | .bool false, h1, q1 => exact ⟨false, h1.blOf, q1 _ F1 H1 S1 (To.refl t1.gd) r1 (.bl false)⟩
theorem sim_or {ta tb : TE} {ma mb : MV} (ha : SimV K xa W ta ma) (hb : SimV K xa W tb mb) : SimV K xa W (tOrV ta tb) (vOr ma mb) := by
  intro F H σ ρ S Q re gd q
  refine ha F H σ ρ S _ re gd (PO.bind q fun a ρ1 v F1 H1 S1 t1 r1 h1 q1 => ?_)
  match a, h1, q1 with
  | .bool false, h1, q1 => exact ⟨false, h1.blOf, hb F1 H1 σ ρ1 S1 _ r1 t1.gd q1⟩
  | .bool true, h1, q1 => exact ⟨true, h1.blOf, q1 _ F1 H1 S1 (To.refl t1.gd) r1 (.bl true)⟩
theorem sim_not {ta : TE} {ma : MV} (ha : SimV K xa W ta ma) : SimV K xa W (tNotV ta) (v1 pNot ma) := by
  intro F H σ ρ S Q re gd q
  refine ha F H σ ρ S _ re gd (PO.bind q fun a ρ1 v F1 H1 S1 t1 r1 h1 q1 => ?_)
  obtain ⟨z, e, q3⟩ := PO.of q1
  match a, h1, e with
  | .bool b, h1, e =>
    cases e
    exact ⟨b, h1.blOf, q3 _ F1 H1 S1 (To.refl t1.gd) r1 (.bl _)⟩
theorem sim_if {α β : Type} {R : Hp → β → α → Prop} {tc : TT} {ta tb : L2.St → Hp → (β → Hp → Prop) → Prop} {mc : MB} {ma mb : MEnv → Ou α} (hc : SimB K xa W tc mc) (ha : Sim K xa W R ta ma) (hb : Sim K xa W R tb mb) :
    Sim K xa W R (fun σ H Q => tc σ H fun c H1 => if c = true then ta σ H1 Q else tb σ H1 Q) (bIf mc ma mb) := by
  intro F H σ ρ S Q re gd q
  refine hc F H σ ρ S _ re gd (PO.bind q fun a ρ1 v F1 H1 S1 t1 r1 h1 q1 => ?_)
  cases h1
  cases a with
  | true =>
    rw [if_pos rfl]
    exact ha F1 H1 σ ρ1 S1 _ r1 t1.gd q1
  | false =>
    rw [if_neg Bool.false_ne_true]
    exact hb F1 H1 σ ρ1 S1 _ r1 t1.gd q1
theorem sim_bV {ta : TE} {ma : MV} (ha : SimV K xa W ta ma) : SimB K xa W (fun σ H Q => ta σ H fun x H1 => ∃ c, x = .bl c ∧ Q c H1) (bV ma) := by
  intro F H σ ρ S Q re gd q
  refine ha F H σ ρ S _ re gd (PO.bind q fun a ρ1 v F1 H1 S1 t1 r1 h1 q1 => ?_)
  obtain ⟨z, e, q3⟩ := PO.of q1
  match a, h1, e with
  | .bool b, h1, e =>
    cases e
    exact ⟨_, h1.blOf, q3 _ F1 H1 S1 (To.refl t1.gd) r1 rfl⟩
theorem sim_bNot {ta : TT} {ma : MB} (ha : SimB K xa W ta ma) : SimB K xa W (tNot ta) (bNot ma) := by
  intro F H σ ρ S Q re gd q
  refine ha F H σ ρ S _ re gd (PO.bind q fun a ρ1 v F1 H1 S1 t1 r1 h1 q1 => ?_)
  cases h1
  exact q1 _ F1 H1 S1 (To.refl t1.gd) r1 rfl
theorem sim_bc {b : Bool} : SimB K xa W (fun _ H Q => Q b H) (fun ρ => .ok b ρ) := fun F H σ ρ S Q re gd q => q b F H S (To.refl gd) re rfl
theorem sim_oS {ta : TE} {ma : MV} (ha : SimV K xa W ta ma) : SimO K xa W (tPart ta) (oSome ma) := by
  intro F H σ ρ S Q re gd q
  refine ha F H σ ρ S _ re gd (PO.bind q fun a ρ1 v F1 H1 S1 t1 r1 h1 q1 => ?_)
  obtain ⟨z, e, q3⟩ := PO.of q1
  have h1 : Dq K F1 v a := h1
  cases h1 with
  | int b =>
    cases e
    exact ⟨b, rfl, q3 _ F1 H1 S1 (To.refl t1.gd) r1 rfl⟩
  | _ => cases e
theorem sim_oN : SimO K xa W tNoPart oNone := fun F H σ ρ S Q re gd q => q none F H S (To.refl gd) re rfl
theorem sim_cut {ta : TE} {ma : MV} {tl th : TO} {ml mh : MO} {r : V → Option Int → Option Int → Hp → VK → Prop} {g : PyData → Option Int → Option Int → Option PyData} (ho : OpS K r g) (ha : SimV K xa W ta ma) (hl : SimO K xa W tl ml) (hh : SimO K xa W th mh) :
    SimV K xa W (L2.tSl r ta tl th) (vSl g ma ml mh) := by
  intro F H σ ρ S Q re gd q
  refine ha F H σ ρ S _ re gd (PO.bind q fun a ρ1 v F1 H1 S1 t1 r1 h1 q1 => hl F1 H1 σ ρ1 S1 _ r1 t1.gd (PO.bind q1 fun b ρ2 u F2 H2 S2 t2 r2 h2 q2 => hh F2 H2 σ ρ2 S2 _ r2 t2.gd (PO.bind q2 fun c ρ3 y F3 H3 S3 t3 r3 h3 q3 => ?_)))
  cases h2
  cases h3
  obtain ⟨z, e, q4⟩ := PO.of q3
  exact ho F3 H3 v a _ _ z Q t3.gd.sm ((h1.same t2.fs).same t3.fs) e fun w F' H' n hw => q4 w F' H' S3 (n.to t3.gd) (n.env t3.gd r3) hw
theorem sim_chain {ta tb tc : TE} {ma mb mc : MV} {r r' : R2} {g g' : PyData → PyData → Option PyData} (ho : Op2 K r g) (ho' : Op2 K r' g') (ha : SimV K xa W ta ma) (hb : SimV K xa W tb mb) (hc : SimV K xa W tc mc) :
    SimV K xa W (tChain r r' ta tb tc) (vChain g g' ma mb mc) := by
  intro F H σ ρ S Q re gd q
  refine ha F H σ ρ S _ re gd (PO.bind q fun a ρ1 v F1 H1 S1 t1 r1 h1 q1 => hb F1 H1 σ ρ1 S1 _ r1 t1.gd (PO.bind q1 fun b ρ2 u F2 H2 S2 t2 r2 h2 q2 => ?_))
  have h1' := h1.same t2.fs
  cases e : g a b with
  | none =>
    simp only [e] at q2
    exact q2.elim
  | some z =>
    simp only [e] at q2
    refine ho F2 H2 v u a b z _ t2.gd.sm h1' h2 e fun w F' H' n hw => ?_
    match z, hw, q2 with
    | .bool true, hw, q2 =>
      refine ⟨true, hw.blOf, ?_⟩
      rw [if_pos rfl]
      have t3 := n.to t2.gd
      refine hc F' H' σ ρ2 S2 _ (n.env t2.gd r2) t3.gd (PO.bind (PO.step q2 t3) fun c ρ3 y F3 H3 S3 t4 r3 h3 q3 => ?_)
      obtain ⟨z', e', q4⟩ := PO.of q3
      exact ho' F3 H3 u y b c z' Q t4.gd.sm ((h2.same t3.fs).same t4.fs) h3 e' fun w F5 H5 n5 hw5 => q4 w F5 H5 S3 (n5.to t4.gd) (n5.env t4.gd r3) hw5
    | .bool false, hw, q2 =>
      refine ⟨false, hw.blOf, ?_⟩
      rw [if_neg Bool.false_ne_true]
      exact q2 _ F' H' S2 (n.to t2.gd) (n.env t2.gd r2) (.bl false)
/-- isinstance -/
def vIsi (f : Kn → Bool) (a : MV) : MV := fun ρ => (a ρ).bd fun x ρ => .ok (.bool (f (knD x))) ρ
theorem sim_isi {ta : TE} {ma : MV} {n : String} {f : Kn → Bool} (hk : ∀ k : Kn, PySem.W.kitOne K (.type k.name) (.type n) = some (f k)) (ha : SimV K xa W ta ma) : SimV K xa W (tCB (rIsi K) (tCons ta (tCons (tC (.ty n)) tNil))) (vIsi f ma) := by
  intro F H σ ρ S Q re gd q
  refine ha F H σ ρ S _ re gd (PO.bind q fun a ρ1 v F1 H1 S1 t1 r1 h1 q1 => ?_)
  exact ⟨v, .ty n, _, .type n, _, rfl, .ty _, (h1.same t1.gd.sm).knd, hk _, q1 _ F1 H1 S1 (To.refl t1.gd) r1 (.bl _)⟩
theorem sim_isi2 {ta : TE} {ma : MV} {n1 n2 : String} {f : Kn → Bool} (hk : ∀ k : Kn, PySem.W.kitAny K (.type k.name) [.type n1, .type n2] = some (f k)) (ha : SimV K xa W ta ma) :
    SimV K xa W (tCB (rIsiT K) (tCons ta (tCons (tTup (tCons (tC (.ty n1)) (tCons (tC (.ty n2)) tNil))) tNil))) (vIsi f ma) := by
  intro F H σ ρ S Q re gd q
  refine ha F H σ ρ S _ re gd (PO.bind q fun a ρ1 v F1 H1 S1 t1 r1 h1 q1 => ?_)
  refine ⟨by show 2 ≤ sizeLine; decide, fun p hp => ?_⟩
  have n := nw_new (o := .tup [.ty n1, .ty n2]) t1.gd.sm hp
  exact ⟨v, p, [.ty n1, .ty n2], _, [.type n1, .type n2], _, rfl, upd_same, .cons (.ty _) (.cons (.ty _) .nil), ((h1.same t1.gd.sm).same n.hs).knd, hk _, q1 _ _ _ S1 (n.to t1.gd) (n.env t1.gd r1) (.bl _)⟩
end
section
variable {X : Cx} {xa : Nat → Addr} {W : WX} {a b c e : Expr} {es : List Expr} {pos : Pos} {ma mb mc : MV}
theorem qv_c {v : V} {d : PyData} (p : PE X e (tC v)) (h : ∀ F, Dq X.K F v d) : QV X xa W e (vC d) := ⟨_, p, sim_c h⟩
theorem qv_int {i : Int} {j : Nat} : QV X xa W (.Constant (.int i) j pos) (vC (.int i)) := qv_c pe_int fun _ => .int _
theorem qv_str {i : Str} {j : Nat} : QV X xa W (.Constant (.str i) j pos) (vC (.str i)) := qv_c pe_str fun _ => .str _
theorem qv_bl {i : Bool} {j : Nat} : QV X xa W (.Constant (.bool i) j pos) (vC (.bool i)) := qv_c pe_bl fun _ => .bl _
theorem qv_non {j : Nat} : QV X xa W (.Constant .none j pos) (vC .none) := qv_c pe_non fun _ => .non
theorem qv_var {i : Nat} (p : PE X e (tVar i)) : QV X xa W e (vVar i) := ⟨_, p, sim_var i⟩
theorem qv_op {op : Operator} {r : R2} {g : PyData → PyData → Option PyData} (ho : OpR X (binaryOp op) r) (h2 : Op2 X.K r g) (ha : QV X xa W a ma) (hb : QV X xa W b mb) : QV X xa W (.BinOp a op b pos) (v2 g ma mb) := by
  obtain ⟨ta, pa, sa⟩ := ha
  obtain ⟨tb, pb, sb⟩ := hb
  exact ⟨_, pe_op ho pa pb, sim_v2 h2 sa sb⟩
theorem qv_cmp {op : CmpOp} {r : R2} {g : PyData → PyData → Option PyData} (ho : OpR X (compareOp op) r) (h2 : Op2 X.K r g) (ha : QV X xa W a ma) (hb : QV X xa W b mb) (hm : behindInMarks op b = false) : QV X xa W (.Compare a [op] [b] pos) (v2 g ma mb) := by
  obtain ⟨ta, pa, sa⟩ := ha
  obtain ⟨tb, pb, sb⟩ := hb
  exact ⟨_, pe_cmpR ho pa pb hm, sim_v2 h2 sa sb⟩
theorem qb_cmp {op : CmpOp} {r : R2} {g : PyData → PyData → Option PyData} (ho : OpR X (compareOp op) r) (h2 : Op2 X.K r g) (ha : QV X xa W a ma) (hb : QV X xa W b mb) (hm : behindInMarks op b = false) : QB X xa W (.Compare a [op] [b] pos) (bV (v2 g ma mb)) := by
  obtain ⟨ta, pa, sa⟩ := ha
  obtain ⟨tb, pb, sb⟩ := hb
  exact ⟨_, pt_cmpR ho pa pb hm, sim_bV (sim_v2 h2 sa sb)⟩
theorem qv_un {op : UnaryOp} {r : V → Hp → VK → Prop} {g : PyData → Option PyData} (ho : UnR X (unaryOp op) r) (h1 : Op1 X.K r g) (ha : QV X xa W a ma) (p : ∀ t, PE X a t → PE X (.UnaryOp op a pos) (tUn r t)) : QV X xa W (.UnaryOp op a pos) (v1 g ma) := by
  obtain ⟨ta, pa, sa⟩ := ha
  exact ⟨_, p _ pa, sim_v1 h1 sa⟩
theorem qv_not (ha : QV X xa W a ma) : QV X xa W (.UnaryOp .Not a pos) (v1 pNot ma) := by
  obtain ⟨ta, pa, sa⟩ := ha
  exact ⟨_, pe_not pa, sim_not sa⟩
theorem qv_ix (ha : QV X xa W a ma) (hb : QV X xa W b mb) (hs : PlainIx b) : QV X xa W (.Subscript a b pos) (v2 pIx ma mb) := by
  obtain ⟨ta, pa, sa⟩ := ha
  obtain ⟨tb, pb, sb⟩ := hb
  exact ⟨_, pe_ix ix_seq pa pb hs, sim_v2 o_ix sa sb⟩
theorem qv_cut {lo hi : Option Expr} {ml mh : MO} {p2 : Pos} (ha : QV X xa W a ma) (hl : QO X xa W lo ml) (hh : QO X xa W hi mh) : QV X xa W (.Subscript a (.Slice lo hi none p2) pos) (vSl pCut ma ml mh) := by
  obtain ⟨ta, pa, sa⟩ := ha
  obtain ⟨tl, pl, sl⟩ := hl
  obtain ⟨th, ph, sh⟩ := hh
  exact ⟨_, pe_slice sl_all pa pl ph, sim_cut o_cut sa sl sh⟩
theorem qo_n : QO X xa W none oNone := ⟨_, po_none, sim_oN⟩
theorem qo_s (ha : QV X xa W a ma) : QO X xa W (some a) (oSome ma) := by
  obtain ⟨ta, pa, sa⟩ := ha
  exact ⟨_, po_some pa, sim_oS sa⟩
theorem qa_nil : QA X xa W [] aNil := ⟨_, pa_nil, sim_nil⟩
theorem qa_cons {mr : MA} (ha : QV X xa W e ma) (hr : QA X xa W es mr) (hs : starEach (e :: es) X.env = (false, eval e X.env) :: starEach es X.env := by rfl) : QA X xa W (e :: es) (aCons ma mr) := by
  obtain ⟨ta, pa, sa⟩ := ha
  obtain ⟨tr, pr, sr⟩ := hr
  exact ⟨_, pa_cons pa pr hs, sim_cons sa sr⟩
theorem qv_tup {x1} {m : MA} (h : QA X xa W es m) : QV X xa W (.Tuple es x1 pos) (vN pTup m) := by
  obtain ⟨t, p, s⟩ := h
  exact ⟨_, pe_tup p, sim_tup s⟩
theorem qv_lst {m : MA} (h : QA X xa W es m) : QV X xa W (.List es pos) (vN pLst m) := by
  obtain ⟨t, p, s⟩ := h
  exact ⟨_, pe_lst p, sim_lst s⟩
theorem qv_callB {id : String} {x : Str} {p : Pos} {m : MA} {r : List V → Hp → VK → Prop} {g : List PyData → Option PyData} (hc : CallR X (.builtin id) r) (h2 : OpN X.K r g) (hg : Gl X x) (hm : X.mg x = none) (hv : bootBuiltins x = some (.builtin id)) (ha : QA X xa W (e :: es) m) (hn : x ≠ "__name__" := by decide) (hdb : (x == ("__debug__" : Str)) = false := by decide)
    (he : starEach (e :: es) X.env = (false, eval e X.env) :: starEach es X.env := by rfl) (hpl : (backTo pos (starEach es X.env)).any (·.1) = false := by rfl) : QV X xa W (.Call (.Name x p) (e :: es) [] pos) (vN g m) := by
  obtain ⟨t, pa, s⟩ := ha
  exact ⟨_, pe_callB hc hg hm hv pa hn hdb he hpl, sim_vN h2 s⟩
theorem qv_callTy {T : String} {x : Str} {p : Pos} {m : MA} {r : List V → Hp → VK → Prop} {g : List PyData → Option PyData} (hc : CallR X (.type T) r) (h2 : OpN X.K r g) (hg : Gl X x) (hm : X.mg x = none) (hv : bootBuiltins x = some (.type T)) (ha : QA X xa W (e :: es) m) (hn : x ≠ "__name__" := by decide) (hdb : (x == ("__debug__" : Str)) = false := by decide)
    (he : starEach (e :: es) X.env = (false, eval e X.env) :: starEach es X.env := by rfl) (hpl : (backTo pos (starEach es X.env)).any (·.1) = false := by rfl) : QV X xa W (.Call (.Name x p) (e :: es) [] pos) (vN g m) := by
  obtain ⟨t, pa, s⟩ := ha
  exact ⟨_, pe_callTy hc hg hm hv pa hn hdb he hpl, sim_vN h2 s⟩
theorem qv_isi {n : String} {f : Kn → Bool} {x : Str} {p : Pos} (hk : ∀ k : Kn, PySem.W.kitOne X.K (.type k.name) (.type n) = some (f k)) (hg : Gl X "isinstance") (hm : X.mg "isinstance" = none) (ha : QV X xa W a ma) (hb : PE X b (tC (.ty n)))
    (h1 : starEach [a, b] X.env = (false, eval a X.env) :: starEach [b] X.env := by rfl) (h2 : starEach [b] X.env = (false, eval b X.env) :: starEach [] X.env := by rfl) (hpl : (backTo pos (starEach [b] X.env)).any (·.1) = false := by rfl) : QV X xa W (.Call (.Name "isinstance" p) [a, b] [] pos) (vIsi f ma) := by
  obtain ⟨ta, pa, sa⟩ := ha
  exact ⟨_, pe_callB (r := rIsi X.K) call_isi hg hm PyProof.Rows.boot_isinstance (pa_cons pa (pa_cons hb pa_nil h2) h1) (by decide) (by decide) h1 hpl, sim_isi hk sa⟩
theorem qv_isi2 {n1 n2 : String} {f : Kn → Bool} {x : Str} {p : Pos} {b1 b2 : Expr} {x1} {tp : Pos} (hk : ∀ k : Kn, PySem.W.kitAny X.K (.type k.name) [.type n1, .type n2] = some (f k)) (hg : Gl X "isinstance") (hm : X.mg "isinstance" = none) (ha : QV X xa W a ma) (hb1 : PE X b1 (tC (.ty n1))) (hb2 : PE X b2 (tC (.ty n2)))
    (h1 : starEach [a, .Tuple [b1, b2] x1 tp] X.env = (false, eval a X.env) :: starEach [.Tuple [b1, b2] x1 tp] X.env := by rfl) (h2 : starEach [.Tuple [b1, b2] x1 tp] X.env = (false, eval (.Tuple [b1, b2] x1 tp) X.env) :: starEach [] X.env := by rfl) (hpl : (backTo pos (starEach [.Tuple [b1, b2] x1 tp] X.env)).any (·.1) = false := by rfl)
    (h3 : starEach [b1, b2] X.env = (false, eval b1 X.env) :: starEach [b2] X.env := by rfl) (h4 : starEach [b2] X.env = (false, eval b2 X.env) :: starEach [] X.env := by rfl) :
    QV X xa W (.Call (.Name "isinstance" p) [a, .Tuple [b1, b2] x1 tp] [] pos) (vIsi f ma) := by
  obtain ⟨ta, pa, sa⟩ := ha
  exact ⟨_, pe_callB (r := rIsiT X.K) call_isiT hg hm PyProof.Rows.boot_isinstance (pa_cons pa (pa_cons (pe_tup (pa_cons hb1 (pa_cons hb2 pa_nil h4) h3)) pa_nil h2) h1) (by decide) (by decide) h1 hpl, sim_isi2 hk sa⟩
theorem qv_one {op : BoolOp} (ha : QV X xa W a ma) (p : ∀ t, PE X a t → PE X (.BoolOp op [a] pos) t) : QV X xa W (.BoolOp op [a] pos) ma := by
  obtain ⟨ta, pa, sa⟩ := ha
  exact ⟨_, p _ pa, sa⟩
theorem qv_and (ha : QV X xa W a ma) (hb : QV X xa W (.BoolOp .And (b :: es) pos) mb) : QV X xa W (.BoolOp .And (a :: b :: es) pos) (vAnd ma mb) := by
  obtain ⟨ta, pa, sa⟩ := ha
  obtain ⟨tb, pb, sb⟩ := hb
  exact ⟨_, pe_and pa pb, sim_and sa sb⟩
theorem qv_or (ha : QV X xa W a ma) (hb : QV X xa W (.BoolOp .Or (b :: es) pos) mb) : QV X xa W (.BoolOp .Or (a :: b :: es) pos) (vOr ma mb) := by
  obtain ⟨ta, pa, sa⟩ := ha
  obtain ⟨tb, pb, sb⟩ := hb
  exact ⟨_, pe_or pa pb, sim_or sa sb⟩
theorem qv_if {kc : MB} (hc : QB X xa W c kc) (ha : QV X xa W a ma) (hb : QV X xa W b mb) : QV X xa W (.IfExp c a b pos) (bIf kc ma mb) := by
  obtain ⟨tc, pc, sc⟩ := hc
  obtain ⟨ta, pa, sa⟩ := ha
  obtain ⟨tb, pb, sb⟩ := hb
  exact ⟨_, pe_ifExp pc pa pb, sim_if sc sa sb⟩
theorem qb_val (ha : QV X xa W a ma) (he : ∀ whole, isTrue a X.env whole = (do let v ← whole; standAt a.pos; holding [v] (truthy v)) := by intro _; rfl) : QB X xa W a (bV ma) := by
  obtain ⟨ta, pa, sa⟩ := ha
  exact ⟨_, pt_val pa he, sim_bV sa⟩
theorem qb_not {m : MB} (ha : QB X xa W a m) : QB X xa W (.UnaryOp .Not a pos) (bNot m) := by
  obtain ⟨ta, pa, sa⟩ := ha
  exact ⟨_, pt_not pa, sim_bNot sa⟩
theorem QW.qb {m : MB} (h : QW X xa W e m) : QB X xa W e m := by
  obtain ⟨t, p, s⟩ := h
  exact ⟨t, p.pt, s⟩
theorem qw_and1 {m : MB} (ha : QB X xa W a m) : QW X xa W (.BoolOp .And [a] pos) m := by
  obtain ⟨t, p, s⟩ := ha
  exact ⟨t, pw_and1 p, s⟩
theorem qw_or1 {m : MB} (ha : QB X xa W a m) : QW X xa W (.BoolOp .Or [a] pos) m := by
  obtain ⟨t, p, s⟩ := ha
  exact ⟨t, pw_or1 p, s⟩
theorem qw_and {m m' : MB} (ha : QB X xa W a m) (hb : QW X xa W (.BoolOp .And (b :: es) pos) m') : QW X xa W (.BoolOp .And (a :: b :: es) pos) (bAnd m m') := by
  obtain ⟨t, p, s⟩ := ha
  obtain ⟨t', p', s'⟩ := hb
  exact ⟨_, pw_and p p', sim_if s s' sim_bc⟩
theorem qw_or {m m' : MB} (ha : QB X xa W a m) (hb : QW X xa W (.BoolOp .Or (b :: es) pos) m') : QW X xa W (.BoolOp .Or (a :: b :: es) pos) (bOr m m') := by
  obtain ⟨t, p, s⟩ := ha
  obtain ⟨t', p', s'⟩ := hb
  exact ⟨_, pw_or p p', sim_if s sim_bc s'⟩
theorem qv_chain {op op' : CmpOp} {r r' : R2} {g g' : PyData → PyData → Option PyData} (ho : OpR X (compareOp op) r) (h2 : Op2 X.K r g) (ho' : OpR X (compareOp op') r') (h2' : Op2 X.K r' g') (ha : QV X xa W a ma) (hb : QV X xa W b mb) (hc : QV X xa W c mc)
    (hm : lastMarks [op, op'] [b, c] = false := by with_unfolding_all rfl) : QV X xa W (.Compare a [op, op'] [b, c] pos) (vChain g g' ma mb mc) := by
  obtain ⟨ta, pa, sa⟩ := ha
  obtain ⟨tb, pb, sb⟩ := hb
  obtain ⟨tc, pc, sc⟩ := hc
  exact ⟨_, pe_chain ho ho' pa pb pc hm, sim_chain h2 h2' sa sb sc⟩
theorem qb_chain {op op' : CmpOp} {r r' : R2} {g g' : PyData → PyData → Option PyData} (ho : OpR X (compareOp op) r) (h2 : Op2 X.K r g) (ho' : OpR X (compareOp op') r') (h2' : Op2 X.K r' g') (ha : QV X xa W a ma) (hb : QV X xa W b mb) (hc : QV X xa W c mc)
    (hm : lastMarks [op, op'] [b, c] = false := by with_unfolding_all rfl) : QB X xa W (.Compare a [op, op'] [b, c] pos) (bV (vChain g g' ma mb mc)) := by
  obtain ⟨ta, pa, sa⟩ := ha
  obtain ⟨tb, pb, sb⟩ := hb
  obtain ⟨tc, pc, sc⟩ := hc
  exact ⟨_, pt_chain ho ho' pa pb pc hm, sim_bV (sim_chain h2 h2' sa sb sc)⟩
end


/-! ### statements -/
def Kp (P : Nat → Bool) (σ σ' : L2.St) : Prop := ∀ i, P i = true → σ'[i]? = σ[i]?
theorem Kp.refl (P : Nat → Bool) (σ : L2.St) : Kp P σ σ := fun _ _ => rfl
theorem Kp.trans {P : Nat → Bool} {σ σ1 σ2 : L2.St} (a : Kp P σ σ1) (b : Kp P σ1 σ2) : Kp P σ σ2 := fun i h => (b i h).trans (a i h)
theorem Kp.set {P : Nat → Bool} {σ : L2.St} {i : Nat} {x : Option V} (h : P i = false) : Kp P σ (σ.set i x) := fun j hj => by
  have n : i ≠ j := fun e => by
    rw [e, hj] at h
    cases h
  rw [List.getElem?_set_ne n]
section
variable (K : PySem.W.Frag) (xa : Nat → Addr) (W : WX) (P : Nat → Bool)
def PS_ (D : Ends) (F H : Hp) (σ : L2.St) (S : AS) : Ou Fl → Prop
  | .no => False
  | .ok .nx ρ => ∀ F' H' σ' S', To F H S F' H' S' → EnvR K F' H' σ' ρ S' → Kp P σ σ' → D.nx σ' H'
  | .ok .bk ρ => ∀ F' H' σ' S', To F H S F' H' S' → EnvR K F' H' σ' ρ S' → Kp P σ σ' → D.bk σ' H'
  | .ok .ct ρ => ∀ F' H' σ' S', To F H S F' H' S' → EnvR K F' H' σ' ρ S' → Kp P σ σ' → D.ct σ' H'
  | .ok (.rt t) ρ => ∀ v F' H' σ' S1 S2, To F H S F' H' (S1.or S2) → Disj S1 S2 → EnvR K F' H' σ' ρ S2 → Rl K F' H' v t S1 → Kp P σ σ' → D.rt v H'
  | .ex c p ρ => ∀ cls d F' H' σ' S', To F H S F' H' S' → EnvR K F' H' σ' ρ S' → XR K xa F' cls d c p → Kp P σ σ' → W cls d σ' H'
def SimS (t : TS) (m : MS) : Prop := ∀ F H σ ρ S D, EnvR K F H σ ρ S → Gd F H S → PS_ K xa W P D F H σ S (m ρ) → t D σ H
end
def QS (X : Cx) (xa : Nat → Addr) (W : WX) (P : Nat → Bool) (s : Stmt) (m : MS) : Prop := ∃ t, PS X s t ∧ SimS X.K xa W P t m
def QSs (X : Cx) (xa : Nat → Addr) (W : WX) (P : Nat → Bool) (s : List Stmt) (m : MS) : Prop := ∃ t, PSs X s t ∧ SimS X.K xa W P t m
section
variable {K : PySem.W.Frag} {xa : Nat → Addr} {W : WX} {P : Nat → Bool} {F H F1 H1 F2 H2 : Hp} {S S1 S2 : AS} {σ σ1 : L2.St} {ρ : MEnv} {D D' : Ends}
theorem PS.step {o : Ou Fl} (h : PS_ K xa W P D F H σ S o) (t : To F H S F1 H1 S1) (k : Kp P σ σ1) : PS_ K xa W P D F1 H1 σ1 S1 o := by
  cases o with
  | no => exact h
  | ok a ρ =>
    cases a with
    | nx => exact fun F' H' σ' S' t' r k' => h F' H' σ' S' (t.trans t') r (k.trans k')
    | bk => exact fun F' H' σ' S' t' r k' => h F' H' σ' S' (t.trans t') r (k.trans k')
    | ct => exact fun F' H' σ' S' t' r k' => h F' H' σ' S' (t.trans t') r (k.trans k')
    | rt u => exact fun v F' H' σ' S1 S2 t' d r rv k' => h v F' H' σ' S1 S2 (t.trans t') d r rv (k.trans k')
  | ex c p ρ => exact fun cls d F' H' σ' S' t' r x k' => h cls d F' H' σ' S' (t.trans t') r x (k.trans k')
/-- an expression, then the rest of a statement -/
theorem PO.bindS {α β : Type} {R : Hp → β → α → Prop} {Q' : β → Hp → Prop} {m : Ou α} {k : α → MEnv → Ou Fl} (h : PS_ K xa W P D F H σ S (m.bd k))
    (q : ∀ a ρ1 v F1 H1 S1, To F H S F1 H1 S1 → EnvR K F1 H1 σ ρ1 S1 → R F1 v a → PS_ K xa W P D F1 H1 σ S1 (k a ρ1) → Q' v H1) : PO_ K xa W R F H σ S Q' m := by
  cases m with
  | no => exact h
  | ok a ρ => exact fun v F' H' S' t' r hr => q a ρ v F' H' S' t' r hr (PS.step (show PS_ K xa W P D F H σ S (k a ρ) from h) t' (Kp.refl P σ))
  | ex c p ρ => exact fun cls d F' H' S' t' r x => h cls d F' H' σ S' t' r x (Kp.refl P σ)
theorem PT.bindS {Q' : VK} {m : Ou T} {k : T → MEnv → Ou Fl} (h : PS_ K xa W P D F H σ S (m.bd k))
    (q : ∀ a ρ1 v F1 H1 S1 S2, To F H S F1 H1 (S1.or S2) → Disj S1 S2 → EnvR K F1 H1 σ ρ1 S2 → Rl K F1 H1 v a S1 → PS_ K xa W P D F1 H1 σ (S1.or S2) (k a ρ1) → Q' v H1) : PT_ K xa W F H σ S Q' m := by
  cases m with
  | no => exact h
  | ok a ρ => exact fun v F' H' S1 S2 t' d r hr => q a ρ v F' H' S1 S2 t' d r hr (PS.step (show PS_ K xa W P D F H σ S (k a ρ) from h) t' (Kp.refl P σ))
  | ex c p ρ => exact fun cls d F' H' S' t' r x => h cls d F' H' σ S' t' r x (Kp.refl P σ)
end
def sNx : MS := fun ρ => .ok .nx ρ
def sBk : MS := fun ρ => .ok .bk ρ
def sCt : MS := fun ρ => .ok .ct ρ
def thenS (m : MS) : Fl → MS
  | .nx, ρ => m ρ
  | fl, ρ => .ok fl ρ
def sSeq (a b : MS) : MS := fun ρ => (a ρ).bd (thenS b)
def sIf (c : MB) (a b : MS) : MS := fun ρ => (c ρ).bd fun x ρ => match x with
  | true => a ρ
  | false => b ρ
def sRet (m : MV) : MS := fun ρ => (m ρ).bd fun d ρ => .ok (.rt (.f d)) ρ
def sRetE (m : ME) : MS := fun ρ => (m ρ).bd fun t ρ => .ok (.rt t) ρ
def sRetN : MS := fun ρ => .ok (.rt (.f .none)) ρ
def sExpr (m : MV) : MS := fun ρ => (m ρ).bd fun _ ρ => .ok .nx ρ
def sSet (i : Nat) (m : MV) : MS := fun ρ => (m ρ).bd fun d ρ => .ok .nx (st ρ i (some (.f d)))
def sSetE (i : Nat) (m : ME) : MS := fun ρ => (m ρ).bd fun t ρ => .ok .nx (st ρ i (some t))
section
variable {K : PySem.W.Frag} {xa : Nat → Addr} {W : WX} {P : Nat → Bool}
theorem sim_nx : SimS K xa W P tNext sNx := fun F H σ ρ S D re gd q => q F H σ S (To.refl gd) re (Kp.refl P σ)
theorem sim_bk : SimS K xa W P tBreak sBk := fun F H σ ρ S D re gd q => q F H σ S (To.refl gd) re (Kp.refl P σ)
theorem sim_ct : SimS K xa W P tCont sCt := fun F H σ ρ S D re gd q => q F H σ S (To.refl gd) re (Kp.refl P σ)
theorem sim_seq {t u : TS} {a b : MS} (ha : SimS K xa W P t a) (hb : SimS K xa W P u b) : SimS K xa W P (tSeq t u) (sSeq a b) := by
  intro F H σ ρ S D re gd q
  refine ha F H σ ρ S _ re gd ?_
  have q : PS_ K xa W P D F H σ S ((a ρ).bd (thenS b)) := q
  cases e : a ρ with
  | no =>
    rw [e] at q
    exact q
  | ex c p ρ1 =>
    rw [e] at q
    exact q
  | ok fl ρ1 =>
    rw [e] at q
    cases fl with
    | nx => exact fun F' H' σ' S' t r k => hb F' H' σ' ρ1 S' D r t.gd (PS.step (show PS_ K xa W P D F H σ S (b ρ1) from q) t k)
    | bk => exact q
    | ct => exact q
    | rt u => exact q
theorem sim_ifS {c : TT} {t u : TS} {mc : MB} {a b : MS} (hc : SimB K xa W c mc) (ha : SimS K xa W P t a) (hb : SimS K xa W P u b) : SimS K xa W P (tIfS c t u) (sIf mc a b) := by
  intro F H σ ρ S D re gd q
  refine hc F H σ ρ S _ re gd (PO.bindS q fun x ρ1 v F1 H1 S1 t1 r1 h1 q1 => ?_)
  cases h1
  cases x with
  | true =>
    rw [if_pos rfl]
    exact ha F1 H1 σ ρ1 S1 D r1 t1.gd q1
  | false =>
    rw [if_neg Bool.false_ne_true]
    exact hb F1 H1 σ ρ1 S1 D r1 t1.gd q1
theorem or_no {S : AS} {b : Addr} (h : (noS.or S) b) : S b := h.elim (fun z => z.elim) fun z => z
theorem To.noS {F H F' H' : Hp} {S S' : AS} (t : To F H S F' H' S') : To F H S F' H' (noS.or S') := t.wk fun _ z => or_no z
theorem dj_no {S : AS} : Disj noS S := fun _ z => z.elim
theorem sim_ret {t : TE} {m : MV} (h : SimV K xa W t m) : SimS K xa W P (tRet t) (sRet m) := by
  intro F H σ ρ S D re gd q
  exact h F H σ ρ S _ re gd (PO.bindS q fun x ρ1 v F1 H1 S1 t1 r1 h1 q1 => q1 v F1 H1 σ noS S1 (To.refl t1.gd).noS dj_no r1 (.f h1) (Kp.refl P σ))
theorem sim_retE {t : TE} {m : ME} (h : SimE K xa W t m) : SimS K xa W P (tRet t) (sRetE m) := by
  intro F H σ ρ S D re gd q
  exact h F H σ ρ S _ re gd (PT.bindS q fun x ρ1 v F1 H1 S1 S2 t1 d r1 h1 q1 => q1 v F1 H1 σ S1 S2 (To.refl t1.gd) d r1 h1 (Kp.refl P σ))
theorem sim_retN : SimS K xa W P tRetN sRetN := fun F H σ ρ S D re gd q => q .non F H σ noS S (To.refl gd).noS dj_no re (.f .non) (Kp.refl P σ)
theorem sim_expr {t : TE} {m : MV} (h : SimV K xa W t m) : SimS K xa W P (tDrop t) (sExpr m) := by
  intro F H σ ρ S D re gd q
  exact h F H σ ρ S _ re gd (PO.bindS q fun x ρ1 v F1 H1 S1 t1 r1 h1 q1 => q1 F1 H1 σ S1 (To.refl t1.gd) r1 (Kp.refl P σ))
theorem sim_set {i : Nat} {t : TE} {m : MV} (hp : P i = false) (h : SimV K xa W t m) : SimS K xa W P (tAsg t (gName i)) (sSet i m) := by
  intro F H σ ρ S D re gd q
  exact h F H σ ρ S _ re gd (PO.bindS q fun x ρ1 v F1 H1 S1 t1 r1 h1 q1 => q1 F1 H1 _ S1 (To.refl t1.gd) ((r1.put (i := i) (S' := noS) (.f h1) dj_no).wk fun _ z => or_no z) (Kp.set hp))
theorem sim_setE {i : Nat} {t : TE} {m : ME} (hp : P i = false) (h : SimE K xa W t m) : SimS K xa W P (tAsg t (gName i)) (sSetE i m) := by
  intro F H σ ρ S D re gd q
  exact h F H σ ρ S _ re gd (PT.bindS q fun x ρ1 v F1 H1 S1 S2 t1 d r1 h1 q1 => q1 F1 H1 _ _ (To.refl t1.gd) (r1.put (i := i) h1 d) (Kp.set hp))
end
/-! ### values that may be owned -/
def eV (m : MV) : ME := fun ρ => (m ρ).bd fun d ρ => .ok (.f d) ρ
def vFz (m : ME) : MV := fun ρ => (m ρ).bd fun t ρ => match t.frz with
  | .f d => .ok d ρ
  | _ => .no
def eMove (i : Nat) : ME := fun ρ => match gt ρ i with
  | some t => .ok t (st ρ i none)
  | none => .no
def eLst (a : MA) : ME := fun ρ => (a ρ).bd fun ds ρ => if ds.length ≤ sizeLine then .ok (.lst (ds.map T.f)) ρ else .no
section
variable {K : PySem.W.Frag} {xa : Nat → Addr} {W : WX} {P : Nat → Bool}
theorem sim_eV {t : TE} {m : MV} (h : SimV K xa W t m) : SimE K xa W t (eV m) := by
  intro F H σ ρ S Q re gd q
  exact h F H σ ρ S _ re gd (PO.bindT q fun x ρ1 v F1 H1 S1 t1 r1 h1 q1 => q1 v F1 H1 noS S1 (To.refl t1.gd).noS dj_no r1 (.f h1))
theorem sim_fz {t : TE} {m : ME} (h : SimE K xa W t m) : SimV K xa W t (vFz m) := by
  intro F H σ ρ S Q re gd q
  refine h F H σ ρ S _ re gd ?_
  have q : PO_ K xa W (RV_ K) F H σ S Q ((m ρ).bd fun t ρ => match t.frz with | .f d => .ok d ρ | _ => .no) := q
  cases e : m ρ with
  | no =>
    rw [e] at q
    exact q
  | ex c p ρ1 =>
    rw [e] at q
    exact q
  | ok u ρ1 =>
    rw [e] at q
    intro v F1 H1 S1 S2 t1 dj r1 h1
    have q : PO_ K xa W (RV_ K) F H σ S Q (match u.frz with | .f d => .ok d ρ1 | _ => .no) := q
    have fz := h1.frz t1.gd.sm S1 fun _ z => z
    cases e2 : u.frz with
    | nd k ts =>
      rw [e2] at q
      exact q.elim
    | f d =>
      rw [e2] at q fz
      have t2 := To.frz (S2 := S2) t1.gd (fun b z => .inl z) (fun b z => .inr z) dj
      exact q v _ H1 S2 (t1.trans t2) (r1.frame (frzH_same t1.gd.sm) (fun _ _ _ h => h) fun b z => (t2.gd.ow b z).2) fz.dq
theorem sim_move (i : Nat) : SimE K xa W (tVar i) (eMove i) := by
  intro F H σ ρ S Q re gd q
  unfold eMove at q
  cases e : gt ρ i with
  | none =>
    rw [e] at q
    exact q.elim
  | some t =>
    rw [e] at q
    obtain ⟨v, S1, S2, e1, r1, r2, w1, w2, dj⟩ := re.take e
    exact ⟨v, e1, q v F H S1 S2 ((To.refl gd).wk fun b z => z.elim (w1 b) (w2 b)) dj r2 r1⟩
/-- a new list, owned -/
theorem new_own {F H : Hp} {S : AS} {σ : L2.St} {ρ : MEnv} {p : Addr} {vs : List V} {ds : List PyData} (gd : Gd F H S) (re : EnvR K F H σ ρ S) (h : DqAll K F vs ds) (hp : H p = none) :
    To F H S F (upd H p (.lst vs)) (AS.or (fun b => b = p) S) ∧ Disj (fun b => b = p) S ∧ EnvR K F (upd H p (.lst vs)) σ ρ S ∧ Rl K F (upd H p (.lst vs)) (.ref p) (.lst (ds.map T.f)) (fun b => b = p) := by
  have sm := same_upd (o := .lst vs) hp
  have hf : F p = none := gd.sm.free hp
  have nS : ¬ S p := fun z => (gd.ow p z).1 hp
  refine ⟨⟨fun b o h _ => sm b o h, Same.refl F, fun b h => .inl h, fun b h => ?_, gd.sm.trans sm, fun b h => ?_⟩, fun b e z => nS (e ▸ z), re.frame (Same.refl F) (fun b o _ h => sm b o h) fun b z => (gd.ow b z).2, ?_⟩
  · rcases h with h | h
    · exact .inr (by rw [h]; exact hp)
    · exact .inl h
  · rcases h with h | h
    · subst h
      rw [upd_same]
      exact ⟨(fun z => by cases z), hf⟩
    · obtain ⟨h1, h2⟩ := gd.ow b h
      refine ⟨?_, h2⟩
      cases e : H b with
      | none => exact absurd e h1
      | some o =>
        rw [sm b o e]
        exact fun z => by cases z
  · refine .nd (fun _ => noS) ⟨hf, upd_same, rfl⟩ (by rw [List.length_map]; exact h.length) (fun i v t hv ht => ?_) (fun _ _ z => z.elim) (fun _ _ _ _ z => z.elim) fun _ z => z
    rw [List.getElem?_map] at ht
    cases e : ds[i]? with
    | none =>
      rw [e] at ht
      cases ht
    | some d =>
      rw [e] at ht
      cases ht
      obtain ⟨w, e1, e2⟩ := h.nth e
      rw [hv] at e1
      cases e1
      exact .f e2
theorem sim_eLst {t : TA} {m : MA} (h : SimA K xa W t m) : SimE K xa W (tLst t) (eLst m) := by
  intro F H σ ρ S Q re gd q
  refine h F H σ ρ S _ re gd (PO.bindT q fun ds ρ1 vs F1 H1 S1 t1 r1 h1 q1 => ?_)
  by_cases c : ds.length ≤ sizeLine
  · rw [if_pos c] at q1
    refine ⟨by rw [h1.length]; exact c, fun p hp => ?_⟩
    obtain ⟨n1, n2, n3, n4⟩ := new_own t1.gd r1 h1 hp
    exact q1 _ F1 _ _ S1 n1 n2 n3 n4
  · rw [if_neg c] at q1
    exact q1.elim
end
section
variable {X : Cx} {xa : Nat → Addr} {W : WX} {P : Nat → Bool} {e c : Expr} {s : Stmt} {ss : List Stmt} {es : List Expr} {pos : Pos}
theorem qe_v {m : MV} (h : QV X xa W e m) : QE X xa W e (eV m) := let ⟨t, p, s⟩ := h; ⟨t, p, sim_eV s⟩
theorem qv_fz {m : ME} (h : QE X xa W e m) : QV X xa W e (vFz m) := let ⟨t, p, s⟩ := h; ⟨t, p, sim_fz s⟩
theorem qe_move {i : Nat} (p : PE X e (tVar i)) : QE X xa W e (eMove i) := ⟨_, p, sim_move i⟩
theorem qe_lst {m : MA} (h : QA X xa W es m) : QE X xa W (.List es pos) (eLst m) := let ⟨_, p, s⟩ := h; ⟨_, pe_lst p, sim_eLst s⟩
theorem qss_nil : QSs X xa W P [] sNx := ⟨_, pss_nil, sim_nx⟩
theorem qss_one {m : MS} (h : QS X xa W P s m) : QSs X xa W P [s] m := let ⟨t, p, q⟩ := h; ⟨_, pss_one p, q⟩
theorem qss_cons {m m' : MS} (h : QS X xa W P s m) (r : QSs X xa W P ss m') : QSs X xa W P (s :: ss) (sSeq m m') := by
  obtain ⟨t, p, q⟩ := h
  obtain ⟨t', p', q'⟩ := r
  exact ⟨_, pss_cons p p', sim_seq q q'⟩
theorem qs_if {c : Expr} {b1 b2 : List Stmt} {mc : MB} {m1 m2 : MS} (hc : QB X xa W c mc) (h1 : QSs X xa W P b1 m1) (h2 : QSs X xa W P b2 m2) : QS X xa W P (.If c b1 b2 pos) (sIf mc m1 m2) := by
  obtain ⟨tc, pc, qc⟩ := hc
  obtain ⟨t1, p1, q1⟩ := h1
  obtain ⟨t2, p2, q2⟩ := h2
  exact ⟨_, ps_if pc p1 p2, sim_ifS qc q1 q2⟩
theorem qs_ret {m : MV} (h : QV X xa W e m) : QS X xa W P (.Return (some e) pos) (sRet m) := let ⟨_, p, q⟩ := h; ⟨_, ps_ret p, sim_ret q⟩
theorem qs_retE {m : ME} (h : QE X xa W e m) : QS X xa W P (.Return (some e) pos) (sRetE m) := let ⟨_, p, q⟩ := h; ⟨_, ps_ret p, sim_retE q⟩
theorem qs_retN : QS X xa W P (.Return none pos) sRetN := ⟨_, ps_retN, sim_retN⟩
theorem qs_pass : QS X xa W P (.Pass pos) sNx := ⟨_, ps_pass, sim_nx⟩
theorem qs_bk : QS X xa W P (.Break pos) sBk := ⟨_, ps_break, sim_bk⟩
theorem qs_ct : QS X xa W P (.Continue pos) sCt := ⟨_, ps_continue, sim_ct⟩
theorem qs_any {t : TS} {m : MS} (p : PS X s t) (h : SimS X.K xa W P t m) : QS X xa W P s m := ⟨t, p, h⟩
theorem qs_expr {m : MV} (h : QV X xa W e m) (p : ∀ t, PE X e t → PS X s (tDrop t)) : QS X xa W P s (sExpr m) := let ⟨_, pe, q⟩ := h; ⟨_, p _ pe, sim_expr q⟩
theorem qs_set {i : Nat} {m : MV} (hp : P i = false) (h : QV X xa W e m) (p : ∀ t, PE X e t → PS X s (tAsg t (gName i))) : QS X xa W P s (sSet i m) := let ⟨_, pe, q⟩ := h; ⟨_, p _ pe, sim_set hp q⟩
theorem qs_setE {i : Nat} {m : ME} (hp : P i = false) (h : QE X xa W e m) (p : ∀ t, PE X e t → PS X s (tAsg t (gName i))) : QS X xa W P s (sSetE i m) := let ⟨_, pe, q⟩ := h; ⟨_, p _ pe, sim_setE hp q⟩
end


/-! ### defs -/
section
variable (K : PySem.W.Frag) (xa : Nat → Addr)
def PF (F H : Hp) (vs : List V) (S : AS) (Q : VK) (E : XK) : Ou T → Prop
  | .no => False
  | .ok r back => ∀ v F' H' S1 S2, To F H S F' H' (S1.or S2) → Disj S1 S2 → Rl K F' H' v r S1 → EnvR K F' H' (vs.map some) back S2 → Q v H'
  | .ex c p back => ∀ cls d F' H' S', To F H S F' H' S' → EnvR K F' H' (vs.map some) back S' → XR K xa F' cls d c p → E cls d H'
def spM (m : Mf) : Sp := fun vs H Q E => ∃ F ts S, EnvR K F H (vs.map some) (ts.map some) S ∧ Gd F H S ∧ PF K xa F H vs S Q E (m ts)
end
def backs : List Bool → MEnv → MEnv
  | [], _ => []
  | _ :: ls, [] => none :: backs ls []
  | l :: ls, t :: ts => (if l then t else none) :: backs ls ts
/-- the end of a def's body -/
def endF (lent : List Bool) : Ou Fl → Ou T
  | .ok (.rt t) ρ => .ok t (backs lent ρ)
  | .ok .nx ρ => .ok (.f .none) (backs lent ρ)
  | .ex c p ρ => .ex c p (backs lent ρ)
  | _ => .no
def mFn (lent : List Bool) (n : Nat) (body : MS) : Mf := fun ts => if ts.length = lent.length then endF lent (body (ts.map some ++ List.replicate (n - ts.length) none)) else .no
section
variable {K : PySem.W.Frag} {xa : Nat → Addr}
theorem gt_app_l : ∀ {ρ α : MEnv} {i : Nat}, i < ρ.length → gt (ρ ++ α) i = gt ρ i
  | _ :: _, _, 0, _ => rfl
  | _ :: r, α, i + 1, h => gt_app_l (ρ := r) (α := α) (i := i) (Nat.lt_of_succ_lt_succ h)
theorem gt_app_r : ∀ {ρ α : MEnv} {i : Nat}, gt (ρ ++ α) (ρ.length + i) = gt α i
  | [], α, i => by rw [List.nil_append, List.length_nil, Nat.zero_add]
  | _ :: r, α, i => by
    rw [List.length_cons, Nat.succ_add]
    exact gt_app_r (ρ := r) (α := α) (i := i)
theorem gt_none_rep : ∀ {n i : Nat}, gt (List.replicate n none) i = none
  | 0, _ => rfl
  | _ + 1, 0 => rfl
  | n + 1, i + 1 => gt_none_rep (n := n) (i := i)
theorem backs_gt : ∀ {lent : List Bool} {ρ : MEnv} {i : Nat} {t : T}, gt (backs lent ρ) i = some t → gt ρ i = some t ∧ lent[i]? = some true
  | true :: _, _ :: _, 0, _, h => ⟨h, rfl⟩
  | false :: _, _ :: _, 0, _, h => by cases h
  | _ :: ls, _ :: r, i + 1, t, h => backs_gt (lent := ls) (ρ := r) (i := i) h
  | _ :: _, [], 0, _, h => by cases h
  | _ :: ls, [], i + 1, t, h => by
    have z : gt [] i = some t := (backs_gt (lent := ls) (ρ := []) (i := i) h).1
    cases z
theorem backs_len : ∀ (lent : List Bool) (ρ : MEnv), (backs lent ρ).length = lent.length
  | [], _ => rfl
  | _ :: ls, _ :: r => congrArg Nat.succ (backs_len ls r)
  | _ :: ls, [] => congrArg Nat.succ (backs_len ls [])
def pinned (lent : List Bool) (i : Nat) : Bool := lent.getD i false
theorem EnvR.backs {F H : Hp} {σ : L2.St} {ρ : MEnv} {S : AS} {lent : List Bool} {vs : List V} (r : EnvR K F H σ ρ S) (hl : vs.length = lent.length) (k : ∀ i, pinned lent i = true → σ[i]? = (vs.map some)[i]?) : EnvR K F H (vs.map some) (backs lent ρ) S := by
  obtain ⟨h0, Sf, h1, h2, h3⟩ := r
  refine ⟨by rw [List.length_map, backs_len]; exact hl, Sf, fun i t e => ?_, h2, h3⟩
  obtain ⟨e1, e2⟩ := backs_gt e
  obtain ⟨v, e3, e4⟩ := h1 i t e1
  refine ⟨v, ?_, e4⟩
  rw [← k i (by unfold pinned; rw [List.getD_eq_getElem?_getD, e2]; rfl)]
  exact e3
theorem EnvR.pad {F H : Hp} {S : AS} {vs : List V} {ts : List T} {n : Nat} (r : EnvR K F H (vs.map some) (ts.map some) S) : EnvR K F H (vs.map some ++ List.replicate n none) (ts.map some ++ List.replicate n none) S := by
  obtain ⟨h0, Sf, h1, h2, h3⟩ := r
  refine ⟨by rw [List.length_append, List.length_append, List.length_replicate, List.length_replicate, h0], Sf, fun i t e => ?_, h2, h3⟩
  by_cases c : i < (ts.map some).length
  · rw [gt_app_l c] at e
    obtain ⟨v, e1, e2⟩ := h1 i t e
    refine ⟨v, ?_, e2⟩
    rw [List.getElem?_append_left (by rw [h0]; exact c)]
    exact e1
  · obtain ⟨j, rfl⟩ : ∃ j, i = (ts.map some).length + j := ⟨i - (ts.map some).length, by omega⟩
    rw [gt_app_r, gt_none_rep] at e
    cases e
end
section
variable {P : Program} {w : World} {K : PySem.W.Frag} {mg : Str → Option Value} {base : Heap} {xa : Nat → Addr}
theorem spM_len {m : Mf} {n : Nat} (hm : ∀ ts, ts.length ≠ n → m ts = .no) {vs : List V} {H : Hp} {Q : VK} {E : XK} (h : spM K xa m vs H Q E) : vs.length = n := by
  obtain ⟨F, ts, S, r, g, q⟩ := h
  have e : vs.length = ts.length := by
    have := r.1
    rw [List.length_map, List.length_map] at this
    exact this
  by_cases c : ts.length = n
  · exact e.trans c
  · rw [hm ts c] at q
    exact q.elim
theorem mFn_len {lent : List Bool} {n : Nat} {body : MS} {ts : List T} (h : ts.length ≠ lent.length) : mFn lent n body ts = .no := if_neg h
/-- a def keeps its mirror -/
theorem fnM {x qual : Str} {st : Stmt} {f : Addr} {fd : FuncData} {N ps : List Str} {k : Nat} {lent : List Bool} {body : MS} (F : Fun K x qual st f fd) (S : FnScope N ps (defScope st)) (hl : lent.length = ps.length) (hN : ps.length ≤ N.length)
    (hbody : ∀ (cdv : Value) (A : Around) (outer : List PySem.Env) (s : Shared) (H : Hp) (E : XK), Room k (A.deeper (envOfC qual (defScope st) s.heap.objs.size f cdv)) → A.guards = some [] →
      QSs (cxOf (L2.CX P w) P w K mg base N qual (defScope st) f cdv A outer s H E) xa (fun cls d _ H => E cls d H) (pinned lent) (defBody st) body) : FnG P w K mg base (L2.CX P w) (k + 1) f fd ps (spM K xa (mFn lent N.length body)) := by
  have len : ∀ vs H Q E, spM K xa (mFn lent N.length body) vs H Q E → vs.length = ps.length := fun vs H Q E h => (spM_len (fun ts c => mFn_len c) h).trans hl
  refine fnG_of F S len fun cdv A outer s H vs Q E hr hg h => ?_
  obtain ⟨t, pt, sim⟩ := hbody cdv A outer s H E hr hg
  refine ⟨t, pt, ?_⟩
  have hv := len vs H Q E h
  obtain ⟨F, ts, S, r, g, q⟩ := h
  have e0 := r.1
  rw [List.length_map, List.length_map] at e0
  have q : PF K xa F H vs S Q E (if ts.length = lent.length then endF lent (body (ts.map some ++ List.replicate (N.length - ts.length) none)) else .no) := q
  rw [if_pos (by omega)] at q
  have st0 : L2.start N vs = vs.map some ++ List.replicate (N.length - ts.length) none := by
    unfold L2.start
    rw [e0]
  rw [st0]
  have keep : ∀ {σ' : L2.St}, Kp (pinned lent) (vs.map some ++ List.replicate (N.length - ts.length) none) σ' → ∀ i, pinned lent i = true → σ'[i]? = (vs.map some)[i]? := fun {σ'} k i hi => by
    rw [k i hi]
    refine List.getElem?_append_left ?_
    rw [List.length_map, hv, ← hl]
    unfold pinned at hi
    by_cases c : i < lent.length
    · exact c
    · rw [List.getD_eq_getElem?_getD, List.getElem?_eq_none (by omega)] at hi
      cases hi
  have pad := r.pad (n := N.length - ts.length)
  refine sim F H _ _ S _ pad g ?_
  cases e : body (ts.map some ++ List.replicate (N.length - ts.length) none) with
  | no =>
    rw [e] at q
    exact q.elim
  | ex c p ρ' =>
    rw [e] at q
    intro cls d F' H' σ' S' to re x k
    exact q cls d F' H' S' to (re.backs (by omega) (keep k)) x
  | ok fl ρ' =>
    rw [e] at q
    cases fl with
    | nx => exact fun F' H' σ' S' to re k => q .non F' H' noS S' to.noS dj_no (.f .non) (re.backs (by omega) (keep k))
    | bk => exact q.elim
    | ct => exact q.elim
    | rt t => exact fun v F' H' σ' S1 S2 to d re rv k => q v F' H' S1 S2 to d rv (re.backs (by omega) (keep k))
end
/-! ### calls -/
section
variable {X : Cx} {CX : CXT} {k : Nat} {f : Addr} {fd : FuncData} {ps : List Str} {sp : Sp} {E : L2.St → XK} {x : Str} {p pos : Pos} {e : Expr} {es : List Expr} {t : TA} {dvs : List V} {ds : List Value}
theorem runGS {pins : List (Addr × Obj)} {σ : L2.St} {H : Hp} {s : Shared} {Q : VK} {us : List Value} {vs : List V} (F : FnG X.prog X.w X.K X.mg X.base CX k f fd ps sp) (hr : Room k X.A) (hgd : X.A.guards = some []) (hb : Binds X.K fd ps ds) (hd : Vals dvs ds) (hx : PassesAt CX X σ (E σ))
    (I : Inv X pins σ H s) (r : Vals vs us) (h : sp (vs ++ dvs) H Q (E σ)) : wpAny (model X.prog X.w) X.A (call (.ref f) us) (EP X pins σ Q) X.xe s := by
  have r2 : Vals (vs ++ dvs) (us ++ ds) := r.append hd
  have hl : (us ++ ds).length = ps.length := r2.length.symm.trans (F.len _ _ _ _ h)
  refine wpAny_call (codeAny_mono (F.go X.A X.stack s H ⟨us, []⟩ (us ++ ds) (vs ++ dvs) Q (E σ) hr hgd I.env0 (hb s us I.kIn hl) r2 h) fun r s' hq => ?_)
  match r, hq with
  | .error e, hq => exact hx pins H s e s' I hq
  | .ok (.ret u), hq => exact I.after hq
theorem pe_callM (F : FnG X.prog X.w X.K X.mg X.base CX k f fd ps sp) (hr : Room k X.A) (hgd : X.A.guards = some []) (hg : Gl X x) (hm : X.mg x = some (.ref f)) (hk : PySem.W.keepIn X.K (.ref f) = true) (hb : Binds X.K fd ps ds) (hd : Vals dvs ds) (hx : ∀ σ, PassesAt CX X σ (E σ))
    (ha : PA X (e :: es) t) (hdb : (x == ("__debug__" : Str)) = false := by decide) (he : starEach (e :: es) X.env = (false, eval e X.env) :: starEach es X.env := by rfl) (hpl : (backTo pos (starEach es X.env)).any (·.1) = false := by rfl) :
    PE X (.Call (.Name x p) (e :: es) [] pos) (tCallSD sp dvs E t) :=
  ⟨fun pins s σ H Q I h => wpAny_Call_Name_kw (ld_glob I hg hm (PySem.W.callWith_K (h₀ := X.base) I.ok.mod.kin hk
    (thn (ha.run pos pins s σ H _ I h) fun us s1 ⟨vs, H1, I1, r, q⟩ => ⟨I1.kIn, runGS F hr hgd hb hd (hx σ) I1 r q⟩) he hpl) hdb)⟩
theorem pe_callM0 (F : FnG X.prog X.w X.K X.mg X.base CX k f fd ps sp) (hr : Room k X.A) (hgd : X.A.guards = some []) (hg : Gl X x) (hm : X.mg x = some (.ref f)) (hk : PySem.W.keepIn X.K (.ref f) = true) (hb : Binds X.K fd ps ds) (hd : Vals dvs ds) (hx : ∀ σ, PassesAt CX X σ (E σ))
    (hdb : (x == ("__debug__" : Str)) = false := by decide) : PE X (.Call (.Name x p) [] [] pos) (tCallSD sp dvs E tNil) :=
  ⟨fun pins s σ H Q I h => wpAny_Call_Name_kw (ld_glob I hg hm (PySem.W.callWith_K0 I.kIn hk (runGS (us := []) F hr hgd hb hd (hx σ) I .nil h)) hdb)⟩
end
/-- a call whose arguments are data; dv: the defaults -/
def eCall (m : Mf) (dv : List PyData) (a : MA) : ME := fun ρ => (a ρ).bd fun ds ρ => match m ((ds ++ dv).map T.f) with
  | .no => .no
  | .ok r _ => .ok r ρ
  | .ex c p _ => .ex c p ρ
section
variable {K : PySem.W.Frag} {xa : Nat → Addr} {W : WX}
theorem To.up {F H F' H' : Hp} {S S' S0 : AS} (t : To F H S F' H' S') (h : ∀ b, S b → S0 b) : To F H S0 F' H' S' :=
  ⟨fun b o e n => t.fr b o e fun z => n (h b z), t.fs, fun b z => (t.nw b z).elim .inl fun q => .inr (q.elim (fun q => .inl (h b q)) .inr), fun b z => (t.sn b z).elim (fun q => .inl (h b q)) .inr, t.gd⟩
theorem gt_map : ∀ {ts : List T} {i : Nat} {t : T}, gt (ts.map some) i = some t → ts[i]? = some t
  | _ :: _, 0, _, h => h
  | _ :: r, i + 1, _, h => gt_map (ts := r) (i := i) h
theorem args_env {F H : Hp} {vs : List V} {ds : List PyData} (h : DqAll K F vs ds) : EnvR K F H (vs.map some) ((ds.map T.f).map some) noS := by
  refine ⟨by rw [List.length_map, List.length_map, List.length_map]; exact h.length, fun _ => noS, fun i t e => ?_, fun _ _ z => z, fun _ _ _ _ z => z.elim⟩
  have e1 := gt_map e
  rw [List.getElem?_map] at e1
  cases e2 : ds[i]? with
  | none =>
    rw [e2] at e1
    cases e1
  | some d =>
    rw [e2] at e1
    cases e1
    obtain ⟨v, q1, q2⟩ := h.nth e2
    refine ⟨v, ?_, .f q2⟩
    rw [List.getElem?_map, q1]
    rfl
theorem sim_call {m : Mf} {ta : TA} {ma : MA} {dvs : List V} {dv : List PyData} (hdv : ∀ F, DqAll K F dvs dv) (ha : SimA K xa W ta ma) : SimE K xa W (tCallSD (spM K xa m) dvs (WE W) ta) (eCall m dv ma) := by
  intro F H σ ρ S Q re gd q
  refine ha F H σ ρ S _ re gd (PO.bindT q fun ds ρ1 vs F1 H1 S1 t1 r1 h1 q1 => ?_)
  have g0 : Gd F1 H1 noS := t1.gd.wk fun _ z => z.elim
  have dj : Disj S1 noS := fun _ _ z => z
  refine ⟨F1, (ds ++ dv).map T.f, noS, args_env (h1.cat (hdv F1)), g0, ?_⟩
  cases e : m ((ds ++ dv).map T.f) with
  | no =>
    simp only [e] at q1
    exact q1.elim
  | ok r back =>
    simp only [e] at q1
    intro v F' H' Sa Sb to d rv rb
    have b := to.beside t1.gd dj
    refine q1 v F' H' Sa S1 ((b.up (S0 := S1) fun b z => z.elim (fun z => z) fun z => z.elim).wk fun b z => z.elim (fun z => .inr (.inl z)) .inl) (fun b z z' => (to.dis t1.gd dj) b z' (.inl z)) (to.env t1.gd dj r1) rv
  | ex c p back =>
    simp only [e] at q1
    intro cls d F' H' S' to rb x
    have b := to.beside t1.gd dj
    exact q1 cls d F' H' S1 ((b.up (S0 := S1) fun b z => z.elim (fun z => z) fun z => z.elim).wk fun b z => .inl z) (to.env t1.gd dj r1) x
end
section
variable {X : Cx} {xa : Nat → Addr} {W : WX} {k : Nat} {f : Addr} {fd : FuncData} {ps : List Str} {m : Mf} {x : Str} {p pos : Pos} {e : Expr} {es : List Expr} {dvs : List V} {dv : List PyData} {ds : List Value}
theorem qe_call {ma : MA} (F : FnG X.prog X.w X.K X.mg X.base (L2.CX X.prog X.w) k f fd ps (spM X.K xa m)) (hr : Room k X.A) (hgd : X.A.guards = some []) (tk : Takes X W) (hg : Gl X x) (hm : X.mg x = some (.ref f)) (hk : PySem.W.keepIn X.K (.ref f) = true) (hb : Binds X.K fd ps ds) (hd : Vals dvs ds) (hdv : ∀ F, DqAll X.K F dvs dv)
    (ha : QA X xa W (e :: es) ma) (hdb : (x == ("__debug__" : Str)) = false := by decide) (he : starEach (e :: es) X.env = (false, eval e X.env) :: starEach es X.env := by rfl) (hpl : (backTo pos (starEach es X.env)).any (·.1) = false := by rfl) :
    QE X xa W (.Call (.Name x p) (e :: es) [] pos) (eCall m dv ma) := by
  obtain ⟨t, pa, sa⟩ := ha
  exact ⟨_, pe_callM F hr hgd hg hm hk hb hd (fun σ => passAt tk σ) pa hdb he hpl, sim_call hdv sa⟩
theorem qe_call0 (F : FnG X.prog X.w X.K X.mg X.base (L2.CX X.prog X.w) k f fd ps (spM X.K xa m)) (hr : Room k X.A) (hgd : X.A.guards = some []) (tk : Takes X W) (hg : Gl X x) (hm : X.mg x = some (.ref f)) (hk : PySem.W.keepIn X.K (.ref f) = true) (hb : Binds X.K fd ps ds) (hd : Vals dvs ds) (hdv : ∀ F, DqAll X.K F dvs dv)
    (hdb : (x == ("__debug__" : Str)) = false := by decide) : QE X xa W (.Call (.Name x p) [] [] pos) (eCall m dv aNil) :=
  ⟨_, pe_callM0 F hr hgd hg hm hk hb hd (fun σ => passAt tk σ) hdb, sim_call hdv sim_nil⟩
end


/-! ### calls that lend -/
def mv (ρ : MEnv) (i j : Nat) : MEnv := st (st ρ i none) j (gt ρ i)
def mvs : List (Nat × Nat) → MEnv → MEnv
  | [], ρ => ρ
  | (i, j) :: l, ρ => mvs l (mv ρ i j)
def alls : MEnv → Option (List T)
  | [] => some []
  | some t :: r => match alls r with
    | some ts => some (t :: ts)
    | none => none
  | none :: _ => none
abbrev MR := MEnv → Ou MEnv
def rNil : MR := fun ρ => .ok [] ρ
def rV (a : MV) (r : MR) : MR := fun ρ => (a ρ).bd fun x ρ => (r ρ).bd fun xs ρ => .ok (some (.f x) :: xs) ρ
/-- the slot i is lent -/
def rL (i : Nat) (r : MR) : MR := fun ρ => match gt ρ i with
  | some _ => (r ρ).bd fun xs ρ => .ok (none :: xs) ρ
  | none => .no
/-- a new thing is given -/
def rE (a : ME) (r : MR) : MR := fun ρ => (a ρ).bd fun t ρ => (r ρ).bd fun xs ρ => .ok (some t :: xs) ρ
def outs (L : List (Nat × Nat)) (n : Nat) : List (Nat × Nat) := L.map fun p => (p.1, n + p.2)
def ins_ (L : List (Nat × Nat)) (n : Nat) : List (Nat × Nat) := L.map fun p => (n + p.2, p.1)
def lendCall (m : Mf) (L : List (Nat × Nat)) (α ρ : MEnv) : Ou T := match alls ((mvs (outs L ρ.length) (ρ ++ α)).drop ρ.length) with
  | none => .no
  | some ts => match m ts with
    | .no => .no
    | .ok r back => .ok r ((mvs (ins_ L ρ.length) ((mvs (outs L ρ.length) (ρ ++ α)).take ρ.length ++ back)).take ρ.length)
    | .ex c p back => .ex c p ((mvs (ins_ L ρ.length) ((mvs (outs L ρ.length) (ρ ++ α)).take ρ.length ++ back)).take ρ.length)
def eCallL (m : Mf) (L : List (Nat × Nat)) (a : MR) : ME := fun ρ => (a ρ).bd fun α ρ => lendCall m L α ρ
section
variable {K : PySem.W.Frag} {xa : Nat → Addr} {W : WX} {F H : Hp} {S S1 S2 : AS} {σ τ : L2.St} {ρ α : MEnv}
theorem EnvR.cat (r : EnvR K F H σ ρ S1) (r2 : EnvR K F H τ α S2) (d : Disj S1 S2) : EnvR K F H (σ ++ τ) (ρ ++ α) (S1.or S2) := by
  obtain ⟨h0, Sf, h1, h2, h3⟩ := r
  obtain ⟨k0, Sg, k1, k2, k3⟩ := r2
  refine ⟨by rw [List.length_append, List.length_append, h0, k0], fun i b => (i < ρ.length ∧ Sf i b) ∨ (ρ.length ≤ i ∧ Sg (i - ρ.length) b), fun i t e => ?_, fun i b z => ?_, fun i j n b z z' => ?_⟩
  · by_cases c : i < ρ.length
    · rw [gt_app_l c] at e
      obtain ⟨v, e1, e2⟩ := h1 i t e
      refine ⟨v, ?_, e2.wk fun b z => .inl ⟨c, z⟩⟩
      rw [List.getElem?_append_left (by omega)]
      exact e1
    · obtain ⟨j, rfl⟩ : ∃ j, i = ρ.length + j := ⟨i - ρ.length, by omega⟩
      rw [gt_app_r] at e
      obtain ⟨v, e1, e2⟩ := k1 j t e
      refine ⟨v, ?_, e2.wk fun b z => .inr ⟨by omega, by rw [Nat.add_sub_cancel_left]; exact z⟩⟩
      rw [List.getElem?_append_right (by omega), h0, Nat.add_sub_cancel_left]
      exact e1
  · rcases z with ⟨_, z⟩ | ⟨_, z⟩
    · exact .inl (h2 i b z)
    · exact .inr (k2 _ b z)
  · rcases z with ⟨c, z⟩ | ⟨c, z⟩
    · rcases z' with ⟨c', z'⟩ | ⟨c', z'⟩
      · exact h3 i j n b z z'
      · exact d b (h2 i b z) (k2 _ b z')
    · rcases z' with ⟨c', z'⟩ | ⟨c', z'⟩
      · exact d b (h2 j b z') (k2 _ b z)
      · exact k3 _ _ (by omega) b z z'
theorem EnvR.split (hl : σ.length = ρ.length) (r : EnvR K F H (σ ++ τ) (ρ ++ α) S) : ∃ S1 S2, EnvR K F H σ ρ S1 ∧ EnvR K F H τ α S2 ∧ Disj S1 S2 ∧ (∀ b, S1 b → S b) ∧ ∀ b, S2 b → S b := by
  obtain ⟨h0, Sf, h1, h2, h3⟩ := r
  rw [List.length_append, List.length_append] at h0
  refine ⟨fun b => ∃ i, i < ρ.length ∧ Sf i b, fun b => ∃ i, Sf (ρ.length + i) b, ⟨hl, fun i b => i < ρ.length ∧ Sf i b, fun i t e => ?_, fun i b z => ⟨i, z⟩, fun i j n b z z' => h3 i j n b z.2 z'.2⟩,
    ⟨by omega, fun i => Sf (ρ.length + i), fun i t e => ?_, fun i b z => ⟨i, z⟩, fun i j n => h3 _ _ (by omega)⟩, fun b ⟨i, c, z⟩ ⟨j, z'⟩ => h3 i (ρ.length + j) (by omega) b z z', fun b ⟨i, _, z⟩ => h2 i b z, fun b ⟨i, z⟩ => h2 _ b z⟩
  · have c := gt_len e
    obtain ⟨v, e1, e2⟩ := h1 i t (by rw [gt_app_l c]; exact e)
    refine ⟨v, ?_, e2.wk fun b z => ⟨c, z⟩⟩
    rw [List.getElem?_append_left (by omega)] at e1
    exact e1
  · obtain ⟨v, e1, e2⟩ := h1 (ρ.length + i) t (by rw [gt_app_r]; exact e)
    refine ⟨v, ?_, e2⟩
    rw [List.getElem?_append_right (by omega), hl, Nat.add_sub_cancel_left] at e1
    exact e1
theorem EnvR.mv {i j : Nat} (n : i ≠ j) (hv : ∀ v, σ[i]? = some (some v) → σ[j]? = some (some v)) (r : EnvR K F H σ ρ S) : EnvR K F H σ (mv ρ i j) S := by
  obtain ⟨h0, Sf, h1, h2, h3⟩ := r
  refine ⟨by unfold Fs.mv; rw [st_len, st_len]; exact h0, fun k b => (k = j ∧ Sf i b) ∨ (k ≠ j ∧ k ≠ i ∧ Sf k b), fun k t e => ?_, fun k b z => ?_, fun k l m b z z' => ?_⟩
  · unfold Fs.mv at e
    rcases gt_st e with ⟨rfl, z⟩ | ⟨m, z⟩
    · obtain ⟨v, e1, e2⟩ := h1 i t z
      exact ⟨v, hv v e1, e2.wk fun b z => .inl ⟨rfl, z⟩⟩
    · rcases gt_st z with ⟨_, z⟩ | ⟨m2, z⟩
      · cases z
      · obtain ⟨v, e1, e2⟩ := h1 k t z
        exact ⟨v, e1, e2.wk fun b z => .inr ⟨m, m2, z⟩⟩
  · rcases z with ⟨_, z⟩ | ⟨_, _, z⟩
    · exact h2 i b z
    · exact h2 k b z
  · rcases z with ⟨c, z⟩ | ⟨c, c2, z⟩
    · rcases z' with ⟨c', z'⟩ | ⟨c', c2', z'⟩
      · exact m (c.trans c'.symm)
      · exact h3 i l (Ne.symm c2') b z z'
    · rcases z' with ⟨c', z'⟩ | ⟨c', c2', z'⟩
      · exact h3 k i c2 b z z'
      · exact h3 k l m b z z'
theorem mv_len (ρ : MEnv) (i j : Nat) : (mv ρ i j).length = ρ.length := by
  unfold mv
  rw [st_len, st_len]
theorem mvs_len : ∀ (l : List (Nat × Nat)) (ρ : MEnv), (mvs l ρ).length = ρ.length
  | [], _ => rfl
  | (i, j) :: l, ρ => (mvs_len l _).trans (mv_len ρ i j)
theorem EnvR.mvs : ∀ {l : List (Nat × Nat)} {ρ : MEnv}, (∀ q ∈ l, q.1 ≠ q.2 ∧ ∀ v, σ[q.1]? = some (some v) → σ[q.2]? = some (some v)) → EnvR K F H σ ρ S → EnvR K F H σ (mvs l ρ) S
  | [], _, _, r => r
  | (i, j) :: l, ρ, h, r => EnvR.mvs (l := l) (fun q hq => h q (List.mem_cons_of_mem _ hq)) (r.mv (h _ List.mem_cons_self).1 (h _ List.mem_cons_self).2)
/-- lent slots and their places among the arguments -/
def Lk (L : List (Nat × Nat)) (vs : List V) (σ : L2.St) : Prop := ∀ q ∈ L, ∃ v, vs[q.2]? = some v ∧ σ[q.1]? = some (some v)
def PR (K : PySem.W.Frag) (xa : Nat → Addr) (W : WX) (L : List (Nat × Nat)) (F H : Hp) (σ : L2.St) (S : AS) (Q : List V → Hp → Prop) : Ou MEnv → Prop
  | .no => False
  | .ok α ρ => ∀ vs F' H' S1 S2, To F H S F' H' (S1.or S2) → Disj S1 S2 → EnvR K F' H' (vs.map some) α S1 → EnvR K F' H' σ ρ S2 → Lk L vs σ → Q vs H'
  | .ex c p ρ => PX K xa W F H σ S c p ρ
def SimR (K : PySem.W.Frag) (xa : Nat → Addr) (W : WX) (L : List (Nat × Nat)) (t : TA) (m : MR) : Prop := ∀ F H σ ρ S Q, EnvR K F H σ ρ S → Gd F H S → PR K xa W L F H σ S Q (m ρ) → t σ H Q
theorem sim_rNil : SimR K xa W [] tNil rNil := fun F H σ ρ S Q re gd q => q [] F H noS S (To.refl gd).noS dj_no ⟨rfl, fun _ => noS, (fun i t e => by cases e), (fun _ _ z => z), fun _ _ _ _ z => z.elim⟩ re fun _ z => by cases z
def up1 (L : List (Nat × Nat)) : List (Nat × Nat) := L.map fun p => (p.1, p.2 + 1)
theorem lk_up {L : List (Nat × Nat)} {vs : List V} {v : V} (h : Lk L vs σ) : Lk (up1 L) (v :: vs) σ := fun q hq => by
  obtain ⟨p, hp, rfl⟩ := List.mem_map.mp hq
  exact h p hp
theorem EnvR.consA {v : V} {x : Option T} {vs : List V} (hx : ∀ t, x = some t → Rl K F H v t S1) (r : EnvR K F H (vs.map some) α S2) (d : Disj S1 S2) : EnvR K F H ((v :: vs).map some) (x :: α) (S1.or S2) := by
  have h : EnvR K F H [some v] [x] S1 := by
    refine ⟨rfl, fun i b => i = 0 ∧ S1 b, fun i t e => ?_, fun i b z => z.2, fun i j n b z z' => n (z.1.trans z'.1.symm)⟩
    cases i with
    | zero => exact ⟨v, rfl, (hx t e).wk fun b z => ⟨rfl, z⟩⟩
    | succ i => cases e
  exact h.cat r d
theorem PR.step {F1 H1 : Hp} {L : List (Nat × Nat)} {Q : List V → Hp → Prop} {o : Ou MEnv} (h : PR K xa W L F H σ S Q o) (t : To F H S F1 H1 S1) : PR K xa W L F1 H1 σ S1 Q o := by
  cases o with
  | no => exact h
  | ok a ρ => exact fun v F' H' S1 S2 t' => h v F' H' S1 S2 (t.trans t')
  | ex c p ρ => exact PX.step h t
theorem sim_rV {L : List (Nat × Nat)} {ta : TE} {ma : MV} {tr : TA} {mr : MR} (ha : SimV K xa W ta ma) (hr : SimR K xa W L tr mr) : SimR K xa W (up1 L) (tCons ta tr) (rV ma mr) := by
  intro F H σ ρ S Q re gd q
  refine ha F H σ ρ S _ re gd ?_
  have q : PR K xa W (up1 L) F H σ S Q ((ma ρ).bd fun x ρ => (mr ρ).bd fun xs ρ => .ok (some (.f x) :: xs) ρ) := q
  cases e : ma ρ with
  | no =>
    rw [e] at q
    exact q
  | ex c p ρ1 =>
    rw [e] at q
    exact q
  | ok d ρ1 =>
    rw [e] at q
    intro v F1 H1 S1 t1 r1 h1
    refine hr F1 H1 σ ρ1 S1 _ r1 t1.gd ?_
    have q : PR K xa W (up1 L) F1 H1 σ S1 Q ((mr ρ1).bd fun xs ρ => .ok (some (.f d) :: xs) ρ) := PR.step q t1
    cases e2 : mr ρ1 with
    | no =>
      rw [e2] at q
      exact q
    | ex c p ρ2 =>
      rw [e2] at q
      exact q
    | ok α ρ2 =>
      rw [e2] at q
      intro vs F2 H2 Sa Sb t2 dj ra rb lk
      refine q (v :: vs) F2 H2 Sa Sb t2 dj ((EnvR.consA (S1 := noS) (fun t et => ?_) ra dj_no).wk fun _ z => or_no z) rb (lk_up lk)
      cases et
      exact .f (h1.same t2.fs)
theorem sim_rL {L : List (Nat × Nat)} {i : Nat} {tr : TA} {mr : MR} (hr : SimR K xa W L tr mr) : SimR K xa W ((i, 0) :: up1 L) (tCons (tVar i) tr) (rL i mr) := by
  intro F H σ ρ S Q re gd q
  unfold rL at q
  cases e : gt ρ i with
  | none =>
    rw [e] at q
    exact q.elim
  | some t =>
    rw [e] at q
    obtain ⟨h0, Sf, h1, h2, h3⟩ := id re
    obtain ⟨v, e1, e2⟩ := h1 i t e
    refine ⟨v, e1, hr F H σ ρ S _ re gd ?_⟩
    have q : PR K xa W ((i, 0) :: up1 L) F H σ S Q ((mr ρ).bd fun xs ρ => .ok (none :: xs) ρ) := q
    cases e2 : mr ρ with
    | no =>
      rw [e2] at q
      exact q
    | ex c p ρ2 =>
      rw [e2] at q
      exact q
    | ok α ρ2 =>
      rw [e2] at q
      intro vs F2 H2 Sa Sb t2 dj ra rb lk
      refine q (v :: vs) F2 H2 Sa Sb t2 dj ((EnvR.consA (S1 := noS) (fun t et => by cases et) ra dj_no).wk fun _ z => or_no z) rb fun w hw => ?_
      rcases List.mem_cons.mp hw with rfl | hw
      · exact ⟨v, rfl, e1⟩
      · exact lk_up lk w hw
theorem sim_rE {L : List (Nat × Nat)} {ta : TE} {ma : ME} {tr : TA} {mr : MR} (ha : SimE K xa W ta ma) (hr : SimR K xa W L tr mr) : SimR K xa W (up1 L) (tCons ta tr) (rE ma mr) := by
  intro F H σ ρ S Q re gd q
  refine ha F H σ ρ S _ re gd ?_
  have q : PR K xa W (up1 L) F H σ S Q ((ma ρ).bd fun t ρ => (mr ρ).bd fun xs ρ => .ok (some t :: xs) ρ) := q
  cases e : ma ρ with
  | no =>
    rw [e] at q
    exact q
  | ex c p ρ1 =>
    rw [e] at q
    exact q
  | ok u ρ1 =>
    rw [e] at q
    intro v F1 H1 S1 S2 t1 d1 r1 h1
    have g1 : Gd F1 H1 S1 := t1.gd.wk fun b z => .inl z
    have g2 : Gd F1 H1 S2 := t1.gd.wk fun b z => .inr z
    refine hr F1 H1 σ ρ1 S2 _ r1 g2 ?_
    have q : PR K xa W (up1 L) F H σ S Q ((mr ρ1).bd fun xs ρ => .ok (some u :: xs) ρ) := q
    cases e2 : mr ρ1 with
    | no =>
      rw [e2] at q
      exact q
    | ex c p ρ2 =>
      rw [e2] at q
      intro cls d F2 H2 S' t2 r2 x
      have b := t2.beside g1 d1
      exact q cls d F2 H2 S' ((t1.trans b).wk fun b z => .inr z) r2 x
    | ok α ρ2 =>
      rw [e2] at q
      intro vs F2 H2 Sa Sb t2 dj ra rb lk
      have b := t2.beside g1 d1
      have dis := t2.dis g1 d1
      refine q (v :: vs) F2 H2 (S1.or Sa) Sb ((t1.trans b).wk fun b z => z.elim (fun z => z.elim .inl fun z => .inr (.inl z)) fun z => .inr (.inr z)) (fun b z z' => z.elim (fun z => dis b z (.inr z')) fun z => dj b z z')
        (EnvR.consA (fun t et => ?_) ra fun b z z' => dis b z (.inl z')) rb (lk_up lk)
      cases et
      exact t2.rl g1 d1 h1
theorem alls_some : ∀ {α : MEnv} {ts : List T}, alls α = some ts → α = ts.map some
  | [], _, h => by
    cases h
    rfl
  | some t :: r, ts, h => by
    have h' : (match alls r with | some ts => some (t :: ts) | none => none) = some ts := h
    cases e : alls r with
    | none =>
      rw [e] at h'
      cases h'
    | some us =>
      rw [e] at h'
      cases h'
      rw [alls_some e]
      rfl
theorem sim_callL {m : Mf} {L : List (Nat × Nat)} {ta : TA} {ma : MR} (ha : SimR K xa W L ta ma) : SimE K xa W (tCallSD (spM K xa m) [] (WE W) ta) (eCallL m L ma) := by
  intro F H σ ρ S Q re gd q
  refine ha F H σ ρ S _ re gd ?_
  have q : PT_ K xa W F H σ S Q ((ma ρ).bd fun α ρ => lendCall m L α ρ) := q
  cases e : ma ρ with
  | no =>
    rw [e] at q
    exact q
  | ex c p ρ1 =>
    rw [e] at q
    exact q
  | ok α ρ1 =>
    rw [e] at q
    intro vs F1 H1 Sa Sb t1 dj ra rb lk
    have q : PT_ K xa W F H σ S Q (lendCall m L α ρ1) := q
    rw [List.append_nil]
    unfold lendCall at q
    have lρ := rb.1
    have lα : vs.length = α.length := by
      have := ra.1
      rw [List.length_map] at this
      exact this
    -- the slots that are lent lie among the slots
    have hi : ∀ p ∈ L, p.1 < ρ1.length ∧ p.2 < vs.length ∧ ∀ v, σ[p.1]? = some (some v) ↔ vs[p.2]? = some v := fun p hp => by
      obtain ⟨v, e1, e2⟩ := lk p hp
      have c1 := (List.getElem?_eq_some_iff.mp e2).1
      have c2 := (List.getElem?_eq_some_iff.mp e1).1
      refine ⟨by omega, c2, fun w => ?_⟩
      rw [e1, e2]
      constructor
      · intro z
        cases z
        rfl
      · intro z
        cases z
        rfl
    have all := rb.cat ra (fun b z z' => dj b z' z)
    have mo : EnvR K F1 H1 (σ ++ vs.map some) (mvs (outs L ρ1.length) (ρ1 ++ α)) (Sb.or Sa) := by
      refine EnvR.mvs (fun p hp => ?_) all
      obtain ⟨p, hp', rfl⟩ := List.mem_map.mp hp
      obtain ⟨c1, c2, c3⟩ := hi p hp'
      refine ⟨by show p.1 ≠ ρ1.length + p.2; omega, fun v hv => ?_⟩
      have hv : (σ ++ vs.map some)[p.1]? = some (some v) := hv
      rw [List.getElem?_append_left (by omega)] at hv
      show (σ ++ vs.map some)[ρ1.length + p.2]? = some (some v)
      rw [List.getElem?_append_right (by omega), lρ, Nat.add_sub_cancel_left, List.getElem?_map, (c3 v).mp hv]
      rfl
    generalize hM : mvs (outs L ρ1.length) (ρ1 ++ α) = M at mo q
    have lM : M.length = ρ1.length + α.length := by
      rw [← hM, mvs_len, List.length_append]
    have eM : M = M.take ρ1.length ++ M.drop ρ1.length := (List.take_append_drop _ _).symm
    rw [eM] at mo
    have lT : (M.take ρ1.length).length = ρ1.length := by
      rw [List.length_take]
      omega
    obtain ⟨S1, S2, r1, r2, d12, w1, w2⟩ := mo.split (lρ.trans lT.symm)
    cases e2 : alls (M.drop ρ1.length) with
    | none =>
      rw [e2] at q
      exact q.elim
    | some ts =>
      rw [e2] at q
      rw [alls_some e2] at r2
      have q : PT_ K xa W F H σ S Q (match m ts with
        | .no => .no
        | .ok r back => .ok r ((mvs (ins_ L ρ1.length) (M.take ρ1.length ++ back)).take ρ1.length)
        | .ex c p back => .ex c p ((mvs (ins_ L ρ1.length) (M.take ρ1.length ++ back)).take ρ1.length)) := q
      have sub1 : ∀ b, S1 b → (Sa.or Sb) b := fun b z => (w1 b z).elim .inr .inl
      have sub2 : ∀ b, S2 b → (Sa.or Sb) b := fun b z => (w2 b z).elim .inr .inl
      have g1 : Gd F1 H1 S1 := t1.gd.wk sub1
      have g2 : Gd F1 H1 S2 := t1.gd.wk sub2
      have to12 : To F H S F1 H1 (S1.or S2) := t1.wk fun b z => z.elim (sub1 b) (sub2 b)
      -- the slots again behind the call
      have fin : ∀ {back : MEnv} {F2 H2 : Hp} {S3 : AS}, To F1 H1 S2 F2 H2 S3 → EnvR K F2 H2 (vs.map some) back S3 → ∃ S4, EnvR K F2 H2 σ ((mvs (ins_ L ρ1.length) (M.take ρ1.length ++ back)).take ρ1.length) S4 ∧ ∀ b, S4 b → (S1.or S3) b := fun {back F2 H2 S3} to rbk => by
        have r1' := to.env g1 d12 r1
        have all2 := r1'.cat rbk (to.dis g1 d12)
        have lb : back.length = vs.length := by
          have := rbk.1
          rw [List.length_map] at this
          exact this.symm
        have mo2 : EnvR K F2 H2 (σ ++ vs.map some) (mvs (ins_ L ρ1.length) (M.take ρ1.length ++ back)) (S1.or S3) := by
          refine EnvR.mvs (fun p hp => ?_) all2
          obtain ⟨p, hp', rfl⟩ := List.mem_map.mp hp
          obtain ⟨c1, c2, c3⟩ := hi p hp'
          refine ⟨by show ρ1.length + p.2 ≠ p.1; omega, fun v hv => ?_⟩
          have hv : (σ ++ vs.map some)[ρ1.length + p.2]? = some (some v) := hv
          rw [List.getElem?_append_right (by omega), lρ, Nat.add_sub_cancel_left, List.getElem?_map] at hv
          show (σ ++ vs.map some)[p.1]? = some (some v)
          rw [List.getElem?_append_left (by omega)]
          refine (c3 v).mpr ?_
          cases q : vs[p.2]? with
          | none =>
            rw [q] at hv
            cases hv
          | some u =>
            rw [q] at hv
            cases hv
            rfl
        generalize hN : mvs (ins_ L ρ1.length) (M.take ρ1.length ++ back) = N at mo2
        have lN : N.length = ρ1.length + back.length := by
          rw [← hN, mvs_len, List.length_append, lT]
        have eN : N = N.take ρ1.length ++ N.drop ρ1.length := (List.take_append_drop _ _).symm
        rw [eN] at mo2
        obtain ⟨S5, S6, r5, r6, d56, w5, w6⟩ := mo2.split (by rw [List.length_take]; omega)
        exact ⟨S5, r5, w5⟩
      refine ⟨F1, ts, S2, r2, g2, ?_⟩
      cases e3 : m ts with
      | no =>
        simp only [e3] at q
        exact q.elim
      | ok r back =>
        simp only [e3] at q
        intro v F2 H2 Sv S3 to dv rv rbk
        have to3 : To F1 H1 S2 F2 H2 S3 := to.wk fun b z => .inr z
        obtain ⟨S4, r4, w4⟩ := fin to3 rbk
        have bes := to.beside g1 d12
        have dis := to.dis g1 d12
        refine q v F2 H2 Sv S4 (to12.trans (bes.wk fun b z => z.elim (fun z => .inr (.inl z)) fun z => (w4 b z).elim .inl fun z => .inr (.inr z))) (fun b z z' => (w4 b z').elim (fun z2 => dis b z2 (.inl z)) fun z2 => dv b z z2) r4 rv
      | ex c p back =>
        simp only [e3] at q
        intro cls d F2 H2 S3 to rbk x
        obtain ⟨S4, r4, w4⟩ := fin to rbk
        have bes := to.beside g1 d12
        exact q cls d F2 H2 S4 (to12.trans (bes.wk w4)) r4 x
end
def QR (X : Cx) (xa : Nat → Addr) (W : WX) (L : List (Nat × Nat)) (es : List Expr) (m : MR) : Prop := ∃ t, PA X es t ∧ SimR X.K xa W L t m
section
variable {X : Cx} {xa : Nat → Addr} {W : WX} {k : Nat} {f : Addr} {fd : FuncData} {ps : List Str} {m : Mf} {x : Str} {p pos : Pos} {e : Expr} {es : List Expr} {L : List (Nat × Nat)}
theorem qr_nil : QR X xa W [] [] rNil := ⟨_, pa_nil, sim_rNil⟩
theorem qr_v {ma : MV} {mr : MR} (ha : QV X xa W e ma) (hr : QR X xa W L es mr) (hs : starEach (e :: es) X.env = (false, eval e X.env) :: starEach es X.env := by rfl) : QR X xa W (up1 L) (e :: es) (rV ma mr) := by
  obtain ⟨ta, pa, sa⟩ := ha
  obtain ⟨tr, pr, sr⟩ := hr
  exact ⟨_, pa_cons pa pr hs, sim_rV sa sr⟩
theorem qr_l {i : Nat} {mr : MR} (ha : PE X e (tVar i)) (hr : QR X xa W L es mr) (hs : starEach (e :: es) X.env = (false, eval e X.env) :: starEach es X.env := by rfl) : QR X xa W ((i, 0) :: up1 L) (e :: es) (rL i mr) := by
  obtain ⟨tr, pr, sr⟩ := hr
  exact ⟨_, pa_cons ha pr hs, sim_rL sr⟩
theorem qr_e {ma : ME} {mr : MR} (ha : QE X xa W e ma) (hr : QR X xa W L es mr) (hs : starEach (e :: es) X.env = (false, eval e X.env) :: starEach es X.env := by rfl) : QR X xa W (up1 L) (e :: es) (rE ma mr) := by
  obtain ⟨ta, pa, sa⟩ := ha
  obtain ⟨tr, pr, sr⟩ := hr
  exact ⟨_, pa_cons pa pr hs, sim_rE sa sr⟩
theorem qe_callL {ma : MR} (F : FnG X.prog X.w X.K X.mg X.base (L2.CX X.prog X.w) k f fd ps (spM X.K xa m)) (hr : Room k X.A) (hgd : X.A.guards = some []) (tk : Takes X W) (hg : Gl X x) (hm : X.mg x = some (.ref f)) (hk : PySem.W.keepIn X.K (.ref f) = true) (hb : Binds X.K fd ps [])
    (ha : QR X xa W L (e :: es) ma) (hdb : (x == ("__debug__" : Str)) = false := by decide) (he : starEach (e :: es) X.env = (false, eval e X.env) :: starEach es X.env := by rfl) (hpl : (backTo pos (starEach es X.env)).any (·.1) = false := by rfl) :
    QE X xa W (.Call (.Name x p) (e :: es) [] pos) (eCallL m L ma) := by
  obtain ⟨t, pa, sa⟩ := ha
  exact ⟨_, pe_callM F hr hgd hg hm hk hb .nil (fun σ => passAt tk σ) pa hdb he hpl, sim_callL sa⟩
end


/-! ### targets -/
inductive Tg where
  | nm (i : Nat) | tp (l : List Tg)
mutual
def asgT : Tg → PyData → MEnv → Option MEnv
  | .nm i, d, ρ => some (st ρ i (some (.f d)))
  | .tp l, .tuple ds, ρ => asgTs l ds ρ
  | .tp _, _, _ => none
def asgTs : List Tg → List PyData → MEnv → Option MEnv
  | [], [], ρ => some ρ
  | g :: gs, d :: ds, ρ => match asgT g d ρ with
    | some ρ' => asgTs gs ds ρ'
    | none => none
  | _, _, _ => none
end
mutual
def Tg.names : Tg → List Nat
  | .nm i => [i]
  | .tp l => namesAll l
def namesAll : List Tg → List Nat
  | [] => []
  | g :: r => g.names ++ namesAll r
end
def SimG (K : PySem.W.Frag) (t : TG) (g : Tg) : Prop := ∀ F H σ ρ S v d ρ' Q, EnvR K F H σ ρ S → Gd F H S → Dq K F v d → asgT g d ρ = some ρ' → (∀ σ', EnvR K F H σ' ρ' S → (∀ i, i ∉ g.names → σ'[i]? = σ[i]?) → σ'.length = σ.length → Q σ' H) → t v σ H Q
def SimGs (K : PySem.W.Frag) (t : TGs) (gs : List Tg) : Prop := ∀ F H σ ρ S vs ds ρ' Q, EnvR K F H σ ρ S → Gd F H S → DqAll K F vs ds → asgTs gs ds ρ = some ρ' → (∀ σ', EnvR K F H σ' ρ' S → (∀ i, i ∉ namesAll gs → σ'[i]? = σ[i]?) → σ'.length = σ.length → Q σ' H) → t vs σ H Q
def QG (X : Cx) (tg : Expr) (g : Tg) : Prop := ∃ t, PG X tg t ∧ SimG X.K t g
def QGs (X : Cx) (tgs : List Expr) (gs : List Tg) : Prop := ∃ t, PGs X tgs t ∧ SimGs X.K t gs
section
variable {K : PySem.W.Frag}
theorem simg_nm (i : Nat) : SimG K (gName i) (.nm i) := by
  intro F H σ ρ S v d ρ' Q re gd hv e q
  cases e
  refine q _ ((re.put (i := i) (S' := noS) (.f hv) dj_no).wk fun _ z => or_no z) (fun j hj => ?_) (List.length_set ..)
  refine List.getElem?_set_ne fun e => hj ?_
  rw [e]
  exact List.mem_singleton.mpr rfl
theorem simg_nil : SimGs K gNil [] := by
  intro F H σ ρ S vs ds ρ' Q re gd hv e q
  cases hv with
  | nil =>
    cases e
    exact ⟨rfl, q σ re (fun _ _ => rfl) rfl⟩
  | cons _ _ => cases e
theorem simg_cons {t : TG} {u : TGs} {g : Tg} {gs : List Tg} (h : SimG K t g) (hr : SimGs K u gs) : SimGs K (gCons t u) (g :: gs) := by
  intro F H σ ρ S vs ds ρ' Q re gd hv e q
  cases hv with
  | nil => cases e
  | @cons v vs d ds h1 h2 =>
    have e : (match asgT g d ρ with | some ρ' => asgTs gs ds ρ' | none => none) = some ρ' := e
    cases e1 : asgT g d ρ with
    | none =>
      rw [e1] at e
      cases e
    | some ρ1 =>
      rw [e1] at e
      refine ⟨v, vs, rfl, h F H σ ρ S v d ρ1 _ re gd h1 e1 fun σ1 r1 k1 l1 => hr F H σ1 ρ1 S vs ds ρ' Q r1 gd h2 e fun σ2 r2 k2 l2 => q σ2 r2 (fun i hi => ?_) (l2.trans l1)⟩
      have hi : i ∉ g.names ++ namesAll gs := hi
      rw [List.mem_append] at hi
      exact (k2 i fun z => hi (.inr z)).trans (k1 i fun z => hi (.inl z))
theorem asgTs_len {ρ' : MEnv} : ∀ (gs : List Tg) (ds : List PyData) (ρ : MEnv), asgTs gs ds ρ = some ρ' → ds.length = gs.length
  | [], [], _, _ => rfl
  | [], _ :: _, _, e => by cases e
  | _ :: _, [], _, e => by cases e
  | g :: r, d :: ds, ρ, e => by
    have e : (match asgT g d ρ with | some ρ' => asgTs r ds ρ' | none => none) = some ρ' := e
    cases e1 : asgT g d ρ with
    | none =>
      rw [e1] at e
      cases e
    | some ρ1 =>
      rw [e1] at e
      exact congrArg Nat.succ (asgTs_len r ds ρ1 e)
theorem simg_tp {t : TGs} {gs : List Tg} {n : Nat} (hn : gs.length = n) (h : SimGs K t gs) : SimG K (gTup K n t) (.tp gs) := by
  intro F H σ ρ S v d ρ' Q re gd hv e q
  cases hv with
  | @tup a xs ds h1 h2 =>
    have e : asgTs gs ds ρ = some ρ' := e
    refine ⟨a, xs, rfl, seqT gd.sm h1, ?_, h F H σ ρ S xs ds ρ' Q re gd h2 e q⟩
    rw [h2.length, ← hn]
    exact asgTs_len gs ds ρ e
  | _ => cases e
end
section
variable {X : Cx} {e : Expr} {es : List Expr} {pos : Pos}
theorem qg_nm {i : Nat} (p : PG X e (gName i)) : QG X e (.nm i) := ⟨_, p, simg_nm i⟩
theorem qgs_nil : QGs X [] [] := ⟨_, pgs_nil, simg_nil⟩
theorem qgs_cons {g : Tg} {gs : List Tg} (h : QG X e g) (hr : QGs X es gs) (hs : (assignEach (e :: es) X.env).map (·.2) = assign e X.env :: (assignEach es X.env).map (·.2) := by rfl) : QGs X (e :: es) (g :: gs) := by
  obtain ⟨t, p, s⟩ := h
  obtain ⟨u, pu, su⟩ := hr
  exact ⟨_, pgs_cons p pu hs, simg_cons s su⟩
theorem qg_tp {gs : List Tg} {n : Nat} (hn : gs.length = n) (h : QGs X es gs) (p : ∀ t, PGs X es t → PG X e (gTup X.K n t)) : QG X e (.tp gs) := by
  obtain ⟨t, q, s⟩ := h
  exact ⟨_, p t q, simg_tp hn s⟩
end
def pinsAll (P : Nat → Bool) (l : List Nat) : Bool := l.all fun i => !P i
theorem kp_of {P : Nat → Bool} {l : List Nat} {σ σ' : L2.St} (h : pinsAll P l = true) (k : ∀ i, i ∉ l → σ'[i]? = σ[i]?) : Kp P σ σ' := fun i hi => k i fun z => by
  have := List.all_eq_true.mp h i z
  rw [hi] at this
  cases this
def sAsg (g : Tg) (m : MV) : MS := fun ρ => (m ρ).bd fun d ρ => match asgT g d ρ with
  | some ρ' => .ok .nx ρ'
  | none => .no
section
variable {K : PySem.W.Frag} {xa : Nat → Addr} {W : WX} {P : Nat → Bool}
theorem sim_asg {t : TE} {u : TG} {m : MV} {g : Tg} (hp : pinsAll P g.names = true) (h : SimV K xa W t m) (hg : SimG K u g) : SimS K xa W P (tAsg t u) (sAsg g m) := by
  intro F H σ ρ S D re gd q
  refine h F H σ ρ S _ re gd (PO.bindS q fun d ρ1 v F1 H1 S1 t1 r1 h1 q1 => ?_)
  cases e : asgT g d ρ1 with
  | none =>
    simp only [e] at q1
    exact q1.elim
  | some ρ2 =>
    simp only [e] at q1
    exact hg F1 H1 σ ρ1 S1 v d ρ2 _ r1 t1.gd h1 e fun σ' r' k _ => q1 F1 H1 σ' S1 (To.refl t1.gd) r' (kp_of hp k)
end
theorem qs_asg {X : Cx} {xa : Nat → Addr} {W : WX} {P : Nat → Bool} {e tg : Expr} {s : Stmt} {m : MV} {g : Tg} (hp : pinsAll P g.names = true) (h : QV X xa W e m) (hg : QG X tg g) (p : ∀ t u, PE X e t → PG X tg u → PS X s (tAsg t u)) : QS X xa W P s (sAsg g m) := by
  obtain ⟨t, pe, q⟩ := h
  obtain ⟨u, pu, qu⟩ := hg
  exact ⟨_, p t u pe pu, sim_asg hp q qu⟩
/-! ### what is walked -/
def ItR (K : PySem.W.Frag) (F : Hp) (J : It) (ds : List PyData) : Prop :=
  (∀ i d H F', ds[i]? = some d → Same F F' → Same F' H → J.go i H ∧ ∀ x H', J.yld i H x H' → ∃ F'', Nw F' H F'' H' ∧ Dq K F'' x d) ∧ ∀ H F', Same F F' → Same F' H → J.stop ds.length H
abbrev MI := MEnv → Ou (List PyData)
abbrev RI_ (K : PySem.W.Frag) : Hp → It → List PyData → Prop := fun F J ds => ItR K F J ds
def QI (X : Cx) (xa : Nat → Addr) (W : WX) (tg iter : Expr) (m : MI) : Prop := ∃ t, PI X tg iter t ∧ Sim X.K xa W (RI_ X.K) t m
def iSeq (a : MV) : MI := fun ρ => (a ρ).bd fun x ρ => match x with
  | .list ds => .ok ds ρ
  | .tuple ds => .ok ds ρ
  | _ => .no
def rangeD (lo : Int) (n : Nat) : List PyData := (List.range n).map fun k : Nat => .int (lo + (k : Int))
def iRange1 (a : MV) : MI := fun ρ => (a ρ).bd fun x ρ => match x with
  | .int j => if -(2 ^ 62) ≤ j ∧ j < 2 ^ 62 then .ok (rangeD 0 j.toNat) ρ else .no
  | _ => .no
def iRange2 (a b : MV) : MI := fun ρ => (a ρ).bd fun x ρ => (b ρ).bd fun y ρ => match x, y with
  | .int i, .int j => if -(2 ^ 62) ≤ i ∧ i < 2 ^ 62 ∧ -(2 ^ 62) ≤ j ∧ j < 2 ^ 62 then .ok (rangeD i (j - i).toNat) ρ else .no
  | _, _ => .no
def iStrM (a : MV) : MI := fun ρ => (a ρ).bd fun x ρ => match x with
  | .str z => .ok (z.cps.toList.map fun c => PyData.str ⟨#[c]⟩) ρ
  | _ => .no
def enumD : Nat → List PyData → List PyData
  | _, [] => []
  | n, d :: r => .tuple [.int (n : Int), d] :: enumD (n + 1) r
def iEnumM (a : MV) : MI := fun ρ => (a ρ).bd fun x ρ => match x with
  | .list ds => .ok (enumD 0 ds) ρ
  | _ => .no
def iRevM (a : MV) : MI := fun ρ => (a ρ).bd fun x ρ => match x with
  | .list ds => .ok ds.reverse ρ
  | .tuple ds => .ok ds.reverse ρ
  | _ => .no
section
variable {K : PySem.W.Frag} {xa : Nat → Addr} {W : WX}
theorem itr_walk {F : Hp} {J : It} {xs : List V} {ds : List PyData} {G : Hp → Prop} (w : Walk J xs.length G (YAt xs)) (hG : ∀ H, Same F H → G H) (h : DqAll K F xs ds) : ItR K F J ds := by
  refine ⟨fun i d H F' e s1 s2 => ?_, fun H F' s1 s2 => ?_⟩
  · obtain ⟨v, e1, e2⟩ := h.nth e
    have hi : i < xs.length := (List.getElem?_eq_some_iff.mp e1).1
    have g := hG H (s1.trans s2)
    refine ⟨w.goes i H hi g, fun x H' y => ?_⟩
    obtain ⟨rfl, e3⟩ := w.yields i H x H' hi g y
    rw [e1] at e3
    cases e3
    exact ⟨F', Nw.refl s2, e2.same s1⟩
  · rw [← h.length]
    exact w.stops H (hG H (s1.trans s2))
theorem sim_iSeq {t : TE} {m : MV} (h : SimV K xa W t m) : Sim K xa W (RI_ K) (iSeqA K t) (iSeq m) := by
  intro F H σ ρ S Q re gd q
  refine h F H σ ρ S _ re gd (PO.bind q fun d ρ1 v F1 H1 S1 t1 r1 h1 q1 => ?_)
  have h1 : Dq K F1 v d := h1
  cases h1 with
  | @lst a xs ds z1 z2 => exact ⟨a, xs, true, rfl, t1.gd.sm.seq z1, fun J w => q1 J F1 H1 S1 (To.refl t1.gd) r1 (itr_walk w (fun H s => s.seq z1) z2)⟩
  | @tup a xs ds z1 z2 => exact ⟨a, xs, false, rfl, seqT t1.gd.sm z1, fun J w => q1 J F1 H1 S1 (To.refl t1.gd) r1 (itr_walk w (fun H s => seqT s z1) z2)⟩
  | _ => exact q1.elim
theorem itr_rev {F : Hp} {J : It} {xs : List V} {ds : List PyData} {G : Hp → Prop} (w : Walk J xs.length G (fun i H x H' => H' = H ∧ xs[xs.length - 1 - i]? = some x)) (hG : ∀ H, Same F H → G H) (h : DqAll K F xs ds) : ItR K F J ds.reverse := by
  refine ⟨fun i d H F' e s1 s2 => ?_, fun H F' s1 s2 => ?_⟩
  · have hi : i < ds.length := by
      have := (List.getElem?_eq_some_iff.mp e).1
      rw [List.length_reverse] at this
      exact this
    rw [List.getElem?_reverse hi] at e
    obtain ⟨v, e1, e2⟩ := h.nth e
    have g := hG H (s1.trans s2)
    have hl := h.length
    refine ⟨w.goes i H (by omega) g, fun x H' y => ?_⟩
    obtain ⟨rfl, e3⟩ := w.yields i H x H' (by omega) g y
    rw [hl, e1] at e3
    cases e3
    exact ⟨F', Nw.refl s2, e2.same s1⟩
  · rw [List.length_reverse, ← h.length]
    exact w.stops H (hG H (s1.trans s2))
theorem sim_iRev {t : TE} {m : MV} (h : SimV K xa W t m) : Sim K xa W (RI_ K) (iRevS K t) (iRevM m) := by
  intro F H σ ρ S Q re gd q
  refine h F H σ ρ S _ re gd (PO.bind q fun d ρ1 v F1 H1 S1 t1 r1 h1 q1 => ?_)
  have h1 : Dq K F1 v d := h1
  cases h1 with
  | @lst a xs ds z1 z2 => exact ⟨a, xs, true, rfl, t1.gd.sm.seq z1, fun J w => q1 J F1 H1 S1 (To.refl t1.gd) r1 (itr_rev w (fun H s => s.seq z1) z2)⟩
  | @tup a xs ds z1 z2 => exact ⟨a, xs, false, rfl, seqT t1.gd.sm z1, fun J w => q1 J F1 H1 S1 (To.refl t1.gd) r1 (itr_rev w (fun H s => seqT s z1) z2)⟩
  | _ => exact q1.elim
theorem itr_range (F : Hp) (lo : Int) (n : Nat) : ItR K F (Itr lo n) (rangeD lo n) := by
  refine ⟨fun i d H F' e s1 s2 => ?_, fun H F' s1 s2 => ?_⟩
  · unfold rangeD at e
    rw [List.getElem?_map] at e
    by_cases hi : i < n
    · rw [List.getElem?_range hi] at e
      cases e
      refine ⟨hi, fun x H' y => ?_⟩
      obtain ⟨rfl, rfl⟩ := y
      exact ⟨F', Nw.refl s2, .int _⟩
    · rw [List.getElem?_eq_none (by rw [List.length_range]; omega)] at e
      cases e
  · unfold rangeD
    rw [List.length_map, List.length_range]
    exact Nat.le_refl n
theorem Dq.intOf {H : Hp} {v : V} {b : Int} (h : Dq K H v (.int b)) : v = .int b := by
  cases h
  rfl
theorem sim_iRange1 {t : TE} {m : MV} (h : SimV K xa W t m) : Sim K xa W (RI_ K) (iRng1 (tCons t tNil)) (iRange1 m) := by
  intro F H σ ρ S Q re gd q
  refine h F H σ ρ S _ re gd (PO.bind q fun d ρ1 v F1 H1 S1 t1 r1 h1 q1 => ?_)
  have h1 : Dq K F1 v d := h1
  cases h1 with
  | int j =>
    by_cases c : -(2 ^ 62) ≤ j ∧ j < 2 ^ 62
    · simp only [if_pos c] at q1
      exact ⟨j, rfl, c.1, c.2, q1 _ F1 H1 S1 (To.refl t1.gd) r1 (itr_range F1 0 _)⟩
    · simp only [if_neg c] at q1
      exact q1.elim
  | _ => exact q1.elim
theorem sim_iRange2 {t u : TE} {m k : MV} (h : SimV K xa W t m) (h' : SimV K xa W u k) : Sim K xa W (RI_ K) (iRng2 (tCons t (tCons u tNil))) (iRange2 m k) := by
  intro F H σ ρ S Q re gd q
  refine h F H σ ρ S _ re gd (PO.bind q fun d ρ1 v F1 H1 S1 t1 r1 h1 q1 => h' F1 H1 σ ρ1 S1 _ r1 t1.gd (PO.bind q1 fun e ρ2 w F2 H2 S2 t2 r2 h2 q2 => ?_))
  have h1 : Dq K F1 v d := h1
  have h2 : Dq K F2 w e := h2
  cases h1 with
  | int i =>
    cases h2 with
    | int j =>
      by_cases c : -(2 ^ 62) ≤ i ∧ i < 2 ^ 62 ∧ -(2 ^ 62) ≤ j ∧ j < 2 ^ 62
      · simp only [if_pos c] at q2
        exact ⟨i, j, rfl, c, q2 _ F2 H2 S2 (To.refl t2.gd) r2 (itr_range F2 i _)⟩
      · simp only [if_neg c] at q2
        exact q2.elim
    | _ => exact q2.elim
  | _ => exact q2.elim
theorem sim_iStr {t : TE} {m : MV} (h : SimV K xa W t m) : Sim K xa W (RI_ K) (iStr t) (iStrM m) := by
  intro F H σ ρ S Q re gd q
  refine h F H σ ρ S _ re gd (PO.bind q fun d ρ1 v F1 H1 S1 t1 r1 h1 q1 => ?_)
  have h1 : Dq K F1 v d := h1
  cases h1 with
  | str z =>
    refine ⟨z, rfl, q1 _ F1 H1 S1 (To.refl t1.gd) r1 ⟨fun i d H F' e s1 s2 => ?_, fun H F' _ _ => ?_⟩⟩
    · rw [List.getElem?_map] at e
      cases e1 : z.cps.toList[i]? with
      | none =>
        rw [e1] at e
        cases e
      | some c =>
        rw [e1] at e
        cases e
        have hi := (List.getElem?_eq_some_iff.mp e1).1
        refine ⟨by show i < z.cps.size; rw [← Array.length_toList]; exact hi, fun x H' y => ?_⟩
        obtain ⟨rfl, c', e2, rfl⟩ := y
        rw [← Array.getElem?_toList, e1] at e2
        cases e2
        exact ⟨F', Nw.refl s2, .str _⟩
    · show z.cps.size ≤ _
      rw [List.length_map, Array.length_toList]
      exact Nat.le_refl _
  | _ => exact q1.elim
theorem enum_get : ∀ {ds : List PyData} {n i : Nat} {d : PyData}, (enumD n ds)[i]? = some d → ∃ e, ds[i]? = some e ∧ d = .tuple [.int ((n + i : Nat) : Int), e]
  | e :: _, n, 0, _, h => ⟨e, rfl, (Option.some.inj h).symm⟩
  | _ :: r, n, i + 1, d, h => by
    obtain ⟨e, e1, e2⟩ := enum_get (ds := r) (n := n + 1) (i := i) h
    exact ⟨e, e1, by rw [e2, Nat.add_assoc, Nat.add_comm 1 i]⟩
theorem enum_len : ∀ (ds : List PyData) (n : Nat), (enumD n ds).length = ds.length
  | [], _ => rfl
  | _ :: r, n => congrArg Nat.succ (enum_len r (n + 1))
theorem sim_iEnum {t : TE} {m : MV} (h : SimV K xa W t m) : Sim K xa W (RI_ K) (iEnum K (tCons t tNil)) (iEnumM m) := by
  intro F H σ ρ S Q re gd q
  refine h F H σ ρ S _ re gd (PO.bind q fun d ρ1 v F1 H1 S1 t1 r1 h1 q1 => ?_)
  have h1 : Dq K F1 v d := h1
  cases h1 with
  | @lst a xs ds z1 z2 =>
    refine ⟨a, xs, rfl, t1.gd.sm.seq z1, q1 _ F1 H1 S1 (To.refl t1.gd) r1 ⟨fun i d H F' e s1 s2 => ?_, fun H F' s1 s2 => ?_⟩⟩
    · obtain ⟨e', e1, rfl⟩ := enum_get e
      obtain ⟨v, e2, e3⟩ := z2.nth e1
      refine ⟨⟨xs, v, (s1.trans s2).seq z1, e2⟩, fun x H' y => ?_⟩
      obtain ⟨T, u, rfl, hT, rfl, hy⟩ := y
      have e4 := hy xs ((s1.trans s2).seq z1)
      rw [e2] at e4
      cases e4
      refine ⟨_, nw_new s2 hT, ?_⟩
      rw [Nat.zero_add]
      exact new_tup (H := H) (.cons (.int _) (.cons (e3.same s1) .nil)) (s2.free hT)
    · exact ⟨xs, (s1.trans s2).seq z1, by rw [enum_len, z2.length]; exact Nat.le_refl _⟩
  | _ => exact q1.elim
end
/-! ### for, while -/
def forS (g : Tg) (b : MS) : List PyData → MS
  | [], ρ => .ok .nx ρ
  | d :: ds, ρ => match asgT g d ρ with
    | none => .no
    | some ρ1 => (b ρ1).bd fun fl ρ2 => match fl with
      | .nx => forS g b ds ρ2
      | .ct => forS g b ds ρ2
      | .bk => .ok .nx ρ2
      | .rt t => .ok (.rt t) ρ2
def sFor (i : MI) (g : Tg) (b : MS) : MS := fun ρ => (i ρ).bd fun ds ρ => forS g b ds ρ
def whileS (c : MB) (b : MS) : Nat → MS
  | 0, _ => .no
  | n + 1, ρ => (c ρ).bd fun x ρ1 => match x with
    | false => .ok .nx ρ1
    | true => (b ρ1).bd fun fl ρ2 => match fl with
      | .nx => whileS c b n ρ2
      | .ct => whileS c b n ρ2
      | .bk => .ok .nx ρ2
      | .rt t => .ok (.rt t) ρ2
def sWhile (n : Nat) (c : MB) (b : MS) : MS := whileS c b n
section
variable {K : PySem.W.Frag} {xa : Nat → Addr} {W : WX} {P : Nat → Bool}
theorem sim_for {wi : TI} {u : TG} {tb : TS} {mi : MI} {g : Tg} {b : MS} (hp : pinsAll P g.names = true) (hi : Sim K xa W (RI_ K) wi mi) (hg : SimG K u g) (hb : SimS K xa W P tb b) : SimS K xa W P (tFor wi u tb) (sFor mi g b) := by
  intro F H σ ρ S D re gd q
  refine hi F H σ ρ S _ re gd (PO.bindS q fun ds ρ1 J F1 H1 S1 t1 r1 hJ q1 => ?_)
  refine ⟨fun i m σ' H' => m = ds.length - i ∧ i ≤ ds.length ∧ ∃ F' ρ' S', To F1 H1 S1 F' H' S' ∧ EnvR K F' H' σ' ρ' S' ∧ Kp P σ σ' ∧ PS_ K xa W P D F1 H1 σ S1 (forS g b (ds.drop i) ρ'), ⟨ds.length, rfl, Nat.zero_le _, F1, ρ1, S1, To.refl t1.gd, r1, Kp.refl P σ, q1⟩, ?_⟩
  rintro i m σ2 H2 ⟨rfl, hle, F2, ρ2, S2, t2, r2, k2, q2⟩
  by_cases c : i < ds.length
  · right
    have ed : ds.drop i = ds[i] :: ds.drop (i + 1) := List.drop_eq_getElem_cons c
    have ei : ds[i]? = some ds[i] := List.getElem?_eq_getElem c
    generalize ds[i] = d at ed ei
    rw [ed] at q2
    obtain ⟨go, yl⟩ := hJ.1 i d H2 F2 ei t2.fs t2.gd.sm
    refine ⟨go, fun σ' H' => ∃ F' ρ' S', To F1 H1 S1 F' H' S' ∧ EnvR K F' H' σ' ρ' S' ∧ Kp P σ σ' ∧ PS_ K xa W P D F1 H1 σ S1 (forS g b (ds.drop (i + 1)) ρ'), fun σ' H' h => ⟨ds.length - (i + 1), by omega, rfl, by omega, h⟩, fun x H3 y => ?_⟩
    obtain ⟨F3, n3, hx⟩ := yl x H3 y
    have t3 := n3.to t2.gd
    have q2 : PS_ K xa W P D F1 H1 σ S1 (match asgT g d ρ2 with
      | none => .no
      | some ρ1 => (b ρ1).bd fun fl ρ2 => match fl with
        | .nx => forS g b (ds.drop (i + 1)) ρ2
        | .ct => forS g b (ds.drop (i + 1)) ρ2
        | .bk => .ok .nx ρ2
        | .rt t => .ok (.rt t) ρ2) := q2
    cases e : asgT g d ρ2 with
    | none =>
      rw [e] at q2
      exact q2.elim
    | some ρ3 =>
      rw [e] at q2
      refine hg F3 H3 σ2 ρ2 S2 x d ρ3 _ (n3.env t2.gd r2) t3.gd hx e fun σ3 r3 k3 _ => ?_
      have t13 := t2.trans t3
      have k13 : Kp P σ σ3 := k2.trans (kp_of hp k3)
      refine hb F3 H3 σ3 ρ3 S2 _ r3 t3.gd ?_
      have q2 : PS_ K xa W P D F1 H1 σ S1 ((b ρ3).bd fun fl ρ2 => match fl with
        | .nx => forS g b (ds.drop (i + 1)) ρ2
        | .ct => forS g b (ds.drop (i + 1)) ρ2
        | .bk => .ok .nx ρ2
        | .rt t => .ok (.rt t) ρ2) := q2
      cases e2 : b ρ3 with
      | no =>
        rw [e2] at q2
        exact q2
      | ex cc p ρ4 =>
        rw [e2] at q2
        exact fun cls dd F' H' σ' S' t' r' x' k' => q2 cls dd F' H' σ' S' (t13.trans t') r' x' (k13.trans k')
      | ok fl ρ4 =>
        rw [e2] at q2
        cases fl with
        | nx => exact fun F' H' σ' S' t' r' k' => ⟨F', ρ4, S', t13.trans t', r', k13.trans k', q2⟩
        | ct => exact fun F' H' σ' S' t' r' k' => ⟨F', ρ4, S', t13.trans t', r', k13.trans k', q2⟩
        | bk => exact fun F' H' σ' S' t' r' k' => q2 F' H' σ' S' (t13.trans t') r' (k13.trans k')
        | rt t => exact fun v F' H' σ' S1 S2 t' d' r' rv k' => q2 v F' H' σ' S1 S2 (t13.trans t') d' r' rv (k13.trans k')
  · left
    have e : i = ds.length := by omega
    subst e
    rw [List.drop_length] at q2
    exact ⟨hJ.2 H2 F2 t2.fs t2.gd.sm, q2 F2 H2 σ2 S2 t2 r2 k2⟩
theorem sim_while {c : TT} {tb : TS} {mc : MB} {b : MS} {n : Nat} (hc : SimB K xa W c mc) (hb : SimS K xa W P tb b) : SimS K xa W P (tWhile c tb) (sWhile n mc b) := by
  intro F H σ ρ S D re gd q
  refine ⟨fun m σ' H' => ∃ F' ρ' S', Gd F' H' S' ∧ EnvR K F' H' σ' ρ' S' ∧ PS_ K xa W P D F' H' σ' S' (whileS mc b m ρ'), ⟨n, F, ρ, S, gd, re, q⟩, ?_⟩
  rintro m σ2 H2 ⟨F2, ρ2, S2, g2, r2, q2⟩
  cases m with
  | zero => exact q2.elim
  | succ m =>
    refine hc F2 H2 σ2 ρ2 S2 _ r2 g2 (PO.bindS q2 fun x ρ3 v F3 H3 S3 t3 r3 h3 q3 => ?_)
    cases h3
    cases x with
    | false =>
      rw [if_neg Bool.false_ne_true]
      exact q3 F3 H3 σ2 S3 (To.refl t3.gd) r3 (Kp.refl P σ2)
    | true =>
      rw [if_pos rfl]
      refine ⟨fun σ' H' => ∃ F' ρ' S', Gd F' H' S' ∧ EnvR K F' H' σ' ρ' S' ∧ PS_ K xa W P D F' H' σ' S' (whileS mc b m ρ'), fun σ' H' h => ⟨m, Nat.lt_succ_self m, h⟩, hb F3 H3 σ2 ρ3 S3 _ r3 t3.gd ?_⟩
      have q4 : PS_ K xa W P D F3 H3 σ2 S3 ((b ρ3).bd fun fl ρ2 => match fl with
        | .nx => whileS mc b m ρ2
        | .ct => whileS mc b m ρ2
        | .bk => .ok .nx ρ2
        | .rt t => .ok (.rt t) ρ2) := q3
      cases e2 : b ρ3 with
      | no =>
        rw [e2] at q4
        exact q4
      | ex cc p ρ4 =>
        rw [e2] at q4
        exact q4
      | ok fl ρ4 =>
        rw [e2] at q4
        cases fl with
        | nx => exact fun F' H' σ' S' t' r' k' => ⟨F', ρ4, S', t'.gd, r', PS.step q4 t' k'⟩
        | ct => exact fun F' H' σ' S' t' r' k' => ⟨F', ρ4, S', t'.gd, r', PS.step q4 t' k'⟩
        | bk => exact q4
        | rt t => exact q4
end
section
variable {X : Cx} {xa : Nat → Addr} {W : WX} {P : Nat → Bool} {tg iter e c : Expr} {s : Stmt} {ss : List Stmt} {pos p : Pos} {m : MV}
theorem qi_seq (h : QV X xa W e m) : QI X xa W tg e (iSeq m) := let ⟨_, p, q⟩ := h; ⟨_, pi_seqA p, sim_iSeq q⟩
theorem qi_str (h : QV X xa W e m) : QI X xa W tg e (iStrM m) := let ⟨_, p, q⟩ := h; ⟨_, pi_str p, sim_iStr q⟩
theorem qi_any {t : TI} {mi : MI} (p : PI X tg e t) (q : Sim X.K xa W (RI_ X.K) t mi) : QI X xa W tg e mi := ⟨t, p, q⟩
theorem qi_rev (hg : Gl X "reversed") (hm : X.mg "reversed" = none) (h : QV X xa W e m) (hs : starEach [e] X.env = (false, eval e X.env) :: starEach [] X.env := by rfl) : QI X xa W tg (.Call (.Name "reversed" p) [e] [] pos) (iRevM m) := let ⟨_, pe, q⟩ := h; ⟨_, pi_revS hg hm pe hs, sim_iRev q⟩
theorem qi_r1 (h : QV X xa W e m) (f : ∀ t, PE X e t → PI X tg iter (iRng1 (tCons t tNil))) : QI X xa W tg iter (iRange1 m) := let ⟨_, pe, q⟩ := h; ⟨_, f _ pe, sim_iRange1 q⟩
theorem qi_r2 {m' : MV} {e' : Expr} (h : QV X xa W e m) (h' : QV X xa W e' m') (f : ∀ t u, PE X e t → PE X e' u → PI X tg iter (iRng2 (tCons t (tCons u tNil)))) : QI X xa W tg iter (iRange2 m m') := let ⟨_, pe, q⟩ := h; let ⟨_, pe', q'⟩ := h'; ⟨_, f _ _ pe pe', sim_iRange2 q q'⟩
theorem qi_enum (h : QV X xa W e m) (f : ∀ t, PE X e t → PI X tg iter (iEnum X.K (tCons t tNil))) : QI X xa W tg iter (iEnumM m) := let ⟨_, pe, q⟩ := h; ⟨_, f _ pe, sim_iEnum q⟩
theorem qs_for {mi : MI} {g : Tg} {b : MS} (hp : pinsAll P g.names = true) (hi : QI X xa W tg iter mi) (hg : QG X tg g) (hb : QSs X xa W P ss b) (f : ∀ wi u tb, PI X tg iter wi → PG X tg u → PSs X ss tb → PS X s (tFor wi u tb)) : QS X xa W P s (sFor mi g b) := by
  obtain ⟨wi, p1, q1⟩ := hi
  obtain ⟨u, p2, q2⟩ := hg
  obtain ⟨tb, p3, q3⟩ := hb
  exact ⟨_, f _ _ _ p1 p2 p3, sim_for hp q1 q2 q3⟩
theorem qs_while {mc : MB} {b : MS} {n : Nat} (hpo : PassesOwn (model X.prog X.w) X.A X.env X.xe) (hc : QB X xa W c mc) (hb : QSs X xa W P ss b) : QS X xa W P (.While c ss [] pos) (sWhile n mc b) := by
  obtain ⟨tc, p1, q1⟩ := hc
  obtain ⟨tb, p2, q2⟩ := hb
  exact ⟨_, ps_while hpo p1 p2, sim_while q1 q2⟩
end


/-! ### comprehensions -/
def wipeM (ρ : MEnv) : List Nat → MEnv
  | [] => ρ
  | v :: vs => st (wipeM ρ vs) v none
def compS (vs : List Nat) (g : Tg) (c : MB) (e : MV) : List PyData → List PyData → MEnv → Ou (List PyData)
  | [], acc, ρ => .ok acc ρ
  | d :: ds, acc, ρ => match asgT g d ρ with
    | none => .no
    | some ρ1 => match c ρ1 with
      | .ok true ρ2 => (match e ρ2 with
        | .ok y ρ3 => if acc.length < sizeLine then compS vs g c e ds (acc ++ [y]) (wipeM ρ3 vs) else .no
        | _ => .no)
      | .ok false ρ2 => compS vs g c e ds acc (wipeM ρ2 vs)
      | _ => .no
def bYes : MB := fun ρ => .ok true ρ
def vLc (vs : List Nat) (i : MI) (g : Tg) (c : MB) (e : MV) : MV := fun ρ => (i ρ).bd fun ds ρ => (compS vs g c e ds [] (wipeM ρ vs)).bd fun acc ρ => .ok (.list acc) ρ
def eLc (vs : List Nat) (i : MI) (g : Tg) (c : MB) (e : MV) : ME := fun ρ => (i ρ).bd fun ds ρ => (compS vs g c e ds [] (wipeM ρ vs)).bd fun acc ρ => .ok (.lst (acc.map T.f)) ρ
abbrev W0 : WX := fun _ _ _ _ => False
section
variable {K : PySem.W.Frag} {xa : Nat → Addr} {W : WX} {F H F' H' : Hp} {S S' : AS} {σ : L2.St} {ρ : MEnv}
theorem EnvR.wipe (r : EnvR K F H σ ρ S) : ∀ vs : List Nat, EnvR K F H (L2.wipe σ vs) (wipeM ρ vs) S
  | [] => r
  | _ :: vs => (EnvR.wipe r vs).drop
theorem EnvR.unwipe {vs : List Nat} (r : EnvR K F H (L2.wipe σ vs) ρ S) : EnvR K F H σ ρ S := by
  obtain ⟨h0, Sf, h1, h2, h3⟩ := r
  rw [wipe_length] at h0
  refine ⟨h0, Sf, fun i t e => ?_, h2, h3⟩
  obtain ⟨v, e1, e2⟩ := h1 i t e
  exact ⟨v, (wipe_some e1).1, e2⟩
theorem wipe_in {i : Nat} : ∀ {vs : List Nat}, i ∈ vs → i < σ.length → (L2.wipe σ vs)[i]? = some none
  | v :: vs, h, hl => by
    show ((L2.wipe σ vs).set v none)[i]? = some none
    by_cases e : v = i
    · subst e
      rw [List.getElem?_set_self (by rw [wipe_length]; exact hl)]
    · rw [List.getElem?_set_ne e]
      exact wipe_in ((List.mem_cons.mp h).resolve_left (Ne.symm e)) hl
theorem wipe_eq {σ' : L2.St} {vs l : List Nat} (hl : σ'.length = (L2.wipe σ vs).length) (h : ∀ i, i ∉ l → σ'[i]? = (L2.wipe σ vs)[i]?) (sub : ∀ i ∈ l, i ∈ vs) : L2.wipe σ' vs = L2.wipe σ vs := by
  rw [wipe_length] at hl
  refine List.ext_getElem? fun i => ?_
  by_cases c : i ∈ vs
  · by_cases d : i < σ.length
    · rw [wipe_in c (by omega), wipe_in c d]
    · rw [List.getElem?_eq_none (by rw [wipe_length]; omega), List.getElem?_eq_none (by rw [wipe_length]; omega)]
  · rw [wipe_out c]
    exact h i fun z => c (sub i z)
theorem To.updO {D : Addr} {o : HO} (t : To F H S F' H' S') (h : S' D) : To F H S F' (upd H' D o) S' := by
  have hF := (t.gd.ow D h).2
  refine ⟨fun b u e n => ?_, t.fs, t.nw, t.sn, fun b u e => ?_, fun b z => ?_⟩
  · have nb : b ≠ D := fun q => by
      subst q
      rcases t.sn b h with z | z
      · exact n z
      · rw [e] at z
        cases z
    rw [upd_ne nb]
    exact t.fr b u e n
  · have nb : b ≠ D := fun q => by
      subst q
      rw [hF] at e
      cases e
    rw [upd_ne nb]
    exact t.gd.sm b u e
  · obtain ⟨h1, h2⟩ := t.gd.ow b z
    refine ⟨?_, h2⟩
    by_cases q : b = D
    · subst q
      rw [upd_same]
      exact fun z => by cases z
    · rw [upd_ne q]
      exact h1
theorem Gd.updO {D : Addr} {o : HO} (g : Gd F H S) (h : S D) : Gd F (upd H D o) S := (To.updO (To.refl g) h).gd
theorem EnvR.upd {D : Addr} {o : HO} (r : EnvR K F H σ ρ S) (g : Gd F H S) (h : ¬ S D) : EnvR K F (upd H D o) σ ρ S := r.frame (Same.refl F) (fun b u z e => by
  rw [upd_ne (fun q => h (by rw [← q]; exact z))]
  exact e) fun b z => (g.ow b z).2
theorem own_rl {D : Addr} {xs : List V} {ds : List PyData} (hF : F D = none) (hD : H D = some (.lst xs)) (h : DqAll K F xs ds) : Rl K F H (.ref D) (.lst (ds.map T.f)) (fun b => b = D) := by
  refine .nd (fun _ => noS) ⟨hF, hD, rfl⟩ (by rw [List.length_map]; exact h.length) (fun i v t hv ht => ?_) (fun _ _ z => z.elim) (fun _ _ _ _ z => z.elim) fun _ z => z
  rw [List.getElem?_map] at ht
  cases e : ds[i]? with
  | none =>
    rw [e] at ht
    cases ht
  | some d =>
    rw [e] at ht
    cases ht
    obtain ⟨w, e1, e2⟩ := h.nth e
    rw [hv] at e1
    cases e1
    exact .f e2
theorem sim_eLc {wi : TI} {u : TG} {tt : TT} {te : TE} {vs : List Nat} {mi : MI} {g : Tg} {c : MB} {e : MV} (hv : ∀ i ∈ g.names, i ∈ vs) (hi : Sim K xa W (RI_ K) wi mi) (hg : SimG K u g) (hc : SimB K xa W0 tt c) (he : SimV K xa W0 te e) : SimE K xa W (tLc wi u tt te vs) (eLc vs mi g c e) := by
  intro F H σ ρ S Q re gd q
  refine hi F H σ ρ S _ re gd (PO.bindT q fun ds ρ1 J F1 H1 S1 t1 r1 hJ q1 D hD => ?_)
  have hF1 : F1 D = none := t1.gd.sm.free hD
  have nD : ¬ S1 D := fun z => (t1.gd.ow D z).1 hD
  obtain ⟨n1, n2, n3, n4⟩ := new_own t1.gd (r1.wipe vs) (.nil (K := K)) hD
  refine ⟨fun i m H' => m = ds.length - i ∧ i ≤ ds.length ∧ ∃ F' ρ' S' acc xs, To F1 H1 S1 F' H' (AS.or (fun b => b = D) S') ∧ Disj (fun b => b = D) S' ∧ EnvR K F' H' (L2.wipe σ vs) ρ' S' ∧ H' D = some (.lst xs) ∧ DqAll K F' xs acc ∧
    PT_ K xa W F1 H1 σ S1 Q ((compS vs g c e (ds.drop i) acc ρ').bd fun acc ρ => .ok (.lst (acc.map T.f)) ρ), ⟨ds.length, rfl, Nat.zero_le _, F1, wipeM ρ1 vs, S1, [], [], n1, n2, n3, upd_same, .nil, q1⟩, ?_⟩
  rintro i m H2 ⟨rfl, hle, F2, ρ2, S2, acc, xs, t2, d2, r2, hD2, hx2, q2⟩
  have g2 : Gd F2 H2 S2 := t2.gd.wk fun b z => .inr z
  have gD2 : Gd F2 H2 (fun b => b = D) := t2.gd.wk fun b z => .inl z
  by_cases cl : i < ds.length
  · right
    have ed : ds.drop i = ds[i] :: ds.drop (i + 1) := List.drop_eq_getElem_cons cl
    have ei : ds[i]? = some ds[i] := List.getElem?_eq_getElem cl
    generalize ds[i] = d at ed ei
    rw [ed] at q2
    obtain ⟨go, yl⟩ := hJ.1 i d H2 F2 ei t2.fs t2.gd.sm
    refine ⟨go, fun H' => ∃ F' ρ' S' acc xs, To F1 H1 S1 F' H' (AS.or (fun b => b = D) S') ∧ Disj (fun b => b = D) S' ∧ EnvR K F' H' (L2.wipe σ vs) ρ' S' ∧ H' D = some (.lst xs) ∧ DqAll K F' xs acc ∧
      PT_ K xa W F1 H1 σ S1 Q ((compS vs g c e (ds.drop (i + 1)) acc ρ').bd fun acc ρ => .ok (.lst (acc.map T.f)) ρ), fun H' h => ⟨ds.length - (i + 1), by omega, rfl, by omega, h⟩, fun x H3 y => ?_⟩
    obtain ⟨F3, n3, hx⟩ := yl x H3 y
    have t3 := n3.to g2
    have t3' := n3.to t2.gd
    have hD3 : H3 D = some (.lst xs) := n3.hs _ _ hD2
    have q2 : PT_ K xa W F1 H1 σ S1 Q ((match asgT g d ρ2 with
      | none => .no
      | some ρ1 => match c ρ1 with
        | .ok true ρ2 => (match e ρ2 with
          | .ok y ρ3 => if acc.length < sizeLine then compS vs g c e (ds.drop (i + 1)) (acc ++ [y]) (wipeM ρ3 vs) else .no
          | _ => .no)
        | .ok false ρ2 => compS vs g c e (ds.drop (i + 1)) acc (wipeM ρ2 vs)
        | _ => .no : Ou (List PyData)).bd fun acc ρ => .ok (.lst (acc.map T.f)) ρ) := q2
    cases e1 : asgT g d ρ2 with
    | none =>
      rw [e1] at q2
      exact q2.elim
    | some ρ3 =>
      rw [e1] at q2
      refine hg F3 H3 _ ρ2 S2 x d ρ3 _ (n3.env g2 r2) t3.gd hx e1 fun σ3 r3 k3 l3 => ?_
      have we : L2.wipe σ3 vs = L2.wipe σ vs := wipe_eq l3 k3 hv
      refine ⟨we, hc F3 H3 σ3 ρ3 S2 _ r3 t3.gd ?_⟩
      have gD3 : Gd F3 H3 (fun b => b = D) := t3'.gd.wk fun b z => .inl z
      cases e2 : c ρ3 with
      | no =>
        simp only [e2] at q2
        exact q2.elim
      | ex cc p ρ4 =>
        simp only [e2] at q2
        exact q2.elim
      | ok bb ρ4 =>
        simp only [e2] at q2
        intro b' F4 H4 S4 t4 r4 hb
        cases hb
        have k4 := t4.keep gD3 d2 (b := D) rfl
        have hD4 : H4 D = some (.lst xs) := k4.1.trans hD3
        have dj4 := t4.dis gD3 d2
        have b4 := t4.beside gD3 d2
        have t14 := (t2.trans t3').trans b4
        have gD4 : Gd F4 H4 (fun b => b = D) := b4.gd.wk fun b z => .inl z
        cases bb with
        | false =>
          rw [if_neg Bool.false_ne_true]
          refine ⟨F4, wipeM ρ4 vs, S4, acc, xs, t14, dj4, ?_, hD4, (hx2.same n3.fs).same t4.fs, q2⟩
          rw [← we]
          exact r4.wipe vs
        | true =>
          rw [if_pos rfl]
          refine he F4 H4 σ3 ρ4 S4 _ r4 t4.gd ?_
          cases e3 : e ρ4 with
          | no =>
            simp only [e3] at q2
            exact q2.elim
          | ex cc p ρ5 =>
            simp only [e3] at q2
            exact q2.elim
          | ok y ρ5 =>
            simp only [e3] at q2
            intro w F5 H5 S5 t5 r5 hy
            by_cases cz : acc.length < sizeLine
            · rw [if_pos cz] at q2
              have k5 := t5.keep gD4 dj4 (b := D) rfl
              have hD5 : H5 D = some (.lst xs) := k5.1.trans hD4
              have dj5 := t5.dis gD4 dj4
              have b5 := t5.beside gD4 dj4
              have t15 := t14.trans b5
              have xa5 : DqAll K F5 xs acc := ((hx2.same n3.fs).same t4.fs).same t5.fs
              refine ⟨xs, hD5, by rw [xa5.length]; exact cz, F5, wipeM ρ5 vs, S5, acc ++ [y], xs ++ [w], t15.updO (.inl rfl), dj5, ?_, upd_same, xa5.cat (.cons hy .nil), q2⟩
              rw [← we]
              exact (r5.upd t5.gd fun z => dj5 D rfl z).wipe vs
            · rw [if_neg cz] at q2
              exact q2.elim
  · left
    have e0 : i = ds.length := by omega
    subst e0
    rw [List.drop_length] at q2
    exact ⟨hJ.2 H2 F2 t2.fs t2.gd.sm, q2 (.ref D) F2 H2 (fun b => b = D) S2 t2 d2 r2.unwipe (own_rl (t2.gd.ow D (.inl rfl)).2 hD2 hx2)⟩
theorem allF_f : ∀ ds : List PyData, allF (ds.map T.f) = some ds
  | [] => rfl
  | d :: r => by
    show (match allF (r.map T.f) with | some ds => some (d :: ds) | none => none) = _
    rw [allF_f r]
theorem frzAll_f : ∀ ds : List PyData, frzAll (ds.map T.f) = ds.map T.f
  | [] => rfl
  | d :: r => congrArg (T.f d :: ·) (frzAll_f r)
theorem frz_lst (ds : List PyData) : (T.lst (ds.map T.f)).frz = .f (.list ds) := by
  show mkF (.lst true) (frzAll (ds.map T.f)) = _
  rw [frzAll_f]
  unfold mkF
  rw [allF_f]
theorem fz_eLc {vs : List Nat} {mi : MI} {g : Tg} {c : MB} {e : MV} : vFz (eLc vs mi g c e) = vLc vs mi g c e := by
  funext ρ
  unfold vFz eLc vLc
  cases mi ρ with
  | no => rfl
  | ex _ _ _ => rfl
  | ok ds ρ1 =>
    show Ou.bd (Ou.bd (compS vs g c e ds [] (wipeM ρ1 vs)) _) _ = Ou.bd (compS vs g c e ds [] (wipeM ρ1 vs)) _
    cases compS vs g c e ds [] (wipeM ρ1 vs) with
    | no => rfl
    | ex _ _ _ => rfl
    | ok acc ρ2 =>
      show (match (T.lst (acc.map T.f)).frz with | .f d => Ou.ok d ρ2 | _ => .no) = _
      rw [frz_lst]
      rfl
theorem sim_vLc {wi : TI} {u : TG} {tt : TT} {te : TE} {vs : List Nat} {mi : MI} {g : Tg} {c : MB} {e : MV} (hv : ∀ i ∈ g.names, i ∈ vs) (hi : Sim K xa W (RI_ K) wi mi) (hg : SimG K u g) (hc : SimB K xa W0 tt c) (he : SimV K xa W0 te e) : SimV K xa W (tLc wi u tt te vs) (vLc vs mi g c e) := by
  have h := sim_fz (sim_eLc (W := W) hv hi hg hc he)
  rw [fz_eLc] at h
  exact h
end
/-! families of places at which a part is run -/
theorem fam_e {ι : Type} {Y : ι → Cx} {K : PySem.W.Frag} {xa : Nat → Addr} {W : WX} {e : Expr} {m : MV} (hK : ∀ i, (Y i).K = K) (h : ∀ i, QV (Y i) xa W e m) : ∃ t, (∀ i, PE (Y i) e t) ∧ SimV K xa W t m := by
  refine ⟨fun σ H Q => ∀ i pins s, Inv (Y i) pins σ H s → wpAny (model (Y i).prog (Y i).w) (Y i).A (eval e (Y i).env) (EP (Y i) pins σ Q) (Y i).xe s, fun i => ⟨fun pins s σ H Q I h => h i pins s I⟩, ?_⟩
  intro F H σ ρ S Q re gd q i pins s I
  obtain ⟨t, p, sim⟩ := h i
  rw [hK i] at sim
  exact p.run pins s σ H Q I (sim F H σ ρ S Q re gd q)
def QTs (X : Cx) (xa : Nat → Addr) (W : WX) (ifs : List Expr) (m : MB) : Prop := ∃ t, PTs X ifs t ∧ SimB X.K xa W t m
theorem qts_nil {X : Cx} {xa : Nat → Addr} {W : WX} : QTs X xa W [] bYes := ⟨_, pts_nil, sim_bc⟩
theorem qts_one {X : Cx} {xa : Nat → Addr} {W : WX} {c : Expr} {m : MB} (h : QB X xa W c m) : QTs X xa W [c] m := let ⟨_, p, q⟩ := h; ⟨_, pts_one p, q⟩
theorem fam_t {ι : Type} {Y : ι → Cx} {K : PySem.W.Frag} {xa : Nat → Addr} {W : WX} {e : List Expr} {m : MB} (hK : ∀ i, (Y i).K = K) (h : ∀ i, QTs (Y i) xa W e m) : ∃ t, (∀ i, PTs (Y i) e t) ∧ SimB K xa W t m := by
  refine ⟨fun σ H Q => ∀ i pins s, Inv (Y i) pins σ H s → wpAny (model (Y i).prog (Y i).w) (Y i).A (forIn e true fun c r => if r = true then do let ok ← isTrue c (Y i).env (eval c (Y i).env); pure (ForInStep.yield ok) else pure (ForInStep.yield r)) (TP (Y i) pins σ Q) (Y i).xe s, fun i => ⟨fun pins s σ H Q I h => h i pins s I⟩, ?_⟩
  intro F H σ ρ S Q re gd q i pins s I
  obtain ⟨t, p, sim⟩ := h i
  rw [hK i] at sim
  exact p.run pins s σ H Q I (sim F H σ ρ S Q re gd q)
section
variable {X : Cx} {xa : Nat → Addr} {W : WX} {P : Nat → Bool} {elt tg iter : Expr} {ifs : List Expr} {scope : Scope} {own : List (Str × Nat)} {pos : Pos} {mi : MI} {u : TG} {g : Tg} {c : MB} {e : MV}
abbrev BlkI := Shared × Hp × Addr × List (Str × Addr) × List Addr
abbrev blkAt (X : Cx) (scope : Scope) (i : BlkI) : Cx := X.blk i.1 i.2.1 scope (compEnvC scope i.2.2.2.1 i.2.2.1 X.env) i.2.2.2.2
theorem lc_parts (hv : ∀ i ∈ g.names, i ∈ own.map (·.2)) (hi : QI X xa W tg iter mi) (hs : SimG X.K u g) (ht : ∀ i, QTs (blkAt X scope i) xa W0 ifs c) (he : ∀ i, QV (blkAt X scope i) xa W0 elt e) :
    ∃ wi tt te, PI X tg iter wi ∧ (∀ i, PTs (blkAt X scope i) ifs tt) ∧ (∀ i, PE (blkAt X scope i) elt te) ∧ SimE X.K xa W (tLc wi u tt te (own.map (·.2))) (eLc (own.map (·.2)) mi g c e) ∧ SimV X.K xa W (tLc wi u tt te (own.map (·.2))) (vLc (own.map (·.2)) mi g c e) := by
  obtain ⟨wi, pi, si⟩ := hi
  obtain ⟨tt, pt, st⟩ := fam_t (Y := blkAt X scope) (fun _ => rfl) ht
  obtain ⟨te, pe, se⟩ := fam_e (Y := blkAt X scope) (fun _ => rfl) he
  exact ⟨wi, tt, te, pi, pt, pe, sim_eLc hv si hs st se, sim_vLc hv si hs st se⟩
theorem qv_lc (hv : ∀ i ∈ g.names, i ∈ own.map (·.2)) (hc : X.calm = true) (hN : X.N.Nodup) (hi : QI X xa W tg iter mi) (ok : BlkOk X.N X.env.scope scope own) (hg : ∀ i, PG (blkAt X scope i) tg u) (hs : SimG X.K u g) (ht : ∀ i, QTs (blkAt X scope i) xa W0 ifs c) (he : ∀ i, QV (blkAt X scope i) xa W0 elt e)
    (hfs : ∀ x, foldedSetIterable iter X.env x = pure x := by intro _; rfl) : QV X xa W (.ListComp elt [⟨tg, iter, ifs, 0⟩] scope pos) (vLc (own.map (·.2)) mi g c e) := by
  obtain ⟨wi, tt, te, p1, p2, p3, _, s⟩ := lc_parts hv hi hs ht he
  exact ⟨_, pe_lc hc hN p1 ok (fun s H C cl fp => hg (s, H, C, cl, fp)) (fun s H C cl fp => p2 (s, H, C, cl, fp)) (fun s H C cl fp => p3 (s, H, C, cl, fp)) hfs, s⟩
theorem qe_lc (hv : ∀ i ∈ g.names, i ∈ own.map (·.2)) (hc : X.calm = true) (hN : X.N.Nodup) (hi : QI X xa W tg iter mi) (ok : BlkOk X.N X.env.scope scope own) (hg : ∀ i, PG (blkAt X scope i) tg u) (hs : SimG X.K u g) (ht : ∀ i, QTs (blkAt X scope i) xa W0 ifs c) (he : ∀ i, QV (blkAt X scope i) xa W0 elt e)
    (hfs : ∀ x, foldedSetIterable iter X.env x = pure x := by intro _; rfl) : QE X xa W (.ListComp elt [⟨tg, iter, ifs, 0⟩] scope pos) (eLc (own.map (·.2)) mi g c e) := by
  obtain ⟨wi, tt, te, p1, p2, p3, s, _⟩ := lc_parts hv hi hs ht he
  exact ⟨_, pe_lc hc hN p1 ok (fun s H C cl fp => hg (s, H, C, cl, fp)) (fun s H C cl fp => p2 (s, H, C, cl, fp)) (fun s H C cl fp => p3 (s, H, C, cl, fp)) hfs, s⟩
theorem qs_setLc {i : Nat} {y : Str} {py spos : Pos} (hp : P i = false) (hv : ∀ i ∈ g.names, i ∈ own.map (·.2)) (hc : X.calm = true) (hN : X.N.Nodup) (hy : X.N[i]? = some y) (hyl : X.env.scope.names.lookup y = some .local)
    (hsw : swapsWith (.ListComp elt [⟨tg, iter, ifs, 0⟩] scope pos) (some (.Name y py)) spos.line X.env = pure true) (hi : QI X xa W tg iter mi) (ok : BlkOk X.N X.env.scope scope own) (hg : ∀ i, PG (blkAt X scope i) tg u) (hs : SimG X.K u g) (ht : ∀ i, QTs (blkAt X scope i) xa W0 ifs c) (he : ∀ i, QV (blkAt X scope i) xa W0 elt e)
    (hfs : ∀ x, foldedSetIterable iter X.env x = pure x := by intro _; rfl) : QS X xa W P (.Assign [.Name y py] (.ListComp elt [⟨tg, iter, ifs, 0⟩] scope pos) spos) (sSet i (vLc (own.map (·.2)) mi g c e)) := by
  obtain ⟨wi, tt, te, p1, p2, p3, _, s⟩ := lc_parts hv hi hs ht he
  exact ⟨_, ps_setLc hc hN hy hyl hsw p1 ok (fun s H C cl fp => hg (s, H, C, cl, fp)) (fun s H C cl fp => p2 (s, H, C, cl, fp)) (fun s H C cl fp => p3 (s, H, C, cl, fp)) hfs, sim_set hp s⟩
theorem qs_setLcE {i : Nat} {y : Str} {py spos : Pos} (hp : P i = false) (hv : ∀ i ∈ g.names, i ∈ own.map (·.2)) (hc : X.calm = true) (hN : X.N.Nodup) (hy : X.N[i]? = some y) (hyl : X.env.scope.names.lookup y = some .local)
    (hsw : swapsWith (.ListComp elt [⟨tg, iter, ifs, 0⟩] scope pos) (some (.Name y py)) spos.line X.env = pure true) (hi : QI X xa W tg iter mi) (ok : BlkOk X.N X.env.scope scope own) (hg : ∀ i, PG (blkAt X scope i) tg u) (hs : SimG X.K u g) (ht : ∀ i, QTs (blkAt X scope i) xa W0 ifs c) (he : ∀ i, QV (blkAt X scope i) xa W0 elt e)
    (hfs : ∀ x, foldedSetIterable iter X.env x = pure x := by intro _; rfl) : QS X xa W P (.Assign [.Name y py] (.ListComp elt [⟨tg, iter, ifs, 0⟩] scope pos) spos) (sSetE i (eLc (own.map (·.2)) mi g c e)) := by
  obtain ⟨wi, tt, te, p1, p2, p3, s, _⟩ := lc_parts hv hi hs ht he
  exact ⟨_, ps_setLc hc hN hy hyl hsw p1 ok (fun s H C cl fp => hg (s, H, C, cl, fp)) (fun s H C cl fp => p2 (s, H, C, cl, fp)) (fun s H C cl fp => p3 (s, H, C, cl, fp)) hfs, sim_setE hp s⟩
end


/-! ### owned lists -/
def ol : Option T → Option (List PyData)
  | some (.nd (.lst true) ts) => allF ts
  | _ => none
theorem ol_lst (ds : List PyData) : ol (some (.lst (ds.map T.f))) = some ds := allF_f ds
/-- x.append(e), x in slot i -/
def vApp (i : Nat) (m : MV) : MV := fun ρ => match ol (gt ρ i) with
  | none => .no
  | some _ => (m ρ).bd fun d ρ => match ol (gt ρ i) with
    | some ds => if ds.length < sizeLine then .ok .none (st ρ i (some (.lst ((ds ++ [d]).map T.f)))) else .no
    | none => .no
/-- x.extend([..]) -/
def vExt (i : Nat) (m : MA) : MV := fun ρ => match ol (gt ρ i) with
  | none => .no
  | some _ => (m ρ).bd fun es ρ => match ol (gt ρ i) with
    | some ds => if es.length ≤ sizeLine ∧ ds.length + es.length ≤ sizeLine then .ok .none (st ρ i (some (.lst ((ds ++ es).map T.f)))) else .no
    | none => .no
def vPop (i : Nat) : MV := fun ρ => match ol (gt ρ i) with
  | some ds => (match ds.getLast? with
    | some d => .ok d (st ρ i (some (.lst (ds.dropLast.map T.f))))
    | none => .no)
  | none => .no
def vClr (i : Nat) : MV := fun ρ => match ol (gt ρ i) with
  | some _ => .ok .none (st ρ i (some (.lst [])))
  | none => .no
def vLenS (i : Nat) : MV := fun ρ => match ol (gt ρ i) with
  | some ds => .ok (.int ds.length) ρ
  | none => .no
/-- x == [], x != [] -/
def bNil (neg : Bool) (i : Nat) : MB := fun ρ => match ol (gt ρ i) with
  | some ds => .ok (xor neg ds.isEmpty) ρ
  | none => .no
def vIxS (i : Nat) (m : MV) : MV := fun ρ => match ol (gt ρ i) with
  | none => .no
  | some _ => (m ρ).bd fun j ρ => match ol (gt ρ i) with
    | some ds => .of (pIx (.list ds) j) ρ
    | none => .no
/-- x[j] = e -/
def setD (ds : List PyData) (j d : PyData) : Option (List PyData) := match j with
  | .int k => (ixN ds.length k).map fun n => ds.set n d
  | _ => none
def sSetIx (i : Nat) (m j : MV) : MS := fun ρ => (m ρ).bd fun d ρ => match ol (gt ρ i) with
  | none => .no
  | some _ => (j ρ).bd fun k ρ => match ol (gt ρ i) with
    | some ds => (match setD ds k d with
      | some es => .ok .nx (st ρ i (some (.lst (es.map T.f))))
      | none => .no)
    | none => .no
section
variable {K : PySem.W.Frag} {xa : Nat → Addr} {W : WX} {P : Nat → Bool} {F H : Hp} {S : AS} {σ : L2.St} {ρ : MEnv}
theorem own_at {i : Nat} {ds : List PyData} (re : EnvR K F H σ ρ S) (gd : Gd F H S) (e : ol (gt ρ i) = some ds) : ∃ a vs, σ[i]? = some (some (.ref a)) ∧ H a = some (.lst vs) ∧ DqAll K F vs ds ∧
    ∀ vs' ds', DqAll K F vs' ds' → To F H S F (upd H a (.lst vs')) S ∧ EnvR K F (upd H a (.lst vs')) σ (st ρ i (some (.lst (ds'.map T.f)))) S := by
  cases e0 : gt ρ i with
  | none =>
    rw [e0] at e
    cases e
  | some t =>
    rw [e0] at e
    match t, e with
    | .nd (.lst true) ts, e =>
      have e : allF ts = some ds := e
      obtain ⟨v, S1, S2, e1, r1, r2, w1, w2, dj⟩ := re.take e0
      cases r1 with
      | @nd a _ vs _ _ Sf c hl hc hs hd hn =>
        obtain ⟨c1, c2, c3⟩ : F a = none ∧ H a = some (.lst vs) ∧ S1 a := c
        refine ⟨a, vs, e1, c2, allF_dq (H := H) e hl hc, fun vs' ds' h' => ?_⟩
        have to : To F H S F (upd H a (.lst vs')) S := (To.refl gd).updO (w1 a c3)
        refine ⟨to, ?_⟩
        have r3 : EnvR K F (upd H a (.lst vs')) σ (st ρ i none) S2 := r2.upd (gd.wk w2) fun z => dj a c3 z
        have r4 := r3.back (i := i) (S' := fun b => b = a) e1 (own_rl c1 upd_same h') fun b z z' => dj a c3 (by rw [← z]; exact z')
        rw [st_st] at r4
        exact r4.wk fun b z => z.elim (fun z => by rw [z]; exact w1 a c3) (w2 b)
theorem ty_list {a : Addr} {vs : List V} (h : H a = some (.lst vs)) : tyV K "list" (.ref a) H := .inl ⟨rfl, vs, SqL.of h⟩
theorem sim_app {i : Nat} {t : TE} {m : MV} (h : SimV K xa W t m) : SimV K xa W (tBM K "list" rAppend (tVar i) (tCons t tNil)) (vApp i m) := by
  intro F H σ ρ S Q re gd q
  unfold vApp at q
  cases e : ol (gt ρ i) with
  | none =>
    rw [e] at q
    exact q.elim
  | some ds0 =>
    rw [e] at q
    obtain ⟨a, vs, e1, e2, _, _⟩ := own_at re gd e
    refine ⟨_, e1, ty_list e2, h F H σ ρ S _ re gd (PO.bind q fun d ρ1 v F1 H1 S1 t1 r1 h1 q1 => ?_)⟩
    cases e3 : ol (gt ρ1 i) with
    | none =>
      simp only [e3] at q1
      exact q1.elim
    | some ds =>
      simp only [e3] at q1
      obtain ⟨a', vs1, e4, e5, e6, up⟩ := own_at r1 t1.gd e3
      rw [e1] at e4
      cases e4
      by_cases c : ds.length < sizeLine
      · rw [if_pos c] at q1
        obtain ⟨to, r2⟩ := up (vs1 ++ [v]) (ds ++ [d]) (e6.cat (.cons h1 .nil))
        exact ⟨a, vs1, v, rfl, rfl, e5, by rw [e6.length]; exact c, q1 .non F1 _ S1 to r2 .non⟩
      · rw [if_neg c] at q1
        exact q1.elim
theorem sim_ext {i : Nat} {t : TA} {m : MA} (h : SimA K xa W t m) : SimV K xa W (tBM K "list" rExtend (tVar i) (tCons (tLst t) tNil)) (vExt i m) := by
  intro F H σ ρ S Q re gd q
  unfold vExt at q
  cases e : ol (gt ρ i) with
  | none =>
    rw [e] at q
    exact q.elim
  | some ds0 =>
    rw [e] at q
    obtain ⟨a, vs, e1, e2, _, _⟩ := own_at re gd e
    refine ⟨_, e1, ty_list e2, h F H σ ρ S _ re gd (PO.bind q fun es ρ1 us F1 H1 S1 t1 r1 h1 q1 => ?_)⟩
    cases e3 : ol (gt ρ1 i) with
    | none =>
      simp only [e3] at q1
      exact q1.elim
    | some ds =>
      simp only [e3] at q1
      by_cases c : es.length ≤ sizeLine ∧ ds.length + es.length ≤ sizeLine
      · rw [if_pos c] at q1
        refine ⟨by rw [h1.length]; exact c.1, fun p hp => ?_⟩
        have n := nw_new (o := .lst us) t1.gd.sm hp
        have t2 := n.to t1.gd
        obtain ⟨a', vs1, e4, e5, e6, up⟩ := own_at (n.env t1.gd r1) t2.gd e3
        rw [e1] at e4
        cases e4
        obtain ⟨to, r2⟩ := up (vs1 ++ us) (ds ++ es) (e6.cat (h1.same t2.fs))
        exact ⟨a, p, vs1, us, rfl, rfl, e5, upd_same, by rw [e6.length, h1.length]; exact c.2, q1 .non _ _ S1 (t2.trans to) r2 .non⟩
      · rw [if_neg c] at q1
        exact q1.elim
theorem last_V : ∀ {vs : List V} {ds : List PyData} {d : PyData}, DqAll K H vs ds → ds.getLast? = some d → ∃ v, vs[vs.length - 1]? = some v ∧ Dq K H v d := fun {vs ds d} h e => by
  rw [List.getLast?_eq_getElem?] at e
  obtain ⟨v, e1, e2⟩ := h.nth e
  exact ⟨v, by rw [h.length]; exact e1, e2⟩
theorem drop_V {vs : List V} {ds : List PyData} (h : DqAll K H vs ds) : DqAll K H vs.dropLast ds.dropLast := by
  rw [List.dropLast_eq_take, List.dropLast_eq_take, h.length]
  exact h.takeM _
theorem sim_pop {i : Nat} : SimV K xa W (tBM0 K "list" rPop (tVar i)) (vPop i) := by
  intro F H σ ρ S Q re gd q
  unfold vPop at q
  cases e : ol (gt ρ i) with
  | none =>
    rw [e] at q
    exact q.elim
  | some ds =>
    rw [e] at q
    obtain ⟨a, vs, e1, e2, e3, up⟩ := own_at re gd e
    have q : PO_ K xa W (RV_ K) F H σ S Q (match ds.getLast? with | some d => .ok d (st ρ i (some (.lst (ds.dropLast.map T.f)))) | none => .no) := q
    cases e4 : ds.getLast? with
    | none =>
      rw [e4] at q
      exact q.elim
    | some d =>
      rw [e4] at q
      obtain ⟨v, e5, e6⟩ := last_V e3 e4
      obtain ⟨to, r2⟩ := up _ _ (drop_V e3)
      exact ⟨_, e1, ty_list e2, a, vs, v, rfl, rfl, e2, e5, q v F _ S to r2 e6⟩
theorem sim_clr {i : Nat} : SimV K xa W (tBM0 K "list" rClear (tVar i)) (vClr i) := by
  intro F H σ ρ S Q re gd q
  unfold vClr at q
  cases e : ol (gt ρ i) with
  | none =>
    rw [e] at q
    exact q.elim
  | some ds =>
    rw [e] at q
    obtain ⟨a, vs, e1, e2, e3, up⟩ := own_at re gd e
    obtain ⟨to, r2⟩ := up [] [] .nil
    exact ⟨_, e1, ty_list e2, a, vs, rfl, rfl, e2, q .non F _ S to r2 .non⟩
theorem sim_lenS {i : Nat} : SimV K xa W (tCB (rLenA K) (tCons (tVar i) tNil)) (vLenS i) := by
  intro F H σ ρ S Q re gd q
  unfold vLenS at q
  cases e : ol (gt ρ i) with
  | none =>
    rw [e] at q
    exact q.elim
  | some ds =>
    rw [e] at q
    obtain ⟨a, vs, e1, e2, e3, _⟩ := own_at re gd e
    refine ⟨_, e1, .inl ⟨a, vs, rfl, .inl (SqL.of e2), ?_⟩⟩
    rw [e3.length]
    exact q _ F H S (To.refl gd) re (.int _)
theorem sim_nil_ {i : Nat} {neg : Bool} : SimB K xa W (tTest (tOp (rNilL K neg) (tVar i) (tLst tNil))) (bNil neg i) := by
  intro F H σ ρ S Q re gd q
  unfold bNil at q
  cases e : ol (gt ρ i) with
  | none =>
    rw [e] at q
    exact q.elim
  | some ds =>
    rw [e] at q
    obtain ⟨a, vs, e1, e2, e3, _⟩ := own_at re gd e
    refine ⟨_, e1, Nat.zero_le _, fun p hp => ?_⟩
    have n := nw_new (o := .lst []) gd.sm hp
    refine ⟨a, p, vs, rfl, rfl, SqL.of (n.hs _ _ e2), SqL.of upd_same, _, rfl, ?_⟩
    have em : vs.isEmpty = ds.isEmpty := by
      cases e3 <;> rfl
    rw [neg_if, em]
    exact q _ _ _ S (n.to gd) (n.env gd re) rfl
theorem sim_ixS {i : Nat} {t : TE} {m : MV} (h : SimV K xa W t m) : SimV K xa W (tOp (rIx K) (tVar i) t) (vIxS i m) := by
  intro F H σ ρ S Q re gd q
  unfold vIxS at q
  cases e : ol (gt ρ i) with
  | none =>
    rw [e] at q
    exact q.elim
  | some ds0 =>
    rw [e] at q
    obtain ⟨a, vs, e1, e2, _, _⟩ := own_at re gd e
    refine ⟨_, e1, h F H σ ρ S _ re gd (PO.bind q fun d ρ1 v F1 H1 S1 t1 r1 h1 q1 => ?_)⟩
    cases e3 : ol (gt ρ1 i) with
    | none =>
      simp only [e3] at q1
      exact q1.elim
    | some ds =>
      simp only [e3] at q1
      obtain ⟨a', vs1, e4, e5, e6, up⟩ := own_at r1 t1.gd e3
      rw [e1] at e4
      cases e4
      obtain ⟨z, ez, q2⟩ := PO.of q1
      have h1 : Dq K F1 v d := h1
      cases h1 with
      | int k =>
        obtain ⟨w, e7, e8⟩ := e6.at ez
        exact .inl ⟨a, vs1, k, w, rfl, rfl, SqL.of e5, e7, q2 w F1 H1 S1 (To.refl t1.gd) r1 e8⟩
      | _ => cases ez
theorem set_V : ∀ {vs : List V} {ds : List PyData} {v : V} {d : PyData} {n : Nat}, DqAll K H vs ds → Dq K H v d → DqAll K H (vs.set n v) (ds.set n d)
  | _, _, _, _, _, .nil, _ => .nil
  | _, _, _, _, 0, .cons _ r, h => .cons h r
  | _, _, _, _, n + 1, .cons a r, h => .cons a (set_V r h)
theorem sim_setIx {i : Nat} {t u : TE} {m j : MV} (h : SimV K xa W t m) (hj : SimV K xa W u j) : SimS K xa W P (tAsg t (gSub (tVar i) u rSetL)) (sSetIx i m j) := by
  intro F H σ ρ S D re gd q
  refine h F H σ ρ S _ re gd (PO.bindS q fun d ρ1 v F1 H1 S1 t1 r1 h1 q1 => ?_)
  cases e : ol (gt ρ1 i) with
  | none =>
    simp only [e] at q1
    exact q1.elim
  | some ds0 =>
    simp only [e] at q1
    obtain ⟨a, vs, e1, e2, _, _⟩ := own_at r1 t1.gd e
    refine ⟨_, e1, hj F1 H1 σ ρ1 S1 _ r1 t1.gd (PO.bindS q1 fun k ρ2 w F2 H2 S2 t2 r2 h2 q2 => ?_)⟩
    cases e3 : ol (gt ρ2 i) with
    | none =>
      simp only [e3] at q2
      exact q2.elim
    | some ds =>
      simp only [e3] at q2
      obtain ⟨a', vs1, e4, e5, e6, up⟩ := own_at r2 t2.gd e3
      rw [e1] at e4
      cases e4
      cases e7 : setD ds k d with
      | none =>
        simp only [e7] at q2
        exact q2.elim
      | some es =>
        simp only [e7] at q2
        have h2 : Dq K F2 w k := h2
        cases h2 with
        | int x =>
          have e7 : (ixN ds.length x).map (fun n => ds.set n d) = some es := e7
          cases e8 : ixN ds.length x with
          | none =>
            rw [e8] at e7
            cases e7
          | some n =>
            rw [e8] at e7
            cases e7
            obtain ⟨to, r3⟩ := up _ _ (set_V (n := n) e6 (h1.same t2.fs))
            exact ⟨a, vs1, x, n, rfl, rfl, e5, by rw [e6.length]; exact e8, q2 F2 _ σ S2 to r3 (Kp.refl P σ)⟩
        | _ => cases e7
end
section
variable {X : Cx} {xa : Nat → Addr} {W : WX} {P : Nat → Bool} {o e b : Expr} {es : List Expr} {pos apos cpos : Pos} {s : Stmt} {i : Nat} {m : MV}
theorem qv_app (h : QV X xa W e m) (f : ∀ t, PE X e t → PE X b (tBM X.K "list" rAppend (tVar i) (tCons t tNil))) : QV X xa W b (vApp i m) := let ⟨_, p, q⟩ := h; ⟨_, f _ p, sim_app q⟩
theorem qv_ext {ma : MA} (h : QA X xa W es ma) (f : ∀ t, PA X es t → PE X b (tBM X.K "list" rExtend (tVar i) (tCons (tLst t) tNil))) : QV X xa W b (vExt i ma) := let ⟨_, p, q⟩ := h; ⟨_, f _ p, sim_ext q⟩
theorem qv_pop (p : PE X b (tBM0 X.K "list" rPop (tVar i))) : QV X xa W b (vPop i) := ⟨_, p, sim_pop⟩
theorem qv_clr (p : PE X b (tBM0 X.K "list" rClear (tVar i))) : QV X xa W b (vClr i) := ⟨_, p, sim_clr⟩
theorem qv_lenS (p : PE X b (tCB (rLenA X.K) (tCons (tVar i) tNil))) : QV X xa W b (vLenS i) := ⟨_, p, sim_lenS⟩
theorem qb_nil {neg : Bool} (p : PT X b (tTest (tOp (rNilL X.K neg) (tVar i) (tLst tNil)))) : QB X xa W b (bNil neg i) := ⟨_, p, sim_nil_⟩
theorem qv_ixS (ho : PE X o (tVar i)) (h : QV X xa W e m) (hs : PlainIx e) : QV X xa W (.Subscript o e pos) (vIxS i m) := let ⟨_, p, q⟩ := h; ⟨_, pe_ix ix_seq ho p hs, sim_ixS q⟩
theorem qs_setIx {j : MV} {ej : Expr} (h : QV X xa W e m) (hj : QV X xa W ej j) (f : ∀ t u, PE X e t → PE X ej u → PS X s (tAsg t (gSub (tVar i) u rSetL))) : QS X xa W P s (sSetIx i m j) := let ⟨_, p, q⟩ := h; let ⟨_, p', q'⟩ := hj; ⟨_, f _ _ p p', sim_setIx q q'⟩
end


def topS (i : Nat) : Stmt := PySem.Challenge.pw_fairseek_k12_joined_terms.main.body.getD i (.Pass ⟨0, 0, 0, 0⟩)
abbrev s_is_whole : Stmt := topS 7
abbrev s_is_within : Stmt := topS 8
abbrev s_is_name : Stmt := topS 9
abbrev s_is_unknown : Stmt := topS 14
abbrev s_is_pair : Stmt := topS 15
abbrev s_is_single : Stmt := topS 16
abbrev s_is_term : Stmt := topS 17
abbrev s_need_term : Stmt := topS 18
abbrev s_parts_within : Stmt := topS 19
abbrev s_numbers_in : Stmt := topS 20
abbrev s_turned_into : Stmt := topS 21
abbrev s_by_coming : Stmt := topS 22
abbrev s_instance : Stmt := topS 24
abbrev s_are_variants : Stmt := topS 25
abbrev s_joined_within : Stmt := topS 26
abbrev s_joined : Stmt := topS 27
abbrev s_l_cell : Stmt := topS 29
abbrev s_l_box : Stmt := topS 30
abbrev s_l_take : Stmt := topS 31
abbrev s_l_name : Stmt := topS 32
abbrev s_l_single : Stmt := topS 33
abbrev s_l_term : Stmt := topS 34
abbrev s_l_numbers : Stmt := topS 35
abbrev s_l_near : Stmt := topS 36
abbrev s_l_put : Stmt := topS 37
abbrev s_l_joined : Stmt := topS 38
abbrev s_l_right : Stmt := topS 39
abbrev s_law : Stmt := topS 40
abbrev s_NoTerm_init : Stmt := inClass (topS 2) 0
structure Env (K : PySem.W.Frag) (mg : Str → Option Value) where
  a_is_whole : Addr
  d_is_whole : FuncData
  F_is_whole : Fun K "is_whole" "is_whole" s_is_whole a_is_whole d_is_whole
  b_is_whole : Binds K d_is_whole ["thing"] []
  g_is_whole : mg "is_whole" = some (.ref a_is_whole)
  a_is_within : Addr
  d_is_within : FuncData
  F_is_within : Fun K "is_within" "is_within" s_is_within a_is_within d_is_within
  b_is_within : Binds K d_is_within ["thing", "low", "high"] []
  g_is_within : mg "is_within" = some (.ref a_is_within)
  a_is_name : Addr
  d_is_name : FuncData
  F_is_name : Fun K "is_name" "is_name" s_is_name a_is_name d_is_name
  b_is_name : Binds K d_is_name ["thing"] []
  g_is_name : mg "is_name" = some (.ref a_is_name)
  a_is_unknown : Addr
  d_is_unknown : FuncData
  F_is_unknown : Fun K "is_unknown" "is_unknown" s_is_unknown a_is_unknown d_is_unknown
  b_is_unknown : Binds K d_is_unknown ["thing"] []
  g_is_unknown : mg "is_unknown" = some (.ref a_is_unknown)
  a_is_pair : Addr
  d_is_pair : FuncData
  F_is_pair : Fun K "is_pair" "is_pair" s_is_pair a_is_pair d_is_pair
  b_is_pair : Binds K d_is_pair ["term"] []
  g_is_pair : mg "is_pair" = some (.ref a_is_pair)
  a_is_single : Addr
  d_is_single : FuncData
  F_is_single : Fun K "is_single" "is_single" s_is_single a_is_single d_is_single
  b_is_single : Binds K d_is_single ["thing"] []
  g_is_single : mg "is_single" = some (.ref a_is_single)
  a_is_term : Addr
  d_is_term : FuncData
  F_is_term : Fun K "is_term" "is_term" s_is_term a_is_term d_is_term
  b_is_term : Binds K d_is_term ["thing"] []
  g_is_term : mg "is_term" = some (.ref a_is_term)
  a_need_term : Addr
  d_need_term : FuncData
  F_need_term : Fun K "need_term" "need_term" s_need_term a_need_term d_need_term
  b_need_term : Binds K d_need_term ["thing"] []
  g_need_term : mg "need_term" = some (.ref a_need_term)
  a_parts_within : Addr
  d_parts_within : FuncData
  F_parts_within : Fun K "parts_within" "parts_within" s_parts_within a_parts_within d_parts_within
  b_parts_within : Binds K d_parts_within ["term"] []
  g_parts_within : mg "parts_within" = some (.ref a_parts_within)
  a_numbers_in : Addr
  d_numbers_in : FuncData
  F_numbers_in : Fun K "numbers_in" "numbers_in" s_numbers_in a_numbers_in d_numbers_in
  b_numbers_in : Binds K d_numbers_in ["term"] []
  g_numbers_in : mg "numbers_in" = some (.ref a_numbers_in)
  a_turned_into : Addr
  d_turned_into : FuncData
  F_turned_into : Fun K "turned_into" "turned_into" s_turned_into a_turned_into d_turned_into
  b_turned_into : Binds K d_turned_into ["term", "values"] []
  g_turned_into : mg "turned_into" = some (.ref a_turned_into)
  a_by_coming : Addr
  d_by_coming : FuncData
  F_by_coming : Fun K "by_coming" "by_coming" s_by_coming a_by_coming d_by_coming
  b_by_coming : Binds K d_by_coming ["terms"] []
  g_by_coming : mg "by_coming" = some (.ref a_by_coming)
  a_instance : Addr
  d_instance : FuncData
  F_instance : Fun K "instance" "instance" s_instance a_instance d_instance
  b_instance : Binds K d_instance ["wider", "term"] []
  g_instance : mg "instance" = some (.ref a_instance)
  a_are_variants : Addr
  d_are_variants : FuncData
  F_are_variants : Fun K "are_variants" "are_variants" s_are_variants a_are_variants d_are_variants
  b_are_variants : Binds K d_are_variants ["one", "other"] []
  g_are_variants : mg "are_variants" = some (.ref a_are_variants)
  a_joined_within : Addr
  d_joined_within : FuncData
  F_joined_within : Fun K "joined_within" "joined_within" s_joined_within a_joined_within d_joined_within
  b_joined_within : Binds K d_joined_within ["one", "other", "found"] []
  g_joined_within : mg "joined_within" = some (.ref a_joined_within)
  a_joined : Addr
  d_joined : FuncData
  F_joined : Fun K "joined" "joined" s_joined a_joined d_joined
  b_joined : Binds K d_joined ["one", "other"] []
  g_joined : mg "joined" = some (.ref a_joined)
  a_l_cell : Addr
  d_l_cell : FuncData
  F_l_cell : Fun K "_law_cell" "_law_cell" s_l_cell a_l_cell d_l_cell
  b_l_cell : Binds K d_l_cell ["_law_script", "_law_k"] []
  g_l_cell : mg "_law_cell" = some (.ref a_l_cell)
  a_l_box : Addr
  d_l_box : FuncData
  F_l_box : Fun K "_law_box" "_law_box" s_l_box a_l_box d_l_box
  b_l_box : Binds K d_l_box ["_law_cell_here"] []
  g_l_box : mg "_law_box" = some (.ref a_l_box)
  a_l_take : Addr
  d_l_take : FuncData
  F_l_take : Fun K "_law_take" "_law_take" s_l_take a_l_take d_l_take
  b_l_take : Binds K d_l_take ["_law_box_here", "_law_many"] []
  g_l_take : mg "_law_take" = some (.ref a_l_take)
  a_l_name : Addr
  d_l_name : FuncData
  F_l_name : Fun K "_law_name" "_law_name" s_l_name a_l_name d_l_name
  b_l_name : Binds K d_l_name ["_law_box_here"] []
  g_l_name : mg "_law_name" = some (.ref a_l_name)
  a_l_single : Addr
  d_l_single : FuncData
  F_l_single : Fun K "_law_single" "_law_single" s_l_single a_l_single d_l_single
  b_l_single : Binds K d_l_single ["_law_box_here", "_law_numbers_here"] []
  g_l_single : mg "_law_single" = some (.ref a_l_single)
  a_l_term : Addr
  d_l_term : FuncData
  F_l_term : Fun K "_law_term" "_law_term" s_l_term a_l_term d_l_term
  b_l_term : Binds K d_l_term ["_law_box_here", "_law_numbers_here", "_law_deep"] []
  g_l_term : mg "_law_term" = some (.ref a_l_term)
  a_l_numbers : Addr
  d_l_numbers : FuncData
  F_l_numbers : Fun K "_law_numbers" "_law_numbers" s_l_numbers a_l_numbers d_l_numbers
  b_l_numbers : Binds K d_l_numbers ["_law_box_here"] []
  g_l_numbers : mg "_law_numbers" = some (.ref a_l_numbers)
  a_l_near : Addr
  d_l_near : FuncData
  F_l_near : Fun K "_law_near" "_law_near" s_l_near a_l_near d_l_near
  b_l_near : Binds K d_l_near ["_law_box_here", "_law_term_here", "_law_numbers_here"] []
  g_l_near : mg "_law_near" = some (.ref a_l_near)
  a_l_put : Addr
  d_l_put : FuncData
  F_l_put : Fun K "_law_put" "_law_put" s_l_put a_l_put d_l_put
  b_l_put : Binds K d_l_put ["_law_term_here", "_law_values"] []
  g_l_put : mg "_law_put" = some (.ref a_l_put)
  a_l_joined : Addr
  d_l_joined : FuncData
  F_l_joined : Fun K "_law_joined" "_law_joined" s_l_joined a_l_joined d_l_joined
  b_l_joined : Binds K d_l_joined ["_law_one", "_law_other", "_law_found"] []
  g_l_joined : mg "_law_joined" = some (.ref a_l_joined)
  a_l_right : Addr
  d_l_right : FuncData
  F_l_right : Fun K "_law_right" "_law_right" s_l_right a_l_right d_l_right
  b_l_right : Binds K d_l_right ["_law_one", "_law_other"] []
  g_l_right : mg "_law_right" = some (.ref a_l_right)
  a_law : Addr
  d_law : FuncData
  F_law : Fun K "law" "law" s_law a_law d_law
  b_law : Binds K d_law ["_law_script"] []
  g_law : mg "law" = some (.ref a_law)
  a_NoTerm : Addr
  g_NoTerm : mg "NoTerm" = some (.ref a_NoTerm)
  x_NoTerm : OexC K a_NoTerm
  y_NoTerm : ExcC K a_NoTerm
  f_NoTerm : XfC K a_NoTerm
  i_NoTerm : Addr
  di_NoTerm : FuncData
  Fi_NoTerm : Fun K "__init__" "NoTerm.__init__" s_NoTerm_init i_NoTerm di_NoTerm
  bi_NoTerm : Binds K di_NoTerm ["self", "found"] []
  ii_NoTerm : PySem.W.findIn K (.ref a_NoTerm) "__init__" = some (some (.ref i_NoTerm))
  ti_NoTerm : PySem.W.typeIn K (.ref i_NoTerm) = some (.type "function")
  kv_NoTerm : PySem.W.kitOne K (.ref a_NoTerm) (.type "ValueError") = some true
  n_NoTerm_found : PySem.W.findIn K (.ref a_NoTerm) "found" = some none
  a_SeekError : Addr
  g_SeekError : mg "SeekError" = some (.ref a_SeekError)
  sga : PySem.W.specialIn K (.ref a_SeekError) "__getattribute__" = some (some (.builtin "type.__getattribute__"))
  srd : PySem.W.readsIn K a_SeekError (.type "type") = true
  svi : PySem.W.findCls K (.ref a_SeekError) (.type "type") "__init__" = some (.val (.builtin "ValueError.__init__"))
  km_NoTerm_NoTerm : PySem.W.kitOne K (.ref a_NoTerm) (.ref a_NoTerm) = some true
  em_NoTerm_NoTerm : PySem.W.exmOne K (.ref a_NoTerm) (.ref a_NoTerm) = some true
  km_NoTerm_SeekError : PySem.W.kitOne K (.ref a_NoTerm) (.ref a_SeekError) = some true
  em_NoTerm_SeekError : PySem.W.exmOne K (.ref a_NoTerm) (.ref a_SeekError) = some true
  m_ValueError : mg "ValueError" = none
  m_all : mg "all" = none
  m_list : mg "list" = none
  m_sorted : mg "sorted" = none
  m_isinstance : mg "isinstance" = none
  m_tuple : mg "tuple" = none
  m_range : mg "range" = none
  m_int : mg "int" = none
  m_len : mg "len" = none
  m_max : mg "max" = none
  m_bool : mg "bool" = none
  m_str : mg "str" = none
  m_min : mg "min" = none
  t_LETTERS : Tok
  g_LETTERS : mg "LETTERS" = some (Value.str "abcdefghijklmnopqrstuvwxyz" t_LETTERS)
  t_LONGEST : Tok
  g_LONGEST : mg "LONGEST" = some (Value.int 8 t_LONGEST)
  a_OWN_WORDS : Addr
  g_OWN_WORDS : mg "OWN_WORDS" = some (.ref a_OWN_WORDS)
  q_OWN_WORDS : ∀ H : Hp, SqT K H a_OWN_WORDS [V.str "rel", V.str "same", V.str "unlike", V.str "one", V.str "both", V.str "fresh", V.str "call", V.str "not"]
  t_MOST_PARTS : Tok
  g_MOST_PARTS : mg "MOST_PARTS" = some (Value.int 100 t_MOST_PARTS)
  t_MOST_UNKNOWN : Tok
  g_MOST_UNKNOWN : mg "MOST_UNKNOWN" = some (Value.int 999999999 t_MOST_UNKNOWN)
  t_GREATEST : Tok
  g_GREATEST : mg "GREATEST" = some (Value.int 999999999999999999999999999999 t_GREATEST)
theorem sc_is_whole : FnScope ["thing"] ["thing"] (defScope s_is_whole) := ⟨rfl, rfl, rfl, by decide +kernel, rfl, by decide +kernel, by decide +kernel⟩
theorem sc_is_within : FnScope ["thing", "low", "high"] ["thing", "low", "high"] (defScope s_is_within) := ⟨rfl, rfl, rfl, by decide +kernel, rfl, by decide +kernel, by decide +kernel⟩
theorem sc_is_name : FnScope ["thing", "sign"] ["thing"] (defScope s_is_name) := ⟨rfl, rfl, rfl, by decide +kernel, rfl, by decide +kernel, by decide +kernel⟩
theorem sc_is_unknown : FnScope ["thing"] ["thing"] (defScope s_is_unknown) := ⟨rfl, rfl, rfl, by decide +kernel, rfl, by decide +kernel, by decide +kernel⟩
theorem sc_is_pair : FnScope ["term"] ["term"] (defScope s_is_pair) := ⟨rfl, rfl, rfl, by decide +kernel, rfl, by decide +kernel, by decide +kernel⟩
theorem sc_is_single : FnScope ["thing"] ["thing"] (defScope s_is_single) := ⟨rfl, rfl, rfl, by decide +kernel, rfl, by decide +kernel, by decide +kernel⟩
theorem sc_is_term : FnScope ["thing", "left", "seen", "part"] ["thing"] (defScope s_is_term) := ⟨rfl, rfl, rfl, by decide +kernel, rfl, by decide +kernel, by decide +kernel⟩
theorem sc_need_term : FnScope ["thing"] ["thing"] (defScope s_need_term) := ⟨rfl, rfl, rfl, by decide +kernel, rfl, by decide +kernel, by decide +kernel⟩
theorem sc_parts_within : FnScope ["term", "left", "found", "part"] ["term"] (defScope s_parts_within) := ⟨rfl, rfl, rfl, by decide +kernel, rfl, by decide +kernel, by decide +kernel⟩
theorem sc_numbers_in : FnScope ["term", "found", "part"] ["term"] (defScope s_numbers_in) := ⟨rfl, rfl, rfl, by decide +kernel, rfl, by decide +kernel, by decide +kernel⟩
theorem sc_turned_into : FnScope ["term", "values"] ["term", "values"] (defScope s_turned_into) := ⟨rfl, rfl, rfl, by decide +kernel, rfl, by decide +kernel, by decide +kernel⟩
theorem sc_by_coming : FnScope ["terms", "values", "term", "number"] ["terms"] (defScope s_by_coming) := ⟨rfl, rfl, rfl, by decide +kernel, rfl, by decide +kernel, by decide +kernel⟩
theorem sc_instance : FnScope ["wider", "term", "found", "left", "one", "other"] ["wider", "term"] (defScope s_instance) := ⟨rfl, rfl, rfl, by decide +kernel, rfl, by decide +kernel, by decide +kernel⟩
theorem sc_are_variants : FnScope ["one", "other"] ["one", "other"] (defScope s_are_variants) := ⟨rfl, rfl, rfl, by decide +kernel, rfl, by decide +kernel, by decide +kernel⟩
theorem sc_joined_within : FnScope ["one", "other", "found", "first"] ["one", "other", "found"] (defScope s_joined_within) := ⟨rfl, rfl, rfl, by decide +kernel, rfl, by decide +kernel, by decide +kernel⟩
theorem sc_joined : FnScope ["one", "other"] ["one", "other"] (defScope s_joined) := ⟨rfl, rfl, rfl, by decide +kernel, rfl, by decide +kernel, by decide +kernel⟩
theorem sc_l_cell : FnScope ["_law_script", "_law_k"] ["_law_script", "_law_k"] (defScope s_l_cell) := ⟨rfl, rfl, rfl, by decide +kernel, rfl, by decide +kernel, by decide +kernel⟩
theorem sc_l_box : FnScope ["_law_cell_here"] ["_law_cell_here"] (defScope s_l_box) := ⟨rfl, rfl, rfl, by decide +kernel, rfl, by decide +kernel, by decide +kernel⟩
theorem sc_l_take : FnScope ["_law_box_here", "_law_many", "_law_number"] ["_law_box_here", "_law_many"] (defScope s_l_take) := ⟨rfl, rfl, rfl, by decide +kernel, rfl, by decide +kernel, by decide +kernel⟩
theorem sc_l_name : FnScope ["_law_box_here", "_law_letters", "_law_name_here", "_law_k"] ["_law_box_here"] (defScope s_l_name) := ⟨rfl, rfl, rfl, by decide +kernel, rfl, by decide +kernel, by decide +kernel⟩
theorem sc_l_single : FnScope ["_law_box_here", "_law_numbers_here", "_law_way"] ["_law_box_here", "_law_numbers_here"] (defScope s_l_single) := ⟨rfl, rfl, rfl, by decide +kernel, rfl, by decide +kernel, by decide +kernel⟩
theorem sc_l_term : FnScope ["_law_box_here", "_law_numbers_here", "_law_deep"] ["_law_box_here", "_law_numbers_here", "_law_deep"] (defScope s_l_term) := ⟨rfl, rfl, rfl, by decide +kernel, rfl, by decide +kernel, by decide +kernel⟩
theorem sc_l_numbers : FnScope ["_law_box_here", "_law_base", "_law_step", "_law_found", "_law_k"] ["_law_box_here"] (defScope s_l_numbers) := ⟨rfl, rfl, rfl, by decide +kernel, rfl, by decide +kernel, by decide +kernel⟩
theorem sc_l_near : FnScope ["_law_box_here", "_law_term_here", "_law_numbers_here"] ["_law_box_here", "_law_term_here", "_law_numbers_here"] (defScope s_l_near) := ⟨rfl, rfl, rfl, by decide +kernel, rfl, by decide +kernel, by decide +kernel⟩
theorem sc_l_put : FnScope ["_law_term_here", "_law_values"] ["_law_term_here", "_law_values"] (defScope s_l_put) := ⟨rfl, rfl, rfl, by decide +kernel, rfl, by decide +kernel, by decide +kernel⟩
theorem sc_l_joined : FnScope ["_law_one", "_law_other", "_law_found", "_law_pair", "_law_first", "_law_k"] ["_law_one", "_law_other", "_law_found"] (defScope s_l_joined) := ⟨rfl, rfl, rfl, by decide +kernel, rfl, by decide +kernel, by decide +kernel⟩
theorem sc_l_right : FnScope ["_law_one", "_law_other", "_law_found"] ["_law_one", "_law_other"] (defScope s_l_right) := ⟨rfl, rfl, rfl, by decide +kernel, rfl, by decide +kernel, by decide +kernel⟩
theorem sc_law : FnScope ["_law_script", "_law_k", "_law_box_here", "_law_numbers_here", "_law_wider", "_law_terms", "_law_turn", "_law_values", "_law_number", "_law_found", "_law_other", "_law_near_here", "_law_pairs", "_law_one", "_law_two"] ["_law_script"] (defScope s_law) := ⟨rfl, rfl, rfl, by decide +kernel, rfl, by decide +kernel, by decide +kernel⟩
theorem sc_NoTerm_init : FnScope ["self", "found"] ["self", "found"] (defScope s_NoTerm_init) := ⟨rfl, rfl, rfl, by decide +kernel, rfl, by decide +kernel, by decide +kernel⟩
/-! ### the exceptions' own __init__ -/
def sp_init1 (C : Addr) (f : Str) : Sp := fun vs H Q _ => ∃ (a : Addr) (v : V), vs = [.ref a, v] ∧ H a = some (exo a C none) ∧ ∀ d, H d = none → d ≠ a → Q .non (upd (upd H d (exd d [(f, v)])) a (exo a C (some d)))
/-- what is left of a made exception is its dict -/
theorem exc_heap {H : Hp} {a d : Addr} {o1 o2 o3 o4 : HO} (ha : H a = none) (hd : d ≠ a) : upd (del (upd (upd (upd H a o1) d o2) a o3) a) d o4 = upd H d o4 := by
  funext b
  by_cases h1 : b = d
  · subst h1
    rw [upd_same, upd_same]
  · rw [upd_ne h1, upd_ne h1]
    by_cases h2 : b = a
    · subst h2
      rw [del_same, ha]
    · rw [del_ne h2, upd_ne h2, upd_ne h1, upd_ne h2]
theorem un2 {k : Nat} {A : Around} (h : Room k A) : A.units + 200 < cLine := Nat.lt_of_le_of_lt (by omega) h.un
section
variable {P : Program} {w : World} {K : PySem.W.Frag} {mg : Str → Option Value} {base : Heap}
theorem ok_NoTerm (T : Env K mg) : FnOk P w K mg base CX0 1 T.i_NoTerm T.di_NoTerm ["self", "found"] (sp_init1 T.a_NoTerm "found") := by
  refine T.Fi_NoTerm.ok sc_NoTerm_init (fun vs H Q E h => ?_) (fun cdv A outer s H vs Q E hr h => ?_)
  · obtain ⟨a, v, rfl, _⟩ := h
    rfl
  · obtain ⟨a, v, rfl, ha, q⟩ := h
    refine ⟨_, pss_cons (ps_expr (pe_seinit (by rfl) T.g_SeekError T.sga T.srd T.svi (pa_cons (pv 0) (pa_cons pe_str pa_nil)))) (pss_one (ps_ost (pv 0) (pv 1))), ?_⟩
    exact ⟨_, rfl, a, T.a_NoTerm, [_], rfl, (by show 1 ≤ 1000; decide), T.x_NoTerm, ha, _, rfl, _, rfl, a, T.a_NoTerm, rfl, T.x_NoTerm, T.n_NoTerm_found, .inl ⟨ha, fun dx hd hne => q dx hd hne⟩⟩
end
/-- raise C(v): the reading, from the argument on -/
theorem raise1 {C : Addr} {f : Str} {v : V} {H : Hp} {Q : XK} (q : ∀ d, H d = none → Q (.ref C) (some d) (upd H d (.xd [(f, v)]))) :
    ([v] : List V).length ≤ 1000 ∧ ∀ a, H a = none → sp_init1 C f (.ref a :: ([v] ++ [])) (upd H a (exo a C none))
      (fun u H2 => u = .non ∧ ∃ (d : Addr) (fs : List (Str × V)), H2 a = some (exo a C (some d)) ∧ H2 d = some (exd d fs) ∧ H d = none ∧ Q (.ref C) (some d) (upd (del H2 a) d (.xd fs))) (fun _ _ _ => False) := by
  refine ⟨by show 1 ≤ 1000; decide, fun a ha => ⟨a, v, rfl, upd_same, fun d hd hne => ⟨rfl, d, [(f, v)], upd_same, ?_, ?_, ?_⟩⟩⟩
  · rw [upd_ne hne, upd_same]
  · rw [upd_ne hne] at hd
    exact hd
  · rw [exc_heap ha hne]
    rw [upd_ne hne] at hd
    exact q d hd


/-! ### repr -/
def shows (d : PyData) : Bool := d.showable && (decide (d.shown.length ≤ sizeLine) && decide (d.depth ≤ 190))
def pRepr : List PyData → Option PyData
  | [d] => if shows d = true then some (.str d.shown) else none
  | _ => none
def rReprA (K : PySem.W.Frag) : List V → Hp → VK → Prop := fun xs H Q => ∃ v d, xs = [v] ∧ Dq K H v d ∧ shows d = true ∧ Q (.str d.shown) H
theorem call_reprA {X : Cx} (hgd : X.A.guards = some []) (hu : X.A.units + 200 < cLine) : CallR X (.builtin "repr") (rReprA X.K) := by
  intro pins s σ H xs us Q I r h
  obtain ⟨v, d, rfl, hq, hs, q⟩ := h
  obtain ⟨hs, h2⟩ := Bool.and_eq_true_iff.mp hs
  obtain ⟨hz, hd⟩ := Bool.and_eq_true_iff.mp h2
  have hz := of_decide_eq_true hz
  have hd := of_decide_eq_true hd
  obtain ⟨u, rfl, rx⟩ := vals1 r
  have fin : ∀ tk tk', EP X pins σ Q (.str d.shown tk) { s with toks := tk' } := fun tk tk' => ⟨.str d.shown, H, I.tok tk', ⟨tk, rfl⟩, q⟩
  cases hq with
  | non =>
    cases rx
    exact PySem.P.repr_of_none (fin _ _)
  | bl b =>
    cases rx
    cases b <;> exact PySem.P.repr_of_bool (fin _ _)
  | int i =>
    obtain ⟨t, rfl⟩ := rx
    exact PySem.P.repr_of_int (of_decide_eq_true hs) (fin _ _)
  | str x =>
    obtain ⟨t, rfl⟩ := rx
    exact PySem.P.repr_of_str (fin _ _) hz
  | @lst a ys ds hl ha =>
    cases rx
    obtain ⟨its, rv, ⟨o, n, ho, hc, _, hda⟩, _⟩ := I.list hl
    obtain ⟨⟨as, hr⟩, bs, hb, hk⟩ := DqAll.rk I ds _ its ha rv hs fun t ht => Nat.le_trans (listText_mem_le ht) hz
    have rd : Reads s.heap (.ref a) (.list ds) _ := Reads.list ho hc hda hr
    have hd' : PyData.depthAll ds + 1 ≤ 190 := hd
    cases its with
    | nil =>
      have hr' : ReadsAll s.heap [] ds as := hr
      cases hr'
      exact call_repr_slot (by omega) ⟨o, ho, hc⟩ F.slot_list_repr.toG (call_list_repr_empty ⟨o, ho, hc⟩ ho hda ⟨_, _, rfl, fin _ _⟩)
    | cons x l =>
      refine call_repr_slot (by omega) ⟨o, ho, hc⟩ F.slot_list_repr.toG (call_list_reprK ho hc hda (not_mem_of_deeper rd (Nat.lt_succ_self _) hb) (by simpa using hk.length_eq) (fun i y e => hk.item i y (by simpa using e)) hgd (fun b _ => Clear.nil b)
        (by show X.A.units + 1 + (PyData.depthAll ds + 1) < cLine; omega) (fun _ _ e => e) (fun h' u tk k => ⟨_, _, rfl, .str (PyData.shown (.list ds)), H, I.kept k, ⟨_, rfl⟩, q⟩) hz)
  | @tup a ys ds hl ha =>
    cases rx
    obtain ⟨its, rv, ⟨o, ho, hc, n, hda⟩, _⟩ := I.tuple hl
    obtain ⟨⟨as, hr⟩, bs, hb, hk⟩ := DqAll.rk I ds _ its ha rv hs fun t ht => Nat.le_trans (tupleText_mem_le ht) hz
    have rd : Reads s.heap (.ref a) (.tuple ds) _ := Reads.tuple ho hc hda hr
    have hd' : PyData.depthAll ds + 1 ≤ 190 := hd
    exact call_repr_slot (by omega) ⟨o, ho, hc⟩ F.slot_tuple_repr (call_tuple_reprK ho hc hda (not_mem_of_deeper rd (Nat.lt_succ_self _) hb) hk hgd (fun b _ => Clear.nil b)
        (by show X.A.units + 1 + (PyData.depthAll ds + 1) < cLine; omega) (fun _ _ e => e) (fun h' u tk k => ⟨_, _, rfl, .str (PyData.shown (.tuple ds)), H, I.kept k, ⟨_, rfl⟩, q⟩) hz)
  | @dct a ha =>
    cases rx
    obtain ⟨_, hsys, vs, hv, o, es, ep, ho, hc, hda, _, he, _⟩ := (show ObjOk X.prog X.w H s.heap a (.dK []) from I.hok a _ ha)
    cases hv
    have he' : es.toList = [] := by
      cases hp : es.toList with
      | nil => rfl
      | cons x l =>
        rw [hp] at he
        cases he
    have e : es = #[] := by
      cases es
      cases he'
      rfl
    subst e
    exact call_repr_slot (by omega) ⟨o, ho, hc.1⟩ F.slot_dict_repr (call_dict_reprK (as := []) (d := 0) (ps := []) ho hc.1 hda hsys (fun z => nomatch z) .nil hgd (fun b _ => Clear.nil b) (by show X.A.units + 1 + (0 + 1) < cLine; omega) (fun _ _ e => e)
      (fun h' u tk k => ⟨_, _, rfl, .str (PyData.shown (.dict [])), H, I.kept k, ⟨_, rfl⟩, q⟩) hz)
theorem o_repr {K : PySem.W.Frag} : OpN K (rReprA K) pRepr := by
  intro F H xs ds z Q sm hx hg q
  match ds, hx, hg with
  | [d], .cons hd .nil, hg =>
    have hg' : (if shows d = true then some (PyData.str d.shown) else none) = some z := hg
    split at hg'
    · rename_i c
      cases hg'
      exact ⟨_, d, rfl, hd.same sm, c, q _ F H (Nw.refl sm) (.str _)⟩
    · cases hg'
/-! ### raise -/
def sRaise (c : Nat) (f : Str) (m : MV) : MS := fun ρ => (m ρ).bd fun d ρ => .ex c [(f, d)] ρ
theorem sim_raise {K : PySem.W.Frag} {xa : Nat → Addr} {W : WX} {P : Nat → Bool} {c : Nat} {f : Str} {t : TE} {m : MV} (h : SimV K xa W t m) : SimS K xa W P (fun _ σ H => tMkO (xa c) (sp_init1 (xa c) f) [] (tCons t tNil) σ H fun cls d H' => W cls d σ H') (sRaise c f m) := by
  intro F H σ ρ S D re gd q
  refine h F H σ ρ S _ re gd (PO.bindS q fun d ρ1 v F1 H1 S1 t1 r1 h1 q1 => ?_)
  have key : ∀ dd, H1 dd = none → W (.ref (xa c)) (some dd) σ (upd H1 dd (.xd [(f, v)])) := fun dd hd => by
    have n := nw_new (o := .xd [(f, v)]) t1.gd.sm hd
    exact q1 (.ref (xa c)) (some dd) _ _ σ S1 (n.to t1.gd) (n.env t1.gd r1) ⟨dd, [(f, v)], rfl, rfl, upd_same, rfl, .cons (h1.same n.fs) .nil⟩ (Kp.refl P σ)
  exact raise1 (Q := fun cls d H' => W cls d σ H') key
theorem qs_raise {X : Cx} {xa : Nat → Addr} {W : WX} {P : Nat → Bool} {c : Nat} {f : Str} {e : Expr} {s : Stmt} {m : MV} (h : QV X xa W e m) (p : ∀ t, PE X e t → PS X s (fun _ σ H => tMkO (xa c) (sp_init1 (xa c) f) [] (tCons t tNil) σ H fun cls d H' => W cls d σ H')) : QS X xa W P s (sRaise c f m) := let ⟨_, pe, q⟩ := h; ⟨_, p _ pe, sim_raise q⟩
/-! ### try -/
/-- the class c stands under x; 0: SeekError -/
def exSub (c x : Nat) : Bool := c == x || x == 0
abbrev MH := Nat → List (Str × PyData) → MS
structure Hd where
  cls : Nat
  slot : Option Nat
  run : MH
def clearS : Option Nat → MEnv → MEnv
  | some i, ρ => st ρ i none
  | none, ρ => ρ
/-- the end of a suite: the name is gone -/
def suiteEnd (i : Option Nat) : Ou Fl → Ou Fl
  | .ok fl ρ => .ok fl (clearS i ρ)
  | _ => .no
def handle (XN : List Nat) : List Hd → Nat → List (Str × PyData) → MS
  | [], c, p, ρ => .ex c p ρ
  | h :: hs, c, p, ρ => if XN.contains c then (if exSub c h.cls then suiteEnd h.slot (h.run c p (clearS h.slot ρ)) else handle XN hs c p ρ) else .no
def sTry (XN : List Nat) (b : MS) (hs : List Hd) : MS := fun ρ => match b ρ with
  | .ex c p ρ' => handle XN hs c p ρ'
  | o => o
section
variable (K : PySem.W.Frag) (xa : Nat → Addr) (W : WX) (P : Nat → Bool) (F0 : Hp) (G : L2.St → Prop)
def Sim0 {α β : Type} (R : Hp → β → α → Prop) (t : L2.St → Hp → (β → Hp → Prop) → Prop) (m : MEnv → Ou α) : Prop := ∀ F H σ ρ S Q, Same F0 F → G σ → EnvR K F H σ ρ S → Gd F H S → PO_ K xa W R F H σ S Q (m ρ) → t σ H Q
def SimS0 (t : TS) (m : MS) : Prop := ∀ F H σ ρ S D, Same F0 F → G σ → EnvR K F H σ ρ S → Gd F H S → PS_ K xa W P D F H σ S (m ρ) → t D σ H
end
def QV0 (X : Cx) (xa : Nat → Addr) (W : WX) (F0 : Hp) (G : L2.St → Prop) (e : Expr) (m : MV) : Prop := ∃ t, PE X e t ∧ Sim0 X.K xa W F0 G (RV_ X.K) t m
def QA0 (X : Cx) (xa : Nat → Addr) (W : WX) (F0 : Hp) (G : L2.St → Prop) (es : List Expr) (m : MA) : Prop := ∃ t, PA X es t ∧ Sim0 X.K xa W F0 G (RA_ X.K) t m
def QS0 (X : Cx) (xa : Nat → Addr) (W : WX) (P : Nat → Bool) (F0 : Hp) (G : L2.St → Prop) (s : Stmt) (m : MS) : Prop := ∃ t, PS X s t ∧ SimS0 X.K xa W P F0 G t m
def QSs0 (X : Cx) (xa : Nat → Addr) (W : WX) (P : Nat → Bool) (F0 : Hp) (G : L2.St → Prop) (s : List Stmt) (m : MS) : Prop := ∃ t, PSs X s t ∧ SimS0 X.K xa W P F0 G t m
section
variable {X : Cx} {xa : Nat → Addr} {W : WX} {P : Nat → Bool} {F0 : Hp} {G : L2.St → Prop} {e : Expr} {es : List Expr} {s : Stmt} {ss : List Stmt} {pos : Pos} {m : MV} {ma : MA}
theorem q0_v (h : QV X xa W e m) : QV0 X xa W F0 G e m := let ⟨t, p, q⟩ := h; ⟨t, p, fun F H σ ρ S Q _ _ => q F H σ ρ S Q⟩
theorem q0_nil : QA0 X xa W F0 G [] aNil := ⟨_, pa_nil, fun F H σ ρ S Q _ _ => sim_nil F H σ ρ S Q⟩
theorem q0_cons (ha : QV0 X xa W F0 G e m) (hr : QA0 X xa W F0 G es ma) (hs : starEach (e :: es) X.env = (false, eval e X.env) :: starEach es X.env := by rfl) : QA0 X xa W F0 G (e :: es) (aCons m ma) := by
  obtain ⟨ta, pa, sa⟩ := ha
  obtain ⟨tr, pr, sr⟩ := hr
  refine ⟨_, pa_cons pa pr hs, fun F H σ ρ S Q s0 g0 re gd q => ?_⟩
  refine sa F H σ ρ S _ s0 g0 re gd (PO.bind q fun a ρ1 v F1 H1 S1 t1 r1 h1 q1 => sr F1 H1 σ ρ1 S1 _ (s0.trans t1.fs) g0 r1 t1.gd (PO.bind q1 fun b ρ2 u F2 H2 S2 t2 r2 h2 q2 => ?_))
  exact q2 _ F2 H2 S2 (To.refl t2.gd) r2 (.cons (h1.same t2.fs) h2)
theorem q0_tup {x1} (h : QA0 X xa W F0 G es ma) : QV0 X xa W F0 G (.Tuple es x1 pos) (vN pTup ma) := by
  obtain ⟨t, p, s⟩ := h
  refine ⟨_, pe_tup p, fun F H σ ρ S Q s0 g0 re gd q => ?_⟩
  refine s F H σ ρ S _ s0 g0 re gd (PO.bind q fun a ρ1 v F1 H1 S1 t1 r1 h1 q1 => ?_)
  obtain ⟨z, e, q3⟩ := PO.of q1
  unfold pTup at e
  split at e
  · rename_i c
    cases e
    refine ⟨by rw [h1.length]; exact c, fun p hp => ?_⟩
    have n := nw_new (o := .tup v) t1.gd.sm hp
    exact q3 _ _ _ S1 (n.to t1.gd) (n.env t1.gd r1) (new_tup (H := H1) h1 (t1.gd.sm.free hp))
  · cases e
theorem q0_lst (h : QA0 X xa W F0 G es ma) : QV0 X xa W F0 G (.List es pos) (vN pLst ma) := by
  obtain ⟨t, p, s⟩ := h
  refine ⟨_, pe_lst p, fun F H σ ρ S Q s0 g0 re gd q => ?_⟩
  refine s F H σ ρ S _ s0 g0 re gd (PO.bind q fun a ρ1 v F1 H1 S1 t1 r1 h1 q1 => ?_)
  obtain ⟨z, e, q3⟩ := PO.of q1
  unfold pLst at e
  split at e
  · rename_i c
    cases e
    refine ⟨by rw [h1.length]; exact c, fun p hp => ?_⟩
    have n := nw_new (o := .lst v) t1.gd.sm hp
    exact q3 _ _ _ S1 (n.to t1.gd) (n.env t1.gd r1) (new_lst (H := H1) h1 (t1.gd.sm.free hp))
  · cases e
theorem q0_ret (h : QV0 X xa W F0 G e m) : QS0 X xa W P F0 G (.Return (some e) pos) (sRet m) := by
  obtain ⟨t, p, s⟩ := h
  refine ⟨_, ps_ret p, fun F H σ ρ S D s0 g0 re gd q => ?_⟩
  exact s F H σ ρ S _ s0 g0 re gd (PO.bindS q fun x ρ1 v F1 H1 S1 t1 r1 h1 q1 => q1 v F1 H1 σ noS S1 (To.refl t1.gd).noS dj_no r1 (.f h1) (Kp.refl P σ))
theorem q0_set {i : Nat} (hp : P i = false) (h : QV0 X xa W F0 G e m) (f : ∀ t, PE X e t → PS X s (tAsg t (gName i))) : QS0 X xa W P F0 G s (sSet i m) := by
  obtain ⟨t, p, sm⟩ := h
  refine ⟨_, f _ p, fun F H σ ρ S D s0 g0 re gd q => ?_⟩
  exact sm F H σ ρ S _ s0 g0 re gd (PO.bindS q fun x ρ1 v F1 H1 S1 t1 r1 h1 q1 => q1 F1 H1 _ S1 (To.refl t1.gd) ((r1.put (i := i) (S' := noS) (.f h1) dj_no).wk fun _ z => or_no z) (Kp.set hp))
theorem q0_s {m : MS} (h : QS X xa W P s m) : QS0 X xa W P F0 G s m := let ⟨t, p, q⟩ := h; ⟨t, p, fun F H σ ρ S D _ _ => q F H σ ρ S D⟩
theorem q0_ss {m : MS} (h : QSs X xa W P ss m) : QSs0 X xa W P F0 G ss m := let ⟨t, p, q⟩ := h; ⟨t, p, fun F H σ ρ S D _ _ => q F H σ ρ S D⟩
theorem q0_one {m : MS} (h : QS0 X xa W P F0 G s m) : QSs0 X xa W P F0 G [s] m := let ⟨t, p, q⟩ := h; ⟨_, pss_one p, q⟩
theorem q0_seq {m m' : MS} (hG : ∀ σ σ', Kp P σ σ' → G σ → G σ') (h : QS0 X xa W P F0 G s m) (r : QSs0 X xa W P F0 G ss m') : QSs0 X xa W P F0 G (s :: ss) (sSeq m m') := by
  obtain ⟨t, p, ha⟩ := h
  obtain ⟨u, p', hb⟩ := r
  refine ⟨_, pss_cons p p', fun F H σ ρ S D s0 g0 re gd q => ha F H σ ρ S _ s0 g0 re gd ?_⟩
  have q : PS_ X.K xa W P D F H σ S ((m ρ).bd (thenS m')) := q
  cases e : m ρ with
  | no =>
    rw [e] at q
    exact q
  | ex c p ρ1 =>
    rw [e] at q
    exact q
  | ok fl ρ1 =>
    rw [e] at q
    cases fl with
    | nx => exact fun F' H' σ' S' t r k => hb F' H' σ' ρ1 S' D (s0.trans t.fs) (hG _ _ k g0) r t.gd (PS.step (show PS_ X.K xa W P D F H σ S (m' ρ1) from q) t k)
    | bk => exact q
    | ct => exact q
    | rt u => exact q
end
/-- a field of the caught exception -/
def vXf (f : Str) (p : List (Str × PyData)) : MV := fun ρ => .of (p.lookup f) ρ
theorem lookup_V {K : PySem.W.Frag} {F : Hp} {f : Str} {d : PyData} : ∀ {fs : List (Str × V)} {p : List (Str × PyData)}, fs.map (·.1) = p.map (·.1) → DqAll K F (fs.map (·.2)) (p.map (·.2)) → p.lookup f = some d → ∃ v, fs.lookup f = some v ∧ Dq K F v d
  | [], [], _, _, e => by cases e
  | [], _ :: _, h, _, _ => by cases h
  | _ :: _, [], h, _, _ => by cases h
  | (a, v) :: fs, (b, x) :: p, h, hd, e => by
    have h1 : a = b := (List.cons.inj h).1
    have h2 : fs.map (·.1) = p.map (·.1) := (List.cons.inj h).2
    subst h1
    cases hd with
    | cons q r =>
      rw [List.lookup_cons] at e ⊢
      cases c : f == a with
      | true =>
        rw [c] at e
        cases e
        exact ⟨v, rfl, q⟩
      | false =>
        rw [c] at e
        exact lookup_V h2 r e
abbrev atSlot (i : Nat) (a : Addr) : L2.St → Prop := fun σ => σ[i]? = some (some (.ref a))
abbrev pinI (P : Nat → Bool) (i : Nat) : Nat → Bool := fun j => P j || j == i
theorem pin_at {P : Nat → Bool} {i : Nat} {a : Addr} : ∀ σ σ', Kp (pinI P i) σ σ' → atSlot i a σ → atSlot i a σ' := fun σ σ' k h => (k i (by show (P i || i == i) = true; simp)).trans h
/-- facts of the exception classes -/
structure XFacts (K : PySem.W.Frag) (xa : Nat → Addr) (XN : List Nat) : Prop where
  em : ∀ c ∈ XN, ∀ x ∈ 0 :: XN, PySem.W.exmOne K (.ref (xa c)) (.ref (xa x)) = some (exSub c x)
  km : ∀ c ∈ XN, ∀ x ∈ 0 :: XN, PySem.W.kitOne K (.ref (xa c)) (.ref (xa x)) = some (exSub c x)
  ec : ∀ c ∈ XN, ExcC K (xa c)
section
variable {X : Cx} {xa : Nat → Addr} {W : WX} {P : Nat → Bool} {a : Addr} {oe : Obj} {cls : Value} {d : Option Addr} {pn : List (Addr × Obj)} {F0 : Hp} {c : Nat} {p : List (Str × PyData)} {i : Nat} {XN : List Nat}
/-- e.f; the slot of e holds the exception -/
theorem q0_xf {e : Expr} {f : Str} {pos : Pos} (T : XfC X.K (xa c)) (hno : PySem.W.findIn X.K (.ref (xa c)) f = some none) (hz : Zc cls d oe) (hf : ∃ vs, oe.data = .fields vs) (x : XR X.K xa F0 cls d c p) (he : PE (X.suite a ((a, oe) :: pn)) e (tVar i)) (hb : attributeBase e f X.env (eval e X.env) = eval e X.env := by rfl) :
    QV0 (X.suite a ((a, oe) :: pn)) xa W F0 (atSlot i a) (.Attribute e f pos) (vXf f p) := by
  refine ⟨_, pe_xf T hno hz hf he hb, fun F H σ ρ S Q s0 g0 re gd q => ?_⟩
  obtain ⟨z, e1, q1⟩ := PO.of q
  obtain ⟨dd, fs, ec, ed, hd, h1, h2⟩ := x
  obtain ⟨v, e2, e3⟩ := lookup_V h1 h2 e1
  exact ⟨.ref a, g0, rfl, ec, dd, fs, v, ed, gd.sm _ _ (s0 _ _ hd), e2, q1 v F H S (To.refl gd) re (e3.same s0)⟩
/-- isinstance(e, x) -/
theorem q0_isX {e b : Expr} {x : Nat} {pp pos : Pos} (XF : XFacts X.K xa XN) (hc : c ∈ XN) (hx : x ∈ 0 :: XN) (hg : Gl (X.suite a ((a, oe) :: pn)) "isinstance") (hm : X.mg "isinstance" = none) (hz : Zc cls d oe) (hf : ∃ vs, oe.data = .fields vs) (xr : XR X.K xa F0 cls d c p) (he : PE (X.suite a ((a, oe) :: pn)) e (tVar i)) (hb : PE (X.suite a ((a, oe) :: pn)) b (tC (.ref (xa x))))
    (h1 : starEach [e, b] X.env = (false, eval e X.env) :: starEach [b] X.env := by rfl) (h2 : starEach [b] X.env = (false, eval b X.env) :: starEach [] X.env := by rfl) (hpl : (backTo pos (starEach [b] X.env)).any (·.1) = false := by rfl) :
    QV0 (X.suite a ((a, oe) :: pn)) xa W F0 (atSlot i a) (.Call (.Name "isinstance" pp) [e, b] [] pos) (vC (.bool (exSub c x))) := by
  refine ⟨_, pe_callB (r := rIsX X.K a cls d) (call_isX hz hf) hg hm PyProof.Rows.boot_isinstance (pa_cons he (pa_cons hb pa_nil h2) h1) (by decide) (by decide) h1 hpl, fun F H σ ρ S Q s0 g0 re gd q => ?_⟩
  obtain ⟨dd, fs, ec, ed, hd, _, _⟩ := xr
  exact ⟨.ref a, g0, xa c, dd, fs, exSub c x, ec, ed, gd.sm _ _ (s0 _ _ hd), XF.ec c hc, .inl ⟨_, _, rfl, .own _, XF.km c hc x hx⟩, q _ F H S (To.refl gd) re (.bl _)⟩
end
/-! clauses -/
def QMix (X : Cx) (xa : Nat → Addr) (W : WX) (P : Nat → Bool) (XN : List Nat) (hds : List ExceptHandler) (hs : List Hd) : Prop := ∃ l, MixOk X hds l ∧
  ∀ D F H σ ρ S c p cls d, EnvR X.K F H σ ρ S → Gd F H S → XR X.K xa F cls d c p → PS_ X.K xa W P D F H σ S (handle XN hs c p ρ) → wMix X.K W D l cls d σ H
section
variable {X : Cx} {xa : Nat → Addr} {W : WX} {P : Nat → Bool} {XN : List Nat} {hds : List ExceptHandler} {hs : List Hd} {np ps : Pos} {b0 : Stmt} {bs : List Stmt} {xn : Str} {x : Nat} {h : MH}
theorem qm_nil : QMix X xa W P XN [] [] := ⟨[], .nil, fun D F H σ ρ S c p cls d re gd xr q => q cls d F H σ S (To.refl gd) re xr (Kp.refl P σ)⟩
theorem suite_named {n : Str} {i : Nat} (XF : XFacts X.K xa XN) (hx : x ∈ 0 :: XN) (hp : P i = false) (hc : Names X xn (.ref (xa x))) (hN : X.N.Nodup) (hi : X.N[i]? = some n) (hln : X.env.kindOf n = some .local)
    (hsu : ∀ a oe cls d pn, Zc cls d oe → (∃ vs, oe.data = .fields vs) → ∀ F0 c p, XR X.K xa F0 cls d c p → c ∈ XN → exSub c x = true → QSs0 (X.suite a ((a, oe) :: pn)) xa W0 (pinI P i) F0 (atSlot i a) (b0 :: bs) (h c p)) (hr : QMix X xa W P XN hds hs) :
    QMix X xa W P XN (.ExceptHandler (some (.Name xn np)) (some n) (b0 :: bs) ps :: hds) (⟨x, some i, h⟩ :: hs) := by
  obtain ⟨l, ml, sl⟩ := hr
  refine ⟨_, .named (ts := fun a cls d D σ H => ∀ oe pn pins s, Zc cls d oe → (∃ vs, oe.data = .fields vs) → Inv (X.suite a ((a, oe) :: pn)) pins σ H s → wpAny (model X.prog X.w) (X.suite a ((a, oe) :: pn)).A (execs (b0 :: bs) X.env) (SP (X.suite a ((a, oe) :: pn)) pins D) (fun _ _ => False) s) hc hN hi hln
    (fun a oe cls d pn hz hf => ⟨fun pins s σ H D I hh => hh oe pn pins s hz hf I⟩) ml, fun D F H σ ρ S c p cls d re gd xr q => ?_⟩
  obtain ⟨dd, fs, ec, rest⟩ := id xr
  have q : PS_ X.K xa W P D F H σ S (if XN.contains c then (if exSub c x then suiteEnd (some i) (h c p (st ρ i none)) else handle XN hs c p ρ) else .no) := q
  by_cases hcn : XN.contains c = true
  · rw [if_pos hcn] at q
    have hm : c ∈ XN := List.contains_iff_mem.mp hcn
    refine ⟨exSub c x, by rw [ec]; exact XF.em c hm x hx, fun hb a ha => ?_, fun hb => ?_⟩
    · rw [if_pos hb] at q
      intro oe pn pins s hz hf I
      obtain ⟨t, pt, sim⟩ := hsu a oe cls d pn hz hf F c p xr hm hb
      refine pt.run pins s _ H _ I (sim F H _ (st ρ i none) S _ (Same.refl F) ?_ re.drop gd ?_)
      · have hl : i < σ.length := by
          have h1 := I.len
          rw [List.length_set] at h1
          have h2 := (List.getElem?_eq_some_iff.mp hi).1
          rw [h1]
          exact h2
        exact List.getElem?_set_self hl
      · have kp : ∀ {σ' : L2.St}, Kp (pinI P i) (σ.set i (some (.ref a))) σ' → Kp P σ (σ'.set i none) := fun {σ'} k j hj => by
          have n : i ≠ j := fun e => by
            rw [e, hj] at hp
            cases hp
          rw [List.getElem?_set_ne n, k j (by show (P j || j == i) = true; rw [hj]; rfl), List.getElem?_set_ne n]
        cases e : h c p (st ρ i none) with
        | no =>
          rw [e] at q
          exact q.elim
        | ex cc pp ρ' =>
          rw [e] at q
          exact q.elim
        | ok fl ρ' =>
          rw [e] at q
          cases fl with
          | nx => exact fun F' H' σ' S' to re' k' => q F' H' _ S' to re'.drop (kp k')
          | bk => exact fun F' H' σ' S' to re' k' => q F' H' _ S' to re'.drop (kp k')
          | ct => exact fun F' H' σ' S' to re' k' => q F' H' _ S' to re'.drop (kp k')
          | rt t => exact fun v F' H' σ' S1 S2 to dj re' rv k' => q v F' H' (σ'.set i none) S1 S2 to dj re'.drop rv (kp k')
    · rw [hb, if_neg Bool.false_ne_true] at q
      exact sl D F H σ ρ S c p cls d re gd xr q
  · rw [if_neg hcn] at q
    exact q.elim
theorem suite_bare (XF : XFacts X.K xa XN) (hx : x ∈ 0 :: XN) (hc : Names X xn (.ref (xa x)))
    (hsu : ∀ a oe cls d pn, Zc cls d oe → (∃ vs, oe.data = .fields vs) → ∀ F0 c p, XR X.K xa F0 cls d c p → c ∈ XN → exSub c x = true → QSs0 (X.suite a ((a, oe) :: pn)) xa W0 P F0 (fun _ => True) (b0 :: bs) (h c p)) (hr : QMix X xa W P XN hds hs) :
    QMix X xa W P XN (.ExceptHandler (some (.Name xn np)) none (b0 :: bs) ps :: hds) (⟨x, none, h⟩ :: hs) := by
  obtain ⟨l, ml, sl⟩ := hr
  refine ⟨_, .bare (ts := fun a cls d D σ H => ∀ oe pn pins s, Zc cls d oe → (∃ vs, oe.data = .fields vs) → Inv (X.suite a ((a, oe) :: pn)) pins σ H s → wpAny (model X.prog X.w) (X.suite a ((a, oe) :: pn)).A (execs (b0 :: bs) X.env) (SP (X.suite a ((a, oe) :: pn)) pins D) (fun _ _ => False) s) hc
    (fun a oe cls d pn hz hf => ⟨fun pins s σ H D I hh => hh oe pn pins s hz hf I⟩) ml, fun D F H σ ρ S c p cls d re gd xr q => ?_⟩
  obtain ⟨dd, fs, ec, rest⟩ := id xr
  have q : PS_ X.K xa W P D F H σ S (if XN.contains c then (if exSub c x then suiteEnd none (h c p ρ) else handle XN hs c p ρ) else .no) := q
  by_cases hcn : XN.contains c = true
  · rw [if_pos hcn] at q
    have hm : c ∈ XN := List.contains_iff_mem.mp hcn
    refine ⟨exSub c x, by rw [ec]; exact XF.em c hm x hx, fun hb a ha => ?_, fun hb => ?_⟩
    · rw [if_pos hb] at q
      intro oe pn pins s hz hf I
      obtain ⟨t, pt, sim⟩ := hsu a oe cls d pn hz hf F c p xr hm hb
      refine pt.run pins s _ H _ I (sim F H _ ρ S _ (Same.refl F) trivial re gd ?_)
      cases e : h c p ρ with
      | no =>
        rw [e] at q
        exact q.elim
      | ex cc pp ρ' =>
        rw [e] at q
        exact q.elim
      | ok fl ρ' =>
        rw [e] at q
        cases fl with
        | nx => exact q
        | bk => exact q
        | ct => exact q
        | rt t => exact q
    · rw [hb, if_neg Bool.false_ne_true] at q
      exact sl D F H σ ρ S c p cls d re gd xr q
  · rw [if_neg hcn] at q
    exact q.elim
theorem qs_try {body : List Stmt} {h0 : ExceptHandler} {pos : Pos} {mb : MS} (hst : X.stack = X.env :: X.outer) (hf : X.env.frame = some X.env.locals) (tk : Takes X W)
    (hb : ∀ (W' : WX) (pn : List (Addr × Obj)) (xe : Value → Shared → Prop), Takes (X.tr pn xe) W' → PassesOwn (model X.prog X.w) X.A X.env xe → QSs (X.tr pn xe) xa W' P body mb) (hh : QMix X xa W P XN (h0 :: hds) hs) :
    QS X xa W P (.Try body (h0 :: hds) [] [] pos) (sTry XN mb hs) := by
  obtain ⟨l, ml, sl⟩ := hh
  refine ⟨_, ps_try_mix (tb := fun W' D σ H => ∀ pn xe pins s, Takes (X.tr pn xe) W' → PassesOwn (model X.prog X.w) X.A X.env xe → Inv (X.tr pn xe) pins σ H s → wpAny (model X.prog X.w) X.A (execs body X.env) (SP (X.tr pn xe) pins D) xe s) hst hf tk
    (fun W' pn xe tk' po => ⟨fun pins s σ H D I hh => hh pn xe pins s tk' po I⟩) ml, fun F H σ ρ S D re gd q pn xe pins s tk' po I => ?_⟩
  obtain ⟨t, pt, sim⟩ := hb _ pn xe tk' po
  refine pt.run pins s σ H D I (sim F H σ ρ S D re gd ?_)
  have q : PS_ X.K xa W P D F H σ S (match mb ρ with | .ex c p ρ' => handle XN hs c p ρ' | o => o) := q
  cases e : mb ρ with
  | no =>
    rw [e] at q
    exact q.elim
  | ok fl ρ' =>
    rw [e] at q
    cases fl with
    | nx => exact q
    | bk => exact q
    | ct => exact q
    | rt t => exact q
  | ex c p ρ' =>
    rw [e] at q
    exact fun cls d F' H' σ' S' to re' xr k => sl D F' H' σ' ρ' S' c p cls d re' to.gd xr (PS.step q to k)
end


/-! ### small rules of printed proofs -/
section
variable {K : PySem.W.Frag} {xa : Nat → Addr} {W : WX} {P : Nat → Bool}
theorem op_ltA {X : Cx} : OpR X (compareOp .Lt) (rCmpA (fun i j => decide (i < j)) fun i j => decide (i.cps.toList < j.cps.toList)) := OpR.or op_lt op_lt_str
theorem op_gtA {X : Cx} : OpR X (compareOp .Gt) (rCmpA (fun i j => decide (j < i)) fun i j => decide (j.cps.toList < i.cps.toList)) := OpR.or op_gt op_gt_str
theorem op_leA {X : Cx} : OpR X (compareOp .LtE) (rCmpA (fun i j => decide (i ≤ j)) fun i j => !decide (j.cps.toList < i.cps.toList)) := OpR.or op_le op_le_str
theorem op_geA {X : Cx} : OpR X (compareOp .GtE) (rCmpA (fun i j => decide (j ≤ i)) fun i j => !decide (i.cps.toList < j.cps.toList)) := OpR.or op_ge op_ge_str
theorem lt65 {k : Nat} {A : Around} (h : Room k A) : A.units + 65 < cLine := Nat.lt_of_le_of_lt (by omega) (un2 h)
/-- x += e -/
def sAug (i : Nat) (m : MV) : MS := fun ρ => match gt ρ i with
  | some (.f (.int a)) => (m ρ).bd fun d ρ => (match d with
    | .int b => .ok .nx (st ρ i (some (.f (.int (a + b)))))
    | _ => .no)
  | _ => .no
theorem sim_aug {i : Nat} {t : TE} {m : MV} (hp : P i = false) (h : SimV K xa W t m) : SimS K xa W P (tAug i t (ipI fun i j => i + j)) (sAug i m) := by
  intro F H σ ρ S D re gd q
  unfold sAug at q
  cases e : gt ρ i with
  | none =>
    rw [e] at q
    exact q.elim
  | some u =>
    rw [e] at q
    match u, q, e with
    | .f (.int a), q, e =>
      obtain ⟨hl, Sf, h1, h2, h3⟩ := id re
      obtain ⟨v, e1, e2⟩ := h1 i _ e
      cases e2.dq
      refine ⟨_, e1, h F H σ ρ S _ re gd (PO.bindS q fun d ρ1 w F1 H1 S1 t1 r1 g1 q1 => ?_)⟩
      have g1 : Dq K F1 w d := g1
      cases g1 with
      | int b => exact ⟨a, b, rfl, rfl, q1 F1 H1 _ S1 (To.refl t1.gd) ((r1.put (i := i) (S' := noS) (.f (.int _)) dj_no).wk fun _ z => or_no z) (Kp.set hp)⟩
      | _ => exact q1.elim
theorem qs_aug {X : Cx} {i : Nat} {e : Expr} {s : Stmt} {m : MV} (hp : P i = false) (h : QV X xa W e m) (f : ∀ t, PE X e t → PS X s (tAug i t (ipI fun i j => i + j))) : QS X xa W P s (sAug i m) := let ⟨_, p, q⟩ := h; ⟨_, f _ p, sim_aug hp q⟩
/-- x == [], x != [], x a list that stays -/
def pNil (neg : Bool) : PyData → Option Bool
  | .list ds => some (xor neg ds.isEmpty)
  | _ => none
def bNilV (neg : Bool) (a : MV) : MB := fun ρ => (a ρ).bd fun x ρ => .of (pNil neg x) ρ
theorem sim_nilV {neg : Bool} {t : TE} {m : MV} (h : SimV K xa W t m) : SimB K xa W (tTest (tOp (rNilL K neg) t (tLst tNil))) (bNilV neg m) := by
  intro F H σ ρ S Q re gd q
  refine h F H σ ρ S _ re gd (PO.bind q fun d ρ1 v F1 H1 S1 t1 r1 h1 q1 => ?_)
  obtain ⟨z, e, q2⟩ := PO.of q1
  have h1 : Dq K F1 v d := h1
  cases h1 with
  | @lst a xs ds z1 z2 =>
    cases e
    refine ⟨Nat.zero_le _, fun p hp => ?_⟩
    have n := nw_new (o := .lst []) t1.gd.sm hp
    refine ⟨a, p, xs, rfl, rfl, n.hs.seq (t1.gd.sm.seq z1), SqL.of upd_same, _, rfl, ?_⟩
    have em : xs.isEmpty = ds.isEmpty := by
      cases z2 <;> rfl
    rw [neg_if, em]
    exact q2 _ _ _ S1 (n.to t1.gd) (n.env t1.gd r1) rfl
  | _ => cases e
theorem qb_nilV {X : Cx} {neg : Bool} {e b : Expr} {m : MV} (h : QV X xa W e m) (f : ∀ t, PE X e t → PT X b (tTest (tOp (rNilL X.K neg) t (tLst tNil)))) : QB X xa W b (bNilV neg m) := let ⟨_, p, q⟩ := h; ⟨_, f _ p, sim_nilV q⟩
/-- a test as a value -/
def vB (c : MB) : MV := fun ρ => (c ρ).bd fun b ρ => .ok (.bool b) ρ
theorem sim_nilVv {neg : Bool} {t : TE} {m : MV} (h : SimV K xa W t m) : SimV K xa W (tOp (rNilL K neg) t (tLst tNil)) (vB (bNilV neg m)) := by
  intro F H σ ρ S Q re gd q
  refine h F H σ ρ S _ re gd ?_
  have q : PO_ K xa W (RV_ K) F H σ S Q (((m ρ).bd fun x ρ => Ou.of (pNil neg x) ρ).bd fun b ρ => .ok (.bool b) ρ) := q
  cases em : m ρ with
  | no =>
    rw [em] at q
    exact q
  | ex c p ρ1 =>
    rw [em] at q
    exact q
  | ok d ρ1 =>
    rw [em] at q
    intro v F1 H1 S1 t1 r1 h1
    have q : PO_ K xa W (RV_ K) F H σ S Q ((Ou.of (pNil neg d) ρ1).bd fun b ρ => .ok (.bool b) ρ) := q
    have h1 : Dq K F1 v d := h1
    cases h1 with
    | @lst a xs ds z1 z2 =>
      refine ⟨Nat.zero_le _, fun p hp => ?_⟩
      have n := nw_new (o := .lst []) t1.gd.sm hp
      refine ⟨a, p, xs, rfl, rfl, n.hs.seq (t1.gd.sm.seq z1), SqL.of upd_same, ?_⟩
      have em : xs.isEmpty = ds.isEmpty := by
        cases z2 <;> rfl
      rw [neg_if, em]
      exact q _ _ _ S1 (t1.trans (n.to t1.gd)) (n.env t1.gd r1) (.bl _)
    | _ => exact q.elim
theorem qv_nilV {X : Cx} {neg : Bool} {e b : Expr} {m : MV} (h : QV X xa W e m) (f : ∀ t, PE X e t → PE X b (tOp (rNilL X.K neg) t (tLst tNil))) : QV X xa W b (vB (bNilV neg m)) := let ⟨_, p, q⟩ := h; ⟨_, f _ p, sim_nilVv q⟩
/-- a + b, the new list owned -/
def eCat (a b : MV) : ME := fun ρ => (v2 pAdd a b ρ).bd fun d ρ => match d with
  | .list ds => .ok (.lst (ds.map T.f)) ρ
  | _ => .no
/-- list(x), owned -/
def eListOf (a : MV) : ME := fun ρ => (a ρ).bd fun d ρ => match d with
  | .list ds => .ok (.lst (ds.map T.f)) ρ
  | .tuple ds => .ok (.lst (ds.map T.f)) ρ
  | _ => .no
theorem sim_eCat {t u : TE} {a b : MV} (ha : SimV K xa W t a) (hb : SimV K xa W u b) : SimE K xa W (tOp (rAddA K) t u) (eCat a b) := by
  intro F H σ ρ S Q re gd q
  refine ha F H σ ρ S _ re gd ?_
  have q : PT_ K xa W F H σ S Q (((a ρ).bd fun x ρ => (b ρ).bd fun y ρ => Ou.of (pAdd x y) ρ).bd fun d ρ => match d with | .list ds => .ok (.lst (ds.map T.f)) ρ | _ => .no) := q
  cases ea : a ρ with
  | no =>
    rw [ea] at q
    exact q
  | ex c p ρ1 =>
    rw [ea] at q
    exact q
  | ok d ρ1 =>
    rw [ea] at q
    intro v F1 H1 S1 t1 r1 h1
    have q : PT_ K xa W F1 H1 σ S1 Q (((b ρ1).bd fun y ρ => Ou.of (pAdd d y) ρ).bd fun d ρ => match d with | .list ds => .ok (.lst (ds.map T.f)) ρ | _ => .no) := PT.step q t1
    refine hb F1 H1 σ ρ1 S1 _ r1 t1.gd ?_
    cases eb : b ρ1 with
    | no =>
      rw [eb] at q
      exact q
    | ex c p ρ1 =>
      rw [eb] at q
      exact q
    | ok e ρ2 =>
      rw [eb] at q
      intro w F2 H2 S2 t2 r2 h2
      have q : PT_ K xa W F2 H2 σ S2 Q ((Ou.of (pAdd d e) ρ2).bd fun d ρ => match d with | .list ds => .ok (.lst (ds.map T.f)) ρ | _ => .no) := PT.step q t2
      have h1 : Dq K F2 v d := h1.same t2.fs
      have h2 : Dq K F2 w e := h2
      match d, e, h1, h2, q with
      | .list da, .list db, .lst a1 a2, .lst b1 b2, q =>
        have q : PT_ K xa W F2 H2 σ S2 Q ((Ou.of (if da.length + db.length ≤ sizeLine then some (PyData.list (da ++ db)) else none) ρ2).bd fun d ρ => match d with | .list ds => .ok (.lst (ds.map T.f)) ρ | _ => .no) := q
        by_cases c : da.length + db.length ≤ sizeLine
        · rw [if_pos c] at q
          refine .inr (.inr (.inl ⟨_, _, _, _, rfl, rfl, t2.gd.sm.seq a1, t2.gd.sm.seq b1, by rw [a2.length, b2.length]; exact c, fun p hp => ?_⟩))
          obtain ⟨n1, n2, n3, n4⟩ := new_own t2.gd r2 (a2.cat b2) hp
          exact q _ F2 _ _ S2 n1 n2 n3 n4
        · rw [if_neg c] at q
          exact q.elim
      | .int i, .int j, h1, h2, q => exact q.elim
      | .tuple da, .tuple db, h1, h2, q =>
        have q : PT_ K xa W F2 H2 σ S2 Q ((Ou.of (if da.length + db.length ≤ sizeLine then some (PyData.tuple (da ++ db)) else none) ρ2).bd fun d ρ => match d with | .list ds => .ok (.lst (ds.map T.f)) ρ | _ => .no) := q
        by_cases c : da.length + db.length ≤ sizeLine
        · rw [if_pos c] at q
          exact q.elim
        · rw [if_neg c] at q
          exact q.elim
      | .str da, .str db, h1, h2, q =>
        have q : PT_ K xa W F2 H2 σ S2 Q ((Ou.of (if da.length + db.length ≤ sizeLine then some (PyData.str (da ++ db)) else none) ρ2).bd fun d ρ => match d with | .list ds => .ok (.lst (ds.map T.f)) ρ | _ => .no) := q
        by_cases c : da.length + db.length ≤ sizeLine
        · rw [if_pos c] at q
          exact q.elim
        · rw [if_neg c] at q
          exact q.elim
theorem sim_eListOf {t : TE} {a : MV} (ha : SimV K xa W t a) : SimE K xa W (tCB (fun xs H Q => ∃ p ys, xs = [.ref p] ∧ (SqL K H p ys ∨ SqT K H p ys) ∧ ∀ l, H l = none → Q (.ref l) (upd H l (.lst ys))) (tCons t tNil)) (eListOf a) := by
  intro F H σ ρ S Q re gd q
  refine ha F H σ ρ S _ re gd (PO.bindT q fun d ρ1 v F1 H1 S1 t1 r1 h1 q1 => ?_)
  have h1 : Dq K F1 v d := h1
  cases h1 with
  | @lst a xs ds z1 z2 =>
    refine ⟨a, xs, rfl, .inl (t1.gd.sm.seq z1), fun p hp => ?_⟩
    obtain ⟨n1, n2, n3, n4⟩ := new_own t1.gd r1 z2 hp
    exact q1 _ F1 _ _ S1 n1 n2 n3 n4
  | @tup a xs ds z1 z2 =>
    refine ⟨a, xs, rfl, .inr (seqT t1.gd.sm z1), fun p hp => ?_⟩
    obtain ⟨n1, n2, n3, n4⟩ := new_own t1.gd r1 z2 hp
    exact q1 _ F1 _ _ S1 n1 n2 n3 n4
  | _ => exact q1.elim
theorem qe_cat {X : Cx} {a b : Expr} {ma mb : MV} {pos : Pos} (ha : QV X xa W a ma) (hb : QV X xa W b mb) : QE X xa W (.BinOp a .Add b pos) (eCat ma mb) := let ⟨_, p, q⟩ := ha; let ⟨_, p', q'⟩ := hb; ⟨_, pe_op op_addA p p', sim_eCat q q'⟩
theorem qe_listOf {X : Cx} {e b : Expr} {m : MV} (h : QV X xa W e m) (f : ∀ t, PE X e t → PE X b (tCB (fun xs H Q => ∃ p ys, xs = [.ref p] ∧ (SqL X.K H p ys ∨ SqT X.K H p ys) ∧ ∀ l, H l = none → Q (.ref l) (upd H l (.lst ys))) (tCons t tNil))) : QE X xa W b (eListOf m) := let ⟨_, p, q⟩ := h; ⟨_, f _ p, sim_eListOf q⟩
end
theorem fnM_no {P : Program} {w : World} {K : PySem.W.Frag} {mg : Str → Option Value} {base : Heap} {xa : Nat → Addr} {k : Nat} {f : Addr} {fd : FuncData} {ps : List Str} : FnG P w K mg base (L2.CX P w) k f fd ps (spM K xa fun _ => .no) :=
  ⟨fun vs H Q E h => by
    obtain ⟨F, ts, S, r, g, q⟩ := h
    exact q.elim, fun A outer s H args us vs Q E _ _ _ _ _ h => by
    obtain ⟨F, ts, S, r, g, q⟩ := h
    exact q.elim⟩


/-! ### dicts whose keys are numbers and texts, whose values are data -/
abbrev Kvs := List (Key × PyData)
def T.dk (kvs : Kvs) : T := .nd (.dct true (kvs.map (·.1))) ((kvs.map (·.2)).map T.f)
def keyD : PyData → Option Key
  | .int i => some (.inl i)
  | .str s => some (.inr s)
  | _ => none
/-- a dict that is read -/
def odr : Option T → Option Kvs
  | some (.nd (.dct _ ks) ts) => (match allF ts with
    | some ds => some (ks.zip ds)
    | none => none)
  | _ => none
/-- a dict that may change -/
def od : Option T → Option Kvs
  | some (.nd (.dct true ks) ts) => (match allF ts with
    | some ds => some (ks.zip ds)
    | none => none)
  | _ => none
def valP (kvs : Kvs) (k : Key) : Option PyData := (kvs.find? fun kv => decide (kv.1 = k)).map (·.2)
def putP (kvs : Kvs) (k : Key) (d : PyData) : Kvs := if (kvs.any fun kv => decide (kv.1 = k)) = true then kvs.map (fun kv => if kv.1 = k then (kv.1, d) else kv) else kvs ++ [(k, d)]
def dropP (kvs : Kvs) (k : Key) : Kvs := kvs.filter fun kv => decide (kv.1 ≠ k)
theorem zip_fs : ∀ kvs : Kvs, (kvs.map (·.1)).zip (kvs.map (·.2)) = kvs
  | [] => rfl
  | p :: r => congrArg (p :: ·) (zip_fs r)
theorem od_dk (kvs : Kvs) : od (some (T.dk kvs)) = some kvs := by
  show (match allF ((kvs.map fun p : Key × PyData => p.2).map T.f) with | some ds => some ((kvs.map fun p : Key × PyData => p.1).zip ds) | none => none) = _
  rw [allF_f]
  exact congrArg some (zip_fs kvs)
theorem odr_dk (kvs : Kvs) : odr (some (T.dk kvs)) = some kvs := od_dk kvs
theorem odr_od {t : Option T} {kvs : Kvs} (h : od t = some kvs) : odr t = some kvs := by
  match t, h with
  | some (.nd (.dct true ks) ts), h => exact h
inductive KvD (K : PySem.W.Frag) (F : Hp) : List (Key × V) → Kvs → Prop
  | nil : KvD K F [] []
  | cons {k : Key} {v : V} {d : PyData} {hv : List (Key × V)} {kvs : Kvs} : Dq K F v d → KvD K F hv kvs → KvD K F ((k, v) :: hv) ((k, d) :: kvs)
section
variable {K : PySem.W.Frag} {F F' H : Hp}
theorem KvD.same (s : Same F F') : ∀ {hv : List (Key × V)} {kvs : Kvs}, KvD K F hv kvs → KvD K F' hv kvs
  | _, _, .nil => .nil
  | _, _, .cons h r => .cons (h.same s) (r.same s)
theorem KvD.length : ∀ {hv : List (Key × V)} {kvs : Kvs}, KvD K F hv kvs → hv.length = kvs.length
  | _, _, .nil => rfl
  | _, _, .cons _ r => congrArg Nat.succ r.length
theorem KvD.of : ∀ {ks : List Key} {vs : List V} {ds : List PyData}, DqAll K F vs ds → KvD K F (ks.zip vs) (ks.zip ds)
  | [], _, _, _ => .nil
  | _ :: _, _, _, .nil => .nil
  | _ :: _, _, _, .cons h r => .cons h (KvD.of r)
theorem KvD.keys : ∀ {hv : List (Key × V)} {kvs : Kvs}, KvD K F hv kvs → (hv.map fun p : Key × V => p.1) = kvs.map fun p : Key × PyData => p.1
  | _, _, .nil => rfl
  | _, _, .cons _ r => by rw [List.map_cons, List.map_cons, r.keys]
theorem KvD.vals : ∀ {hv : List (Key × V)} {kvs : Kvs}, KvD K F hv kvs → DqAll K F (hv.map (·.2)) (kvs.map (·.2))
  | _, _, .nil => .nil
  | _, _, .cons h r => .cons h r.vals
theorem KvD.zip : ∀ {hv : List (Key × V)} {kvs : Kvs}, KvD K F hv kvs → (kvs.map fun p : Key × PyData => p.1).zip (hv.map fun p : Key × V => p.2) = hv
  | _, _, .nil => rfl
  | _, _, .cons _ r => by rw [List.map_cons, List.map_cons, List.zip_cons_cons, r.zip]
theorem KvD.val {k : Key} : ∀ {hv : List (Key × V)} {kvs : Kvs}, KvD K F hv kvs → (valP kvs k = none ∧ valV hv k = none) ∨ ∃ v d, valV hv k = some v ∧ valP kvs k = some d ∧ Dq K F v d
  | _, _, .nil => .inl ⟨rfl, rfl⟩
  | _, _, @KvD.cons _ _ k' v d hv kvs h r => by
    by_cases e : k' = k
    · refine .inr ⟨v, d, valV_pos (p := (k', v)) e, ?_, h⟩
      unfold valP
      rw [List.find?_cons]
      simp only [e, decide_true]
      rfl
    · have e1 : valV ((k', v) :: hv) k = valV hv k := valV_neg (p := (k', v)) e
      have e2 : valP ((k', d) :: kvs) k = valP kvs k := by
        unfold valP
        rw [List.find?_cons]
        simp only [e, decide_false]
      rw [e1, e2]
      exact r.val
theorem KvD.any {k : Key} : ∀ {hv : List (Key × V)} {kvs : Kvs}, KvD K F hv kvs → (hv.any fun kv : Key × V => decide (kv.1 = k)) = kvs.any fun kv : Key × PyData => decide (kv.1 = k)
  | _, _, .nil => rfl
  | _, _, .cons _ r => by
    rw [List.any_cons, List.any_cons, r.any]
theorem KvD.repl {k : Key} {v : V} {d : PyData} (hd : Dq K F v d) : ∀ {hv : List (Key × V)} {kvs : Kvs}, KvD K F hv kvs → KvD K F (hv.map fun kv => if kv.1 = k then (kv.1, v) else kv) (kvs.map fun kv => if kv.1 = k then (kv.1, d) else kv)
  | _, _, .nil => .nil
  | _, _, @KvD.cons _ _ k' v' d' hv kvs h r => by
    by_cases e : k' = k
    · rw [List.map_cons, List.map_cons, if_pos e, if_pos e]
      exact .cons hd (r.repl hd)
    · rw [List.map_cons, List.map_cons, if_neg e, if_neg e]
      exact .cons h (r.repl hd)
theorem KvD.snoc {k : Key} {v : V} {d : PyData} (hd : Dq K F v d) : ∀ {hv : List (Key × V)} {kvs : Kvs}, KvD K F hv kvs → KvD K F (hv ++ [(k, v)]) (kvs ++ [(k, d)])
  | _, _, .nil => .cons hd .nil
  | _, _, .cons h r => .cons h (r.snoc hd)
theorem KvD.put {k : Key} {v : V} {d : PyData} {hv : List (Key × V)} {kvs : Kvs} (h : KvD K F hv kvs) (hd : Dq K F v d) : KvD K F (putK hv k v) (putP kvs k d) := by
  unfold putK putP
  rw [h.any]
  split
  · exact h.repl hd
  · exact h.snoc hd
theorem KvD.drop {k : Key} : ∀ {hv : List (Key × V)} {kvs : Kvs}, KvD K F hv kvs → KvD K F (dropK hv k) (dropP kvs k)
  | _, _, .nil => .nil
  | _, _, @KvD.cons _ _ k' v' d' hv kvs h r => by
    unfold dropK dropP
    rw [List.filter_cons, List.filter_cons]
    by_cases e : k' = k
    · have e2 : (decide (k' ≠ k)) = false := by simp [e]
      simp only [e2, if_false, Bool.false_eq_true]
      exact r.drop
    · have e2 : (decide (k' ≠ k)) = true := by simp [e]
      simp only [e2, if_true]
      exact .cons h r.drop
theorem key_V {v : V} {d : PyData} {k : Key} (h : Dq K F v d) (e : keyD d = some k) : v = kV k := by
  cases h with
  | int i =>
    cases e
    rfl
  | str i =>
    cases e
    rfl
  | _ => cases e
theorem keys_V : ∀ {hv : List (Key × V)} {kvs : Kvs}, KvD K F hv kvs → DqAll K F' (hv.map fun kv => kV kv.1) (kvs.map fun kv => match kv.1 with | .inl i => PyData.int i | .inr s => .str s)
  | _, _, .nil => .nil
  | _, _, @KvD.cons _ _ k _ _ _ _ _ r => .cons (match k with | .inl i => .int i | .inr s => .str s) (keys_V r)
end
/-! what a def does with a dict in slot i -/
def eD0 : ME := fun ρ => .ok (T.dk []) ρ
def vD0 : MV := fun ρ => .ok (.dict []) ρ
def vDIn (neg : Bool) (m : MV) (i : Nat) : MV := fun ρ => (m ρ).bd fun d ρ => match keyD d, odr (gt ρ i) with
  | some k, some kvs => .ok (.bool (xor neg (valP kvs k).isSome)) ρ
  | _, _ => .no
def vDGet (i : Nat) (m : MV) : MV := fun ρ => match odr (gt ρ i) with
  | none => .no
  | some _ => (m ρ).bd fun d ρ => match keyD d, odr (gt ρ i) with
    | some k, some kvs => .of (valP kvs k) ρ
    | _, _ => .no
def vDGet2 (i : Nat) (m x : MV) : MV := fun ρ => match odr (gt ρ i) with
  | none => .no
  | some _ => (m ρ).bd fun d ρ => (x ρ).bd fun z ρ => match keyD d, odr (gt ρ i) with
    | some k, some kvs => .ok ((valP kvs k).getD z) ρ
    | _, _ => .no
def sDPut (i : Nat) (m x : MV) : MS := fun ρ => (x ρ).bd fun z ρ => match od (gt ρ i) with
  | none => .no
  | some _ => (m ρ).bd fun d ρ => match keyD d, od (gt ρ i) with
    | some k, some kvs => if kvs.length < sizeLine then .ok .nx (st ρ i (some (T.dk (putP kvs k z)))) else .no
    | _, _ => .no
def vDLen (i : Nat) : MV := fun ρ => match odr (gt ρ i) with
  | some kvs => .ok (.int kvs.length) ρ
  | none => .no
def keyP : Key → PyData
  | .inl i => .int i
  | .inr s => .str s
def vDKeys (i : Nat) : MV := fun ρ => match odr (gt ρ i) with
  | some kvs => .ok (.list (kvs.map fun kv => keyP kv.1)) ρ
  | none => .no
def eDKeys (i : Nat) : ME := fun ρ => match odr (gt ρ i) with
  | some kvs => .ok (.lst ((kvs.map fun kv => keyP kv.1).map T.f)) ρ
  | none => .no
def vDSetd (i : Nat) (m x : MV) : MV := fun ρ => match od (gt ρ i) with
  | none => .no
  | some _ => (m ρ).bd fun d ρ => (x ρ).bd fun z ρ => match keyD d, od (gt ρ i) with
    | some k, some kvs => if kvs.length < sizeLine then (match valP kvs k with
      | some y => .ok y ρ
      | none => .ok z (st ρ i (some (T.dk (putP kvs k z))))) else .no
    | _, _ => .no
section
variable {K : PySem.W.Frag} {xa : Nat → Addr} {W : WX} {P : Nat → Bool} {F H : Hp} {S : AS} {σ : L2.St} {ρ : MEnv}
theorem rd_at {i : Nat} {kvs : Kvs} (re : EnvR K F H σ ρ S) (gd : Gd F H S) (e : odr (gt ρ i) = some kvs) : ∃ a hv, σ[i]? = some (some (.ref a)) ∧ H a = some (.dK hv) ∧ KvD K F hv kvs := by
  cases e0 : gt ρ i with
  | none =>
    rw [e0] at e
    cases e
  | some t =>
    rw [e0] at e
    match t, e with
    | .nd (.dct o ks) ts, e =>
      have e : (match allF ts with | some ds => some (ks.zip ds) | none => none) = some kvs := e
      cases e1 : allF ts with
      | none =>
        rw [e1] at e
        cases e
      | some ds =>
        rw [e1] at e
        cases e
        obtain ⟨v, S1, S2, e2, r1, r2, w1, w2, dj⟩ := re.take e0
        cases r1 with
        | @nd a _ vs _ _ Sf c hl hc hs hd hn =>
          have dq := allF_dq (H := H) e1 hl hc
          cases o with
          | true => exact ⟨a, _, e2, c.2.1, KvD.of dq⟩
          | false => exact ⟨a, _, e2, gd.sm _ _ c.1, KvD.of dq⟩
theorem dk_rl {D : Addr} {hv : List (Key × V)} {kvs : Kvs} (hF : F D = none) (hD : H D = some (.dK hv)) (h : KvD K F hv kvs) : Rl K F H (.ref D) (T.dk kvs) (fun b => b = D) := by
  have dq := h.vals
  refine .nd (vs := hv.map (·.2)) (fun _ => noS) ⟨hF, ?_, ?_, rfl⟩ ?_ (fun i v t hv' ht => ?_) (fun _ _ z => z.elim) (fun _ _ _ _ z => z.elim) fun _ z => z
  · rw [h.zip]
    exact hD
  · rw [List.length_map, List.length_map]
    exact h.length.symm
  · rw [List.length_map, List.length_map, List.length_map]
    exact h.length
  · rw [List.getElem?_map] at ht
    cases e : (kvs.map (·.2))[i]? with
    | none =>
      rw [e] at ht
      cases ht
    | some d =>
      rw [e] at ht
      cases ht
      obtain ⟨w, e1, e2⟩ := dq.nth e
      rw [hv'] at e1
      cases e1
      exact .f e2
theorem od_at {i : Nat} {kvs : Kvs} (re : EnvR K F H σ ρ S) (gd : Gd F H S) (e : od (gt ρ i) = some kvs) : ∃ a hv, σ[i]? = some (some (.ref a)) ∧ H a = some (.dK hv) ∧ KvD K F hv kvs ∧
    ∀ hv' kvs', KvD K F hv' kvs' → To F H S F (upd H a (.dK hv')) S ∧ EnvR K F (upd H a (.dK hv')) σ (st ρ i (some (T.dk kvs'))) S := by
  cases e0 : gt ρ i with
  | none =>
    rw [e0] at e
    cases e
  | some t =>
    rw [e0] at e
    match t, e with
    | .nd (.dct true ks) ts, e =>
      have e : (match allF ts with | some ds => some (ks.zip ds) | none => none) = some kvs := e
      cases e1 : allF ts with
      | none =>
        rw [e1] at e
        cases e
      | some ds =>
        rw [e1] at e
        cases e
        obtain ⟨v, S1, S2, e2, r1, r2, w1, w2, dj⟩ := re.take e0
        cases r1 with
        | @nd a _ vs _ _ Sf c hl hc hs hd hn =>
          obtain ⟨c1, c2, c3, c4⟩ : F a = none ∧ H a = some (.dK (ks.zip vs)) ∧ ks.length = vs.length ∧ S1 a := c
          refine ⟨a, _, e2, c2, KvD.of (allF_dq (H := H) e1 hl hc), fun hv' kvs' h' => ?_⟩
          have to : To F H S F (upd H a (.dK hv')) S := (To.refl gd).updO (w1 a c4)
          refine ⟨to, ?_⟩
          have r3 : EnvR K F (upd H a (.dK hv')) σ (st ρ i none) S2 := r2.upd (gd.wk w2) fun z => dj a c4 z
          have r4 := r3.back (i := i) (S' := fun b => b = a) e2 (dk_rl c1 upd_same h') fun b z z' => dj a c4 (by rw [← z]; exact z')
          rw [st_st] at r4
          exact r4.wk fun b z => z.elim (fun z => by rw [z]; exact w1 a c4) (w2 b)
theorem sim_eD0 : SimE K xa W tDNewK eD0 := by
  intro F H σ ρ S Q re gd q p hp
  have sm := same_upd (o := .dK []) hp
  have hf : F p = none := gd.sm.free hp
  have nS : ¬ S p := fun z => (gd.ow p z).1 hp
  refine q (.ref p) F _ (fun b => b = p) S ⟨fun b o h _ => sm b o h, Same.refl F, fun b h => .inl h, fun b h => ?_, gd.sm.trans sm, fun b h => ?_⟩ (fun b e z => nS (e ▸ z)) (re.frame (Same.refl F) (fun b o _ h => sm b o h) fun b z => (gd.ow b z).2) (dk_rl hf upd_same .nil)
  · rcases h with h | h
    · exact .inr (by rw [h]; exact hp)
    · exact .inl h
  · rcases h with h | h
    · subst h
      rw [upd_same]
      exact ⟨(fun z => by cases z), hf⟩
    · obtain ⟨h1, h2⟩ := gd.ow b h
      refine ⟨?_, h2⟩
      cases e : H b with
      | none => exact absurd e h1
      | some o =>
        rw [sm b o e]
        exact fun z => by cases z
theorem sim_vD0 : SimV K xa W tDNewK vD0 := by
  intro F H σ ρ S Q re gd q p hp
  have n := nw_new (o := .dK []) gd.sm hp
  exact q (.ref p) _ _ S (n.to gd) (n.env gd re) (.dct upd_same)
theorem sim_vDIn {t : TE} {m : MV} {i : Nat} (h : SimV K xa W t m) : SimV K xa W (tDIn t (tVar i)) (vDIn false m i) ∧ SimV K xa W (tDNotIn t (tVar i)) (vDIn true m i) := by
  constructor
  all_goals
    intro F H σ ρ S Q re gd q
    refine h F H σ ρ S _ re gd (PO.bind q fun d ρ1 v F1 H1 S1 t1 r1 h1 q1 => ?_)
    cases e1 : keyD d with
    | none =>
      simp only [e1] at q1
      exact q1.elim
    | some k =>
      cases e2 : odr (gt ρ1 i) with
      | none =>
        simp only [e1, e2] at q1
        exact q1.elim
      | some kvs =>
        simp only [e1, e2] at q1
        obtain ⟨a, hv, e3, e4, e5⟩ := rd_at r1 t1.gd e2
        have hk := key_V h1 e1
        subst hk
        refine ⟨_, e3, a, valV hv k, rfl, DGet.k e4, ?_⟩
        rcases e5.val (k := k) with ⟨z1, z2⟩ | ⟨w, x, z1, z2, _⟩
        · rw [z1] at q1
          rw [z2]
          exact q1 _ F1 H1 S1 (To.refl t1.gd) r1 (.bl _)
        · rw [z2] at q1
          rw [z1]
          exact q1 _ F1 H1 S1 (To.refl t1.gd) r1 (.bl _)
theorem sim_vDGet {t : TE} {m : MV} {i : Nat} (h : SimV K xa W t m) : SimV K xa W (tDGet (tVar i) t) (vDGet i m) := by
  intro F H σ ρ S Q re gd q
  unfold vDGet at q
  cases e0 : odr (gt ρ i) with
  | none =>
    rw [e0] at q
    exact q.elim
  | some kvs0 =>
    rw [e0] at q
    obtain ⟨a, hv0, es, _, _⟩ := rd_at re gd e0
    refine ⟨_, es, h F H σ ρ S _ re gd (PO.bind q fun d ρ1 v F1 H1 S1 t1 r1 h1 q1 => ?_)⟩
    cases e1 : keyD d with
    | none =>
      simp only [e1] at q1
      exact q1.elim
    | some k =>
      cases e2 : odr (gt ρ1 i) with
      | none =>
        simp only [e1, e2] at q1
        exact q1.elim
      | some kvs =>
        simp only [e1, e2] at q1
        obtain ⟨a', hv, e3, e4, e5⟩ := rd_at r1 t1.gd e2
        rw [es] at e3
        cases e3
        have hk := key_V h1 e1
        subst hk
        obtain ⟨x, ex, q2⟩ := PO.of q1
        rcases e5.val (k := k) with ⟨z1, z2⟩ | ⟨w, x', z1, z2, z3⟩
        · rw [z1] at ex
          cases ex
        · rw [z2] at ex
          cases ex
          refine ⟨a, w, rfl, ?_, q2 w F1 H1 S1 (To.refl t1.gd) r1 z3⟩
          rw [← z1]
          exact DGet.k e4
theorem sim_vDGet2 {t u : TE} {m x : MV} {i : Nat} (h : SimV K xa W t m) (hx : SimV K xa W u x) : SimV K xa W (tDGet2 (tVar i) t u) (vDGet2 i m x) := by
  intro F H σ ρ S Q re gd q
  unfold vDGet2 at q
  cases e0 : odr (gt ρ i) with
  | none =>
    rw [e0] at q
    exact q.elim
  | some kvs0 =>
    rw [e0] at q
    obtain ⟨a, hv0, es, ea, _⟩ := rd_at re gd e0
    refine ⟨_, es, a, rfl, .inl ⟨hv0, .inl ea⟩, h F H σ ρ S _ re gd (PO.bind q fun d ρ1 v F1 H1 S1 t1 r1 h1 q1 => hx F1 H1 σ ρ1 S1 _ r1 t1.gd (PO.bind q1 fun z ρ2 y F2 H2 S2 t2 r2 h2 q2 => ?_))⟩
    cases e1 : keyD d with
    | none =>
      simp only [e1] at q2
      exact q2.elim
    | some k =>
      cases e2 : odr (gt ρ2 i) with
      | none =>
        simp only [e1, e2] at q2
        exact q2.elim
      | some kvs =>
        simp only [e1, e2] at q2
        obtain ⟨a', hv, e3, e4, e5⟩ := rd_at r2 t2.gd e2
        rw [es] at e3
        cases e3
        have hk := key_V h1 e1
        subst hk
        refine ⟨valV hv k, DGet.k e4, ?_⟩
        rcases e5.val (k := k) with ⟨z1, z2⟩ | ⟨w, x', z1, z2, z3⟩
        · rw [z1] at q2
          rw [z2]
          exact q2 _ F2 H2 S2 (To.refl t2.gd) r2 h2
        · rw [z2] at q2
          rw [z1]
          exact q2 _ F2 H2 S2 (To.refl t2.gd) r2 z3
theorem sim_dput {t u : TE} {m x : MV} {i : Nat} (h : SimV K xa W t m) (hx : SimV K xa W u x) : SimS K xa W P (L2.sDPut (tVar i) t u) (sDPut i m x) := by
  intro F H σ ρ S D re gd q
  refine hx F H σ ρ S _ re gd (PO.bindS q fun z ρ1 y F1 H1 S1 t1 r1 h1 q1 => ?_)
  cases e0 : od (gt ρ1 i) with
  | none =>
    simp only [e0] at q1
    exact q1.elim
  | some kvs0 =>
    simp only [e0] at q1
    obtain ⟨a, hv0, es, ea, _, _⟩ := od_at r1 t1.gd e0
    refine ⟨_, es, h F1 H1 σ ρ1 S1 _ r1 t1.gd (PO.bindS q1 fun d ρ2 v F2 H2 S2 t2 r2 h2 q2 => ?_)⟩
    cases e1 : keyD d with
    | none =>
      simp only [e1] at q2
      exact q2.elim
    | some k =>
      cases e2 : od (gt ρ2 i) with
      | none =>
        simp only [e1, e2] at q2
        exact q2.elim
      | some kvs =>
        simp only [e1, e2] at q2
        obtain ⟨a', hv, e3, e4, e5, up⟩ := od_at r2 t2.gd e2
        rw [es] at e3
        cases e3
        have hk := key_V h2 e1
        subst hk
        by_cases c : kvs.length < sizeLine
        · rw [if_pos c] at q2
          obtain ⟨to, r3⟩ := up _ _ (e5.put (k := k) (h1.same t2.fs))
          exact ⟨a, _, rfl, .inl ⟨hv, k, e4, rfl, by rw [e5.length]; exact c, rfl⟩, q2 F2 _ σ S2 to r3 (Kp.refl P σ)⟩
        · rw [if_neg c] at q2
          exact q2.elim
theorem sim_dsetd {t u : TE} {m x : MV} {i : Nat} (h : SimV K xa W t m) (hx : SimV K xa W u x) : SimV K xa W (tDSetd (tVar i) t u) (vDSetd i m x) := by
  intro F H σ ρ S Q re gd q
  unfold vDSetd at q
  cases e0 : od (gt ρ i) with
  | none =>
    rw [e0] at q
    exact q.elim
  | some kvs0 =>
    rw [e0] at q
    obtain ⟨a, hv0, es, ea, _, _⟩ := od_at re gd e0
    refine ⟨_, es, a, rfl, .inl ⟨hv0, .inl ea⟩, h F H σ ρ S _ re gd (PO.bind q fun d ρ1 v F1 H1 S1 t1 r1 h1 q1 => hx F1 H1 σ ρ1 S1 _ r1 t1.gd (PO.bind q1 fun z ρ2 y F2 H2 S2 t2 r2 h2 q2 => ?_))⟩
    cases e1 : keyD d with
    | none =>
      simp only [e1] at q2
      exact q2.elim
    | some k =>
      cases e2 : od (gt ρ2 i) with
      | none =>
        simp only [e1, e2] at q2
        exact q2.elim
      | some kvs =>
        simp only [e1, e2] at q2
        obtain ⟨a', hv, e3, e4, e5, up⟩ := od_at r2 t2.gd e2
        rw [es] at e3
        cases e3
        have hk := key_V h1 e1
        subst hk
        by_cases c : kvs.length < sizeLine
        · rw [if_pos c] at q2
          refine ⟨hv, k, e4, rfl, by rw [e5.length]; exact c, fun w hw => ?_, fun hw => ?_⟩
          · rcases e5.val (k := k) with ⟨z1, z2⟩ | ⟨w', x', z1, z2, z3⟩
            · rw [hw] at z2
              cases z2
            · rw [hw] at z1
              cases z1
              rw [z2] at q2
              exact q2 _ F2 H2 S2 (To.refl t2.gd) r2 z3
          · rcases e5.val (k := k) with ⟨z1, z2⟩ | ⟨w', x', z1, z2, z3⟩
            · rw [z1] at q2
              obtain ⟨to, r3⟩ := up _ _ (e5.put (k := k) h2)
              exact q2 _ F2 _ S2 to r3 h2
            · rw [hw] at z1
              cases z1
        · rw [if_neg c] at q2
          exact q2.elim
theorem sim_dlen {i : Nat} : SimV K xa W (tCB (rLenA K) (tCons (tVar i) tNil)) (vDLen i) := by
  intro F H σ ρ S Q re gd q
  unfold vDLen at q
  cases e : odr (gt ρ i) with
  | none =>
    rw [e] at q
    exact q.elim
  | some kvs =>
    rw [e] at q
    obtain ⟨a, hv, e1, e2, e3⟩ := rd_at re gd e
    refine ⟨_, e1, .inr (.inr ⟨a, hv, rfl, e2, ?_⟩)⟩
    rw [e3.length]
    exact q _ F H S (To.refl gd) re (.int _)
theorem keys_P {F F' : Hp} {hv : List (Key × V)} {kvs : Kvs} (h : KvD K F hv kvs) : DqAll K F' (hv.map fun kv => kV kv.1) (kvs.map fun kv => keyP kv.1) := by
  induction h with
  | nil => exact .nil
  | @cons k v d hv kvs hd r ih =>
    refine .cons ?_ ih
    cases k with
    | inl i => exact .int i
    | inr s => exact .str s
theorem sim_dkeys {i : Nat} : SimV K xa W (tCB rListD (tCons (tVar i) tNil)) (vDKeys i) := by
  intro F H σ ρ S Q re gd q
  unfold vDKeys at q
  cases e : odr (gt ρ i) with
  | none =>
    rw [e] at q
    exact q.elim
  | some kvs =>
    rw [e] at q
    obtain ⟨a, hv, e1, e2, e3⟩ := rd_at re gd e
    refine ⟨_, e1, a, hv, rfl, e2, fun p hp => ?_⟩
    have n := nw_new (o := .lst (hv.map fun kv => kV kv.1)) gd.sm hp
    exact q _ _ _ S (n.to gd) (n.env gd re) (new_lst (H := H) (keys_P e3) (gd.sm.free hp))
theorem sim_dkeysE {i : Nat} : SimE K xa W (tCB rListD (tCons (tVar i) tNil)) (eDKeys i) := by
  intro F H σ ρ S Q re gd q
  unfold eDKeys at q
  cases e : odr (gt ρ i) with
  | none =>
    rw [e] at q
    exact q.elim
  | some kvs =>
    rw [e] at q
    obtain ⟨a, hv, e1, e2, e3⟩ := rd_at re gd e
    refine ⟨_, e1, a, hv, rfl, e2, fun p hp => ?_⟩
    obtain ⟨n1, n2, n3, n4⟩ := new_own gd re (keys_P (F' := F) e3) hp
    exact q _ F _ _ S n1 n2 n3 n4
end
section
variable {X : Cx} {xa : Nat → Addr} {W : WX} {P : Nat → Bool} {o e f b : Expr} {pos apos cpos : Pos} {s : Stmt} {i : Nat} {m x : MV}
theorem qe_d0 : QE X xa W (.Dict [] [] pos) eD0 := ⟨_, pe_dnewK, sim_eD0⟩
theorem qv_d0 : QV X xa W (.Dict [] [] pos) vD0 := ⟨_, pe_dnewK, sim_vD0⟩
theorem qv_din (hu : X.A.units + 1 < cLine) (ho : PE X o (tVar i)) (h : QV X xa W e m) (hm : behindInMarks .In o = false) : QV X xa W (.Compare e [.In] [o] pos) (vDIn false m i) := let ⟨_, p, q⟩ := h; ⟨_, pe_cmp (pc_din hu p ho) hm, (sim_vDIn q).1⟩
theorem qv_dnotin (hu : X.A.units + 1 < cLine) (ho : PE X o (tVar i)) (h : QV X xa W e m) (hm : behindInMarks .NotIn o = false) : QV X xa W (.Compare e [.NotIn] [o] pos) (vDIn true m i) := let ⟨_, p, q⟩ := h; ⟨_, pe_cmp (pc_dnotin hu p ho) hm, (sim_vDIn q).2⟩
theorem qb_din (hu : X.A.units + 1 < cLine) (ho : PE X o (tVar i)) (h : QV X xa W e m) (f : ∀ t, PC X .In e o t → PT X b (tTest t)) : QB X xa W b (bV (vDIn false m i)) := let ⟨_, p, q⟩ := h; ⟨_, f _ (pc_din hu p ho), sim_bV (sim_vDIn q).1⟩
theorem qb_dnotin (hu : X.A.units + 1 < cLine) (ho : PE X o (tVar i)) (h : QV X xa W e m) (f : ∀ t, PC X .NotIn e o t → PT X b (tTest t)) : QB X xa W b (bV (vDIn true m i)) := let ⟨_, p, q⟩ := h; ⟨_, f _ (pc_dnotin hu p ho), sim_bV (sim_vDIn q).2⟩
theorem qv_dget (hu : X.A.units + 1 < cLine) (ho : PE X o (tVar i)) (h : QV X xa W e m) (hs : NoSl e) : QV X xa W (.Subscript o e pos) (vDGet i m) := let ⟨_, p, q⟩ := h; ⟨_, pe_dget hu ho p hs, sim_vDGet q⟩
theorem qv_dget2 (hu : X.A.units + 1 < cLine) (ho : PE X o (tVar i)) (h : QV X xa W e m) (hx : QV X xa W f x) (mm : M2 X o "get" apos e f cpos) : QV X xa W (.Call (.Attribute o "get" apos) [e, f] [] cpos) (vDGet2 i m x) := let ⟨_, p, q⟩ := h; let ⟨_, p', q'⟩ := hx; ⟨_, pe_dget2 hu ho p p' mm, sim_vDGet2 q q'⟩
theorem qv_dsetd (ho : PE X o (tVar i)) (h : QV X xa W e m) (hx : QV X xa W f x) (mm : M2 X o "setdefault" apos e f cpos) : QV X xa W (.Call (.Attribute o "setdefault" apos) [e, f] [] cpos) (vDSetd i m x) := let ⟨_, p, q⟩ := h; let ⟨_, p', q'⟩ := hx; ⟨_, pe_dsetd ho p p' mm, sim_dsetd q q'⟩
theorem qs_dput {pos' : Pos} (hu : X.A.units + 1 < cLine) (ho : PE X o (tVar i)) (h : QV X xa W e m) (hx : QV X xa W f x) (hs : swapsWith f (some (.Subscript o e pos')) pos.line X.env = pure false) : QS X xa W P (.Assign [.Subscript o e pos'] f pos) (sDPut i m x) := let ⟨_, p, q⟩ := h; let ⟨_, p', q'⟩ := hx; ⟨_, ps_dput hu ho p p' hs, sim_dput q q'⟩
theorem qv_dlen (p : PE X b (tCB (rLenA X.K) (tCons (tVar i) tNil))) : QV X xa W b (vDLen i) := ⟨_, p, sim_dlen⟩
theorem qv_dkeys (p : PE X b (tCB rListD (tCons (tVar i) tNil))) : QV X xa W b (vDKeys i) := ⟨_, p, sim_dkeys⟩
theorem qe_dkeys (p : PE X b (tCB rListD (tCons (tVar i) tNil))) : QE X xa W b (eDKeys i) := ⟨_, p, sim_dkeysE⟩
end


/-! ### x.extend(e), e a new list -/
def vExtE (i : Nat) (m : ME) : MV := fun ρ => match ol (gt ρ i) with
  | none => .no
  | some _ => (m ρ).bd fun t ρ => match ol (some t), ol (gt ρ i) with
    | some es, some ds => if ds.length + es.length ≤ sizeLine then .ok .none (st ρ i (some (.lst ((ds ++ es).map T.f)))) else .no
    | _, _ => .no
theorem PT.bindV {K : PySem.W.Frag} {xa : Nat → Addr} {W : WX} {F H : Hp} {σ : L2.St} {S : AS} {Q Q' : VK} {m : Ou T} {k : T → MEnv → Ou PyData} (h : PO_ K xa W (RV_ K) F H σ S Q (m.bd k))
    (q : ∀ a ρ1 v F1 H1 S1 S2, To F H S F1 H1 (S1.or S2) → Disj S1 S2 → EnvR K F1 H1 σ ρ1 S2 → Rl K F1 H1 v a S1 → PO_ K xa W (RV_ K) F1 H1 σ (S1.or S2) Q (k a ρ1) → Q' v H1) : PT_ K xa W F H σ S Q' m := by
  cases m with
  | no => exact h
  | ok a ρ => exact fun v F' H' S1 S2 t' d r hr => q a ρ v F' H' S1 S2 t' d r hr (PO.step (show PO_ K xa W (RV_ K) F H σ S Q (k a ρ) from h) t')
  | ex c p ρ => exact h
section
variable {K : PySem.W.Frag} {xa : Nat → Addr} {W : WX}
theorem ol_rl {F H : Hp} {v : V} {t : T} {S : AS} {es : List PyData} (r : Rl K F H v t S) (e : ol (some t) = some es) : ∃ b zs, v = .ref b ∧ H b = some (.lst zs) ∧ DqAll K F zs es ∧ S b := by
  match t, e with
  | .nd (.lst true) ts, e =>
    cases r with
    | @nd a _ vs _ _ Sf c hl hc hs hd hn => exact ⟨a, vs, rfl, c.2.1, allF_dq (H := H) e hl hc, c.2.2⟩
theorem sim_extE {i : Nat} {t : TE} {m : ME} (h : SimE K xa W t m) : SimV K xa W (tBM K "list" rExtend (tVar i) (tCons t tNil)) (vExtE i m) := by
  intro F H σ ρ S Q re gd q
  unfold vExtE at q
  cases e : ol (gt ρ i) with
  | none =>
    rw [e] at q
    exact q.elim
  | some ds0 =>
    rw [e] at q
    obtain ⟨a, vs, e1, e2, _, _⟩ := own_at re gd e
    refine ⟨_, e1, ty_list e2, h F H σ ρ S _ re gd (PT.bindV q fun u ρ1 v F1 H1 S1 S2 t1 dj r1 h1 q1 => ?_)⟩
    cases e3 : ol (some u) with
    | none =>
      simp only [e3] at q1
      exact q1.elim
    | some es =>
      cases e4 : ol (gt ρ1 i) with
      | none =>
        simp only [e3, e4] at q1
        exact q1.elim
      | some ds =>
        simp only [e3, e4] at q1
        have g2 : Gd F1 H1 S2 := t1.gd.wk fun b z => .inr z
        obtain ⟨a', vs1, e5, e6, e7, up⟩ := own_at r1 g2 e4
        rw [e1] at e5
        cases e5
        obtain ⟨b, zs, rfl, e8, e9, _⟩ := ol_rl h1 e3
        by_cases c : ds.length + es.length ≤ sizeLine
        · rw [if_pos c] at q1
          obtain ⟨to, r2⟩ := up (vs1 ++ zs) (ds ++ es) (e7.cat e9)
          exact ⟨a, b, vs1, zs, rfl, rfl, e6, e8, by rw [e7.length, e9.length]; exact c, q1 .non F1 _ S2 (to.up fun b z => .inr z) r2 .non⟩
        · rw [if_neg c] at q1
          exact q1.elim
theorem qv_extE {X : Cx} {i : Nat} {e b : Expr} {m : ME} (h : QE X xa W e m) (f : ∀ t, PE X e t → PE X b (tBM X.K "list" rExtend (tVar i) (tCons t tNil))) : QV X xa W b (vExtE i m) := let ⟨_, p, q⟩ := h; ⟨_, f _ p, sim_extE q⟩
end
/-! ### texts joined -/
def strs? : List PyData → Option (List Str)
  | [] => some []
  | .str s :: r => (strs? r).map (s :: ·)
  | _ => none
def pJoin (a : PyData) : PyData → Option PyData
  | .list ds => (match a, strs? ds with
    | .str z, some ys => if (ys.map (·.length)).sum + ys.length * z.length ≤ 16777216 then some (.str (Txt.join z ys)) else none
    | _, _ => none)
  | .tuple ds => (match a, strs? ds with
    | .str z, some ys => if (ys.map (·.length)).sum + ys.length * z.length ≤ 16777216 then some (.str (Txt.join z ys)) else none
    | _, _ => none)
  | _ => none
section
variable {K : PySem.W.Frag} {xa : Nat → Addr} {W : WX}
theorem strs_V {H : Hp} : ∀ {vs : List V} {ds : List PyData} {ns : List Str}, DqAll K H vs ds → strs? ds = some ns → vs = ns.map V.str
  | _, [], _, .nil, e => by
    cases e
    rfl
  | _, _ :: r, ns, .cons h t, e => by
    cases h with
    | str i =>
      have e' : (strs? r).map (i :: ·) = some ns := e
      cases q : strs? r with
      | none =>
        rw [q] at e'
        cases e'
      | some ms =>
        rw [q] at e'
        cases e'
        rw [strs_V t q]
        rfl
    | _ => cases e
def vM1 (g : PyData → PyData → Option PyData) (a b : MV) : MV := fun ρ => (a ρ).bd fun x ρ => match x with
  | .str s => (b ρ).bd fun y ρ => .of (g (.str s) y) ρ
  | _ => .no
def OpM1 (K : PySem.W.Frag) (r : V → List V → Hp → VK → Prop) (g : PyData → PyData → Option PyData) : Prop := ∀ F H s y e z Q, Same F H → Dq K F y e → g (.str s) e = some z → (∀ v F' H', Nw F H F' H' → Dq K F' v z → Q v H') → r (.str s) [y] H Q
theorem sim_m1 {ta tb : TE} {a b : MV} {r : V → List V → Hp → VK → Prop} {g : PyData → PyData → Option PyData} (ho : OpM1 K r g) (ha : SimV K xa W ta a) (hb : SimV K xa W tb b) : SimV K xa W (tM1 r ta tb) (vM1 g a b) := by
  intro F H σ ρ S Q re gd q
  refine ha F H σ ρ S _ re gd (PO.bind q fun x ρ1 v F1 H1 S1 t1 r1 h1 q1 => ?_)
  have h1 : Dq K F1 v x := h1
  cases h1 with
  | str s =>
    refine ⟨⟨s, rfl⟩, hb F1 H1 σ ρ1 S1 _ r1 t1.gd (PO.bind q1 fun y ρ2 w F2 H2 S2 t2 r2 h2 q2 => ?_)⟩
    obtain ⟨z, e, q3⟩ := PO.of q2
    exact ho F2 H2 s w y z Q t2.gd.sm h2 e fun u F' H' n hu => q3 u F' H' S2 (n.to t2.gd) (n.env t2.gd r2) hu
  | _ => exact q1.elim
theorem o_join : OpM1 K (fun x xs H Q => ∃ a p, ∃ ys : List Str, x = .str a ∧ xs = [.ref p] ∧ (SqL K H p (ys.map V.str) ∨ SqT K H p (ys.map V.str)) ∧ (ys.map (·.length)).sum + ys.length * a.length ≤ 16777216 ∧ Q (.str (Txt.join a ys)) H) pJoin := by
  intro F H s y e z Q sm hy hg q
  cases hy with
  | @lst a xs ds h1 h2 =>
    have hg : (match PyData.str s, strs? ds with | .str z, some ys => if (ys.map (·.length)).sum + ys.length * z.length ≤ 16777216 then some (PyData.str (Txt.join z ys)) else none | _, _ => none) = some z := hg
    cases e1 : strs? ds with
    | none =>
      rw [e1] at hg
      cases hg
    | some ys =>
      rw [e1] at hg
      have hg : (if (ys.map (·.length)).sum + ys.length * s.length ≤ 16777216 then some (PyData.str (Txt.join s ys)) else none) = some z := hg
      split at hg
      · rename_i c
        cases hg
        have e2 := strs_V h2 e1
        subst e2
        exact ⟨s, a, ys, rfl, rfl, .inl (sm.seq h1), c, q _ F H (Nw.refl sm) (.str _)⟩
      · cases hg
  | @tup a xs ds h1 h2 =>
    have hg : (match PyData.str s, strs? ds with | .str z, some ys => if (ys.map (·.length)).sum + ys.length * z.length ≤ 16777216 then some (PyData.str (Txt.join z ys)) else none | _, _ => none) = some z := hg
    cases e1 : strs? ds with
    | none =>
      rw [e1] at hg
      cases hg
    | some ys =>
      rw [e1] at hg
      have hg : (if (ys.map (·.length)).sum + ys.length * s.length ≤ 16777216 then some (PyData.str (Txt.join s ys)) else none) = some z := hg
      split at hg
      · rename_i c
        cases hg
        have e2 := strs_V h2 e1
        subst e2
        exact ⟨s, a, ys, rfl, rfl, .inr (seqT sm h1), c, q _ F H (Nw.refl sm) (.str _)⟩
      · cases hg
  | _ => cases hg
def pSplit (a b : PyData) : Option PyData := match a, b with
  | .str x, .str y => if (y.length == 0) = false ∧ x.length + 2 ≤ sizeLine then some (.list ((Txt.split x y).map PyData.str)) else none
  | _, _ => none
theorem strs_Dq {F : Hp} : ∀ ys : List Str, DqAll K F (ys.map V.str) (ys.map PyData.str)
  | [] => .nil
  | _ :: r => .cons (.str _) (strs_Dq r)
theorem o_split : OpM1 K (fun x xs H Q => ∃ a b, x = .str a ∧ xs = [.str b] ∧ (b.length == 0) = false ∧ a.length + 2 ≤ sizeLine ∧ rNewStrs (Txt.split a b) H Q) pSplit := by
  intro F H s y e z Q sm hy hg q
  cases hy with
  | str b =>
    have hg : (if (b.length == 0) = false ∧ s.length + 2 ≤ sizeLine then some (PyData.list ((Txt.split s b).map PyData.str)) else none) = some z := hg
    split at hg
    · rename_i c
      cases hg
      exact ⟨s, b, rfl, rfl, c.1, c.2, fun p hp => q _ _ _ (nw_new sm hp) (new_lst (H := H) (strs_Dq _) (sm.free hp))⟩
    · cases hg
  | _ => cases hg
theorem qv_join {X : Cx} {o e : Expr} {a b : MV} {apos pos : Pos} (ha : QV X xa W o a) (hb : QV X xa W e b) (hs : starEach [e] X.env = [(false, eval e X.env)] := by rfl) (hbase : attributeBase o "join" X.env (eval o X.env) = eval o X.env := by rfl) (hline : (apos.endLine == pos.line) = true := by rfl) :
    QV X xa W (.Call (.Attribute o "join" apos) [e] [] pos) (vM1 pJoin a b) := let ⟨_, p, q⟩ := ha; let ⟨_, p', q'⟩ := hb; ⟨_, pe_join p p' hs hbase hline, sim_m1 o_join q q'⟩
theorem qv_split {X : Cx} {o e : Expr} {a b : MV} {apos pos : Pos} (ha : QV X xa W o a) (hb : QV X xa W e b) (hs : starEach [e] X.env = [(false, eval e X.env)] := by rfl) (hbase : attributeBase o "split" X.env (eval o X.env) = eval o X.env := by rfl) (hline : (apos.endLine == pos.line) = true := by rfl) :
    QV X xa W (.Call (.Attribute o "split" apos) [e] [] pos) (vM1 pSplit a b) := let ⟨_, p, q⟩ := ha; let ⟨_, p', q'⟩ := hb; ⟨_, pe_split p p' hs hbase hline, sim_m1 o_split q q'⟩
end


/-! ### x.extend(e), e any list or tuple -/
theorem list_extendW (l : Addr) (items : Array Value) (n : Nat) (b : Addr) (items2 : Array Value) (n2 : Nat) (dd2 : Option Addr) (sl2 : Array (Option Value)) (hc0 : ¬(!items.isEmpty && Builtin.List.listTooLong (items.size + items2.size)) = true) (hc1 : items.size ≤ sizeLine) (hs2 : items.size + items2.size ≤ sizeLine + 1) :
    Meets (Builtin.«list.extend» ⟨[.ref l, .ref b], []⟩) (fun _ R s => s.heap.get? l = some { cls := .type "list", dict := none, data := .seq items n, slots := #[] } ∧ s.heap.get? b = some { cls := .type "list", dict := dd2, data := .seq items2 n2, slots := sl2 } ∧ R (.ok (.ret Value.none)) { s with heap := s.heap.update l (Obj.mapSeq fun x => x ++ items2), toks := s.toks }) :=
  .of_wp fun prog w A R s h => by
    obtain ⟨hp, g, d, tk, os⟩ := s
    obtain ⟨e1, e2, h⟩ := h
    have f1 := AutoSeq1.idx_int
    have f2 := AutoSeq1.sub_tuple_tuple
    have f3 := AutoSeq1.sub_list_list
    have f4 := AutoSeq1.sub_tuple_list
    have f5 := AutoSeq1.sub_list_tuple
    have z2 : (items ++ items2).size ≤ sizeLine + 1 := by
      rw [Array.size_append]
      exact hs2
    wp_walk using (wpAny_updateSeq e1 rfl (hz := hc1) (_hz' := z2)), AutoSeq1.wpAny_loadPart' e1, AutoSeq1.wpAny_loadPart' e2
    exact ⟨_, rfl, h⟩
theorem list_extendT (l : Addr) (items : Array Value) (n : Nat) (b : Addr) (items2 : Array Value) (n2 : Nat) (dd2 : Option Addr) (sl2 : Array (Option Value)) (hc0 : ¬(!items.isEmpty && Builtin.List.listTooLong (items.size + items2.size)) = true) (hc1 : items.size ≤ sizeLine) (hs2 : items.size + items2.size ≤ sizeLine + 1) :
    Meets (Builtin.«list.extend» ⟨[.ref l, .ref b], []⟩) (fun _ R s => s.heap.get? l = some { cls := .type "list", dict := none, data := .seq items n, slots := #[] } ∧ s.heap.get? b = some { cls := .type "tuple", dict := dd2, data := .seq items2 n2, slots := sl2 } ∧ R (.ok (.ret Value.none)) { s with heap := s.heap.update l (Obj.mapSeq fun x => x ++ items2), toks := s.toks }) :=
  .of_wp fun prog w A R s h => by
    obtain ⟨hp, g, d, tk, os⟩ := s
    obtain ⟨e1, e2, h⟩ := h
    have f1 := AutoSeq1.idx_int
    have f2 := AutoSeq1.sub_tuple_tuple
    have f3 := AutoSeq1.sub_list_list
    have f4 := AutoSeq1.sub_tuple_list
    have f5 := AutoSeq1.sub_list_tuple
    have z2 : (items ++ items2).size ≤ sizeLine + 1 := by
      rw [Array.size_append]
      exact hs2
    wp_walk using (wpAny_updateSeq e1 rfl (hz := hc1) (_hz' := z2)), AutoSeq1.wpAny_loadPart' e1, AutoSeq1.wpAny_loadPart' e2
    exact ⟨_, rfl, h⟩
def rExtS (K : PySem.W.Frag) : V → List V → Hp → VK → Prop := fun x vs H Q => ∃ l b xs zs, x = .ref l ∧ vs = [.ref b] ∧ H l = some (.lst xs) ∧ (SqL K H b zs ∨ SqT K H b zs) ∧ xs.length + zs.length ≤ sizeLine ∧ Q .non (upd H l (.lst (xs ++ zs)))
theorem mt_extS {X : Cx} : MtM X "list.extend" (rExtS X.K) := by
  intro pins s σ H x vs v us Q I rx rv h
  obtain ⟨l, b, xs, zs, rfl, rfl, hH, hB, hz, q⟩ := h
  cases rx
  obtain ⟨u, rfl, ru⟩ := rv.one
  cases ru
  obtain ⟨z, its, n, r, hl, e⟩ := I.lstM hH
  rcases hB with hB | hB
  · obtain ⟨its2, r2, ⟨⟨c2, dd2, dt2, sl2⟩, n2, ho2, hc2, hd2, hs2⟩, hl2⟩ := I.list hB
    simp only at hc2 hd2 hs2
    subst hc2 hd2 hs2
    have hsz : its.toArray.size + its2.toArray.size ≤ sizeLine := by rw [List.size_toArray, List.size_toArray, ← hl, ← r2.length]; exact hz
    have hlong : ¬ (!its.toArray.isEmpty && Builtin.List.listTooLong (its.toArray.size + its2.toArray.size)) = true := by
      rw [notLongL hsz, Bool.and_false]
      exact Bool.false_ne_true
    refine call_meets F.slot_list_extend ⟨_, e, rfl⟩ F.entry_list_extend (F.args_list_extend_2 _ _) (list_extendW l its.toArray n b its2.toArray n2 none sl2 hlong (by rw [List.size_toArray]; omega) (by omega)) ⟨e, ho2, ?_⟩
    refine ⟨.non, _, I.lset (its' := its ++ its2) hH e (by simp) (r.append r2) ?_, rfl, q⟩
    rw [List.length_append]
    exact hz
  · obtain ⟨its2, r2, ⟨⟨c2, dd2, dt2, sl2⟩, ho2, hc2, n2, hs2⟩, hl2⟩ := I.tuple hB
    simp only at hc2 hs2
    subst hc2 hs2
    have hsz : its.toArray.size + its2.toArray.size ≤ sizeLine := by rw [List.size_toArray, List.size_toArray, ← hl, ← r2.length]; exact hz
    have hlong : ¬ (!its.toArray.isEmpty && Builtin.List.listTooLong (its.toArray.size + its2.toArray.size)) = true := by
      rw [notLongL hsz, Bool.and_false]
      exact Bool.false_ne_true
    refine call_meets F.slot_list_extend ⟨_, e, rfl⟩ F.entry_list_extend (F.args_list_extend_2 _ _) (list_extendT l its.toArray n b its2.toArray n2 dd2 sl2 hlong (by rw [List.size_toArray]; omega) (by omega)) ⟨e, ho2, ?_⟩
    refine ⟨.non, _, I.lset (its' := its ++ its2) hH e (by simp) (r.append r2) ?_, rfl, q⟩
    rw [List.length_append]
    exact hz
def seqD : PyData → Option (List PyData)
  | .list ds => some ds
  | .tuple ds => some ds
  | _ => none
def vExtV (i : Nat) (m : MV) : MV := fun ρ => match ol (gt ρ i) with
  | none => .no
  | some _ => (m ρ).bd fun d ρ => match seqD d, ol (gt ρ i) with
    | some es, some ds => if ds.length + es.length ≤ sizeLine then .ok .none (st ρ i (some (.lst ((ds ++ es).map T.f)))) else .no
    | _, _ => .no
section
variable {K : PySem.W.Frag} {xa : Nat → Addr} {W : WX}
theorem seqD_V {F : Hp} {v : V} {d : PyData} {es : List PyData} (h : Dq K F v d) (e : seqD d = some es) : ∃ a xs, v = .ref a ∧ (SqL K F a xs ∨ SqT K F a xs) ∧ DqAll K F xs es := by
  cases h with
  | lst h1 h2 =>
    cases e
    exact ⟨_, _, rfl, .inl h1, h2⟩
  | tup h1 h2 =>
    cases e
    exact ⟨_, _, rfl, .inr h1, h2⟩
  | _ => cases e
theorem sim_extV {i : Nat} {t : TE} {m : MV} (h : SimV K xa W t m) : SimV K xa W (tBM K "list" (rExtS K) (tVar i) (tCons t tNil)) (vExtV i m) := by
  intro F H σ ρ S Q re gd q
  unfold vExtV at q
  cases e : ol (gt ρ i) with
  | none =>
    rw [e] at q
    exact q.elim
  | some ds0 =>
    rw [e] at q
    obtain ⟨a, vs, e1, e2, _, _⟩ := own_at re gd e
    refine ⟨_, e1, ty_list e2, h F H σ ρ S _ re gd (PO.bind q fun d ρ1 v F1 H1 S1 t1 r1 h1 q1 => ?_)⟩
    cases e3 : seqD d with
    | none =>
      simp only [e3] at q1
      exact q1.elim
    | some es =>
      cases e4 : ol (gt ρ1 i) with
      | none =>
        simp only [e3, e4] at q1
        exact q1.elim
      | some ds =>
        simp only [e3, e4] at q1
        obtain ⟨a', vs1, e5, e6, e7, up⟩ := own_at r1 t1.gd e4
        rw [e1] at e5
        cases e5
        obtain ⟨b, zs, rfl, e8, e9⟩ := seqD_V h1 e3
        by_cases c : ds.length + es.length ≤ sizeLine
        · rw [if_pos c] at q1
          obtain ⟨to, r2⟩ := up (vs1 ++ zs) (ds ++ es) (e7.cat e9)
          exact ⟨a, b, vs1, zs, rfl, rfl, e6, e8.imp t1.gd.sm.seq (seqT t1.gd.sm), by rw [e7.length, e9.length]; exact c, q1 .non F1 _ S1 to r2 .non⟩
        · rw [if_neg c] at q1
          exact q1.elim
theorem qv_extV {X : Cx} {i : Nat} {e b : Expr} {m : MV} (h : QV X xa W e m) (f : ∀ t, PE X e t → PE X b (tBM X.K "list" (rExtS X.K) (tVar i) (tCons t tNil))) : QV X xa W b (vExtV i m) := let ⟨_, p, q⟩ := h; ⟨_, f _ p, sim_extV q⟩
/-! ### x.pop(0) -/
def vPop0 (i : Nat) : MV := fun ρ => match ol (gt ρ i) with
  | some (d :: ds) => .ok d (st ρ i (some (.lst (ds.map T.f))))
  | _ => .no
theorem sim_pop0 {i : Nat} : SimV K xa W (tBM K "list" rPopAt (tVar i) (tCons (tC (.int 0)) tNil)) (vPop0 i) := by
  intro F H σ ρ S Q re gd q
  unfold vPop0 at q
  cases e : ol (gt ρ i) with
  | none =>
    rw [e] at q
    exact q.elim
  | some ds =>
    rw [e] at q
    cases ds with
    | nil => exact q.elim
    | cons d ds =>
      obtain ⟨a, vs, e1, e2, e3, up⟩ := own_at re gd e
      cases e3 with
      | @cons v vs' _ _ h1 h2 =>
        obtain ⟨to, r2⟩ := up _ _ h2
        refine ⟨_, e1, ty_list e2, a, _, 0, 0, v, rfl, rfl, e2, by decide, by decide, ?_, rfl, q v F _ S to r2 h1⟩
        unfold seqIndex?
        simp
theorem qv_pop0 {X : Cx} {i : Nat} {b : Expr} (p : PE X b (tBM X.K "list" rPopAt (tVar i) (tCons (tC (.int 0)) tNil))) : QV X xa W b (vPop0 i) := ⟨_, p, sim_pop0⟩
end


/-! ### the law's own def -/
abbrev E0x : XK := fun _ _ _ => False
def sp_law (K : PySem.W.Frag) : Sp := fun vs H Q _ => ∃ (a : Addr) (ns : List Int), vs = [.ref a] ∧ SqL K H a (ns.map V.int) ∧ ns.length ≤ 63 ∧ ∀ H', Q (.bl true) H'
theorem ints_Dq {K : PySem.W.Frag} {H : Hp} : ∀ ns : List Int, DqAll K H (ns.map V.int) (ns.map PyData.int)
  | [] => .nil
  | _ :: r => .cons (.int _) (ints_Dq r)
theorem law_of {P : Program} {w : World} {K : PySem.W.Frag} {mg : Str → Option Value} {base : Heap} {xa : Nat → Addr} {k : Nat} {f : Addr} {fd : FuncData} {ps : List Str} {m : Mf} (F : FnG P w K mg base (L2.CX P w) k f fd ps (spM K xa m))
    (hm : ∀ ns : List Int, ns.length ≤ 63 → ∃ back, m [.f (.list (ns.map PyData.int))] = .ok (.f (.bool true)) back) : FnG P w K mg base CX0 k f fd ps (sp_law K) := by
  have key : ∀ vs H Q E, sp_law K vs H Q E → spM K xa m vs H Q E0x := fun vs H Q E h => by
    obtain ⟨a, ns, rfl, hS, hl, q⟩ := h
    obtain ⟨back, e⟩ := hm ns hl
    refine ⟨H, [.f (.list (ns.map PyData.int))], noS, args_env (vs := [.ref a]) (ds := [.list (ns.map PyData.int)]) (.cons (.lst hS (ints_Dq ns)) .nil), ⟨Same.refl H, fun _ z => z.elim⟩, ?_⟩
    rw [e]
    intro v F' H' S1 S2 _ _ rv _
    cases rv.dq
    exact q H'
  refine ⟨fun vs H Q E h => F.len vs H Q E0x (key vs H Q E h), fun A outer s H args us vs Q E hr hg he hb hv h => codeAny_mono (F.go A outer s H args us vs Q E0x hr hg he hb hv (key vs H Q E h)) fun r s' hq => ?_⟩
  match r, hq with
  | .ok x, hq =>
    cases x with
    | ret u => exact hq
    | next => exact False.elim hq
    | brk => exact False.elim hq
    | cont => exact False.elim hq
  | .error e, hq =>
    obtain ⟨_, _, _, _, _, _, _, _, _, _, _, _, z⟩ := hq
    exact z.elim


/-! ### looks that change nothing: owned slots read as if they stayed -/
def frzE (ρ : MEnv) : MEnv := ρ.map (Option.map T.frz)
def scal : PyData → Bool
  | .none | .bool _ | .int _ | .str _ => true
  | _ => false
def vPeek (m : MV) : MV := fun ρ => match m (frzE ρ) with
  | .ok d _ => if scal d = true then .ok d ρ else .no
  | _ => .no
def bPeek (m : MB) : MB := fun ρ => match m (frzE ρ) with
  | .ok b _ => .ok b ρ
  | _ => .no
/-- a tuple that holds what may be owned -/
def eTupR (a : MR) : ME := fun ρ => (a ρ).bd fun α ρ => match alls α with
  | some ts => if ts.length ≤ sizeLine then .ok (.nd .tup ts) ρ else .no
  | none => .no
/-- a list within such a tuple is emptied -/
def vClrT (i j : Nat) : MV := fun ρ => match gt ρ i with
  | some (.nd .tup ts) => (match ts[j]? with
    | some (.nd (.lst true) _) => .ok .none (st ρ i (some (.nd .tup (ts.set j (.lst [])))))
    | _ => .no)
  | _ => .no
theorem gt_frzE : ∀ {ρ : MEnv} {i : Nat} {t : T}, gt (frzE ρ) i = some t → ∃ u, gt ρ i = some u ∧ t = u.frz
  | some u :: _, 0, _, h => ⟨u, rfl, (Option.some.inj h).symm⟩
  | none :: _, 0, _, h => nomatch h
  | _ :: r, i + 1, _, h => gt_frzE (ρ := r) (i := i) h
section
variable {K : PySem.W.Frag} {xa : Nat → Addr} {W : WX} {F H F' H' : Hp} {S S' : AS} {σ : L2.St} {ρ : MEnv}
theorem EnvR.frzE (g : Same F H) (r : EnvR K F H σ ρ S) : EnvR K (frzH F H S) H σ (frzE ρ) noS := by
  obtain ⟨hl, Sf, h1, h2, h3⟩ := r
  refine ⟨by unfold Fs.frzE; rw [List.length_map]; exact hl, fun _ => noS, fun i t e => ?_, fun _ _ z => z.elim, fun _ _ _ _ z => z.elim⟩
  obtain ⟨u, e1, rfl⟩ := gt_frzE e
  obtain ⟨v, e2, e3⟩ := h1 i u e1
  exact ⟨v, e2, e3.frz g S (h2 i)⟩
theorem To.stay (g : Gd F H S) (s : Same H H') : To F H S F H' S :=
  ⟨fun b o e _ => s b o e, Same.refl F, fun _ h => .inl h, fun _ h => .inl h, g.sm.trans s, fun b h => by
    obtain ⟨h1, h2⟩ := g.ow b h
    refine ⟨?_, h2⟩
    cases e : H b with
    | none => exact absurd e h1
    | some o =>
      rw [s b o e]
      exact fun z => nomatch z⟩
theorem To.same0 (t : To F H Fs.noS F' H' S') : Same H H' := fun b o e => t.fr b o e fun z => z
theorem EnvR.stay (g : Gd F H S) (s : Same H H') (r : EnvR K F H σ ρ S) : EnvR K F H' σ ρ S := r.frame (Same.refl F) (fun b o _ e => s b o e) fun b z => (g.ow b z).2
theorem sim_bPeek {t : TT} {m : MB} (h : SimB K xa W t m) : SimB K xa W t (bPeek m) := by
  intro F H σ ρ S Q re gd q
  unfold bPeek at q
  cases e : m (frzE ρ) with
  | no =>
    rw [e] at q
    exact q.elim
  | ex c p ρ' =>
    rw [e] at q
    exact q.elim
  | ok b ρ' =>
    rw [e] at q
    refine h (frzH F H S) H σ (frzE ρ) noS Q (re.frzE gd.sm) ⟨frzH_sub gd.sm, fun _ z => z.elim⟩ ?_
    rw [e]
    exact fun v F' H' S' t' r' hv => q v F H' S (To.stay gd t'.same0) (re.stay gd t'.same0) hv
theorem Dq.scal {F F' : Hp} {v : V} {d : PyData} (h : Dq K F v d) (s : scal d = true) : Dq K F' v d := by
  cases h with
  | non => exact .non
  | bl b => exact .bl b
  | int i => exact .int i
  | str x => exact .str x
  | lst _ _ => exact nomatch s
  | tup _ _ => exact nomatch s
  | dct _ => exact nomatch s
theorem sim_vPeek {t : TE} {m : MV} (h : SimV K xa W t m) : SimV K xa W t (vPeek m) := by
  intro F H σ ρ S Q re gd q
  unfold vPeek at q
  cases e : m (frzE ρ) with
  | no =>
    rw [e] at q
    exact q.elim
  | ex c p ρ' =>
    rw [e] at q
    exact q.elim
  | ok d ρ' =>
    simp only [e] at q
    by_cases c : Fs.scal d = true
    · rw [if_pos c] at q
      refine h (frzH F H S) H σ (frzE ρ) noS Q (re.frzE gd.sm) ⟨frzH_sub gd.sm, fun _ z => z.elim⟩ ?_
      rw [e]
      exact fun v F' H' S' t' r' hv => q v F H' S (To.stay gd t'.same0) (re.stay gd t'.same0) (hv.scal c)
    · rw [if_neg c] at q
      exact q.elim
theorem alls_len : ∀ {α : MEnv} {ts : List T}, alls α = some ts → α = ts.map some
  | [], _, h => by
    cases h
    rfl
  | some t :: r, ts, h => by
    have h : (match alls r with | some ts => some (t :: ts) | none => none) = some ts := h
    cases e : alls r with
    | none =>
      rw [e] at h
      cases h
    | some us =>
      rw [e] at h
      cases h
      rw [alls_len e]
      rfl
theorem gt_mapS : ∀ {ts : List T} {i : Nat} {t : T}, ts[i]? = some t → gt (ts.map some) i = some t
  | _ :: _, 0, _, h => h
  | _ :: r, i + 1, _, h => gt_mapS (ts := r) (i := i) h
theorem sim_eTupR {t : TA} {m : MR} (h : SimR K xa W [] t m) : SimE K xa W (tTup t) (eTupR m) := by
  intro F H σ ρ S Q re gd q
  refine h F H σ ρ S _ re gd ?_
  unfold eTupR at q
  cases e : m ρ with
  | no =>
    rw [e] at q
    exact q.elim
  | ex c p ρ' =>
    rw [e] at q
    exact q
  | ok α ρ' =>
    rw [e] at q
    intro vs F1 H1 S1 S2 to dj rα rρ _
    simp only [Ou.bd] at q
    cases ea : alls α with
    | none =>
      simp only [ea] at q
      exact q.elim
    | some ts =>
      simp only [ea] at q
      by_cases c : ts.length ≤ sizeLine
      · rw [if_pos c] at q
        have eα := alls_len ea
        obtain ⟨hl, Sf, h1, h2, h3⟩ := rα
        have hlen : vs.length = ts.length := by
          rw [eα, List.length_map, List.length_map] at hl
          exact hl
        refine ⟨by rw [hlen]; exact c, fun p hp => ?_⟩
        have nw := nw_new (o := .tup vs) to.gd.sm hp
        have to2 : To F1 H1 (S1.or S2) _ _ (S1.or S2) := nw.to to.gd
        have hf : F1 p = none := to.gd.sm.free hp
        refine q (.ref p) (upd F1 p (.tup vs)) _ S1 S2 (to.trans to2) dj (nw.env (to.gd.wk fun b z => .inr z) rρ) (.nd Sf (SqT.of upd_same) hlen (fun i v t hv ht => ?_) h2 h3 fun i z => (to.gd.ow p (.inl (h2 i p z))).1 hp)
        obtain ⟨w, e1, e2⟩ := h1 i t (by rw [eα]; exact gt_mapS ht)
        rw [List.getElem?_map, hv] at e1
        cases e1
        exact nw.rl (to.gd.wk fun b z => .inl (h2 i b z)) e2
      · rw [if_neg c] at q
        exact q.elim
theorem sim_clrT {i j : Nat} : SimV K xa W (tBM0 K "list" rClear (tOp (rIx K) (tVar i) (tC (.int (j : Int))))) (vClrT i j) := by
  intro F H σ ρ S Q re gd q
  unfold vClrT at q
  cases e0 : gt ρ i with
  | none =>
    rw [e0] at q
    exact q.elim
  | some t =>
    match t with
    | .f d =>
      simp only [e0] at q
      exact q.elim
    | .nd (.lst o) ts =>
      simp only [e0] at q
      exact q.elim
    | .nd (.dct o ks) ts =>
      simp only [e0] at q
      exact q.elim
    | .nd (.ob o c fs) ts =>
      simp only [e0] at q
      exact q.elim
    | .nd .tup ts =>
      simp only [e0] at q
      obtain ⟨v, S1, S2, e1, r1, r2, w1, w2, dj⟩ := re.take e0
      cases r1 with
      | @nd a _ vs _ _ Sf c hl hc hs hd hn =>
        have c : SqT K F a vs := c
        cases e2 : ts[j]? with
        | none =>
          simp only [e2] at q
          exact q.elim
        | some u =>
          match u with
          | .f d =>
            simp only [e2] at q
            exact q.elim
          | .nd .tup _ =>
            simp only [e2] at q
            exact q.elim
          | .nd (.lst false) _ =>
            simp only [e2] at q
            exact q.elim
          | .nd (.dct o ks) _ =>
            simp only [e2] at q
            exact q.elim
          | .nd (.ob o _ fs) _ =>
            simp only [e2] at q
            exact q.elim
          | .nd (.lst true) us =>
            simp only [e2] at q
            have hj : j < ts.length := (List.getElem?_eq_some_iff.mp e2).1
            have e3 : vs[j]? = some vs[j] := List.getElem?_eq_getElem (by omega)
            have rj := hc j vs[j] _ e3 e2
            generalize ev : vs[j] = x at rj e3
            cases rj with
            | @nd b _ ws _ _ Sg c' hl' hc' hs' hd' hn' =>
              obtain ⟨c1, c2, c3⟩ : F b = none ∧ H b = some (.lst ws) ∧ Sf j b := c'
              have sb : S b := w1 b (hs j b c3)
              refine ⟨_, e1, .inr (.inl ⟨a, vs, (j : Int), .ref b, rfl, rfl, seqT gd.sm c, atI_nat e3, ty_list c2, b, ws, rfl, rfl, c2, ?_⟩)⟩
              have to : To F H S F (upd H b (.lst [])) S := (To.refl gd).updO sb
              refine q .non F _ S to ?_ .non
              have r3 : EnvR K F (upd H b (.lst [])) σ (st ρ i none) S2 := r2.upd (gd.wk w2) fun z => dj b (hs j b c3) z
              have rt : Rl K F (upd H b (.lst [])) (.ref a) (.nd .tup (ts.set j (.lst []))) S1 := by
                refine .nd Sf c (by rw [List.length_set]; exact hl) (fun k v t hv ht => ?_) hs hd hn
                by_cases ek : k = j
                · subst ek
                  rw [List.getElem?_set_self hj] at ht
                  cases ht
                  rw [e3] at hv
                  cases hv
                  exact (own_rl (ds := []) c1 upd_same .nil).wk fun z ez => by rw [ez]; exact c3
                · rw [List.getElem?_set_ne (Ne.symm ek)] at ht
                  refine (hc k v t hv ht).frame (Same.refl F) (fun z o hz eo => ?_) fun z hz => (gd.ow z (w1 z (hs k z hz))).2
                  rw [upd_ne (fun ez => hd k j ek z hz (by rw [ez]; exact c3))]
                  exact eo
              have r4 := r3.back (i := i) (S' := S1) e1 rt dj
              rw [st_st] at r4
              exact r4.wk fun z hz => hz.elim (w1 z) (w2 z)
end
section
variable {X : Cx} {xa : Nat → Addr} {W : WX} {P : Nat → Bool} {e b : Expr} {es : List Expr} {pos : Pos}
theorem qb_peek {m : MB} (h : QB X xa W e m) : QB X xa W e (bPeek m) := let ⟨t, p, s⟩ := h; ⟨t, p, sim_bPeek s⟩
theorem qv_peek {m : MV} (h : QV X xa W e m) : QV X xa W e (vPeek m) := let ⟨t, p, s⟩ := h; ⟨t, p, sim_vPeek s⟩
theorem qe_tupR {x1} {m : MR} (h : QR X xa W [] es m) : QE X xa W (.Tuple es x1 pos) (eTupR m) := by
  obtain ⟨t, p, s⟩ := h
  exact ⟨_, pe_tup p, sim_eTupR s⟩
theorem qv_clrT {i j : Nat} (p : PE X b (tBM0 X.K "list" rClear (tOp (rIx X.K) (tVar i) (tC (.int (j : Int)))))) : QV X xa W b (vClrT i j) := ⟨_, p, sim_clrT⟩
end


/-! ### enumerate(tuple) -/
section
set_option maxRecDepth 100000
theorem meets_enumT (tp : Addr) (arr : Array Value) (nn : Nat) (dt : Option Addr) (sl : Array (Option Value)) : Meets (Builtin.«enumerate.__new__» ⟨[.type "enumerate", .ref tp], []⟩) (fun _ R s => s.heap.get? tp = some { cls := .type "tuple", dict := dt, data := .seq arr nn, slots := sl } ∧
      R (.ok (.ret (.ref (s.heap.push { cls := .type "tuple_iterator", data := .fields #[.ref tp, .int 0 0] }).objs.size))) { s with heap := (s.heap.push { cls := .type "tuple_iterator", data := .fields #[.ref tp, .int 0 0] }).push { cls := .type "enumerate", data := .fields #[.none, .bool false, .ref s.heap.objs.size, rawInt 0, .none, .none] } }) :=
  .of_wp fun prog w A R s h => by
    obtain ⟨hp, g, d, tk, os⟩ := s; obtain ⟨ht, h⟩ := h
    have h_sub := sub_enumerate
    have hT : Heap.IsTuple (Shared.heap ⟨hp, g, d, tk, os⟩) tp arr := ⟨_, ht, rfl, nn, rfl⟩
    wp_walk using AutoSeq1.wpAny_loadPart' ht
    refine wpAny_stack_any fun st => wpAny_pure ?_
    split
    · rename_i c _ _ _ _ _
      cases (c == Value.type "enumerate")
      · wp_walk using AutoSeq1.wpAny_loadPart' ht, wpAny_pyIter_tuple hT
        exact ⟨_, rfl, h⟩
      · wp_walk using AutoSeq1.wpAny_loadPart' ht, wpAny_pyIter_tuple hT
        exact ⟨_, rfl, h⟩
    · wp_walk using AutoSeq1.wpAny_loadPart' ht, wpAny_pyIter_tuple hT
      exact ⟨_, rfl, h⟩
theorem call_enumT {prog : Program} {w : World} {A : Around} {E : Value → Shared → Prop} {s : Shared} {tp : Addr} {arr : Array Value} {Q : Value → Shared → Prop} (hT : s.heap.IsTuple tp arr)
    (h : ∀ h', IsEnum h' (s.heap.objs.size + 1) s.heap.objs.size 0 .none → h'.IsTupleIter s.heap.objs.size tp 0 → (∀ b o, s.heap.get? b = some o → h'.get? b = some o) → Q (.ref (s.heap.objs.size + 1)) { s with heap := h' }) : wpAny (model prog w) A (call (.type "enumerate") [.ref tp]) Q E s := by
  obtain ⟨⟨c, dct, dt, sl⟩, hl, hc, n, hd⟩ := hT
  have hc : c = .type "tuple" := hc
  have hd : dt = .seq arr n := hd
  subst hc hd
  refine callType_new F.called_enumerate (by decide) (F.typeCall_enumerate_1 _) (F.newCall_enumerate_1 _) (fun obj => F.args_object_init_2 obj _) F.entry_enumerate_new (meets_enumT tp arr n dct sl) ⟨hl, ?_⟩
  have hz : (s.heap.push { cls := .type "tuple_iterator", data := .fields #[.ref tp, .int 0 0] }).objs.size = s.heap.objs.size + 1 := Heap.size_push ..
  show _ ∧ _
  rw [hz]
  have he : IsEnum ((s.heap.push { cls := .type "tuple_iterator", data := .fields #[.ref tp, .int 0 0] }).push { cls := .type "enumerate", data := .fields #[.none, .bool false, .ref s.heap.objs.size, rawInt 0, .none, .none] }) (s.heap.objs.size + 1) s.heap.objs.size 0 .none := by
    have hh := Heap.get?_push_size (s.heap.push { cls := .type "tuple_iterator", data := .fields #[.ref tp, .int 0 0] }) (o := { cls := .type "enumerate", data := .fields #[.none, .bool false, .ref s.heap.objs.size, rawInt 0, .none, .none] }) rfl
    rw [hz] at hh
    exact hh
  exact ⟨⟨_, he, rfl⟩, h _ he ⟨_, Heap.get?_push_of_some _ (Heap.get?_push_size _ rfl), rfl, rfl⟩ fun b o x => Heap.get?_push_of_some _ (Heap.get?_push_of_some _ x)⟩
/-- the tuple at a, each item in a new pair -/
def IteT (K : PySem.W.Frag) (a : Addr) : It :=
  ⟨fun i H => ∃ (xs : List V) (x : V), SqT K H a xs ∧ xs[i]? = some x, fun i H v H' => ∃ T x, v = .ref T ∧ H T = none ∧ H' = upd H T (.tup [.int (i : Nat), x]) ∧ ∀ xs, SqT K H a xs → xs[i]? = some x, fun i H => ∃ xs : List V, SqT K H a xs ∧ xs.length ≤ i⟩
theorem apartT {h : Heap} {e it a : Addr} {i : Int} {old : Value} {k : Nat} {arr : Array Value} (he : IsEnum h e it i old) (hi : h.IsTupleIter it a k) (ht : h.IsTuple a arr) : a ≠ it ∧ e ≠ a := by
  obtain ⟨o, ho, hc, _⟩ := ht
  obtain ⟨o', ho', hc', _⟩ := hi
  constructor
  · intro z
    subst z
    rw [ho] at ho'
    cases ho'
    rw [hc] at hc'
    exact absurd (Value.type.inj hc') (by decide)
  · intro z
    subst z
    have he : h.get? e = _ := he
    rw [ho] at he
    cases he
    exact absurd (Value.type.inj hc) (by decide)
theorem wpAny_pyNext_enum_overT {prog : Program} {w : World} {A : Around} {E : Value → Shared → Prop} {s : Shared} {e it tp : Addr} {i : Nat} {arr : Array Value} {old : Value} {Q : Option Value → Shared → Prop} (hh : A.in1.handled = none) (he : IsEnum s.heap e it i old) (hit : s.heap.IsTupleIter it tp i) (hp : s.heap.IsTuple tp arr) (hx : arr[i]? = none)
    (hQ : ∀ h', Heap.ExtBut it s.heap h' → Q none { s with heap := h' }) : wpAny (model prog w) A (pyNext (.ref e)) Q E s := by
  have ty : s.TypeIs (.ref e) "enumerate" := ⟨_, he, rfl⟩
  unfold pyNext
  refine wpAny_bind (wpAny_attempt (wpAny_callSpecial?_slot (name := Str.ofString "__next__") ty F.slot_enumerate_next (wpAny_call_entry F.slot_enumerate_next ty F.entry_enumerate_next ?_ (F.args_enumerate_next_1 _))))
  show wpAny _ _ (field (.ref e) 2 >>= fun _ => _) _ _ _
  refine wpAny_bind (wpAny_field he rfl (x := .ref it) rfl (wpAny_bind (wpAny_nextOf_tuple_end hh hit hp hx fun h' x he' hx' => ?_)))
  obtain ⟨o, ho, hc⟩ := hx'
  exact wpAny_bind (wpAny_isInstance (T := "StopIteration") (b := true) ⟨o, ho, hc⟩ isSubtype_stop (wpAny_pure (hQ _ he')))
theorem turn_enumT {P : Program} {w : World} {K : PySem.W.Frag} {elts : List Expr} {kk : Nat} {tpos : Pos} (a e it : Addr) : Turn P w K (.Tuple elts kk tpos) (IteT K a) [e, it] e (fun i h => (∃ old, IsEnum h e it ((i : Nat) : Int) old) ∧ h.IsTupleIter it a i ∧ e ≠ it) where
  mem := by simp
  obj := fun i h st b hb => by
    obtain ⟨⟨old, he⟩, ⟨o, ho, hc, hd⟩, _⟩ := st
    rcases (show b = e ∨ b = it by simpa using hb) with z | z
    · subst z; exact ⟨_, he, fun v q => nomatch q⟩
    · subst z; exact ⟨o, ho, fun v q => by rw [hd] at q; cases q⟩
  keep := fun i h h' st k => let ⟨⟨old, he⟩, hi, hn⟩ := st; ⟨⟨old, k e (by simp) _ he⟩, hi.at fun o q => k it (by simp) o q, hn⟩
  item := by
    intro X hP hw hK hc i pins s σ H E I hf st hg
    subst hP hw hK
    obtain ⟨⟨old, he⟩, hit, hn⟩ := st
    obtain ⟨xs, x, hq, hx⟩ := hg
    obtain ⟨its, rv, p, hz⟩ := I.tuple hq
    obtain ⟨u, hu, ru⟩ := rv.get hx
    have hp : s.heap.IsTuple a its.toArray := p
    obtain ⟨na, nb⟩ := apartT he hit hp
    have hh : X.A.in1.handled = none := I.ok.hd hc
    have hel : e < s.heap.objs.size := Heap.lt_size he
    have hil : it < s.heap.objs.size := by obtain ⟨_, q, _⟩ := hit; exact Heap.lt_size q
    have hlt : i < its.toArray.size := by
      have := (List.getElem?_eq_some_iff.mp hu).1
      simpa using this
    refine wpAny_pyNext_enum_itemD (Draws.tuple hh it a na its.toArray) he ⟨hit, hp⟩ hlt hn (by simp [hn, nb]) fun y h' tk hP ho hs' hT hsz hk => ?_
    have ey : y = u := by
      have h1 : its[i]? = some y := by simpa using hP
      rw [hu] at h1
      exact (Option.some.inj h1).symm
    subst ey
    refine ⟨_, rfl, wpAny_letOwnedTupleGo_enum (s := { s with heap := h', toks := tk + 1 }) ho fun h'' he' sb => ?_⟩
    have hT2 : h''.get? s.heap.objs.size = some { cls := .type "tuple", data := .seq #[.int i tk, y] } := (sb.2 _ (Nat.ne_of_gt hel)).trans hT
    have nw : ObjOk X.prog X.w (upd H s.heap.objs.size (.tup [.int (i : Nat), x])) h'' s.heap.objs.size (.tup [.int (i : Nat), x]) := ⟨by show 2 ≤ sizeLine; decide, [.int i tk, y], .cons ⟨_, rfl⟩ (.cons ru .nil), ⟨_, hT2, rfl, _, rfl⟩⟩
    have I1 : Inv X pins σ (upd H s.heap.objs.size (.tup [.int (i : Nat), x])) { s with heap := h'', toks := tk + 1 } := I.turnedNew (ch := [e, it]) (fun b ob hb q => (sb.2 b (fun z => hb (by simp [z]))).trans (hk b ob (fun z => hb (by simp [z])) (fun z => hb (by simp [z])) q)) hf (Nat.le_refl _) nw
    refine ⟨.ref s.heap.objs.size, _, I1, rfl, ⟨_, x, rfl, I.hok.fresh (Nat.le_refl _), rfl, fun ys hy => by rw [I.tuple_inj hy hq]; exact hx⟩, ⟨⟨y, ?_⟩, hs'.1.at fun o q => (sb.2 it (Ne.symm hn)).trans q, hn⟩, fun b hb => ?_⟩
    · rw [show ((i + 1 : Nat) : Int) = (i : Int) + 1 by omega]; exact he'
    · have hb' : b < s.heap.objs.size := by
        rcases (show b = e ∨ b = it by simpa using hb) with z | z
        · subst z; exact hel
        · subst z; exact hil
      rw [upd_ne (Nat.ne_of_lt hb')]; exact (hf b hb).1
  done := by
    intro X hP hw hK hc i pins s σ H E I hf st hg
    subst hP hw hK
    obtain ⟨⟨old, he⟩, hit, hn⟩ := st
    obtain ⟨xs, hq, hx⟩ := hg
    obtain ⟨its, rv, p, hz⟩ := I.tuple hq
    have hp : s.heap.IsTuple a its.toArray := p
    obtain ⟨na, nb⟩ := apartT he hit hp
    have hh : X.A.in1.handled = none := I.ok.hd hc
    obtain ⟨f0, f1, f2, f3, f4, f5⟩ := hf it (by simp)
    have hl := rv.length
    exact wpAny_pyNext_enum_overT hh he hit hp (by simp; omega) fun h' eb => ⟨rfl, I.turned (t' := s.toks) (fun b o hb q => eb b o hb q) f0 f1 f3 f4 f5⟩
  self := fun A i s Q E st h => let ⟨⟨_, he⟩, _⟩ := st; wpAny_pyIter_enum he h
def iEnumA (K : PySem.W.Frag) (ta : TA) : TI := fun σ H R => ta σ H fun vs H1 => ∃ a xs b, vs = [.ref a] ∧ SeqB b K H1 a xs ∧ R (if b = true then Ite K a else IteT K a) H1
theorem pi_enumT {X : Cx} {e : Expr} {ta : TA} {p pos tpos : Pos} {elts : List Expr} {kk : Nat} (hg : Gl X "enumerate") (hm : X.mg "enumerate" = none) (ha : PA X [e] ta) (hs : starEach [e] X.env = [(false, eval e X.env)] := by rfl) : PI X (.Tuple elts kk tpos) (.Call (.Name "enumerate" p) [e] [] pos) (iEnumA X.K ta) := by
  refine ⟨fun pins s σ H R I h => ?_⟩
  refine Call_ (ld_blt I hg hm boot_enumerate (PyProof.Rows.callWith_type1 (thn (ha.run pos pins s σ H _ I h) fun us s1 ⟨vs, H1, I1, r1, q1⟩ => ?_) hs rfl))
  obtain ⟨a, xs, b, ex, hq, q⟩ := q1
  subst ex
  cases r1 with
  | cons r rr =>
    cases rr
    cases r
    have fin : ∀ b ∈ [s1.heap.objs.size + 1, s1.heap.objs.size], s1.heap.objs.size ≤ b := fun b hb => by
      rcases (show b = s1.heap.objs.size + 1 ∨ b = s1.heap.objs.size by simpa using hb) with z | z <;> omega
    cases b with
    | true =>
      obtain ⟨its, rv, p', hz⟩ := I1.list (show SqL X.K H1 a xs from hq)
      refine call_enumerate_list p'.isList fun h' he hit hsz hk => wpAny_pyIter_enum he ?_
      have I2 : Inv X pins σ H1 { s1 with heap := h' } := I1.kept (t' := s1.toks) hk
      exact ⟨s1.heap.objs.size + 1, [s1.heap.objs.size + 1, s1.heap.objs.size], _, _, H1, rfl, I2, turn_enum a (s1.heap.objs.size + 1) s1.heap.objs.size, ⟨⟨.none, he⟩, hit, Nat.succ_ne_self _⟩, fun b hb => I1.fpOk (fin b hb) (I1.hok.fresh (fin b hb)), q⟩
    | false =>
      obtain ⟨its, rv, p', hz⟩ := I1.tuple (show SqT X.K H1 a xs from hq)
      refine call_enumT (show s1.heap.IsTuple a its.toArray from p') fun h' he hit hk => wpAny_pyIter_enum he ?_
      have I2 : Inv X pins σ H1 { s1 with heap := h' } := I1.kept (t' := s1.toks) hk
      exact ⟨s1.heap.objs.size + 1, [s1.heap.objs.size + 1, s1.heap.objs.size], _, _, H1, rfl, I2, turn_enumT a (s1.heap.objs.size + 1) s1.heap.objs.size, ⟨⟨.none, he⟩, hit, Nat.succ_ne_self _⟩, fun b hb => I1.fpOk (fin b hb) (I1.hok.fresh (fin b hb)), q⟩
end


/-! ### enumerate of a list or a tuple -/
def iEnumAM (a : MV) : MI := fun ρ => (a ρ).bd fun x ρ => match x with
  | .list ds => .ok (enumD 0 ds) ρ
  | .tuple ds => .ok (enumD 0 ds) ρ
  | _ => .no
section
variable {K : PySem.W.Frag} {xa : Nat → Addr} {W : WX}
theorem sim_iEnumA {t : TE} {m : MV} (h : SimV K xa W t m) : Sim K xa W (RI_ K) (iEnumA K (tCons t tNil)) (iEnumAM m) := by
  intro F H σ ρ S Q re gd q
  refine h F H σ ρ S _ re gd (PO.bind q fun d ρ1 v F1 H1 S1 t1 r1 h1 q1 => ?_)
  have h1 : Dq K F1 v d := h1
  cases h1 with
  | @lst a xs ds z1 z2 =>
    refine ⟨a, xs, true, rfl, t1.gd.sm.seq z1, q1 _ F1 H1 S1 (To.refl t1.gd) r1 ⟨fun i d H F' e s1 s2 => ?_, fun H F' s1 s2 => ?_⟩⟩
    · obtain ⟨e', e1, rfl⟩ := enum_get e
      obtain ⟨v, e2, e3⟩ := z2.nth e1
      refine ⟨⟨xs, v, (s1.trans s2).seq z1, e2⟩, fun x H' y => ?_⟩
      obtain ⟨T, u, rfl, hT, rfl, hy⟩ := y
      have e4 := hy xs ((s1.trans s2).seq z1)
      rw [e2] at e4
      cases e4
      refine ⟨_, nw_new s2 hT, ?_⟩
      rw [Nat.zero_add]
      exact new_tup (H := H) (.cons (.int _) (.cons (e3.same s1) .nil)) (s2.free hT)
    · exact ⟨xs, (s1.trans s2).seq z1, by rw [enum_len, z2.length]; exact Nat.le_refl _⟩
  | @tup a xs ds z1 z2 =>
    refine ⟨a, xs, false, rfl, seqT t1.gd.sm z1, q1 _ F1 H1 S1 (To.refl t1.gd) r1 ⟨fun i d H F' e s1 s2 => ?_, fun H F' s1 s2 => ?_⟩⟩
    · obtain ⟨e', e1, rfl⟩ := enum_get e
      obtain ⟨v, e2, e3⟩ := z2.nth e1
      refine ⟨⟨xs, v, seqT (s1.trans s2) z1, e2⟩, fun x H' y => ?_⟩
      obtain ⟨T, u, rfl, hT, rfl, hy⟩ := y
      have e4 := hy xs (seqT (s1.trans s2) z1)
      rw [e2] at e4
      cases e4
      refine ⟨_, nw_new s2 hT, ?_⟩
      rw [Nat.zero_add]
      exact new_tup (H := H) (.cons (.int _) (.cons (e3.same s1) .nil)) (s2.free hT)
    · exact ⟨xs, seqT (s1.trans s2) z1, by rw [enum_len, z2.length]; exact Nat.le_refl _⟩
  | _ => exact q1.elim
end
section
variable {X : Cx} {xa : Nat → Addr} {W : WX} {tg iter e : Expr} {m : MV}
theorem qi_enumA (h : QV X xa W e m) (f : ∀ t, PE X e t → PI X tg iter (iEnumA X.K (tCons t tNil))) : QI X xa W tg iter (iEnumAM m) := let ⟨_, pe, q⟩ := h; ⟨_, f _ pe, sim_iEnumA q⟩
end


/-! ### sorted(d.items()), the keys whole numbers -/
/-- v is a pair whose first thing is the number n -/
def PairN (h : Heap) (v : Value) (n : Int) : Prop := ∃ (a : Addr) (t : Tok) (y : Value), v = .ref a ∧ IsTup h a #[.int n t, y]
def numAt : Value → Int
  | .int n _ => n
  | _ => 0
def keyN (h : Heap) : Value → Int
  | .ref a => (match h.get? a with
    | some o => (match o.data with
      | .seq arr _ => numAt (arr.getD 0 .none)
      | _ => 0)
    | none => 0)
  | _ => 0
theorem PairN.key {h : Heap} {v : Value} {n : Int} (x : PairN h v n) : keyN h v = n := by
  obtain ⟨a, t, y, rfl, o, ho, hc, m, hd⟩ := x
  unfold keyN
  simp only [ho, hd]
  rfl
theorem firstsN {h : Heap} : ∀ vs : List Value, (∀ v ∈ vs, ∃ n, PairN h v n) → ∃ fs : List Value, PySem.W.KatTups h vs fs ∧ fs.length = vs.length ∧ ∀ f ∈ fs, ∃ n t, f = Value.int n t
  | [], _ => ⟨[], PySem.W.KatTups.nil, rfl, fun _ h => nomatch h⟩
  | v :: vs, x => by
    obtain ⟨fs, k, hl, hi⟩ := firstsN vs fun u hu => x u (List.mem_cons_of_mem _ hu)
    obtain ⟨n, a, t, y, rfl, o, ho, hc, m, hd⟩ := x v (List.mem_cons_self ..)
    refine ⟨.int n t :: fs, PySem.W.KatTups.cons ho hc hd rfl k, congrArg Nat.succ hl, fun f hf => ?_⟩
    rcases List.mem_cons.mp hf with rfl | hf
    · exact ⟨n, t, rfl⟩
    · exact hi f hf
section
variable {prog : Program} {w : World} {A : Around} {E : Value → Shared → Prop} {s : Shared}
theorem kindN {vs : List Value} (h2 : 2 ≤ vs.length) (x : ∀ v ∈ vs, ∃ n, PairN s.heap v n) (inj : ∀ v ∈ vs, ∀ u ∈ vs, keyN s.heap v = keyN s.heap u → v = u) (Q : SortKind → Shared → Prop) (q : ∀ κ, TS.Cmp prog w A s κ (pairsOf vs) (keyN s.heap) → Q κ s) : wpAny (model prog w) A (keyKind' vs.toArray) Q E s := by
  obtain ⟨fs, k, hl, hi⟩ := firstsN vs x
  refine PySem.W.kat_kind (T := Value.type "int") k (by omega) (fun f hf => ?_) rfl (q _ ?_)
  · obtain ⟨n, t, rfl⟩ := hi f hf
    exact PySem.W.Looks.now
  · rw [show (Value.type "int" != Value.type "tuple") = true by first | decide +kernel | rfl | decide]
    intro p r hp hr Q' E' hQ
    rw [pairsOf_toList] at hp hr
    have mp := (mem_zip_self hp).2
    have mr := (mem_zip_self hr).2
    obtain ⟨n, pn⟩ := x _ mp
    obtain ⟨m, pm⟩ := x _ mr
    have ij := inj _ mp _ mr
    have hQ : Q' (decide (keyN s.heap p.1 < keyN s.heap r.1)) s := hQ
    rw [pn.key, pm.key] at ij hQ
    by_cases e : n = m
    · have epr := ij e
      rw [← epr]
      obtain ⟨a, t, y, e1, o, ho, hc, k1, hd⟩ := pn
      rw [e1]
      refine PySem.W.kat_lt ho hd ho hd ?_
      rw [e, decide_eq_false (Int.lt_irrefl m)] at hQ
      show PySem.W.KatLex prog w A true _ Q' [(Value.int n t, Value.int n t), (y, y)] 0 s
      refine PySem.W.kat_cons (SeqAt.EqAt.same _ prog w _ _ (PySem.W.kat_yes (PySem.W.kat_cons (SeqAt.EqAt.same _ prog w _ _ (PySem.W.kat_yes (PySem.W.kat_nil ?_))))))
      rw [show decide ((#[Value.int n t, y] : Array Value).size < (#[Value.int n t, y] : Array Value).size) = false from decide_eq_false (Nat.lt_irrefl _)]
      exact hQ
    · obtain ⟨a, t, y, e1, o, ho, hc, k1, hd⟩ := pn
      obtain ⟨a', t', y', e2, o', ho', hc', k1', hd'⟩ := pm
      rw [e1, e2]
      refine PySem.W.kat_lt ho hd ho' hd' ?_
      show PySem.W.KatLex prog w A true _ Q' [(Value.int n t, Value.int m t'), (y, y')] 0 s
      refine PySem.W.kat_cons (SeqAt.EqAt.int_int n t m t' prog w _ _ ?_)
      rw [show (n == m) = false from beq_eq_false_iff_ne.mpr e]
      exact PySem.W.kat_no (TS.oneLt_ints _ hQ)
end
section
variable {X : Cx}
def rItemsK : V → List V → Hp → VK → Prop := fun x xs H Q => ∃ (a : Addr) (kvs : List (Key × V)), x = .ref a ∧ xs = [] ∧ H a = some (.dK kvs) ∧ ∀ p, H p = none → Q (.ref p) (upd H p (L2.DX.itemsO p a))
theorem mt_itemsK : MtR X "dict.items" rItemsK := by
  intro pins s σ H x xs v us Q I rx rxs h
  obtain ⟨a, kvs, rfl, rfl, ha, q⟩ := h
  cases rx
  cases rxs
  obtain ⟨z, hd, vs, rel, o, es, ep, ho, hx, hdat, _⟩ := dk_of I.hok ha
  refine DT.callItems (es := es) (ep := ep) hd ⟨o, ho, hx, hdat⟩ ⟨.ref s.heap.objs.size, upd H s.heap.objs.size (L2.DX.itemsO s.heap.objs.size a), I.laid (t' := s.toks) (fun b u e => Heap.get?_push_of_some _ e) (Nat.le_refl _) (L2.DX.itemsO_ok (Heap.get?_push_size _ rfl)), rfl, q _ (I.hok.fresh (Nat.le_refl _))⟩
abbrev entN (e : Int × V) : Key × V := (Sum.inl e.1, e.2)
theorem pairs_at {P : Program} {w : World} {vs : List (Key × Value)} {es : List DictEntry} (h : Pairs (mixKind P w) es vs) : ∀ (j : Nat) (e : DictEntry), es[j]? = some e → ∃ kv, vs[j]? = some kv ∧ (mixKind P w).is kv.1 e.key = true ∧ e.val = kv.2 := by
  induction h with
  | nil => exact fun j e h => nomatch h
  | cons h1 h2 _ ih =>
    intro j e hj
    cases j with
    | zero =>
      cases hj
      exact ⟨_, rfl, h1, h2⟩
    | succ j => exact ih j e hj
theorem pairs_len_ {P : Program} {w : World} {vs : List (Key × Value)} {es : List DictEntry} (h : Pairs (mixKind P w) es vs) : es.length = vs.length := by
  induction h with
  | nil => rfl
  | cons _ _ _ ih => exact congrArg Nat.succ ih
def rSortN : List V → Hp → VK → Prop := fun vs H Q => ∃ (p a : Addr) (ks : List (Int × V)), vs = [.ref p] ∧ H p = some (L2.DX.itemsO p a) ∧ H a = some (.dK (ks.map entN)) ∧ ks.length < 64 ∧ (ks.map (·.1)).Nodup ∧
  ∀ (H' : Hp) (l : Addr) (ps : List (Addr × Int × V)), Same H H' → (ps.map (·.2)).Perm ks → (ps.map (·.2)).Pairwise (fun e f => e.1 ≤ f.1) → H l = none → H' l = some (.lst (ps.map fun z => V.ref z.1)) → (∀ z ∈ ps, H z.1 = none ∧ H' z.1 = some (.tup [.int z.2.1, z.2.2])) → Q (.ref l) H'
theorem cr_sortN (hc : X.calm = true) : CallR X (.builtin "sorted") rSortN := by
  intro pins s σ H xs us Q I r h
  obtain ⟨p, a, ks, rfl, hp, ha, h64, hnd, q⟩ := h
  obtain rfl := Vals.ref1 r
  have view : s.heap.IsItemsView p a := (show ObjOk X.prog X.w H s.heap p (L2.DX.itemsO p a) from I.hok p _ hp).1
  obtain ⟨z, hd, vs, rel, o, es, ep, ho, hx, hdat, _, hprs, _⟩ := dk_of I.hok ha
  have l1 : (ks.map entN).length = vs.length := Paired.length rel
  rw [List.length_map] at l1
  have l2 : es.size = vs.length := by rw [← Array.length_toList]; exact pairs_len_ hprs
  refine DT.sortedI (es := es) (ep := ep) (I.ok.hd hc) view ⟨o, ho, hx, hdat⟩ (by rw [sizeLine_eq]; omega) fun h' tk as hk hlt hl hG => ?_
  have lak : as.length = ks.length := by omega
  have nd : as.Nodup := List.Pairwise.imp (fun h => Nat.ne_of_lt h) hG.rise
  have pr : ∀ (j : Nat) (b : Addr), as[j]? = some b → ∃ (e : Int × V) (t : Tok) (y : Value), ks[j]? = some e ∧ RelV e.2 y ∧ h'.get? b = some { cls := .type "tuple", data := .seq #[Value.int e.1 t, y] } := by
    intro j b hj
    obtain ⟨en, he, hg⟩ := hG.pairs j b hj
    obtain ⟨kv, hkv, hik, hval⟩ := pairs_at hprs j en (by rw [Array.getElem?_toList]; exact he)
    obtain ⟨e0, he0, r1, r2⟩ := L2.DX.pget rel hkv
    rw [List.getElem?_map] at he0
    cases hkj : ks[j]? with
    | none =>
      rw [hkj] at he0
      cases he0
    | some e =>
      rw [hkj] at he0
      have ee : entN e = e0 := Option.some.inj he0
      subst ee
      rcases keyIs_shape (show keyIs kv.1 en.key = true from hik) with ⟨i, t, ek, ev⟩ | ⟨x, t, ek, ev⟩
      · have r1 : Sum.inl e.1 = kv.1 := r1
        rw [ek] at r1
        cases r1
        refine ⟨e, t, en.val, rfl, by rw [hval]; exact r2, ?_⟩
        rw [hg, ev]
      · have r1 : Sum.inl e.1 = kv.1 := r1
        rw [ek] at r1
        cases r1
  have hob : (h'.push { cls := .type "list", data := .seq (as.map Value.ref).toArray }).get? h'.objs.size = some (seqObj "list" (as.map Value.ref).toArray 0) := Heap.get?_push_size _ rfl
  have kb : ∀ b o, s.heap.get? b = some o → (h'.push { cls := .type "list", data := .seq (as.map Value.ref).toArray }).get? b = some o := fun b o e => Heap.get?_push_of_some _ (hk b o e)
  have ne0 : ∀ b o, h'.get? b = some o → b ≠ h'.objs.size := fun b o e => Nat.ne_of_lt (Heap.lt_size e)
  generalize hh2 : h'.push { cls := .type "list", data := .seq (as.map Value.ref).toArray } = g2 at hob kb ⊢
  have ka : ∀ b o, h'.get? b = some o → g2.get? b = some o := fun b o e => by rw [← hh2]; exact Heap.get?_push_of_some _ e
  have pin : ∀ (j : Nat) (b : Addr) (e : Int × V), as[j]? = some b → ks[j]? = some e → PairN (TS.midHeap g2 h'.objs.size (as.map Value.ref)) (.ref b) e.1 := by
    intro j b e hj he
    obtain ⟨e', t, y, he', _, hg⟩ := pr j b hj
    rw [he] at he'
    cases he'
    exact ⟨b, t, y, rfl, _, TS.midHeap_old (ne0 _ _ hg) (ka _ _ hg), rfl, 0, rfl⟩
  have at_ : ∀ v ∈ as.map Value.ref, ∃ (j : Nat) (b : Addr) (e : Int × V), v = .ref b ∧ as[j]? = some b ∧ ks[j]? = some e := by
    intro v hv
    obtain ⟨b, hb, rfl⟩ := List.mem_map.mp hv
    obtain ⟨j, hj⟩ := List.mem_iff_getElem?.mp hb
    obtain ⟨e, _, _, he, _⟩ := pr j b hj
    exact ⟨j, b, e, rfl, hj, he⟩
  refine wpAny_call_entry PyProof.Rows.slot_list_sort ⟨_, hob, rfl⟩ PyProof.Rows.entry_list_sort (SK.plain_sort (s := { s with heap := g2, toks := tk }) (r := keyN (TS.midHeap g2 h'.objs.size (as.map Value.ref))) hob (by rw [List.length_map]; omega) (fun h2' Qk hQk => kindN (s := { s with heap := TS.midHeap g2 h'.objs.size (as.map Value.ref), toks := tk }) h2' (fun v hv => ?_) (fun v hv u hu e => ?_) Qk hQk) fun ps out o1 o2 o3 => ⟨.none, rfl, ?_⟩) (PyProof.Rows.args_list_sort _)
  · obtain ⟨j, b, e, rfl, hj, he⟩ := at_ v hv
    exact ⟨e.1, pin j b e hj he⟩
  · obtain ⟨j, b, e1, rfl, hj, he⟩ := at_ v hv
    obtain ⟨i, c, e2, rfl, hi, he2⟩ := at_ u hu
    rw [(pin j b e1 hj he).key, (pin i c e2 hi he2).key] at e
    have ij : j = i := by
      have a1 : (ks.map (·.1))[j]? = some e1.1 := by rw [List.getElem?_map, he]; rfl
      have a2 : (ks.map (·.1))[i]? = some e2.1 := by rw [List.getElem?_map, he2]; rfl
      exact (List.getElem?_inj (List.getElem?_eq_some_iff.mp a1).1 hnd).mp (by rw [a1, a2, e])
    subst ij
    rw [hj] at hi
    cases hi
    rfl
  · show EP X pins σ Q (.ref h'.objs.size) { s with heap := sortedHeap g2 h'.objs.size (as.map Value.ref) out, toks := tk }
    obtain ⟨zs, pz, ez⟩ := perm_lift (fun z : Addr × Int × V => (Value.ref z.1, Value.ref z.1)) o2 (as.zip ks) (L2.DX.zip_self Value.ref as ks lak)
    have idx : ∀ z ∈ zs, ∃ j : Nat, as[j]? = some z.1 ∧ ks[j]? = some z.2 := by
      intro z' hz'
      obtain ⟨j, hj⟩ := List.mem_iff_getElem?.mp (pz.mem_iff.mp hz')
      exact ⟨j, List.getElem?_zip_eq_some.mp hj⟩
    have hout : out.toList = zs.map fun z => Value.ref z.1 := by
      rw [o1, ← ez, List.map_map]
      all_goals rfl
    have hperm : (zs.map (·.2)).Perm ks := by
      have e := pz.map (·.2)
      rw [List.map_snd_zip (by rw [lak]; exact Nat.le_refl _)] at e
      exact e
    have hsort : (zs.map (·.2)).Pairwise (fun e f => e.1 ≤ f.1) := by
      rw [← ez, List.pairwise_map] at o3
      rw [List.pairwise_map]
      refine List.Pairwise.imp_of_mem (fun {x y} hx hy h => ?_) o3
      obtain ⟨j, j1, j2⟩ := idx x hx
      obtain ⟨i, i1, i2⟩ := idx y hy
      have hle : keyN (TS.midHeap g2 h'.objs.size (as.map Value.ref)) (.ref x.1) ≤ keyN (TS.midHeap g2 h'.objs.size (as.map Value.ref)) (.ref y.1) := h
      rw [(pin j _ _ j1 j2).key, (pin i _ _ i1 i2).key] at hle
      exact hle
    have kF : ∀ b o, b ≠ h'.objs.size → g2.get? b = some o → (sortedHeap g2 h'.objs.size (as.map Value.ref) out).get? b = some o := fun b o hb e => (PyProof.Rows.sortedHeap_old hb (Heap.lt_size e)).trans e
    have kS : ∀ b o, s.heap.get? b = some o → (sortedHeap g2 h'.objs.size (as.map Value.ref) out).get? b = some o := fun b o e => kF b o (ne0 _ _ (hk b o e)) (kb b o e)
    obtain ⟨eF, heF⟩ := PyProof.Rows.sortedHeap_at (vs := as.map Value.ref) (out := out) hob
    have I1 : Inv X pins σ H { s with heap := sortedHeap g2 h'.objs.size (as.map Value.ref) out, toks := tk } := I.kept (t' := tk) kS
    have hn0 : H h'.objs.size = none := I.hok.fresh (Nat.le_of_lt hlt)
    have hlen : (zs.map fun z => V.ref z.1).length ≤ sizeLine := by
      have e := hperm.length_eq
      rw [List.length_map] at e
      rw [List.length_map, sizeLine_eq]
      omega
    have rv : Vals (zs.map fun z => V.ref z.1) out.toList := by
      rw [hout]
      exact vals_maps (fun z : Addr × Int × V => V.ref z.1) (fun z => Value.ref z.1) zs fun _ _ => rfl
    have I2 : Inv X pins σ (upd H h'.objs.size (.lst (zs.map fun z => V.ref z.1))) { s with heap := sortedHeap g2 h'.objs.size (as.map Value.ref) out, toks := tk } := I1.take (h' := sortedHeap g2 h'.objs.size (as.map Value.ref) out) (t' := tk) (fun b ob _ e => e) (I.fpOk (Nat.le_of_lt hlt) hn0) ⟨hlen, out.toList, eF, rv, heF⟩
    obtain ⟨H2, I3, g, qt⟩ := L2.DX.takeT (P := fun b vs => ∃ (j : Nat) (e : Int × V), as[j]? = some b ∧ ks[j]? = some e ∧ vs = [.int e.1, e.2]) I as _ I2 nd fun b hb => by
      obtain ⟨j, hj⟩ := List.mem_iff_getElem?.mp hb
      obtain ⟨e, t, y, he, ry, hg⟩ := pr j b hj
      have hbl : s.heap.objs.size ≤ b := Nat.le_of_lt (hG.above b hb)
      refine ⟨hbl, ?_, [.int e.1, e.2], ⟨j, e, hj, he, rfl⟩, fun H3 => ⟨(by rw [sizeLine_eq]; show 2 ≤ 16777216; omega), [Value.int e.1 t, y], .cons ⟨t, rfl⟩ (.cons ry .nil), ⟨_, kF _ _ (ne0 _ _ hg) (ka _ _ hg), rfl, 0, rfl⟩⟩⟩
      rw [upd_ne (ne0 _ _ hg)]
      exact I.hok.fresh hbl
    have gr : Same H H2 := fun b o e => g b o (by rw [upd_ne (fun zz => by rw [zz, hn0] at e; cases e)]; exact e)
    refine ⟨.ref h'.objs.size, H2, I3, rfl, q H2 h'.objs.size zs gr hperm hsort hn0 (g _ _ upd_same) fun z' hz' => ?_⟩
    obtain ⟨i, i1, i2⟩ := idx z' hz'
    obtain ⟨ws, ⟨j, e, j1, j2, ev⟩, hH⟩ := qt z'.1 (List.mem_of_getElem? i1)
    have eij : i = j := (List.getElem?_inj (List.getElem?_eq_some_iff.mp i1).1 nd).mp (i1.trans j1.symm)
    subst eij
    have ee : e = z'.2 := Option.some.inj (j2.symm.trans i2)
    rw [ev, ee] at hH
    exact ⟨I.hok.fresh (Nat.le_of_lt (hG.above _ (List.mem_of_getElem? i1))), hH⟩
end


/-! ### sorted by numbers -/
section
variable {α : Type}
def insN (x : Int × α) : List (Int × α) → List (Int × α)
  | [] => [x]
  | y :: r => if x.1 ≤ y.1 then x :: y :: r else y :: insN x r
def sortN : List (Int × α) → List (Int × α)
  | [] => []
  | x :: r => insN x (sortN r)
theorem insN_perm (x : Int × α) : ∀ l, (insN x l).Perm (x :: l)
  | [] => .refl _
  | y :: r => by
    unfold insN
    split
    · exact .refl _
    · exact ((insN_perm x r).cons y).trans (.swap x y r)
theorem sortN_perm : ∀ l : List (Int × α), (sortN l).Perm l
  | [] => .refl _
  | x :: r => (insN_perm x _).trans ((sortN_perm r).cons x)
theorem insN_up (x : Int × α) : ∀ l : List (Int × α), l.Pairwise (fun e f => e.1 ≤ f.1) → (insN x l).Pairwise (fun e f => e.1 ≤ f.1)
  | [], _ => List.pairwise_singleton ..
  | y :: r, h => by
    obtain ⟨h1, h2⟩ := List.pairwise_cons.mp h
    unfold insN
    split
    · rename_i c
      refine List.pairwise_cons.mpr ⟨fun z hz => ?_, h⟩
      rcases List.mem_cons.mp hz with rfl | hz
      · exact c
      · exact Int.le_trans c (h1 z hz)
    · rename_i c
      refine List.pairwise_cons.mpr ⟨fun z hz => ?_, insN_up x r h2⟩
      rcases List.mem_cons.mp ((insN_perm x r).mem_iff.mp hz) with rfl | hz
      · omega
      · exact h1 z hz
theorem sortN_up : ∀ l : List (Int × α), (sortN l).Pairwise (fun e f => e.1 ≤ f.1)
  | [] => .nil
  | x :: r => insN_up x _ (sortN_up r)
theorem sort_one : ∀ {l m : List (Int × α)}, l.Perm m → l.Pairwise (fun e f => e.1 ≤ f.1) → m.Pairwise (fun e f => e.1 ≤ f.1) → (l.map (·.1)).Nodup → l = m
  | [], m, p, _, _, _ => (List.Perm.nil_eq p)
  | x :: l, [], p, _, _, _ => by
    have := p.length_eq
    cases this
  | x :: l, y :: m, p, hl, hm, nd => by
    obtain ⟨l1, l2⟩ := List.pairwise_cons.mp hl
    obtain ⟨m1, m2⟩ := List.pairwise_cons.mp hm
    have nd' : x.1 ∉ l.map (·.1) ∧ (l.map (·.1)).Nodup := List.nodup_cons.mp nd
    have exy : x = y := by
      rcases List.mem_cons.mp (p.mem_iff.mp (List.mem_cons_self (a := x) (l := l))) with h | h
      · exact h
      · rcases List.mem_cons.mp (p.mem_iff.mpr (List.mem_cons_self (a := y) (l := m))) with h' | h'
        · exact h'.symm
        · have a1 := m1 x h
          have a2 := l1 y h'
          exact absurd (List.mem_map.mpr ⟨y, h', by omega⟩) nd'.1
    subst exy
    rw [sort_one ((List.perm_cons x).mp p) l2 m2 nd'.2]
end
def numsK : Kvs → Option (List (Int × PyData))
  | [] => some []
  | (.inl i, d) :: r => (numsK r).map ((i, d) :: ·)
  | (.inr _, _) :: _ => none
/-- what sorted(d.items()) tells -/
def sortedIt (kvs : Kvs) : Option (List PyData) := match numsK kvs with
  | some l => if l.length < 64 ∧ (l.map (·.1)).Nodup then some ((sortN l).map fun e => .tuple [.int e.1, e.2]) else none
  | none => none
def eSortIt (i : Nat) : ME := fun ρ => match odr (gt ρ i) with
  | some kvs => (match sortedIt kvs with
    | some ds => .ok (.lst (ds.map T.f)) ρ
    | none => .no)
  | none => .no
def sortedKs (kvs : Kvs) : Option (List PyData) := match numsK kvs with
  | some l => if l.length < 64 ∧ (l.map (·.1)).Nodup then some ((sortN l).map fun e => .int e.1) else none
  | none => none
def vSortD (i : Nat) : MV := fun ρ => match odr (gt ρ i) with
  | some kvs => (match sortedKs kvs with
    | some ds => .ok (.list ds) ρ
    | none => .no)
  | none => .no
inductive NuD (K : PySem.W.Frag) (F : Hp) : List (Int × V) → List (Int × PyData) → Prop
  | nil : NuD K F [] []
  | cons {i : Int} {v : V} {d : PyData} {a : List (Int × V)} {b : List (Int × PyData)} : Dq K F v d → NuD K F a b → NuD K F ((i, v) :: a) ((i, d) :: b)
section
variable {K : PySem.W.Frag} {F H : Hp}
theorem NuD.of : ∀ {kvs : Kvs} {hv : List (Key × V)} {l : List (Int × PyData)}, KvD K F hv kvs → numsK kvs = some l → ∃ ks, hv = ks.map entN ∧ NuD K F ks l
  | [], _, l, .nil, e => by
    cases e
    exact ⟨[], rfl, .nil⟩
  | (.inl i, d) :: r, (_, v) :: hv, l, .cons h hr, e => by
    have e : (numsK r).map ((i, d) :: ·) = some l := e
    cases e1 : numsK r with
    | none =>
      rw [e1] at e
      cases e
    | some l' =>
      rw [e1] at e
      cases e
      obtain ⟨ks, rfl, n⟩ := NuD.of hr e1
      exact ⟨(i, v) :: ks, rfl, .cons h n⟩
theorem NuD.keys : ∀ {a : List (Int × V)} {b : List (Int × PyData)}, NuD K F a b → a.map (·.1) = b.map (·.1)
  | _, _, .nil => rfl
  | _, _, .cons _ r => congrArg _ r.keys
theorem NuD.len {a : List (Int × V)} {b : List (Int × PyData)} (h : NuD K F a b) : a.length = b.length := by
  have := congrArg List.length h.keys
  rw [List.length_map, List.length_map] at this
  exact this
/-- a row in another order -/
theorem NuD.perm {a a' : List (Int × V)} (p : a'.Perm a) : ∀ {b : List (Int × PyData)}, NuD K F a b → ∃ b', b'.Perm b ∧ NuD K F a' b' := by
  induction p with
  | nil => exact fun h => ⟨_, .refl _, h⟩
  | cons x _ ih =>
    intro b h
    cases h with
    | cons h r =>
      obtain ⟨b', p', r'⟩ := ih r
      exact ⟨_, p'.cons _, .cons h r'⟩
  | swap x y l =>
    intro b h
    cases h with
    | cons h1 r =>
      cases r with
      | cons h2 r => exact ⟨_, .swap .., .cons h2 (.cons h1 r)⟩
  | trans _ _ ih1 ih2 =>
    intro b h
    obtain ⟨b1, p1, h1⟩ := ih2 h
    obtain ⟨b2, p2, h2⟩ := ih1 h1
    exact ⟨b2, p2.trans p1, h2⟩
theorem NuD.sorted {a a' : List (Int × V)} {b : List (Int × PyData)} (h : NuD K F a b) (p : a'.Perm a) (up : a'.Pairwise (fun e f => e.1 ≤ f.1)) (nd : (b.map (·.1)).Nodup) : NuD K F a' (sortN b) := by
  obtain ⟨b', p', h'⟩ := h.perm p
  have up' : b'.Pairwise (fun e f => e.1 ≤ f.1) := by
    have e := h'.keys
    have u2 : (a'.map (·.1)).Pairwise (· ≤ ·) := List.pairwise_map.mpr up
    rw [e] at u2
    exact List.pairwise_map.mp u2
  have : b' = sortN b := sort_one (p'.trans (sortN_perm b).symm) up' (sortN_up b) ((p'.map (·.1)).nodup_iff.mpr nd)
  rw [← this]
  exact h'
/-- the new cells of a heap, beside those that stay -/
def newF (F H H' : Hp) : Hp := fun b => match H b with
  | none => H' b
  | some _ => F b
theorem newF_nw {H' : Hp} (sm : Same F H) (s : Same H H') : Nw F H (newF F H H') H' := by
  refine ⟨s, fun b o e => ?_, fun b o e => ?_, fun b z => ?_⟩
  · unfold newF
    rw [sm b o e]
    exact e
  · unfold newF at e
    cases h : H b with
    | none =>
      rw [h] at e
      exact e
    | some u =>
      rw [h] at e
      exact s b o (sm b o e)
  · unfold newF at z
    cases h : H b with
    | none => exact .inr rfl
    | some u =>
      rw [h] at z
      exact .inl z
theorem newF_at {H' : Hp} {b : Addr} (h : H b = none) : newF F H H' b = H' b := by
  unfold newF
  rw [h]
end
def butF (l : Addr) (F : Hp) : Hp := fun b => if b = l then none else F b
theorem butF_at {l : Addr} {F : Hp} : butF l F l = none := if_pos rfl
theorem butF_ne {l b : Addr} {F : Hp} (h : b ≠ l) : butF l F b = F b := if_neg h
theorem dq_pairs {K : PySem.W.Frag} {F F' : Hp} : ∀ (ps : List (Addr × Int × V)) (D : List (Int × PyData)), NuD K F (ps.map (·.2)) D → (∀ z ∈ ps, F' z.1 = some (.tup [.int z.2.1, z.2.2])) → Same F F' → DqAll K F' (ps.map fun z => V.ref z.1) (D.map fun e => .tuple [.int e.1, e.2])
  | [], _, h, _, _ => by
    cases h
    exact .nil
  | (p, i, v) :: ps, D, h, hz, s => by
    have h0 : NuD K F ((i, v) :: ps.map (·.2)) D := h
    cases h0 with
    | cons hd r => exact .cons (.tup (SqT.of (hz _ (List.mem_cons_self ..))) (.cons (.int _) (.cons (hd.same s) .nil))) (dq_pairs ps _ r (fun y hy => hz y (List.mem_cons_of_mem _ hy)) s)
theorem nums_Dq {K : PySem.W.Frag} {F : Hp} : ∀ ns : List Int, DqAll K F (ns.map V.int) (ns.map PyData.int)
  | [] => .nil
  | _ :: r => .cons (.int _) (nums_Dq r)
theorem perm_ints {l m : List Int} (p : l.Perm m) (hl : l.Pairwise (· ≤ ·)) (hm : m.Pairwise (· ≤ ·)) (nd : m.Nodup) : l = m := by
  have e := sort_one (l := l.map fun i => (i, ())) (m := m.map fun i => (i, ())) (p.map _) (List.pairwise_map.mpr hl) (List.pairwise_map.mpr hm) (by rw [List.map_map]; show (l.map id).Nodup; rw [List.map_id]; exact p.nodup_iff.mpr nd)
  have := congrArg (List.map (·.1)) e
  rw [List.map_map, List.map_map] at this
  have i1 : l.map id = m.map id := this
  rw [List.map_id, List.map_id] at i1
  exact i1
section
variable {K : PySem.W.Frag} {xa : Nat → Addr} {W : WX}
def rSortDI : List V → Hp → VK → Prop := fun xs H Q => ∃ (a : Addr) (kvs : List (Key × V)) (ks : List Int), xs = [.ref a] ∧ Rd H a (.dK kvs) ∧ kvs.map (·.1) = ks.map Sum.inl ∧ ks.length < 64 ∧ ∀ (ys : List Int) (p : Addr), ys.Perm ks → ys.Pairwise (· ≤ ·) → H p = none → Q (.ref p) (upd H p (.lst (ys.map V.int)))
theorem sim_sortD {i : Nat} : SimV K xa W (tCB rSortDI (tCons (tVar i) tNil)) (vSortD i) := by
  intro F H σ ρ S Q re gd q
  unfold vSortD at q
  cases e : odr (gt ρ i) with
  | none =>
    rw [e] at q
    exact q.elim
  | some kvs =>
    rw [e] at q
    obtain ⟨a, hv, e1, e2, e3⟩ := rd_at re gd e
    cases en : numsK kvs with
    | none =>
      simp only [sortedKs, en] at q
      exact q.elim
    | some l =>
      by_cases c : l.length < 64 ∧ (l.map (·.1)).Nodup
      · simp only [sortedKs, en, if_pos c] at q
        obtain ⟨ks, rfl, nu⟩ := NuD.of e3 en
        refine ⟨_, e1, a, _, l.map (·.1), rfl, .inl e2, ?_, by rw [List.length_map]; exact c.1, fun ys p py up hp => ?_⟩
        · rw [List.map_map, ← nu.keys, List.map_map]
          rfl
        · have ey : ys = (sortN l).map (·.1) := perm_ints (py.trans ((sortN_perm l).map (·.1)).symm) up (List.pairwise_map.mpr (sortN_up l)) (((sortN_perm l).map (·.1)).nodup_iff.mpr c.2)
          have n := nw_new (o := .lst (ys.map V.int)) gd.sm hp
          refine q _ _ _ S (n.to gd) (n.env gd re) (new_lst (H := H) ?_ (gd.sm.free hp))
          rw [ey]
          have := nums_Dq (K := K) (F := F) ((sortN l).map (·.1))
          rw [show List.map PyData.int ((sortN l).map (·.1)) = (sortN l).map fun e => PyData.int e.1 by rw [List.map_map]; rfl] at this
          exact this
      · simp only [sortedKs, en, if_neg c] at q
        exact q.elim
theorem sim_sortIt {i : Nat} : SimE K xa W (tCB rSortN (tCons (tBM0 K "dict" rItemsK (tVar i)) tNil)) (eSortIt i) := by
  intro F H σ ρ S Q re gd q
  unfold eSortIt at q
  cases e : odr (gt ρ i) with
  | none =>
    rw [e] at q
    exact q.elim
  | some kvs =>
    rw [e] at q
    obtain ⟨a, hv, e1, e2, e3⟩ := rd_at re gd e
    cases en : numsK kvs with
    | none =>
      simp only [sortedIt, en] at q
      exact q.elim
    | some l =>
      by_cases c : l.length < 64 ∧ (l.map (·.1)).Nodup
      · simp only [sortedIt, en, if_pos c] at q
        obtain ⟨ks, rfl, nu⟩ := NuD.of e3 en
        refine ⟨_, e1, .inr (.inr (.inl ⟨rfl, .inl ⟨_, e2⟩⟩)), a, _, rfl, rfl, e2, fun p hp => ?_⟩
        have hap : a ≠ p := fun z => by rw [z, hp] at e2; cases e2
        refine ⟨p, a, ks, rfl, upd_same, by rw [upd_ne hap]; exact e2, by rw [nu.len]; exact c.1, by rw [nu.keys]; exact c.2, fun H' l' ps s1 perm up hl1 hl2 hz => ?_⟩
        have s0 : Same H H' := (same_upd hp).trans s1
        have hlp : l' ≠ p := fun z => by rw [z, upd_same] at hl1; cases hl1
        have hl0 : H l' = none := by rw [upd_ne hlp] at hl1; exact hl1
        have zn : ∀ z ∈ ps, H z.1 = none := fun z hm => by
          have h1 := (hz z hm).1
          have hp' : z.1 ≠ p := fun zz => by rw [zz, upd_same] at h1; cases h1
          rw [upd_ne hp'] at h1
          exact h1
        have zl : ∀ z ∈ ps, z.1 ≠ l' := fun z hm zz => by
          have h1 := (hz z hm).2
          rw [zz, hl2] at h1
          cases h1
        have nw := newF_nw gd.sm s0
        have fs : Same F (butF l' (newF F H H')) := fun b o eb => by
          have hb : b ≠ l' := fun zz => by rw [zz, gd.sm.free hl0] at eb; cases eb
          rw [butF_ne hb]
          exact nw.fs b o eb
        have fS : ∀ b, S b → butF l' (newF F H H') b = none := fun b hb => by
          obtain ⟨z1, z2⟩ := gd.ow b hb
          by_cases eb : b = l'
          · rw [eb]
            exact butF_at
          · rw [butF_ne eb]
            cases h : newF F H H' b with
            | none => rfl
            | some u =>
              rcases nw.nw b (by rw [h]; exact fun z => nomatch z) with z | z
              · exact absurd z2 z
              · exact absurd z z1
        have to : To F H S (butF l' (newF F H H')) H' (AS.or (fun b => b = l') S) := by
          refine ⟨fun b o h _ => s0 b o h, fs, fun b h => ?_, fun b h => ?_, fun b o h => ?_, fun b h => ?_⟩
          · by_cases eb : b = l'
            · exact .inr (.inr (by rw [eb]; exact hl0))
            · rw [butF_ne eb] at h
              rcases nw.nw b h with z | z
              · exact .inl z
              · exact .inr (.inr z)
          · rcases h with h | h
            · exact .inr (by rw [h]; exact hl0)
            · exact .inl h
          · by_cases eb : b = l'
            · rw [eb, butF_at] at h
              cases h
            · rw [butF_ne eb] at h
              exact nw.sm b o h
          · rcases h with h | h
            · have h : b = l' := h
              subst h
              exact ⟨(by rw [hl2]; exact fun z => nomatch z), butF_at⟩
            · refine ⟨?_, fS b h⟩
              cases eb : H b with
              | none => exact absurd eb (gd.ow b h).1
              | some o =>
                rw [s0 b o eb]
                exact fun z => nomatch z
        have dq := dq_pairs ps _ (nu.sorted perm up c.2) (fun z hm => by rw [butF_ne (zl z hm), newF_at (zn z hm)]; exact (hz z hm).2) fs
        exact q (.ref l') _ H' (fun b => b = l') S to (fun b eb z => (gd.ow b z).1 (by rw [show b = l' from eb]; exact hl0)) (re.frame fs (fun b o _ h => s0 b o h) fS) (own_rl butF_at hl2 dq)
      · simp only [sortedIt, en, if_neg c] at q
        exact q.elim
end
section
variable {X : Cx} {xa : Nat → Addr} {W : WX} {b : Expr} {i : Nat}
theorem qe_sortIt (p : PE X b (tCB rSortN (tCons (tBM0 X.K "dict" rItemsK (tVar i)) tNil))) : QE X xa W b (eSortIt i) := ⟨_, p, sim_sortIt⟩
theorem qv_sortD (p : PE X b (tCB rSortDI (tCons (tVar i) tNil))) : QV X xa W b (vSortD i) := ⟨_, p, sim_sortD⟩
end
/-! ### xs[::k], k 1 or -1, of a list -/
theorem pick_on (items : Array Value) : slicePick items none none (some 1) = items := slicePick_all items
def tStepL (K : PySem.W.Frag) (te ts : TE) : TE := fun σ H Q => te σ H fun x H1 => ts σ H1 fun y H2 => ∃ a xs k, x = .ref a ∧ y = .int k ∧ (k = 1 ∨ k = -1) ∧ SqL K H2 a xs ∧ ∀ p, H2 p = none → Q (.ref p) (upd H2 p (.lst (if k = 1 then xs else xs.reverse)))
theorem pe_stepL {X : Cx} {e st : Expr} {te ts : TE} {p3 pos : Pos} (he : PE X e te) (hs : PE X st ts) : PE X (.Subscript e (.Slice none none (some st) p3) pos) (tStepL X.K te ts) := by
  refine ⟨fun pins s σ H Q I h => Subscript_ (thn (he.run pins s σ H _ I h) fun v s1 ⟨x, H1, I1, r1, q1⟩ => ?_)⟩
  refine wpAny_Slice (thn (po_none.run pins s1 σ H1 (fun o H2 => o = none ∧ H2 = H1) I1 ⟨rfl, rfl⟩) fun vl s2 ⟨l, H2, I2, pl, el, e2⟩ => ?_)
  subst el e2
  refine thn (po_none.run pins s2 σ H2 (fun o H3 => o = none ∧ H3 = H2) I2 ⟨rfl, rfl⟩) fun vu s3 ⟨u, H3, I3, pu, eu, e3⟩ => ?_
  subst eu e3
  refine thn (hs.run pins s3 σ H3 _ I3 q1) fun vs s4 ⟨y, H4, I4, ry, a, xs, k, ex, ey, hk, hx, q⟩ => ?_
  subst ex ey
  cases r1
  obtain ⟨tk, rfl⟩ := ry
  have I5 : Inv X pins σ H4 { s4 with heap := s4.heap.push { cls := .type "slice", data := .fields #[vl, vu, .int k tk] } } := I4.kept (t' := s4.toks) fun b ob q => Heap.get?_push_of_some _ q
  obtain ⟨its, r, ht, hz⟩ := I5.list hx
  have hlen := r.length
  refine tail_any (ops := [.ref a, .ref s4.heap.objs.size]) ht.isList.typeIs (PySem.slot_list_getitem.lookup) ?_ (by with_unfolding_all rfl)
  refine wpAny_getItem_list_slice ht.isList (Heap.IsSliceOf.new _ vl vu (.int k tk)) pl pu (.int k tk) (by rcases hk with rfl | rfl <;> decide) ?_ (by rw [List.size_toArray]; omega)
  rcases hk with rfl | rfl
  · rw [pick_on]
    refine ⟨.ref _, _, I5.laid (t' := s4.toks) (o := .lst xs) (fun b ob q => Heap.get?_push_of_some _ q) (Nat.le_refl _) ?_, rfl, q _ (I5.hok.fresh (Nat.le_refl _))⟩
    exact ⟨hz, _, 0, r, Heap.get?_push_size _ rfl⟩
  · rw [PySem.W.krv_pick]
    refine ⟨.ref _, _, I5.laid (t' := s4.toks) (o := .lst xs.reverse) (fun b ob q => Heap.get?_push_of_some _ q) (Nat.le_refl _) ?_, rfl, q _ (I5.hok.fresh (Nat.le_refl _))⟩
    exact ⟨by rw [List.length_reverse]; exact hz, _, 0, r.reverse, Heap.get?_push_size _ rfl⟩
def pStep : PyData → PyData → Option PyData
  | .list ds, .int k => if k = 1 then some (.list ds) else if k = -1 then some (.list ds.reverse) else none
  | _, _ => none
theorem DqAll.rev {K : PySem.W.Frag} {F : Hp} : ∀ {vs : List V} {ds : List PyData}, DqAll K F vs ds → DqAll K F vs.reverse ds.reverse
  | _, _, .nil => .nil
  | _, _, .cons h r => by
    rw [List.reverse_cons, List.reverse_cons]
    exact r.rev.cat (.cons h .nil)
theorem sim_step {K : PySem.W.Frag} {xa : Nat → Addr} {W : WX} {t u : TE} {a b : MV} (ha : SimV K xa W t a) (hb : SimV K xa W u b) : SimV K xa W (tStepL K t u) (v2 pStep a b) := by
  intro F H σ ρ S Q re gd q
  refine ha F H σ ρ S _ re gd (PO.bind q fun x ρ1 v F1 H1 S1 t1 r1 h1 q1 => ?_)
  refine hb F1 H1 σ ρ1 S1 _ r1 t1.gd (PO.bind q1 fun y ρ2 v2 F2 H2 S2 t2 r2 h2 q2 => ?_)
  obtain ⟨z, ez, q2⟩ := PO.of q2
  have h1 : Dq K F1 v x := h1
  have h2 : Dq K F2 v2 y := h2
  cases h1 with
  | @lst a xs ds z1 z2 =>
    cases h2 with
    | int k =>
      have l2 : SqL K H2 a xs := t2.gd.sm.seq (t2.fs.seq z1)
      have ez : (if k = 1 then some (PyData.list ds) else if k = -1 then some (.list ds.reverse) else none) = some z := ez
      by_cases c1 : k = 1
      · rw [if_pos c1] at ez
        cases ez
        refine ⟨a, xs, k, rfl, rfl, .inl c1, l2, fun p hp => ?_⟩
        rw [if_pos c1]
        have n := nw_new (o := .lst xs) t2.gd.sm hp
        exact q2 _ _ _ S2 (n.to t2.gd) (n.env t2.gd r2) (new_lst (H := H2) (z2.same t2.fs) (t2.gd.sm.free hp))
      · rw [if_neg c1] at ez
        by_cases c2 : k = -1
        · rw [if_pos c2] at ez
          cases ez
          refine ⟨a, xs, k, rfl, rfl, .inr c2, l2, fun p hp => ?_⟩
          rw [if_neg c1]
          have n := nw_new (o := .lst xs.reverse) t2.gd.sm hp
          exact q2 _ _ _ S2 (n.to t2.gd) (n.env t2.gd r2) (new_lst (H := H2) (z2.same t2.fs).rev (t2.gd.sm.free hp))
        · rw [if_neg c2] at ez
          cases ez
    | _ => cases ez
  | _ => cases ez
theorem qv_step {X : Cx} {xa : Nat → Addr} {W : WX} {e st : Expr} {a b : MV} {p3 pos : Pos} (ha : QV X xa W e a) (hb : QV X xa W st b) : QV X xa W (.Subscript e (.Slice none none (some st) p3) pos) (v2 pStep a b) := let ⟨_, p, q⟩ := ha; let ⟨_, p', q'⟩ := hb; ⟨_, pe_stepL p p', sim_step q q'⟩
/-! ### {k: v} -/
def eDisp1 (k v : MV) : ME := fun ρ => (k ρ).bd fun x ρ => (v ρ).bd fun d ρ => match keyD x with
  | some c => .ok (T.dk [(c, d)]) ρ
  | none => .no
theorem bdE_ok {α β : Type} (a : α) (ρ : MEnv) (k : α → MEnv → Ou β) : (Ou.ok a ρ).bd k = k a ρ := rfl
theorem sim_disp1 {K : PySem.W.Frag} {xa : Nat → Addr} {W : WX} {t u : TE} {a b : MV} (ha : SimV K xa W t a) (hb : SimV K xa W u b) : SimE K xa W (tDisp [(t, u)]) (eDisp1 a b) := by
  intro F H σ ρ S Q re gd q p hp
  have sm := same_upd (o := .dK []) hp
  have nS : ¬ S p := fun z => (gd.ow p z).1 hp
  have hf : F p = none := gd.sm.free hp
  have gd0 : Gd F (upd H p (.dK [])) S := ⟨gd.sm.trans sm, fun b h => by
    obtain ⟨z1, z2⟩ := gd.ow b h
    refine ⟨?_, z2⟩
    rw [upd_ne (fun zz => nS (by rw [← zz]; exact h))]
    exact z1⟩
  have t0 : To F H S F (upd H p (.dK [])) S := ⟨fun b o h _ => sm b o h, Same.refl F, fun b h => .inl h, fun b h => .inl h, gd0⟩
  have re0 : EnvR K F (upd H p (.dK [])) σ ρ S := re.frame (Same.refl F) (fun b o _ h => sm b o h) fun b z => (gd.ow b z).2
  have q : PT_ K xa W F H σ S Q ((a ρ).bd fun x ρ => (b ρ).bd fun d ρ => match keyD x with
    | some c => .ok (T.dk [(c, d)]) ρ
    | none => .no) := q
  refine ha F _ σ ρ S _ re0 gd0 ?_
  cases ea : a ρ with
  | no =>
    rw [ea] at q
    exact q.elim
  | ex c pp ρ' =>
    rw [ea] at q
    exact PX.step q t0
  | ok x ρ1 =>
    rw [ea, bdE_ok] at q
    intro v1 F1 H1 S1 t1 r1 h1
    refine hb F1 H1 σ ρ1 S1 _ r1 t1.gd ?_
    have t01 := t0.trans t1
    cases eb : b ρ1 with
    | no =>
      rw [eb] at q
      exact q.elim
    | ex c pp ρ' =>
      rw [eb] at q
      exact PX.step q t01
    | ok y ρ2 =>
      rw [eb, bdE_ok] at q
      intro v2 F2 H2 S2 t2 r2 h2
      have t12 := t1.trans t2
      have tt := t0.trans t12
      have hp2 : H2 p = some (.dK []) := t12.fr p _ upd_same nS
      have nS2 : ¬ S2 p := fun z => by
        rcases t12.sn p z with z | z
        · exact nS z
        · rw [upd_same] at z
          cases z
      have hf2 : F2 p = none := by
        cases e : F2 p with
        | none => rfl
        | some o =>
          rcases t12.nw p (by rw [e]; exact fun z => nomatch z) with z | z | z
          · exact absurd hf z
          · exact absurd z nS
          · rw [upd_same] at z
            cases z
      have h1 : Dq K F1 v1 x := h1
      have h2 : Dq K F2 v2 y := h2
      have fin : ∀ c : Key, keyD x = some c → v1 = kV c → H2 p = some (.dK []) ∧ ∃ kvs : List (Key × V), [(v1, v2)] = kvs.map (fun kv => (kV kv.1, kv.2)) ∧ kvs.length ≤ 15 ∧ Q (.ref p) (upd H2 p (.dK (mergeK [] kvs))) := fun c hc hv => by
        simp only [hc] at q
        refine ⟨hp2, [(c, v2)], by rw [hv]; rfl, (by show 1 ≤ 15; decide), ?_⟩
        have em : mergeK [] [(c, v2)] = [(c, v2)] := rfl
        rw [em]
        refine q (.ref p) F2 _ (fun b => b = p) S2 ⟨fun b o h n => ?_, tt.fs, tt.nw, fun b h => ?_, fun b o h => ?_, fun b h => ?_⟩ (fun b e z => nS2 (by rw [← show b = p from e]; exact z)) (r2.upd t2.gd nS2) (dk_rl hf2 upd_same (.cons h2 .nil))
        · have hb : b ≠ p := fun zz => by rw [zz, hp] at h; cases h
          rw [upd_ne hb]
          exact tt.fr b o h n
        · rcases h with h | h
          · exact .inr (by rw [h]; exact hp)
          · exact tt.sn b h
        · have hb : b ≠ p := fun zz => by rw [zz, hf2] at h; cases h
          rw [upd_ne hb]
          exact t2.gd.sm b o h
        · rcases h with h | h
          · have h : b = p := h
            subst h
            exact ⟨(by rw [upd_same]; exact fun z => nomatch z), hf2⟩
          · obtain ⟨z1, z2⟩ := t2.gd.ow b h
            rw [upd_ne (fun zz => nS2 (by rw [← zz]; exact h))]
            exact ⟨z1, z2⟩
      cases h1 with
      | int i => exact fin (.inl i) rfl rfl
      | str s => exact fin (.inr s) rfl rfl
      | _ => exact q.elim
theorem qe_disp1 {X : Cx} {xa : Nat → Addr} {W : WX} {ek ev : Expr} {a b : MV} {pos : Pos} (ha : QV X xa W ek a) (hb : QV X xa W ev b) : QE X xa W (.Dict [some ek] [ev] pos) (eDisp1 a b) := let ⟨_, p, q⟩ := ha; let ⟨_, p', q'⟩ := hb; ⟨_, pe_disp (pps_cons p p' pps_nil) rfl rfl (fun z => nomatch z) (by show 1 ≤ 15; decide), sim_disp1 q q'⟩


/-! ### is_whole, is_within, is_name -/
section
variable {P : Program} {w : World} {K : PySem.W.Frag} {mg : Str → Option Value} {base : Heap}
def sp_is_whole (K : PySem.W.Frag) : Sp := fun vs H Q _ => ∃ x k, vs = [x] ∧ Knd K H x k ∧ Q (.bl k.isWhole) H
theorem ok_is_whole (T : Env K mg) : FnOk P w K mg base CX0 1 T.a_is_whole T.d_is_whole ["thing"] (sp_is_whole K) := by
  refine T.F_is_whole.ok sc_is_whole (fun vs H Q E h => ?_) (fun cdv A outer s H vs Q E hr h => ?_)
  · obtain ⟨x, k, rfl, _⟩ := h
    rfl
  · obtain ⟨x, k, rfl, hk, q⟩ := h
    refine ⟨_, (pss_one (ps_ret (pe_and (pe_callB call_isi (by rfl) T.m_isinstance PyProof.Rows.boot_isinstance (pa_cons (pv 0) (pa_cons (pe_bltn (v := .ty "int") (by rfl) T.m_int PyProof.Rows.boot_int rfl) pa_nil))) (pe_one (pe_not (pe_callB call_isi (by rfl) T.m_isinstance PyProof.Rows.boot_isinstance (pa_cons (pv 0) (pa_cons (pe_bltn (v := .ty "bool") (by rfl) T.m_bool PyProof.Rows.boot_bool rfl) pa_nil)))))))), ?_⟩
    refine ⟨x, rfl, x, .ty "int", .type k.name, .type "int", k.isInt, rfl, .ty _, hk, kit_int k, k.isInt, rfl, ?_⟩
    cases k <;> first
      | exact iteF q
      | exact iteT ⟨x, rfl, x, .ty "bool", _, .type "bool", _, rfl, .ty _, hk, kit_bl _, _, rfl, q⟩
def withinV : V → Int → Int → Bool
  | .int i, lo, hi => decide (lo ≤ i) && decide (i ≤ hi)
  | _, _, _ => false
def sp_is_within (K : PySem.W.Frag) : Sp := fun vs H Q _ => ∃ x k lo hi, vs = [x, .int lo, .int hi] ∧ Knd K H x k ∧ Q (.bl (withinV x lo hi)) H
theorem tyx_int {H : Hp} {x : V} {t : Value} (h : TyX K H x t) : t = .type "int" → ∃ i, x = .int i := by
  cases h with
  | base b => cases b <;> intro e <;> first | exact ⟨_, rfl⟩ | (exact absurd (Value.type.inj e) (by decide)) | cases e
  | _ => intro e; exact absurd (Value.type.inj e) (by decide)
theorem knd_int {H : Hp} {x : V} (h : Knd K H x .int) : ∃ i, x = .int i := tyx_int h rfl
theorem tyx_of_int {H : Hp} {x : V} {t : Value} (h : TyX K H x t) : ∀ i, x = .int i → t = .type "int" := by
  cases h with
  | base b => cases b <;> intro i e <;> first | rfl | cases e
  | _ => intro i e; cases e
theorem int_knd {H : Hp} {i : Int} {k : Kn} (h : Knd K H (.int i) k) : k = .int := by
  have e := Value.type.inj (tyx_of_int h i rfl)
  cases k <;> first | rfl | exact absurd e (by decide)
theorem ok_is_within (T : Env K mg) : FnOk P w K mg base CX0 2 T.a_is_within T.d_is_within ["thing", "low", "high"] (sp_is_within K) := by
  have G_is_whole : FnOk P w K mg base CX0 1 T.a_is_whole T.d_is_whole ["thing"] (sp_is_whole K) := ok_is_whole T
  refine T.F_is_within.ok sc_is_within (fun vs H Q E h => ?_) (fun cdv A outer s H vs Q E hr h => ?_)
  · obtain ⟨x, k, lo, hi, rfl, _⟩ := h
    rfl
  · obtain ⟨x, k, lo, hi, rfl, hk, q⟩ := h
    have hr_is_whole := hr
    refine ⟨_, (pss_one (ps_ret (pe_and (pe_call G_is_whole hr_is_whole (by rfl) T.g_is_whole T.F_is_whole.kp T.b_is_whole .nil pass0 (pa_cons (pv 0) pa_nil)) (pe_one (pe_chain op_le op_le (pv 1) (pv 0) (pv 2)))))), ?_⟩
    refine ⟨x, rfl, x, k, rfl, hk, k.isWhole, rfl, ?_⟩
    by_cases c : k = .int
    · subst c
      obtain ⟨i, rfl⟩ := knd_int hk
      refine iteT ⟨_, rfl, _, rfl, _, _, rfl, rfl, _, rfl, ?_⟩
      have q : Q (.bl (decide (lo ≤ i) && decide (i ≤ hi))) H := q
      by_cases c : lo ≤ i
      · rw [decide_eq_true c]
        refine iteT ⟨_, rfl, _, _, rfl, rfl, ?_⟩
        rw [decide_eq_true c] at q
        exact q
      · rw [decide_eq_false c]
        refine iteF ?_
        rw [decide_eq_false c] at q
        exact q
    · have e : k.isWhole = false := by cases k <;> first | rfl | exact absurd rfl c
      rw [e]
      refine iteF ?_
      have e2 : withinV x lo hi = false := by
        cases x with
        | int i => exact absurd (int_knd hk) c
        | _ => rfl
      rw [e2] at q
      exact q
/-- the own words -/
def ownW : List V := [V.str "rel", V.str "same", V.str "unlike", V.str "one", V.str "both", V.str "fresh", V.str "call", V.str "not"]
def letterL : List Nat := ("abcdefghijklmnopqrstuvwxyz" : Str).cps.toList
/-- what is_name tells of a text -/
def isName (x : Str) : Bool := decide (1 ≤ (x.length : Int)) && (decide ((x.length : Int) ≤ 8) && (!inV (.str x) ownW && x.cps.toList.all fun c => decide (c ∈ letterL)))
def nameV : V → Bool
  | .str x => isName x
  | _ => false
theorem tyx_str {H : Hp} {x : V} {t : Value} (h : TyX K H x t) : t = .type "str" → ∃ i, x = .str i := by
  cases h with
  | base b => cases b <;> intro e <;> first | exact ⟨_, rfl⟩ | (exact absurd (Value.type.inj e) (by decide)) | cases e
  | _ => intro e; exact absurd (Value.type.inj e) (by decide)
theorem tyx_of_str {H : Hp} {x : V} {t : Value} (h : TyX K H x t) : ∀ i, x = .str i → t = .type "str" := by
  cases h with
  | base b => cases b <;> intro i e <;> first | rfl | cases e
  | _ => intro i e; cases e
theorem knd_str {H : Hp} {x : V} (h : Knd K H x .str) : ∃ i, x = .str i := tyx_str h rfl
theorem str_knd {H : Hp} {i : Str} {k : Kn} (h : Knd K H (.str i) k) : k = .str := by
  have e := Value.type.inj (tyx_of_str h i rfl)
  cases k <;> first | rfl | exact absurd e (by decide)
/-- a list made sign by sign -/
theorem lc_signs {z : Str} {te : TE} {i : Nat} {σ : L2.St} {H : Hp} {D : Addr} {f : Nat → V} {Qd : Hp → Prop} (hD : H D = none) (hz : z.length ≤ sizeLine)
    (he : ∀ c H', Same H H' → ∀ Q : VK, Q (f c) H' → te ((wipe σ [i]).set i (some (.str ⟨#[c]⟩))) H' Q) (hw : ∀ v, wipe ((wipe σ [i]).set i (some v)) [i] = wipe σ [i])
    (hd : ∀ H', Same H H' → H' D = some (.lst (z.cps.toList.map f)) → Qd H') :
    ∃ W : Nat → Nat → Hp → Prop, (∃ m, W 0 m (upd H D (.lst []))) ∧ ∀ j m H, W j m H →
      ((Its z).stop j H ∧ Qd H) ∨ ((Its z).go j H ∧ ∃ Nx : Hp → Prop, (∀ H', Nx H' → ∃ m', m' < m ∧ W (j + 1) m' H') ∧ ∀ x H', (Its z).yld j H x H' → gName i x (wipe σ [i]) H' fun σ2 H2 => wipe σ2 [i] = wipe σ [i] ∧ tYes σ2 H2 fun b H3 =>
        if b = true then te σ2 H3 fun y H4 => ∃ acc, H4 D = some (.lst acc) ∧ acc.length < sizeLine ∧ Nx (upd H4 D (.lst (acc ++ [y]))) else Nx H3) := by
  refine lc_it walk_str (fun j H' => Same H H' ∧ H' D = some (.lst ((z.cps.toList.take j).map f))) ⟨same_upd hD, upd_same⟩ (fun _ _ _ _ => trivial) ?_ ?_
  · rintro j x H1 H2 hj ⟨sm, hL⟩ ⟨rfl, c, hc, rfl⟩
    refine ⟨hw _, ?_⟩
    refine he c H2 sm _ ⟨_, hL, ?_, same_mut sm hD, ?_⟩
    · rw [List.length_map, List.length_take]
      have e : z.cps.toList.length = z.length := by simp [Str.length]
      have e2 : z.cps.size = z.length := rfl
      omega
    · have g : z.cps.toList[j]? = some c := by
        rw [Array.getElem?_toList]
        exact hc
      rw [upd_same, List.take_add_one, g, List.map_append]
      rfl
  · rintro H' ⟨sm, hL⟩
    refine hd H' sm ?_
    have e : z.cps.toList.take z.cps.size = z.cps.toList := List.take_of_length_le (by simp)
    rw [e] at hL
    exact hL
def sp_is_name (K : PySem.W.Frag) : Sp := fun vs H Q _ => ∃ x k, vs = [x] ∧ Knd K H x k ∧ (∀ z, x = .str z → z.length ≤ sizeLine) ∧ ∀ H', Same H H' → Q (.bl (nameV x)) H'
theorem ok_is_name (T : Env K mg) : FnOk P w K mg base CX0 1 T.a_is_name T.d_is_name ["thing"] (sp_is_name K) := by
  refine T.F_is_name.ok sc_is_name (fun vs H Q E h => ?_) (fun cdv A outer s H vs Q E hr h => ?_)
  · obtain ⟨x, k, rfl, _⟩ := h
    rfl
  · obtain ⟨x, k, rfl, hk, hz, q⟩ := h
    refine ⟨_, (pss_cons (ps_if (PW.pt (pw_or (pt_not (pt_val (pe_callB call_isi (by rfl) T.m_isinstance PyProof.Rows.boot_isinstance (pa_cons (pv 0) (pa_cons (pe_bltn (v := .ty "str") (by rfl) T.m_str PyProof.Rows.boot_str rfl) pa_nil))))) (pw_or (pt_not (pt_chain op_le op_le pe_int (pe_callB call_len_str (by rfl) T.m_len PySem.boot_len (pa_cons (pv 0) pa_nil)) (pe_glob (v := V.int 8) (by rfl) T.g_LONGEST ⟨_, rfl⟩))) (pw_or1 (pt_cmpR op_in_seq (pv 0) (pe_glob (v := .ref T.a_OWN_WORDS) (by rfl) T.g_OWN_WORDS rfl) (by rfl)))))) (pss_one (ps_ret pe_bl)) pss_nil)
      (pss_one (ps_ret (pe_callB (cr_all (by rfl)) (by rfl) T.m_all PyProof.Rows.boot_all (pa_cons (pe_lc (own := [("sign", 1)]) (g := gName 1) (tt := tYes) (by rfl) sc_is_name.nd (pi_str (pv 0)) (blkOk_by (own := [("sign", 1)]) (N := ["thing", "sign"]) (sc := defScope s_is_name) (by decide +kernel)) (fun _ _ _ _ _ => (pg_name (i := 1) sc_is_name.nd rfl (Or.inl rfl))) (fun _ _ _ _ _ => pts_nil) (fun _ _ _ _ _ => (pe_cmpR op_in_sign (pv 1) (pe_glob (v := V.str "abcdefghijklmnopqrstuvwxyz") (by rfl) T.g_LETTERS ⟨_, rfl⟩) (by rfl)))) pa_nil))))), ?_⟩
    refine ⟨x, rfl, x, .ty "str", .type k.name, .type "str", k.isStr, rfl, .ty _, hk, kit_str k, _, rfl, ?_⟩
    by_cases ck : k = .str
    · subst ck
      obtain ⟨z, rfl⟩ := knd_str hk
      have hz := hz z rfl
      have qn : ∀ H', Same H H' → Q (.bl (decide (1 ≤ (z.length : Int)) && (decide ((z.length : Int) ≤ 8) && (!inV (.str z) ownW && z.cps.toList.all fun c => decide (c ∈ letterL))))) H' := q
      refine iteF ⟨_, rfl, z, rfl, hz, _, _, rfl, rfl, _, rfl, ?_⟩
      by_cases c1 : (1 : Int) ≤ (z.length : Int)
      · rw [decide_eq_true c1] at qn ⊢
        refine iteT ⟨_, _, rfl, rfl, _, rfl, ?_⟩
        by_cases c2 : (z.length : Int) ≤ 8
        · rw [decide_eq_true c2] at qn ⊢
          refine iteF ⟨_, rfl, T.a_OWN_WORDS, ownW, rfl, .inr (T.q_OWN_WORDS H), rfl, rfl, _, rfl, ?_⟩
          cases c3 : inV (.str z) ownW with
          | true =>
            rw [c3] at qn
            exact qn H (Same.refl H)
          | false =>
            rw [c3] at qn
            refine iteF ?_
            refine ⟨_, rfl, z, rfl, fun D hD => ?_⟩
            refine lc_signs (f := fun c => .bl (decide (c ∈ letterL))) hD hz (fun c H' sm Q' q' => ⟨_, rfl, c, _, rfl, rfl, q'⟩) (fun v => rfl) fun H' sm hL => ?_
            refine ⟨D, z.cps.toList.map fun c => decide (c ∈ letterL), rfl, SqL.of ?_, ?_⟩
            · rw [hL, List.map_map]
              rfl
            · have e : ((z.cps.toList.map fun c => decide (c ∈ letterL)).all id) = z.cps.toList.all fun c => decide (c ∈ letterL) := by
                rw [List.all_map]
                rfl
              rw [e]
              exact qn H' sm
        · rw [decide_eq_false c2] at qn ⊢
          exact qn H (Same.refl H)
      · rw [decide_eq_false c1] at qn ⊢
        refine iteF ⟨_, rfl, ?_⟩
        exact qn H (Same.refl H)
    · have e : k.isStr = false := by cases k <;> first | rfl | exact absurd rfl ck
      rw [e]
      have e2 : nameV x = false := by
        cases x with
        | str i => exact absurd (str_knd hk) ck
        | _ => rfl
      rw [e2] at q
      exact q H (Same.refl H)
end

/-! ### things as trees: pairs, and leaves -/
inductive Th where
  | lf (d : PyData)
  | pr (a b : Th)
def Th.toD : Th → PyData
  | .lf d => d
  | .pr a b => .tuple [a.toD, b.toD]
def isPairD : PyData → Bool
  | .tuple [_, _] => true
  | _ => false
def Th.isPr : Th → Bool
  | .lf _ => false
  | .pr _ _ => true
/-- the leaves are no pairs -/
def Th.nf : Th → Prop
  | .lf d => isPairD d = false
  | .pr a b => a.nf ∧ b.nf
def Th.parts : Th → Nat
  | .lf _ => 1
  | .pr a b => 1 + a.parts + b.parts
/-- all parts, in reading order -/
def Th.pre : Th → List Th
  | .lf d => [.lf d]
  | .pr a b => .pr a b :: (a.pre ++ b.pre)
def Th.deep : Th → Nat
  | .lf _ => 1
  | .pr a b => 1 + max a.deep b.deep
theorem Th.parts_pos (t : Th) : 0 < t.parts := by
  cases t with
  | lf d => exact Nat.one_pos
  | pr a b =>
    show 0 < 1 + a.parts + b.parts
    omega
theorem Th.pre_length (t : Th) : t.pre.length = t.parts := by
  induction t with
  | lf d => rfl
  | pr a b iha ihb =>
    show (a.pre ++ b.pre).length + 1 = 1 + a.parts + b.parts
    rw [List.length_append, iha, ihb]
    omega
theorem Th.deep_le (t : Th) : t.deep ≤ t.parts := by
  induction t with
  | lf d => exact Nat.le_refl _
  | pr a b iha ihb =>
    show 1 + max a.deep b.deep ≤ 1 + a.parts + b.parts
    omega
theorem Th.pairD {t : Th} (h : t.nf) : isPairD t.toD = t.isPr := by
  cases t with
  | lf d => exact h
  | pr a b => rfl
theorem Th.pre_nf {t u : Th} (h : t.nf) (hu : u ∈ t.pre) : u.nf := by
  induction t with
  | lf d =>
    rw [List.mem_singleton.mp hu]
    exact h
  | pr a b iha ihb =>
    rcases List.mem_cons.mp hu with e | hu
    · rw [e]
      exact h
    · rcases List.mem_append.mp hu with hu | hu
      · exact iha h.1 hu
      · exact ihb h.2 hu
def withinD : PyData → Int → Int → Bool
  | .int i, lo, hi => decide (lo ≤ i) && decide (i ≤ hi)
  | _, _, _ => false
def nameD : PyData → Bool
  | .str x => isName x
  | _ => false
/-- an unknown's number -/
def unkD : PyData → Bool
  | .tuple [d] => withinD d 0 999999999
  | _ => false
def singleD (d : PyData) : Bool := nameD d || (withinD d 0 999999999999999999999999999999 || unkD d)
def Th.okL : Th → Bool
  | .lf d => singleD d
  | .pr a b => a.okL && b.okL
def Th.isTerm (t : Th) : Bool := t.okL && decide (t.parts ≤ 100)
mutual
/-- numbers and texts of no great size -/
def fine : PyData → Bool
  | .none | .bool _ => true
  | .int i => decide (i.natAbs < 2 ^ 1000)
  | .str x => decide (x.length ≤ 1000) && x.cps.toList.all (fun c => decide (c < 1114112))
  | .list xs | .tuple xs => fineAll xs
  | .dict kvs => kvs.isEmpty
def fineAll : List PyData → Bool
  | [] => true
  | x :: xs => fine x && fineAll xs
end
theorem Th.fine_pr {a b : Th} (h : fine (Th.pr a b).toD = true) : fine a.toD = true ∧ fine b.toD = true := by
  have h' : (fine a.toD && (fine b.toD && true)) = true := h
  rw [Bool.and_true] at h'
  exact Bool.and_eq_true_iff.mp h'
section
variable {K : PySem.W.Frag} {H : Hp}
theorem Dq.within {v : V} {d : PyData} (h : Dq K H v d) (lo hi : Int) : withinV v lo hi = withinD d lo hi := by
  cases h <;> rfl
theorem Dq.name {v : V} {d : PyData} (h : Dq K H v d) : nameV v = nameD d := by
  cases h <;> rfl
theorem Dq.strLen {v : V} {d : PyData} (h : Dq K H v d) (f : fine d = true) : ∀ z, v = .str z → z.length ≤ sizeLine := by
  intro z e
  subst e
  cases h
  exact sz_le (Nat.le_trans (of_decide_eq_true (Bool.and_eq_true_iff.mp f).1) (by decide))
theorem Dq.tupOf {v : V} {ds : List PyData} (h : Dq K H v (.tuple ds)) : ∃ a xs, v = .ref a ∧ SqT K H a xs ∧ DqAll K H xs ds := by
  cases h with
  | tup hs hr => exact ⟨_, _, rfl, hs, hr⟩
theorem DqAll.two {xs : List V} {d e : PyData} (h : DqAll K H xs [d, e]) : ∃ x y, xs = [x, y] ∧ Dq K H x d ∧ Dq K H y e := by
  cases h with
  | cons h1 h2 =>
    cases h2 with
    | cons h2 h3 =>
      cases h3
      exact ⟨_, _, rfl, h1, h2⟩
theorem DqAll.one {xs : List V} {d : PyData} (h : DqAll K H xs [d]) : ∃ x, xs = [x] ∧ Dq K H x d := by
  cases h with
  | cons h1 h2 =>
    cases h2
    exact ⟨_, rfl, h1⟩
end
section
variable {P : Program} {w : World} {K : PySem.W.Frag} {mg : Str → Option Value} {base : Heap}
/-! ### is_unknown, is_pair, is_single -/
def sp_is_pair (K : PySem.W.Frag) : Sp := fun vs H Q _ => ∃ x d, vs = [x] ∧ Dq K H x d ∧ Q (.bl (isPairD d)) H
theorem isPair_tup (ds : List PyData) : isPairD (.tuple ds) = decide (V.int (ds.length : Int) = V.int 2) := by
  match ds with
  | [] => rfl
  | [_] => rfl
  | [_, _] => rfl
  | _ :: _ :: _ :: r =>
    symm
    refine decide_eq_false fun e => ?_
    have e := V.int.inj e
    simp only [List.length_cons] at e
    omega
theorem ok_is_pair (T : Env K mg) : FnOk P w K mg base CX0 1 T.a_is_pair T.d_is_pair ["term"] (sp_is_pair K) := by
  refine T.F_is_pair.ok sc_is_pair (fun vs H Q E h => ?_) (fun cdv A outer s H vs Q E hr h => ?_)
  · obtain ⟨x, d, rfl, _⟩ := h
    rfl
  · obtain ⟨x, d, rfl, hd, q⟩ := h
    refine ⟨_, (pss_one (ps_ret (pe_and (pe_callB call_isi (by rfl) T.m_isinstance PyProof.Rows.boot_isinstance (pa_cons (pv 0) (pa_cons (pe_bltn (v := .ty "tuple") (by rfl) T.m_tuple PyProof.Rows.boot_tuple rfl) pa_nil))) (pe_one (pe_cmpR op_eq (pe_callB call_len_seq (by rfl) T.m_len PySem.boot_len (pa_cons (pv 0) pa_nil)) pe_int (nomark _)))))), ?_⟩
    refine ⟨x, rfl, x, .ty "tuple", _, .type "tuple", _, rfl, .ty _, hd.knd, kit_tup _, _, rfl, ?_⟩
    cases d with
    | tuple ds =>
      obtain ⟨a, xs, rfl, hs, hr'⟩ := hd.tupOf
      rw [isPair_tup, ← hr'.length] at q
      exact ⟨_, rfl, a, xs, rfl, .inr hs, rfl, q⟩
    | _ => exact q
def sp_is_unknown (K : PySem.W.Frag) : Sp := fun vs H Q _ => ∃ x d, vs = [x] ∧ Dq K H x d ∧ Q (.bl (unkD d)) H
theorem ok_is_unknown (T : Env K mg) : FnOk P w K mg base CX0 3 T.a_is_unknown T.d_is_unknown ["thing"] (sp_is_unknown K) := by
  have G_is_within : FnOk P w K mg base CX0 2 T.a_is_within T.d_is_within ["thing", "low", "high"] (sp_is_within K) := ok_is_within T
  refine T.F_is_unknown.ok sc_is_unknown (fun vs H Q E h => ?_) (fun cdv A outer s H vs Q E hr h => ?_)
  · obtain ⟨x, d, rfl, _⟩ := h
    rfl
  · obtain ⟨x, d, rfl, hd, q⟩ := h
    have hr_is_within := hr
    refine ⟨_, (pss_one (ps_ret (pe_and (pe_callB call_isi (by rfl) T.m_isinstance PyProof.Rows.boot_isinstance (pa_cons (pv 0) (pa_cons (pe_bltn (v := .ty "tuple") (by rfl) T.m_tuple PyProof.Rows.boot_tuple rfl) pa_nil))) (pe_and (pe_cmpR op_eq (pe_callB call_len_seq (by rfl) T.m_len PySem.boot_len (pa_cons (pv 0) pa_nil)) pe_int (nomark _)) (pe_one (pe_call G_is_within hr_is_within (by rfl) T.g_is_within T.F_is_within.kp T.b_is_within .nil pass0 (pa_cons (pe_ix ix_tup (pv 0) pe_int (fun _ _ => rfl)) (pa_cons pe_int (pa_cons (pe_glob (v := V.int 999999999) (by rfl) T.g_MOST_UNKNOWN ⟨_, rfl⟩) pa_nil))))))))), ?_⟩
    refine ⟨x, rfl, x, .ty "tuple", _, .type "tuple", _, rfl, .ty _, hd.knd, kit_tup _, _, rfl, ?_⟩
    cases d with
    | tuple ds =>
      obtain ⟨a, xs, rfl, hs, hr'⟩ := hd.tupOf
      refine ⟨_, rfl, a, xs, rfl, .inr hs, rfl, _, rfl, ?_⟩
      match ds, hr', q with
      | [], hr', q =>
        cases hr'
        exact q
      | [d], hr', q =>
        obtain ⟨y, rfl, hy⟩ := hr'.one
        refine ⟨_, rfl, a, _, 0, y, rfl, rfl, hs, atI_nat (j := 0) rfl, y, knD d, 0, 999999999, rfl, hy.knd, ?_⟩
        rw [hy.within]
        exact q
      | d :: e :: r, hr', q =>
        have hl := hr'.length
        have e2 : decide (V.int (xs.length : Int) = V.int 1) = false := decide_eq_false fun e => by
          have e := V.int.inj e
          simp only [List.length_cons] at hl
          omega
        rw [e2]
        exact q
    | _ => exact q
def sp_is_single (K : PySem.W.Frag) : Sp := fun vs H Q _ => ∃ x d, vs = [x] ∧ Dq K H x d ∧ fine d = true ∧ ∀ H', Same H H' → Q (.bl (singleD d)) H'
theorem ok_is_single (T : Env K mg) : FnOk P w K mg base CX0 4 T.a_is_single T.d_is_single ["thing"] (sp_is_single K) := by
  have G_is_within : FnOk P w K mg base CX0 3 T.a_is_within T.d_is_within ["thing", "low", "high"] (sp_is_within K) := (ok_is_within T).mono (by decide)
  have G_is_name : FnOk P w K mg base CX0 3 T.a_is_name T.d_is_name ["thing"] (sp_is_name K) := (ok_is_name T).mono (by decide)
  have G_is_unknown : FnOk P w K mg base CX0 3 T.a_is_unknown T.d_is_unknown ["thing"] (sp_is_unknown K) := ok_is_unknown T
  refine T.F_is_single.ok sc_is_single (fun vs H Q E h => ?_) (fun cdv A outer s H vs Q E hr h => ?_)
  · obtain ⟨x, d, rfl, _⟩ := h
    rfl
  · obtain ⟨x, d, rfl, hd, hf, q⟩ := h
    have hr_is_within := hr
    have hr_is_name := hr
    have hr_is_unknown := hr
    refine ⟨_, (pss_one (ps_ret (pe_or (pe_call G_is_name hr_is_name (by rfl) T.g_is_name T.F_is_name.kp T.b_is_name .nil pass0 (pa_cons (pv 0) pa_nil)) (pe_or (pe_call G_is_within hr_is_within (by rfl) T.g_is_within T.F_is_within.kp T.b_is_within .nil pass0 (pa_cons (pv 0) (pa_cons pe_int (pa_cons (pe_glob (v := V.int 999999999999999999999999999999) (by rfl) T.g_GREATEST ⟨_, rfl⟩) pa_nil)))) (pe_one (pe_call G_is_unknown hr_is_unknown (by rfl) T.g_is_unknown T.F_is_unknown.kp T.b_is_unknown .nil pass0 (pa_cons (pv 0) pa_nil))))))), ?_⟩
    refine ⟨_, rfl, x, _, rfl, hd.knd, hd.strLen hf, fun H1 s1 => ⟨_, rfl, ?_⟩⟩
    have q := q H1 s1
    have hd1 := hd.same s1
    unfold singleD at q
    rw [hd.name]
    cases e1 : nameD d with
    | true =>
      rw [e1] at q
      exact q
    | false =>
      rw [e1] at q
      refine ⟨_, rfl, x, _, 0, 999999999999999999999999999999, rfl, hd1.knd, _, rfl, ?_⟩
      rw [hd1.within]
      cases e2 : withinD d 0 999999999999999999999999999999 with
      | true =>
        rw [e2] at q
        exact q
      | false =>
        rw [e2] at q
        exact ⟨_, rfl, x, d, rfl, hd1, q⟩
end


/-! ### is_term -/
def sumP : List Th → Nat
  | [] => 0
  | t :: r => t.parts + sumP r
section
variable {P : Program} {w : World} {K : PySem.W.Frag} {mg : Str → Option Value} {base : Heap}
def OkTh (t : Th) : Prop := t.nf ∧ fine t.toD = true
theorem OkTh.pr {a b : Th} (h : OkTh (.pr a b)) : OkTh a ∧ OkTh b := ⟨⟨h.1.1, (Th.fine_pr h.2).1⟩, ⟨h.1.2, (Th.fine_pr h.2).2⟩⟩
theorem Dq.pr {H : Hp} {v : V} {a b : Th} (h : Dq K H v (Th.pr a b).toD) : ∃ p x y, v = .ref p ∧ SqT K H p [x, y] ∧ Dq K H x a.toD ∧ Dq K H y b.toD := by
  obtain ⟨p, xs, rfl, hs, hr⟩ := Dq.tupOf (ds := [a.toD, b.toD]) h
  obtain ⟨x, y, rfl, hx, hy⟩ := hr.two
  exact ⟨p, x, y, rfl, hs, hx, hy⟩
/-- the loop of is_term: the stack's top is the head of ts -/
def WT (K : PySem.W.Frag) (H : Hp) (x : V) (l : Addr) (t : Th) (m : Nat) (σ : L2.St) (H' : Hp) : Prop := ∃ (ts : List Th) (vs : List V) (n : Nat) (y : Option V), σ = [some x, some (.ref l), some (.int (n : Int)), y] ∧ m = sumP ts ∧ DqAll K H vs (ts.map Th.toD) ∧ (∀ u ∈ ts, OkTh u) ∧
  H' l = some (.lst vs.reverse) ∧ Same H H' ∧ n ≤ 100 ∧ vs.length ≤ n + 1 ∧ t.isTerm = (ts.all Th.okL && decide (n + sumP ts ≤ 100))
def sp_is_term (K : PySem.W.Frag) : Sp := fun vs H Q _ => ∃ x t, vs = [x] ∧ Dq K H x t.toD ∧ OkTh t ∧ ∀ H', Same H H' → Q (.bl t.isTerm) H'
theorem ok_is_term (T : Env K mg) : FnOk P w K mg base CX0 5 T.a_is_term T.d_is_term ["thing"] (sp_is_term K) := by
  have G_is_pair : FnOk P w K mg base CX0 4 T.a_is_pair T.d_is_pair ["term"] (sp_is_pair K) := (ok_is_pair T).mono (by decide)
  have G_is_single : FnOk P w K mg base CX0 4 T.a_is_single T.d_is_single ["thing"] (sp_is_single K) := ok_is_single T
  refine T.F_is_term.ok sc_is_term (fun vs H Q E h => ?_) (fun cdv A outer s H vs Q E hr h => ?_)
  · obtain ⟨x, t, rfl, _⟩ := h
    rfl
  · obtain ⟨x, t, rfl, hd, ht, q⟩ := h
    have hr_is_pair := hr
    have hr_is_single := hr
    refine ⟨_, (pss_cons (ps_set (i := 1) sc_is_term.nd rfl (Or.inl rfl) (pe_lst (pa_cons (pv 0) pa_nil)))
      (pss_cons (ps_set (i := 2) sc_is_term.nd rfl (Or.inl rfl) pe_int)
      (pss_cons (ps_while PassesOwn.never (pt_cmpR (op_neNil hr.units) (pv 1) (pe_lst pa_nil) (nomark _)) (pss_cons (ps_set (i := 3) sc_is_term.nd rfl (Or.inl rfl) (pe_bm0 PySem.F.plainAttrs_list PySem.F.slot_list_pop PySem.F.type_list_pop mt_pop (pv 1)))
      (pss_cons (ps_aug (i := 2) sc_is_term.nd rfl (Or.inl rfl) pe_int ip_add)
      (pss_cons (ps_if (pt_cmpR op_gt (pv 2) (pe_glob (v := V.int 100) (by rfl) T.g_MOST_PARTS ⟨_, rfl⟩) (nomark _)) (pss_one (ps_ret pe_bl)) pss_nil)
      (pss_one (ps_if (pt_val (pe_call G_is_pair hr_is_pair (by rfl) T.g_is_pair T.F_is_pair.kp T.b_is_pair .nil pass0 (pa_cons (pv 3) pa_nil))) (pss_one (ps_expr (pe_bm PySem.F.plainAttrs_list PySem.F.slot_list_extend PySem.F.type_list_extend mt_extend (pv 1) (pa_cons (pe_lst (pa_cons (pe_ix ix_tup (pv 3) pe_int (fun _ _ => rfl)) (pa_cons (pe_ix ix_tup (pv 3) pe_int (fun _ _ => rfl)) pa_nil))) pa_nil)))) (pss_one (ps_if (pt_not (pt_val (pe_call G_is_single hr_is_single (by rfl) T.g_is_single T.F_is_single.kp T.b_is_single .nil pass0 (pa_cons (pv 3) pa_nil)))) (pss_one (ps_ret pe_bl)) pss_nil))))))))
      (pss_one (ps_ret pe_bl))))), ?_⟩
    refine ⟨_, rfl, (by show 1 ≤ sizeLine; decide), fun l hl => ?_⟩
    refine ⟨WT K H x l t, ⟨sumP [t], [t], [x], 0, none, rfl, rfl, .cons hd .nil, (fun u hu => by rw [List.mem_singleton.mp hu]; exact ht), upd_same, same_upd hl, by decide, Nat.le_refl 1, ?_⟩, fun m σ H1 hW => ?_⟩
    · show (t.okL && decide (t.parts ≤ 100)) = ((t.okL && true) && decide (0 + (t.parts + 0) ≤ 100))
      rw [Bool.and_true, Nat.zero_add, Nat.add_zero]
    · obtain ⟨ts, ws, n, y, rfl, rfl, hD, hO, hL, sm, hn, hw, eT⟩ := hW
      refine ⟨_, rfl, Nat.zero_le _, fun p hp => ?_⟩
      have nlp : l ≠ p := ne_of_none hL hp
      have hL2 : (upd H1 p (.lst [])) l = some (.lst ws.reverse) := (upd_ne nlp).trans hL
      have sm2 : Same H (upd H1 p (.lst [])) := sm.trans (same_upd hp)
      match ts, ws, hD with
      | [], [], _ =>
        refine ⟨l, p, _, rfl, rfl, SqL.of hL2, SqL.of upd_same, false, rfl, ?_⟩
        have e : t.isTerm = true := by
          rw [eT]
          show (true && decide (n + 0 ≤ 100)) = true
          rw [decide_eq_true (by omega)]
          rfl
        rw [e] at q
        exact q _ sm2
      | u :: ts, v :: ws, hD =>
        have hne : (v :: ws).reverse.isEmpty = false := by simp
        refine ⟨l, p, _, rfl, rfl, SqL.of hL2, SqL.of upd_same, true, congrArg V.bl (congrArg Bool.not hne), ?_⟩
        refine ⟨fun σ' H' => ∃ m', m' < sumP (u :: ts) ∧ WT K H x l t m' σ' H', fun σ' H' z => z, ?_⟩
        have hv : Dq K H v u.toD ∧ DqAll K H ws (ts.map Th.toD) := by
          cases hD with
          | cons a b => exact ⟨a, b⟩
        have hlast : (v :: ws).reverse[(v :: ws).reverse.length - 1]? = some v := by simp
        have hdrop : (v :: ws).reverse.dropLast = ws.reverse := by simp
        refine ⟨_, rfl, .inl ⟨rfl, _, SqL.of hL2⟩, l, _, v, rfl, rfl, hL2, hlast, ?_⟩
        rw [hdrop]
        have sm3 : Same H (upd (upd H1 p (.lst [])) l (.lst ws.reverse)) := same_mut sm2 hl
        refine ⟨_, rfl, _, _, rfl, rfl, ?_⟩
        refine ⟨_, rfl, _, _, rfl, rfl, _, rfl, ite2 (fun c => ?_) (fun c => ?_)⟩
        · have c : (100 : Int) < (n : Int) + 1 := of_decide_eq_true c
          have e : t.isTerm = false := by
            rw [eT]
            have hp := u.parts_pos
            show ((u :: ts).all Th.okL && decide (n + (u.parts + sumP ts) ≤ 100)) = false
            rw [decide_eq_false (show ¬ n + (u.parts + sumP ts) ≤ 100 by omega), Bool.and_false]
          rw [e] at q
          exact q _ sm3
        · have c : ¬ (100 : Int) < (n : Int) + 1 := of_decide_eq_false (Bool.eq_false_iff.mpr c)
          have hu := hO u List.mem_cons_self
          have hrest : ∀ z ∈ ts, OkTh z := fun z hz => hO z (List.mem_cons_of_mem _ hz)
          have hL3 : (upd (upd H1 p (.lst [])) l (.lst ws.reverse)) l = some (.lst ws.reverse) := upd_same
          refine ⟨_, rfl, v, u.toD, rfl, hv.1.same sm3, _, rfl, ?_⟩
          rw [Th.pairD hu.1]
          cases u with
          | pr a b =>
            obtain ⟨pa, y0, y1, rfl, hs, h0, h1⟩ := hv.1.pr
            have hs3 := seqT sm3 hs
            refine ⟨_, rfl, .inl ⟨rfl, _, SqL.of hL3⟩, _, rfl, pa, _, 1, y1, rfl, rfl, hs3, atI_nat (j := 1) rfl, _, rfl, pa, _, 0, y0, rfl, rfl, hs3, atI_nat (j := 0) rfl, (by show 2 ≤ sizeLine; decide), fun p2 hp2 => ?_⟩
            have nl2 : l ≠ p2 := ne_of_none hL3 hp2
            refine ⟨l, p2, _, _, rfl, rfl, (upd_ne nl2).trans hL3, upd_same, ?_, ?_⟩
            · rw [List.length_reverse]
              simp only [List.length_cons] at hw
              exact sz_le (by show ws.length + 2 ≤ 1000000; omega)
            · have e1 : ws.reverse ++ [y1, y0] = (y0 :: y1 :: ws).reverse := by simp
              rw [e1]
              refine ⟨sumP (a :: b :: ts), ?_, a :: b :: ts, y0 :: y1 :: ws, n + 1, _, rfl, rfl, .cons h0 (.cons h1 hv.2), ?_, upd_same, same_mut (sm3.trans (same_upd hp2)) hl, by omega, ?_, ?_⟩
              · show a.parts + (b.parts + sumP ts) < 1 + a.parts + b.parts + sumP ts
                omega
              · intro z hz
                rcases List.mem_cons.mp hz with rfl | hz
                · exact hu.pr.1
                · rcases List.mem_cons.mp hz with rfl | hz
                  · exact hu.pr.2
                  · exact hrest z hz
              · simp only [List.length_cons] at hw ⊢
                omega
              · rw [eT]
                show ((a.okL && b.okL) && ts.all Th.okL && decide (n + (1 + a.parts + b.parts + sumP ts) ≤ 100)) = (a.okL && (b.okL && ts.all Th.okL) && decide (n + 1 + (a.parts + (b.parts + sumP ts)) ≤ 100))
                rw [Bool.and_assoc a.okL, show n + (1 + a.parts + b.parts + sumP ts) = n + 1 + (a.parts + (b.parts + sumP ts)) by omega]
          | lf d =>
            refine ⟨_, rfl, v, d, rfl, hv.1.same sm3, hu.2, fun H4 s4 => ⟨_, rfl, ?_⟩⟩
            cases e1 : singleD d with
            | false =>
              have e : t.isTerm = false := by
                rw [eT]
                show ((singleD d && ts.all Th.okL) && _) = false
                rw [e1]
                rfl
              rw [e] at q
              exact q _ (sm3.trans s4)
            | true =>
              refine ⟨sumP ts, ?_, ts, ws, n + 1, _, rfl, rfl, hv.2, hrest, s4 _ _ hL3, sm3.trans s4, by omega, ?_, ?_⟩
              · show sumP ts < 1 + sumP ts
                omega
              · simp only [List.length_cons] at hw
                omega
              · rw [eT]
                show ((singleD d && ts.all Th.okL) && decide (n + (1 + sumP ts) ≤ 100)) = (ts.all Th.okL && decide (n + 1 + sumP ts ≤ 100))
                rw [e1, Bool.true_and, show n + (1 + sumP ts) = n + 1 + sumP ts by omega]
end
/-! ### need_term, parts_within, parts_of -/
section
variable {P : Program} {w : World} {K : PySem.W.Frag} {mg : Str → Option Value} {base : Heap}
def sp_need_term (K : PySem.W.Frag) (C : Addr) : Sp := fun vs H Q E => ∃ x t, vs = [x] ∧ Dq K H x t.toD ∧ OkTh t ∧ (t.isTerm = true → ∀ H', Same H H' → Q .non H') ∧
  (t.isTerm = false → ∀ H' d, Same H H' → H' d = none → E (.ref C) (some d) (upd H' d (.xd [("found", x)])))
theorem ok_need_term (T : Env K mg) : FnOk P w K mg base (L2.CX P w) 6 T.a_need_term T.d_need_term ["thing"] (sp_need_term K T.a_NoTerm) := by
  have G_is_term : FnOk P w K mg base CX0 5 T.a_is_term T.d_is_term ["thing"] (sp_is_term K) := ok_is_term T
  have G_NoTerm : FnOk P w K mg base CX0 4 T.i_NoTerm T.di_NoTerm ["self", "found"] (sp_init1 T.a_NoTerm "found") := (ok_NoTerm T).mono (by decide)
  refine T.F_need_term.okX sc_need_term (fun vs H Q E h => ?_) (fun cdv A outer s H vs Q E hr h => ?_)
  · obtain ⟨x, t, rfl, _⟩ := h
    rfl
  · obtain ⟨x, t, rfl, hd, ht, q, qe⟩ := h
    have hr_is_term := hr
    refine ⟨_, (pss_one (ps_if (pt_not (pt_val (pe_call G_is_term hr_is_term (by rfl) T.g_is_term T.F_is_term.kp T.b_is_term .nil pass0 (pa_cons (pv 0) pa_nil)))) (pss_one (ps_raise (by rfl) (takes_of rfl rfl rfl rfl) (pmk_oex T.x_NoTerm T.ii_NoTerm T.ti_NoTerm G_NoTerm hr T.bi_NoTerm .nil pass0 (by rfl) T.g_NoTerm (pa_cons (pv 0) pa_nil)))) pss_nil)), ?_⟩
    refine ⟨_, rfl, x, t, rfl, hd, ht, fun H1 s1 => ⟨_, rfl, ?_⟩⟩
    cases e : t.isTerm with
    | true => exact q e H1 s1
    | false => exact ⟨_, rfl, raise1 fun d hd => qe e H1 d s1 hd⟩
/-- the loop of parts_within -/
def WP (K : PySem.W.Frag) (H0 H : Hp) (x : V) (l f : Addr) (t : Th) (m : Nat) (σ : L2.St) (H' : Hp) : Prop := ∃ (ts done : List Th) (vs fs : List V) (y : Option V), σ = [some x, some (.ref l), some (.ref f), y] ∧ m = sumP ts ∧ DqAll K H0 vs (ts.map Th.toD) ∧ (∀ u ∈ ts, u.nf) ∧
  DqAll K H0 fs (done.map Th.toD) ∧ H' l = some (.lst vs.reverse) ∧ H' f = some (.lst fs) ∧ Same H H' ∧ done ++ (ts.map Th.pre).flatten = t.pre
def sp_parts_within (K : PySem.W.Frag) : Sp := fun vs H Q _ => ∃ (x : V) (t : Th) (H0 : Hp), vs = [x] ∧ Same H0 H ∧ Dq K H0 x t.toD ∧ t.nf ∧ t.parts ≤ 500000 ∧ ∀ l ws H', H l = none → Same H H' → H' l = some (.lst ws) → DqAll K H0 ws (t.pre.map Th.toD) → Q (.ref l) H'
theorem sumP_len : ∀ ts : List Th, ((ts.map Th.pre).flatten).length = sumP ts
  | [] => rfl
  | t :: r => by
    rw [List.map_cons, List.flatten_cons, List.length_append, sumP_len r, t.pre_length]
    rfl
theorem sumP_ge : ∀ ts : List Th, ts.length ≤ sumP ts
  | [] => Nat.le_refl _
  | t :: r => by
    have h := sumP_ge r
    have h2 := t.parts_pos
    show r.length + 1 ≤ t.parts + sumP r
    omega
theorem DqAll.snoc {H : Hp} : ∀ {vs : List V} {ds : List PyData} {v : V} {d : PyData}, DqAll K H vs ds → Dq K H v d → DqAll K H (vs ++ [v]) (ds ++ [d])
  | _, _, _, _, .nil, h => .cons h .nil
  | _, _, _, _, .cons a r, h => .cons a (r.snoc h)
theorem ok_parts_within (T : Env K mg) : FnOk P w K mg base CX0 2 T.a_parts_within T.d_parts_within ["term"] (sp_parts_within K) := by
  have G_is_pair : FnOk P w K mg base CX0 1 T.a_is_pair T.d_is_pair ["term"] (sp_is_pair K) := ok_is_pair T
  refine T.F_parts_within.ok sc_parts_within (fun vs H Q E h => ?_) (fun cdv A outer s H vs Q E hr h => ?_)
  · obtain ⟨x, t, H0, rfl, _⟩ := h
    rfl
  · obtain ⟨x, t, H0, rfl, s0, hd, ht, hp, q⟩ := h
    have hr_is_pair := hr
    refine ⟨_, (pss_cons (ps_set (i := 1) sc_parts_within.nd rfl (Or.inl rfl) (pe_lst (pa_cons (pv 0) pa_nil)))
      (pss_cons (ps_set (i := 2) sc_parts_within.nd rfl (Or.inl rfl) (pe_lst pa_nil))
      (pss_cons (ps_while PassesOwn.never (pt_cmpR (op_neNil hr.units) (pv 1) (pe_lst pa_nil) (nomark _)) (pss_cons (ps_set (i := 3) sc_parts_within.nd rfl (Or.inl rfl) (pe_bm0 PySem.F.plainAttrs_list PySem.F.slot_list_pop PySem.F.type_list_pop mt_pop (pv 1)))
      (pss_cons (ps_expr (pe_bm PySem.F.plainAttrs_list PySem.F.slot_list_append PySem.F.type_list_append mt_append (pv 2) (pa_cons (pv 3) pa_nil)))
      (pss_one (ps_if (pt_val (pe_call G_is_pair hr_is_pair (by rfl) T.g_is_pair T.F_is_pair.kp T.b_is_pair .nil pass0 (pa_cons (pv 3) pa_nil))) (pss_one (ps_expr (pe_bm PySem.F.plainAttrs_list PySem.F.slot_list_extend PySem.F.type_list_extend mt_extend (pv 1) (pa_cons (pe_lst (pa_cons (pe_ix ix_tup (pv 3) pe_int (fun _ _ => rfl)) (pa_cons (pe_ix ix_tup (pv 3) pe_int (fun _ _ => rfl)) pa_nil))) pa_nil)))) pss_nil)))))
      (pss_one (ps_ret (pv 2)))))), ?_⟩
    refine ⟨_, rfl, (by show 1 ≤ sizeLine; decide), fun l hl => ⟨Nat.zero_le _, fun f hf => ?_⟩⟩
    have nlf : l ≠ f := ne_of_none upd_same hf
    have hf0 : H f = none := (same_upd hl).free hf
    refine ⟨WP K H0 H x l f t, ⟨sumP [t], [t], [], [x], [], none, rfl, rfl, .cons hd .nil, (fun u hu => by rw [List.mem_singleton.mp hu]; exact ht), .nil, (upd_ne nlf).trans upd_same, upd_same, (same_upd hl).trans (same_upd hf), ?_⟩, fun m σ H1 hW => ?_⟩
    · show [] ++ (t.pre ++ []) = t.pre
      rw [List.nil_append, List.append_nil]
    · obtain ⟨ts, done, ws, fs, y, rfl, rfl, hD, hO, hF, hL, hFo, sm, eP⟩ := hW
      have hlen : fs.length + sumP ts = t.parts := by
        have e := congrArg List.length eP
        rw [List.length_append, sumP_len, t.pre_length] at e
        rw [hF.length, List.length_map]
        exact e
      refine ⟨_, rfl, Nat.zero_le _, fun p hp' => ?_⟩
      have nlp : l ≠ p := ne_of_none hL hp'
      have nfp : f ≠ p := ne_of_none hFo hp'
      have hL2 : (upd H1 p (.lst [])) l = some (.lst ws.reverse) := (upd_ne nlp).trans hL
      have hF2 : (upd H1 p (.lst [])) f = some (.lst fs) := (upd_ne nfp).trans hFo
      have sm2 : Same H (upd H1 p (.lst [])) := sm.trans (same_upd hp')
      match ts, ws, hD with
      | [], [], _ =>
        refine ⟨l, p, _, rfl, rfl, SqL.of hL2, SqL.of upd_same, false, rfl, ?_⟩
        have e : done = t.pre := by
          rw [← eP]
          exact (List.append_nil done).symm
        rw [e] at hF
        exact ⟨_, rfl, q f fs _ hf0 sm2 hF2 hF⟩
      | u :: ts, v :: ws, hD =>
        have hne : (v :: ws).reverse.isEmpty = false := by simp
        refine ⟨l, p, _, rfl, rfl, SqL.of hL2, SqL.of upd_same, true, congrArg V.bl (congrArg Bool.not hne), ?_⟩
        refine ⟨fun σ' H' => ∃ m', m' < sumP (u :: ts) ∧ WP K H0 H x l f t m' σ' H', fun σ' H' z => z, ?_⟩
        have hv : Dq K H0 v u.toD ∧ DqAll K H0 ws (ts.map Th.toD) := by
          cases hD with
          | cons a b => exact ⟨a, b⟩
        have hlast : (v :: ws).reverse[(v :: ws).reverse.length - 1]? = some v := by simp
        have hdrop : (v :: ws).reverse.dropLast = ws.reverse := by simp
        refine ⟨_, rfl, .inl ⟨rfl, _, SqL.of hL2⟩, l, _, v, rfl, rfl, hL2, hlast, ?_⟩
        rw [hdrop]
        have sm3 : Same H (upd (upd H1 p (.lst [])) l (.lst ws.reverse)) := same_mut sm2 hl
        have hF3 : (upd (upd H1 p (.lst [])) l (.lst ws.reverse)) f = some (.lst fs) := (upd_ne (Ne.symm nlf)).trans hF2
        have hL3 : (upd (upd H1 p (.lst [])) l (.lst ws.reverse)) l = some (.lst ws.reverse) := upd_same
        have hws : ws.length + 1 ≤ sumP (u :: ts) := by
          have h1 := hv.2.length
          rw [List.length_map] at h1
          have h2 := sumP_ge ts
          have h3 := u.parts_pos
          show ws.length + 1 ≤ u.parts + sumP ts
          omega
        refine ⟨_, rfl, .inl ⟨rfl, _, SqL.of hF3⟩, _, rfl, f, _, v, rfl, rfl, hF3, sz_lt (by omega), ?_⟩
        have sm4 : Same H (upd (upd (upd H1 p (.lst [])) l (.lst ws.reverse)) f (.lst (fs ++ [v]))) := same_mut sm3 hf0
        have hL4 : (upd (upd (upd H1 p (.lst [])) l (.lst ws.reverse)) f (.lst (fs ++ [v]))) l = some (.lst ws.reverse) := (upd_ne nlf).trans hL3
        have hu := hO u List.mem_cons_self
        have hrest : ∀ z ∈ ts, z.nf := fun z hz => hO z (List.mem_cons_of_mem _ hz)
        have hF5 : DqAll K H0 (fs ++ [v]) ((done ++ [u]).map Th.toD) := by
          rw [List.map_append]
          exact hF.snoc hv.1
        refine ⟨_, rfl, v, u.toD, rfl, hv.1.same (s0.trans sm4), _, rfl, ?_⟩
        rw [Th.pairD hu]
        cases u with
        | pr a b =>
          obtain ⟨pa, y0, y1, rfl, hs, h0, h1⟩ := hv.1.pr
          have hs3 := seqT (s0.trans sm4) hs
          refine ⟨_, rfl, .inl ⟨rfl, _, SqL.of hL4⟩, _, rfl, pa, _, 1, y1, rfl, rfl, hs3, atI_nat (j := 1) rfl, _, rfl, pa, _, 0, y0, rfl, rfl, hs3, atI_nat (j := 0) rfl, (by show 2 ≤ sizeLine; decide), fun p2 hp2 => ?_⟩
          have nl2 : l ≠ p2 := ne_of_none hL4 hp2
          have nf2 : f ≠ p2 := ne_of_none upd_same hp2
          refine ⟨l, p2, _, _, rfl, rfl, (upd_ne nl2).trans hL4, upd_same, ?_, ?_⟩
          · rw [List.length_reverse]
            exact sz_le (by show ws.length + 2 ≤ 1000000; omega)
          · have e1 : ws.reverse ++ [y1, y0] = (y0 :: y1 :: ws).reverse := by simp
            rw [e1]
            refine ⟨sumP (a :: b :: ts), ?_, a :: b :: ts, done ++ [.pr a b], y0 :: y1 :: ws, fs ++ [.ref pa], _, rfl, rfl, .cons h0 (.cons h1 hv.2), ?_, hF5, upd_same, ?_, same_mut (sm4.trans (same_upd hp2)) hl, ?_⟩
            · show a.parts + (b.parts + sumP ts) < 1 + a.parts + b.parts + sumP ts
              omega
            · intro z hz
              rcases List.mem_cons.mp hz with rfl | hz
              · exact hu.1
              · rcases List.mem_cons.mp hz with rfl | hz
                · exact hu.2
                · exact hrest z hz
            · rw [upd_ne (Ne.symm nlf), upd_ne nf2, upd_same]
            · rw [← eP]
              show done ++ [Th.pr a b] ++ (a.pre ++ (b.pre ++ (ts.map Th.pre).flatten)) = done ++ ((Th.pr a b :: (a.pre ++ b.pre)) ++ (ts.map Th.pre).flatten)
              simp
        | lf d =>
          refine ⟨sumP ts, ?_, ts, done ++ [.lf d], ws, fs ++ [v], _, rfl, rfl, hv.2, hrest, hF5, hL4, upd_same, sm4, ?_⟩
          · show sumP ts < 1 + sumP ts
            omega
          · rw [← eP]
            show done ++ [Th.lf d] ++ (ts.map Th.pre).flatten = done ++ ([Th.lf d] ++ (ts.map Th.pre).flatten)
            simp
def sp_parts_of (K : PySem.W.Frag) (C : Addr) : Sp := fun vs H Q E => ∃ x t, vs = [x] ∧ Dq K H x t.toD ∧ OkTh t ∧ (t.isTerm = true → ∀ H', Same H H' → Q (.int t.parts) H') ∧
  (t.isTerm = false → ∀ H' d, Same H H' → H' d = none → E (.ref C) (some d) (upd H' d (.xd [("found", x)])))
theorem Th.term_parts {t : Th} (h : t.isTerm = true) : t.parts ≤ 100 := of_decide_eq_true (Bool.and_eq_true_iff.mp h).2
end
/-! ### numbers_in, unknowns_of -/
def unkNum : PyData → Option Int
  | .tuple [.int i] => if withinD (.int i) 0 999999999 then some i else none
  | _ => none
def addU (acc : List Int) (i : Int) : List Int := if i ∈ acc then acc else acc ++ [i]
def stepU (acc : List Int) (u : Th) : List Int := match unkNum u.toD with
  | some i => addU acc i
  | none => acc
/-- the unknowns, by first coming -/
def Th.unks (t : Th) : List Int := t.pre.foldl stepU []
theorem unkD_num {d : PyData} : unkD d = (unkNum d).isSome := by
  match d with
  | .none | .bool _ | .int _ | .str _ | .list _ | .dict _ => rfl
  | .tuple [] => rfl
  | .tuple [.int i] =>
    show withinD (.int i) 0 999999999 = (if withinD (.int i) 0 999999999 then some i else none).isSome
    cases withinD (.int i) 0 999999999 <;> rfl
  | .tuple [.none] | .tuple [.bool _] | .tuple [.str _] | .tuple [.list _] | .tuple [.tuple _] | .tuple [.dict _] => rfl
  | .tuple (a :: _ :: _) => cases a <;> rfl
theorem unkNum_some {d : PyData} {i : Int} (h : unkNum d = some i) : d = .tuple [.int i] := by
  match d, h with
  | .tuple [.int j], h =>
    have h' : (if withinD (.int j) 0 999999999 then some j else none) = some i := h
    cases e : withinD (.int j) 0 999999999 with
    | true =>
      rw [e, if_pos rfl] at h'
      rw [Option.some.inj h']
    | false =>
      rw [e, if_neg Bool.false_ne_true] at h'
      cases h'
theorem addU_len (acc : List Int) (i : Int) : (addU acc i).length ≤ acc.length + 1 := by
  unfold addU
  split
  · omega
  · rw [List.length_append, List.length_singleton]
    exact Nat.le_refl _
theorem stepU_len (acc : List Int) (u : Th) : (stepU acc u).length ≤ acc.length + 1 := by
  unfold stepU
  split
  · exact addU_len _ _
  · omega
theorem foldU_len : ∀ (l : List Th) (acc : List Int), (l.foldl stepU acc).length ≤ acc.length + l.length
  | [], acc => Nat.le_refl _
  | u :: r, acc => by
    have h1 := foldU_len r (stepU acc u)
    have h2 := stepU_len acc u
    show (r.foldl stepU (stepU acc u)).length ≤ acc.length + (r.length + 1)
    omega
/-- the dict that holds them -/
def kvU (acc : List Int) : List (Key × V) := acc.map fun i => (Sum.inl i, V.bl true)
theorem kvU_put (acc : List Int) (i : Int) : putK (kvU acc) (Sum.inl i : Key) (.bl true) = kvU (addU acc i) := by
  have ha : ((kvU acc).any fun kv => decide (kv.1 = (Sum.inl i : Key))) = decide (i ∈ acc) := by
    unfold kvU
    rw [List.any_map]
    rw [Bool.eq_iff_iff, List.any_eq_true, decide_eq_true_iff]
    constructor
    · rintro ⟨j, hj, e⟩
      have e := Sum.inl.inj (of_decide_eq_true e)
      rw [← e]
      exact hj
    · intro h
      exact ⟨i, h, decide_eq_true rfl⟩
  unfold putK addU
  rw [ha]
  by_cases h : i ∈ acc
  · rw [if_pos (decide_eq_true h), if_pos h]
    unfold kvU
    rw [List.map_map]
    refine List.map_congr_left fun j _ => ?_
    show (if (Sum.inl j : Key) = Sum.inl i then ((Sum.inl j : Key), V.bl true) else (Sum.inl j, V.bl true)) = (Sum.inl j, V.bl true)
    split <;> rfl
  · rw [if_neg (by rw [decide_eq_false h]; exact Bool.false_ne_true), if_neg h]
    unfold kvU
    rw [List.map_append]
    rfl
theorem kvU_keys (acc : List Int) : ((kvU acc).map fun kv => kV kv.1) = acc.map V.int := by
  unfold kvU
  rw [List.map_map]
  rfl
theorem take_fold {l : List Th} {i : Nat} {u : Th} (h : l[i]? = some u) : (l.take (i + 1)).foldl stepU [] = stepU ((l.take i).foldl stepU []) u := by
  rw [List.take_add_one, h, List.foldl_append]
  rfl
section
variable {P : Program} {w : World} {K : PySem.W.Frag} {mg : Str → Option Value} {base : Heap}
theorem DqAll.get {H : Hp} : ∀ {vs : List V} {ds : List PyData} {i : Nat} {v : V}, DqAll K H vs ds → vs[i]? = some v → ∃ d, ds[i]? = some d ∧ Dq K H v d
  | _, _, _, _, .nil, e => by simp at e
  | _, _, 0, _, .cons h _, e => by
    have e := Option.some.inj e
    subst e
    exact ⟨_, rfl, h⟩
  | _, _, i + 1, v, .cons _ r, e => r.get (i := i) (v := v) e
theorem DqAll.getTh {H : Hp} {vs : List V} {ts : List Th} {i : Nat} {v : V} (h : DqAll K H vs (ts.map Th.toD)) (e : vs[i]? = some v) : ∃ u, ts[i]? = some u ∧ Dq K H v u.toD := by
  obtain ⟨d, e2, hd⟩ := h.get e
  rw [List.getElem?_map] at e2
  cases eu : ts[i]? with
  | none =>
    rw [eu] at e2
    cases e2
  | some u =>
    rw [eu] at e2
    have e3 := Option.some.inj e2
    rw [← e3] at hd
    exact ⟨u, rfl, hd⟩
def sp_numbers_in (K : PySem.W.Frag) : Sp := fun vs H Q _ => ∃ (x : V) (t : Th), vs = [x] ∧ Dq K H x t.toD ∧ t.nf ∧ t.parts ≤ 500000 ∧ ∀ l H', H l = none → Same H H' → H' l = some (.lst (t.unks.map V.int)) → Q (.ref l) H'
theorem ok_numbers_in (T : Env K mg) : FnOk P w K mg base CX0 4 T.a_numbers_in T.d_numbers_in ["term"] (sp_numbers_in K) := by
  have G_parts_within : FnOk P w K mg base CX0 3 T.a_parts_within T.d_parts_within ["term"] (sp_parts_within K) := (ok_parts_within T).mono (by decide)
  have G_is_unknown : FnOk P w K mg base CX0 3 T.a_is_unknown T.d_is_unknown ["thing"] (sp_is_unknown K) := ok_is_unknown T
  refine T.F_numbers_in.ok sc_numbers_in (fun vs H Q E h => ?_) (fun cdv A outer s H vs Q E hr h => ?_)
  · obtain ⟨x, t, rfl, _⟩ := h
    rfl
  · obtain ⟨x, t, rfl, hd, ht, hp, q⟩ := h
    have hr_parts_within := hr
    have hr_is_unknown := hr
    have hu := hu_of hr
    refine ⟨_, (pss_cons (ps_set (i := 1) sc_numbers_in.nd rfl (Or.inl rfl) pe_dnewK)
      (pss_cons (ps_for PassesOwn.never (by rfl) (pi_list (pe_call G_parts_within hr_parts_within (by rfl) T.g_parts_within T.F_parts_within.kp T.b_parts_within .nil pass0 (pa_cons (pv 0) pa_nil))) (pg_name (i := 2) sc_numbers_in.nd rfl (Or.inl rfl)) (pss_one (ps_if (pt_val (pe_call G_is_unknown hr_is_unknown (by rfl) T.g_is_unknown T.F_is_unknown.kp T.b_is_unknown .nil pass0 (pa_cons (pv 2) pa_nil))) (pss_one (ps_dput hu (pv 1) (pe_ix ix_tup (pv 2) pe_int (fun _ _ => rfl)) pe_bl rfl)) pss_nil)))
      (pss_one (ps_ret (pe_callTy (call_list_dK (by rfl)) (by rfl) T.m_list PyProof.Rows.boot_list (pa_cons (pv 1) pa_nil)))))), ?_⟩
    intro d hd0
    have s1 : Same H (upd H d (.dK [])) := same_upd hd0
    refine ⟨_, rfl, x, t, H, rfl, s1, hd, ht, hp, fun p ws H2 np s2 hL hq => ?_⟩
    have hdp : d ≠ p := ne_of_none upd_same np
    have hq0 : DqAll K H2 ws (t.pre.map Th.toD) := hq.same (s1.trans s2)
    refine ⟨p, rfl, ⟨_, SqL.of hL⟩, for_list (K := K) (a := p) (xs := ws) (fun i σ H' => ∃ y, σ = [some x, some (.ref d), y] ∧ H' d = some (.dK (kvU ((t.pre.take i).foldl stepU []))) ∧ H' p = some (.lst ws) ∧ Same H H' ∧ DqAll K H' ws (t.pre.map Th.toD))
      ⟨none, rfl, s2 _ _ upd_same, hL, s1.trans s2, hq0⟩ (fun i σ H' _ ⟨_, _, _, z, _⟩ => SqL.of z) ?_ ?_⟩
    · rintro i v σ H3 hi ⟨y, rfl, h1, h2, s3, hq3⟩
      obtain ⟨u, hu', hv⟩ := hq3.getTh hi
      refine ⟨_, rfl, v, u.toD, rfl, hv, _, rfl, ?_⟩
      rw [unkD_num]
      have hfold := take_fold hu'
      cases e : unkNum u.toD with
      | none =>
        refine ⟨_, rfl, ?_, h2, s3, hq3⟩
        rw [hfold]
        unfold stepU
        rw [e]
        exact h1
      | some j =>
        have ed := unkNum_some e
        rw [ed] at hv
        obtain ⟨a, xs, rfl, hs, hr'⟩ := hv.tupOf
        obtain ⟨z, rfl, hz⟩ := hr'.one
        cases hz
        have hlen : (kvU ((t.pre.take i).foldl stepU [])).length < sizeLine := by
          have h3 := foldU_len (t.pre.take i) []
          rw [List.length_take] at h3
          have h4 := t.pre_length
          unfold kvU
          rw [List.length_map]
          refine sz_lt ?_
          simp only [List.length_nil] at h3
          omega
        refine ⟨_, rfl, _, rfl, a, _, 0, _, rfl, rfl, hs, atI_nat (j := 0) rfl, d, _, rfl, DPut.k (k := Sum.inl j) h1 hlen, ?_⟩
        have sd : Same H (upd H3 d (.dK (putK (kvU ((t.pre.take i).foldl stepU [])) (Sum.inl j) (.bl true)))) := same_mut s3 hd0
        refine ⟨_, rfl, ?_, (upd_ne (Ne.symm hdp)).trans h2, sd, hq.same sd⟩
        rw [upd_same, kvU_put, hfold]
        unfold stepU
        rw [e]
    · rintro σ H3 ⟨y, rfl, h1, h2, s3, hq3⟩
      have el : ws.length = t.pre.length := by
        rw [hq.length, List.length_map]
      rw [el, List.take_length] at h1
      refine ⟨_, rfl, d, _, rfl, h1, fun r hr' => ?_⟩
      refine q r _ (s3.free hr') (s3.trans (same_upd hr')) ?_
      rw [upd_same, kvU_keys]
      rfl
end
section
variable {P : Program} {w : World} {K : PySem.W.Frag} {mg : Str → Option Value} {base : Heap}
/-! ### places -/
def Th.pls : Th → List Int → List (List Int × Th)
  | .lf d, pl => [(pl, .lf d)]
  | .pr a b, pl => (pl, .pr a b) :: (a.pls (pl ++ [0]) ++ b.pls (pl ++ [1]))
/-- all tuples are as they were -/
def Tups (K : PySem.W.Frag) (H H' : Hp) : Prop := ∀ a xs, SqT K H a xs → SqT K H' a xs
theorem Tups.of {H H' : Hp} (s : Same H H') : Tups K H H' := fun _ _ h => seqT s h
theorem Tups.trans {H H1 H2 : Hp} (a : Tups K H H1) (b : Tups K H1 H2) : Tups K H H2 := fun x y h => b x y (a x y h)
theorem Tups.put {H : Hp} {l : Addr} {ys zs : List V} (h : H l = some (.lst ys)) : Tups K H (upd H l (.lst zs)) := fun a xs ha => by
  rcases ha with (ha | ⟨o, ha⟩) | ha
  · exact .inl (.inl ((upd_ne (ne_of ha h fun z => nomatch z)).trans ha))
  · exact .inl (.inr ⟨o, (upd_ne (ne_of ha h fun z => nomatch z)).trans ha⟩)
  · exact .inr ha
theorem Tups.off {H H' : Hp} {l : Addr} {ys : List V} (h : H l = some (.lst ys)) (o : Off l H H') : Tups K H H' := fun a xs ha => by
  rcases ha with (ha | ⟨o', ha⟩) | ha
  · exact .inl (.inl (o _ _ (ne_of ha h fun z => nomatch z) ha))
  · exact .inl (.inr ⟨o', o _ _ (ne_of ha h fun z => nomatch z) ha⟩)
  · exact .inr ha
/-- e is a tuple of a place and a part (the part was there at H0) -/
def Pp (K : PySem.W.Frag) (H0 H : Hp) (e : V) (p : List Int × Th) : Prop := ∃ a b xv, e = .ref a ∧ SqT K H a [.ref b, xv] ∧ SqT K H b (p.1.map V.int) ∧ Dq K H0 xv p.2.toD
def PpAll (K : PySem.W.Frag) (H0 H : Hp) : List V → List (List Int × Th) → Prop
  | [], [] => True
  | e :: es, p :: ps => Pp K H0 H e p ∧ PpAll K H0 H es ps
  | _, _ => False
theorem Pp.tups {H0 H H' : Hp} {e : V} {p : List Int × Th} (h : Pp K H0 H e p) (t : Tups K H H') : Pp K H0 H' e p := by
  obtain ⟨a, b, xv, rfl, h1, h2, h3⟩ := h
  exact ⟨a, b, xv, rfl, t _ _ h1, t _ _ h2, h3⟩
theorem PpAll.tups {H0 H H' : Hp} (t : Tups K H H') : ∀ {es : List V} {ps : List (List Int × Th)}, PpAll K H0 H es ps → PpAll K H0 H' es ps
  | [], [], _ => trivial
  | _ :: _, _ :: _, ⟨h, r⟩ => ⟨h.tups t, PpAll.tups t r⟩
theorem PpAll.length {H0 H : Hp} : ∀ {es : List V} {ps : List (List Int × Th)}, PpAll K H0 H es ps → es.length = ps.length
  | [], [], _ => rfl
  | _ :: _, _ :: _, ⟨_, r⟩ => congrArg Nat.succ (PpAll.length r)
theorem PpAll.app {H0 H : Hp} : ∀ {es fs : List V} {ps qs : List (List Int × Th)}, PpAll K H0 H es ps → PpAll K H0 H fs qs → PpAll K H0 H (es ++ fs) (ps ++ qs)
  | [], _, [], _, _, h => h
  | _ :: _, _, _ :: _, _, ⟨h, r⟩, h2 => ⟨h, PpAll.app r h2⟩
theorem cat_place {H : Hp} {b q : Addr} {pl : List Int} {k : Int} {Q : VK} (hb : SqT K H b (pl.map V.int)) (hq : SqT K H q [.int k]) (hl : pl.length ≤ 1000) (h : ∀ r H', Same H H' → SqT K H' r ((pl ++ [k]).map V.int) → Q (.ref r) H') :
    rCatA K (.ref b) (.ref q) H Q := by
  refine ⟨b, q, _, _, rfl, rfl, hb, hq, ?_, fun e => ?_, (fun _ e => by cases e), fun _ _ p hp => ?_⟩
  · rw [List.length_map]
    exact sz_le (by show pl.length + 1 ≤ 1000000; omega)
  · have e : pl = [] := List.map_eq_nil_iff.mp e
    subst e
    exact h q H (Same.refl H) hq
  · refine h p _ (same_upd hp) (SqT.of ?_)
    rw [upd_same, List.map_append]
    rfl
def sumQ : List (List Int × Th) → Nat
  | [] => 0
  | p :: r => p.2.parts + sumQ r
theorem sumQ_ge : ∀ ts : List (List Int × Th), ts.length ≤ sumQ ts
  | [] => Nat.le_refl _
  | t :: r => by
    have h := sumQ_ge r
    have h2 := t.2.parts_pos
    show r.length + 1 ≤ t.2.parts + sumQ r
    omega
theorem Th.pls_length : ∀ (t : Th) (pl : List Int), (t.pls pl).length = t.parts
  | .lf _, _ => rfl
  | .pr a b, pl => by
    show (a.pls _ ++ b.pls _).length + 1 = 1 + a.parts + b.parts
    rw [List.length_append, pls_length a, pls_length b]
    omega
theorem sumQ_len : ∀ ts : List (List Int × Th), ((ts.map fun p => p.2.pls p.1).flatten).length = sumQ ts
  | [] => rfl
  | t :: r => by
    rw [List.map_cons, List.flatten_cons, List.length_append, sumQ_len r, Th.pls_length]
    rfl
end


/-! ## plain mirrors of defs that were walked by hand -/
section
variable {P : Program} {w : World} {K : PySem.W.Frag} {mg : Str → Option Value} {base : Heap}
/-- a def that raises nothing and keeps a hand-walked promise keeps a mirror -/
theorem fnM_of {k : Nat} {f : Addr} {fd : FuncData} {ps : List Str} {sp : Sp} {xa : Nat → Addr} {m : Mf} (F : FnOk P w K mg base CX0 k f fd ps sp) (h : ∀ vs H Q E, spM K xa m vs H Q E → sp vs H Q E) : FnG P w K mg base (L2.CX P w) k f fd ps (spM K xa m) := by
  refine ⟨fun vs H Q E z => F.len vs H Q E (h vs H Q E z), fun A outer s H args us vs Q E hr hg he hb hv z => codeAny_mono (F.run A outer s H args us vs Q E hr he hb hv (h vs H Q E z)) fun r s' hq => ?_⟩
  match r, hq with
  | .ok (.ret u), hq => exact hq
  | .error e, hq => exact False.elim hq
theorem env1 {F H : Hp} {S : AS} {vs : List V} {d : PyData} (r : EnvR K F H (vs.map some) (([.f d] : List T).map some) S) : ∃ x, vs = [x] ∧ Dq K F x d := by
  obtain ⟨hl, Sf, h1, _, _⟩ := r
  match vs, hl with
  | [x], _ =>
    obtain ⟨v, e1, e2⟩ := h1 0 (.f d) rfl
    cases e1
    exact ⟨x, rfl, e2.dq⟩
theorem env_none {F H : Hp} {S : AS} : ∀ {vs : List V} {n : Nat}, vs.length = n → EnvR K F H (vs.map some) (List.replicate n none) S := fun {vs n} e => by
  refine ⟨by rw [List.length_map, List.length_replicate]; exact e, fun _ => noS, fun i t z => ?_, fun _ _ z => z.elim, fun _ _ _ _ z => z.elim⟩
  have : ∀ (n i : Nat), gt (List.replicate n (none : Option T)) i = none := by
    intro n
    induction n with
    | zero => exact fun i => rfl
    | succ n ih =>
      intro i
      cases i with
      | zero => rfl
      | succ i => exact ih i
  rw [this] at z
  cases z
/-- the answer is a truth -/
def pmB (ok val : PyData → Bool) : Mf := fun ts => match ts with
  | [.f d] => if ok d = true then .ok (.f (.bool (val d))) [none] else .no
  | _ => .no
theorem pmB_sp {xa : Nat → Addr} {ok val : PyData → Bool} {vs : List V} {H : Hp} {Q : VK} {E : XK} (h : spM K xa (pmB ok val) vs H Q E) : ∃ x d, vs = [x] ∧ Dq K H x d ∧ ok d = true ∧ ∀ H', Same H H' → Q (.bl (val d)) H' := by
  obtain ⟨F, ts, S, re, gd, q⟩ := h
  match ts, q with
  | [], q => exact q.elim
  | [.nd _ _], q => exact q.elim
  | [.f d], q =>
    obtain ⟨x, rfl, hd⟩ := env1 re
    have q : PF K xa F H [x] S Q E (if ok d = true then .ok (.f (.bool (val d))) [none] else .no) := q
    by_cases c : ok d = true
    · rw [if_pos c] at q
      exact ⟨x, d, rfl, hd.same gd.sm, c, fun H' s => q (.bl (val d)) F H' noS S ((To.stay gd s).wk fun b z => z.elim (fun z => z.elim) id) (fun _ z => z.elim) (.f (.bl _)) (env_none rfl)⟩
    · rw [if_neg c] at q
      exact q.elim
  | .f _ :: _ :: _, q => exact q.elim
  | .nd _ _ :: _ :: _, q => exact q.elim
def thOf : PyData → Th
  | .tuple [a, b] => .pr (thOf a) (thOf b)
  | d => .lf d
theorem thOf_toD (d : PyData) : (thOf d).toD = d := by
  induction d using thOf.induct with
  | case1 a b iha ihb =>
    rw [thOf]
    show PyData.tuple [(thOf a).toD, (thOf b).toD] = _
    rw [iha, ihb]
  | case2 d h =>
    rw [thOf]
    · rfl
    · exact h
theorem thOf_nf (d : PyData) : (thOf d).nf := by
  induction d using thOf.induct with
  | case1 a b iha ihb =>
    rw [thOf]
    exact ⟨iha, ihb⟩
  | case2 d h =>
    rw [thOf]
    · show isPairD d = false
      unfold isPairD
      split
      · exact (h _ _ rfl).elim
      · rfl
    · exact h
theorem thOf_of : ∀ {t : Th}, t.nf → thOf t.toD = t
  | .lf d, h => by
    have h : isPairD d = false := h
    show thOf d = .lf d
    rw [thOf]
    intro a b e
    subst e
    cases h
  | .pr a b, h => by
    show thOf (.tuple [a.toD, b.toD]) = _
    rw [thOf, thOf_of h.1, thOf_of h.2]
def m_is_name : Mf := pmB fine nameD
theorem okp_is_name (T : Env K mg) {xa : Nat → Addr} : FnG P w K mg base (L2.CX P w) 1 T.a_is_name T.d_is_name ["thing"] (spM K xa m_is_name) := fnM_of (ok_is_name T) fun vs H Q E h => by
  obtain ⟨x, d, e, hd, c, q⟩ := pmB_sp h
  refine ⟨x, knD d, e, hd.knd, hd.strLen c, fun H' s => ?_⟩
  rw [hd.name]
  exact q H' s
def m_is_term : Mf := pmB fine fun d => (thOf d).isTerm
theorem okp_is_term (T : Env K mg) {xa : Nat → Addr} : FnG P w K mg base (L2.CX P w) 5 T.a_is_term T.d_is_term ["thing"] (spM K xa m_is_term) := fnM_of (ok_is_term T) fun vs H Q E h => by
  obtain ⟨x, d, e, hd, c, q⟩ := pmB_sp h
  exact ⟨x, thOf d, e, by rw [thOf_toD]; exact hd, ⟨thOf_nf d, by rw [thOf_toD]; exact c⟩, q⟩
def m_is_within : Mf := fun ts => match ts with
  | [.f d, .f (.int lo), .f (.int hi)] => .ok (.f (.bool (withinD d lo hi))) [none, none, none]
  | _ => .no
theorem okp_is_within (T : Env K mg) {xa : Nat → Addr} : FnG P w K mg base (L2.CX P w) 2 T.a_is_within T.d_is_within ["thing", "low", "high"] (spM K xa m_is_within) := fnM_of (ok_is_within T) fun vs H Q E h => by
  obtain ⟨F, ts, S, re, gd, q⟩ := h
  unfold m_is_within at q
  split at q
  · rename_i d lo hi
    obtain ⟨hl, Sf, h1, _, _⟩ := re
    match vs, hl with
    | [x, y, z], _ =>
      obtain ⟨v0, e0, r0⟩ := h1 0 (.f d) rfl
      obtain ⟨v1, e1, r1⟩ := h1 1 (.f (.int lo)) rfl
      obtain ⟨v2, e2, r2⟩ := h1 2 (.f (.int hi)) rfl
      cases e0
      cases e1
      cases e2
      cases r1.dq
      cases r2.dq
      have hd := r0.dq.same gd.sm
      refine ⟨x, knD d, lo, hi, rfl, hd.knd, ?_⟩
      rw [hd.within]
      exact q (.bl (withinD d lo hi)) F H noS S ((To.refl gd).wk fun b z => z.elim (fun z => z.elim) id) (fun _ z => z.elim) (.f (.bl _)) (env_none rfl)
  · exact q.elim
theorem unks_Dq {H : Hp} : ∀ ns : List Int, DqAll K H (ns.map V.int) (ns.map PyData.int)
  | [] => .nil
  | _ :: r => .cons (.int _) (unks_Dq r)
def m_numbers_in : Mf := fun ts => match ts with
  | [.f d] => if (thOf d).parts ≤ 500000 then .ok (.f (.list ((thOf d).unks.map PyData.int))) [none] else .no
  | _ => .no
theorem okp_numbers_in (T : Env K mg) {xa : Nat → Addr} : FnG P w K mg base (L2.CX P w) 4 T.a_numbers_in T.d_numbers_in ["term"] (spM K xa m_numbers_in) := fnM_of (ok_numbers_in T) fun vs H Q E h => by
  obtain ⟨F, ts, S, re, gd, q⟩ := h
  unfold m_numbers_in at q
  split at q
  · rename_i d
    obtain ⟨x, rfl, hd⟩ := env1 re
    by_cases c : (thOf d).parts ≤ 500000
    · rw [if_pos c] at q
      refine ⟨x, thOf d, rfl, by rw [thOf_toD]; exact hd.same gd.sm, thOf_nf d, c, fun l H' hl s hl' => ?_⟩
      have hf : F l = none := gd.sm.free hl
      have to : To F H S (upd F l (.lst ((thOf d).unks.map V.int))) H' S := by
        refine ⟨fun b o e _ => s b o e, same_upd hf, fun b z => ?_, fun _ z => .inl z, fun b o e => ?_, fun b z => ?_⟩
        · by_cases q : b = l
          · subst q
            exact .inr (.inr hl)
          · rw [upd_ne q] at z
            exact .inl z
        · by_cases q : b = l
          · subst q
            rw [upd_same] at e
            cases e
            exact hl'
          · rw [upd_ne q] at e
            exact s b o (gd.sm b o e)
        · obtain ⟨z1, z2⟩ := gd.ow b z
          have nb : b ≠ l := fun q => z1 (by rw [q]; exact hl)
          refine ⟨?_, by rw [upd_ne nb]; exact z2⟩
          cases e : H b with
          | none => exact absurd e z1
          | some o =>
            rw [s b o e]
            exact fun z => nomatch z
      exact q (.ref l) _ H' noS S (to.wk fun b z => z.elim (fun z => z.elim) id) (fun _ z => z.elim) (.f (.lst (SqL.of upd_same) (unks_Dq _))) (env_none rfl)
    · rw [if_neg c] at q
      exact q.elim
  · exact q.elim
end

/-! ### more plain mirrors -/
section
variable {P : Program} {w : World} {K : PySem.W.Frag} {mg : Str → Option Value} {base : Heap}
def m_is_pair : Mf := pmB (fun _ => true) isPairD
theorem okp_is_pair (T : Env K mg) {xa : Nat → Addr} : FnG P w K mg base (L2.CX P w) 1 T.a_is_pair T.d_is_pair ["term"] (spM K xa m_is_pair) := fnM_of (ok_is_pair T) fun vs H Q E h => by
  obtain ⟨x, d, e, hd, _, q⟩ := pmB_sp h
  exact ⟨x, d, e, hd, q H (Same.refl H)⟩
def m_is_unknown : Mf := pmB (fun _ => true) unkD
theorem okp_is_unknown (T : Env K mg) {xa : Nat → Addr} : FnG P w K mg base (L2.CX P w) 3 T.a_is_unknown T.d_is_unknown ["thing"] (spM K xa m_is_unknown) := fnM_of (ok_is_unknown T) fun vs H Q E h => by
  obtain ⟨x, d, e, hd, _, q⟩ := pmB_sp h
  exact ⟨x, d, e, hd, q H (Same.refl H)⟩
def m_joined_within : Mf := fun _ => .no
theorem okp_joined_within (T : Env K mg) {xa : Nat → Addr} : FnG P w K mg base (L2.CX P w) 1 T.a_joined_within T.d_joined_within ["one", "other", "found"] (spM K xa m_joined_within) := fnM_no
end


/-! ### terms as trees -/
inductive Tm where
  | nm (x : Str) | nu (i : Int) | un (i : Int) | pr (a b : Tm)
deriving DecidableEq
def Tm.d : Tm → PyData
  | .nm x => .str x
  | .nu i => .int i
  | .un i => .tuple [.int i]
  | .pr a b => .tuple [a.d, b.d]
def Tm.th : Tm → Th
  | .nm x => .lf (.str x)
  | .nu i => .lf (.int i)
  | .un i => .lf (.tuple [.int i])
  | .pr a b => .pr a.th b.th
def Tm.ok : Tm → Prop
  | .nm x => isName x = true
  | .nu i => 0 ≤ i ∧ i ≤ 999999999999999999999999999999
  | .un i => 0 ≤ i ∧ i ≤ 999999999
  | .pr a b => a.ok ∧ b.ok
def Tm.deep : Tm → Nat
  | .pr a b => 1 + max a.deep b.deep
  | _ => 1
def Tm.parts : Tm → Nat
  | .pr a b => 1 + a.parts + b.parts
  | _ => 1
def Tm.isU : Tm → Bool
  | .un _ => true
  | _ => false
def Tm.isP : Tm → Bool
  | .pr _ _ => true
  | _ => false
theorem Tm.toD : ∀ t : Tm, t.th.toD = t.d
  | .nm _ => rfl
  | .nu _ => rfl
  | .un _ => rfl
  | .pr a b => by
    show PyData.tuple [a.th.toD, b.th.toD] = .tuple [a.d, b.d]
    rw [a.toD, b.toD]
theorem Tm.nf : ∀ t : Tm, t.th.nf
  | .nm _ => rfl
  | .nu _ => rfl
  | .un _ => rfl
  | .pr a b => ⟨a.nf, b.nf⟩
theorem Tm.of (t : Tm) : thOf t.d = t.th := by
  rw [← t.toD]
  exact thOf_of t.nf
theorem Tm.thparts : ∀ t : Tm, t.th.parts = t.parts
  | .nm _ => rfl
  | .nu _ => rfl
  | .un _ => rfl
  | .pr a b => by
    show 1 + a.th.parts + b.th.parts = 1 + a.parts + b.parts
    rw [a.thparts, b.thparts]
theorem Tm.parts_pos : ∀ t : Tm, 1 ≤ t.parts
  | .nm _ => Nat.le_refl _
  | .nu _ => Nat.le_refl _
  | .un _ => Nat.le_refl _
  | .pr a b => by
    show 1 ≤ 1 + a.parts + b.parts
    omega
theorem Tm.parts_deep : ∀ (t : Tm) (n : Nat), t.deep ≤ n → t.parts + 1 ≤ 2 ^ n
  | .nm _, n, h => Nat.pow_le_pow_right (i := 1) (show 0 < 2 by decide) (show 1 ≤ n from h)
  | .nu _, n, h => Nat.pow_le_pow_right (i := 1) (show 0 < 2 by decide) (show 1 ≤ n from h)
  | .un _, n, h => Nat.pow_le_pow_right (i := 1) (show 0 < 2 by decide) (show 1 ≤ n from h)
  | .pr a b, 0, h => absurd (show 1 + max a.deep b.deep ≤ 0 from h) (by omega)
  | .pr a b, n + 1, h => by
    have h : 1 + max a.deep b.deep ≤ n + 1 := h
    have h1 := a.parts_deep n (by omega)
    have h2 := b.parts_deep n (by omega)
    show 1 + a.parts + b.parts + 1 ≤ 2 ^ (n + 1)
    rw [Nat.pow_succ]
    omega
theorem le_64 {i : Int} (h0 : 0 ≤ i) (h1 : i ≤ 999999999999999999999999999999) : decide (i.natAbs < 2 ^ 1000) = true :=
  decide_eq_true (Nat.lt_of_lt_of_le (show i.natAbs < 2 ^ 100 by omega) (Nat.pow_le_pow_right (by decide) (by decide)))
theorem name_len {x : Str} (h : isName x = true) : x.length ≤ 8 := by
  obtain ⟨_, h⟩ := Bool.and_eq_true_iff.mp h
  obtain ⟨h, _⟩ := Bool.and_eq_true_iff.mp h
  have := of_decide_eq_true h
  omega
theorem letter_lt {c : Nat} (h : c ∈ letterL) : c < 1114112 := by
  have : ∀ c ∈ letterL, c < 1114112 := by decide
  exact this c h
theorem name_cps {x : Str} (h : isName x = true) : x.cps.toList.all (fun c => decide (c < 1114112)) = true := by
  obtain ⟨_, h⟩ := Bool.and_eq_true_iff.mp h
  obtain ⟨_, h⟩ := Bool.and_eq_true_iff.mp h
  obtain ⟨_, h⟩ := Bool.and_eq_true_iff.mp h
  rw [List.all_eq_true] at h ⊢
  exact fun c hc => decide_eq_true (letter_lt (of_decide_eq_true (h c hc)))
theorem Tm.okL : ∀ {t : Tm}, t.ok → t.th.okL = true
  | .nm x, h => by
    show (isName x || _) = true
    rw [show isName x = true from h]
    rfl
  | .nu i, h => by
    show (false || ((decide (0 ≤ i) && decide (i ≤ 999999999999999999999999999999)) || false)) = true
    rw [decide_eq_true h.1, decide_eq_true h.2]
    rfl
  | .un i, h => by
    show (false || (false || (decide (0 ≤ i) && decide (i ≤ 999999999)))) = true
    rw [decide_eq_true h.1, decide_eq_true h.2]
    rfl
  | .pr a b, h => Bool.and_eq_true_iff.mpr ⟨Tm.okL h.1, Tm.okL h.2⟩
theorem Tm.fine : ∀ {t : Tm}, t.ok → fine t.d = true
  | .nm x, h => Bool.and_eq_true_iff.mpr ⟨decide_eq_true (Nat.le_trans (name_len h) (by decide)), name_cps h⟩
  | .nu i, h => le_64 h.1 h.2
  | .un i, h => by
    show (decide (i.natAbs < 2 ^ 1000) && true) = true
    rw [Bool.and_true]
    exact le_64 h.1 (Int.le_trans h.2 (by decide))
  | .pr a b, h => by
    show (Fs.fine a.d && (Fs.fine b.d && true)) = true
    rw [Tm.fine h.1, Tm.fine h.2]
    rfl
theorem Tm.lay : ∀ {t : Tm}, t.ok → t.d.canLay0 = true
  | .nm x, h => OkS.strOk (OkS.dec (name_cps h))
  | .nu i, h => rfl
  | .un i, h => rfl
  | .pr a b, h => by
    show (PyData.canLay0 a.d && (PyData.canLay0 b.d && true)) = true
    rw [Tm.lay h.1, Tm.lay h.2]
    rfl
theorem Tm.noDict : ∀ t : Tm, noDict t.d = true
  | .nm x => rfl
  | .nu i => rfl
  | .un i => rfl
  | .pr a b => by
    show (Fs.noDict a.d && (Fs.noDict b.d && true)) = true
    rw [Tm.noDict a, Tm.noDict b]
    rfl
theorem Tm.depth : ∀ t : Tm, t.d.depth ≤ t.deep
  | .nm x => Nat.zero_le _
  | .nu i => Nat.zero_le _
  | .un i => Nat.le_refl 1
  | .pr a b => by
    show max a.d.depth (max b.d.depth 0) + 1 ≤ 1 + max a.deep b.deep
    have := a.depth
    have := b.depth
    omega
theorem Tm.shp {t : Tm} (h : t.ok) (hd : t.deep ≤ 60) : shapely t.d = true := Bool.and_eq_true_iff.mpr ⟨t.noDict, Bool.and_eq_true_iff.mpr ⟨Tm.lay h, decide_eq_true (Nat.le_trans t.depth (by omega))⟩⟩
theorem Tm.eqv : ∀ a b : Tm, PyData.eqv a.d b.d = decide (a = b)
  | .nm x, .nm y => by
    show (x == y) = _
    rw [decide_eq_decide.mpr (show (Tm.nm x = Tm.nm y) ↔ x = y from ⟨fun e => Tm.nm.inj e, congrArg _⟩)]
    rfl
  | .nu x, .nu y => by
    show (x == y) = _
    rw [decide_eq_decide.mpr (show (Tm.nu x = Tm.nu y) ↔ x = y from ⟨fun e => Tm.nu.inj e, congrArg _⟩)]
    rfl
  | .un x, .un y => by
    show ((x == y) && true) = _
    rw [Bool.and_true, decide_eq_decide.mpr (show (Tm.un x = Tm.un y) ↔ x = y from ⟨fun e => Tm.un.inj e, congrArg _⟩)]
    rfl
  | .pr a b, .pr c d => by
    show (PyData.eqv a.d c.d && (PyData.eqv b.d d.d && true)) = _
    rw [Tm.eqv a c, Tm.eqv b d, Bool.and_true, ← Bool.decide_and]
    exact decide_eq_decide.mpr ⟨fun ⟨e1, e2⟩ => by rw [e1, e2], fun e => Tm.pr.inj e⟩
  | .nm _, .nu _ => (decide_eq_false (fun e => nomatch e)).symm
  | .nm _, .un _ => (decide_eq_false (fun e => nomatch e)).symm
  | .nm _, .pr _ _ => (decide_eq_false (fun e => nomatch e)).symm
  | .nu _, .nm _ => (decide_eq_false (fun e => nomatch e)).symm
  | .nu _, .un _ => (decide_eq_false (fun e => nomatch e)).symm
  | .nu _, .pr _ _ => (decide_eq_false (fun e => nomatch e)).symm
  | .un _, .nm _ => (decide_eq_false (fun e => nomatch e)).symm
  | .un _, .nu _ => (decide_eq_false (fun e => nomatch e)).symm
  | .un i, .pr a b => by
    rw [decide_eq_false (fun e => nomatch e)]
    show (PyData.eqv (.int i) a.d && false) = false
    rw [Bool.and_false]
  | .pr _ _, .nm _ => (decide_eq_false (fun e => nomatch e)).symm
  | .pr _ _, .nu _ => (decide_eq_false (fun e => nomatch e)).symm
  | .pr a b, .un i => by
    rw [decide_eq_false (fun e => nomatch e)]
    show (PyData.eqv a.d (.int i) && false) = false
    rw [Bool.and_false]
theorem eqD_shp {d e : PyData} (h : eqSc d e = none) (h1 : shapely d = true) (h2 : shapely e = true) : eqD d e = some (PyData.eqv d e) := by
  unfold eqD
  rw [h, h1, h2]
  rfl
theorem Tm.eqD {a b : Tm} (ha : a.ok) (hb : b.ok) (da : a.deep ≤ 60) (db : b.deep ≤ 60) : eqD a.d b.d = some (decide (a = b)) := by
  have key : eqSc a.d b.d = none → Fs.eqD a.d b.d = some (decide (a = b)) := fun h => by
    rw [eqD_shp h (Tm.shp ha da) (Tm.shp hb db), Tm.eqv]
  have sc : ∀ r, eqSc a.d b.d = some r → PyData.eqv a.d b.d = r → Fs.eqD a.d b.d = some (decide (a = b)) := fun r h e => by
    unfold Fs.eqD
    rw [h, ← Tm.eqv, e]
  cases a with
  | nm x =>
    cases b with
    | nm y => exact sc _ rfl rfl
    | nu y => exact sc _ rfl rfl
    | un y => exact key rfl
    | pr y z => exact key rfl
  | nu x =>
    cases b with
    | nm y => exact sc _ rfl rfl
    | nu y => exact sc _ rfl rfl
    | un y => exact key rfl
    | pr y z => exact key rfl
  | un x => cases b <;> exact key rfl
  | pr x z => cases b <;> exact key rfl
theorem Tm.pEq {a b : Tm} (ha : a.ok) (hb : b.ok) (da : a.deep ≤ 60) (db : b.deep ≤ 60) : pEq a.d b.d = some (.bool (decide (a = b))) := by
  unfold Fs.pEq
  rw [Tm.eqD ha hb da db]
  rfl
theorem Tm.pNe {a b : Tm} (ha : a.ok) (hb : b.ok) (da : a.deep ≤ 60) (db : b.deep ≤ 60) : pNe a.d b.d = some (.bool (!decide (a = b))) := by
  unfold Fs.pNe
  rw [Tm.eqD ha hb da db]
  rfl
theorem Tm.isTerm {t : Tm} (h : t.ok) (hd : t.deep ≤ 6) : (thOf t.d).isTerm = true := by
  rw [t.of]
  refine Bool.and_eq_true_iff.mpr ⟨Tm.okL h, decide_eq_true ?_⟩
  rw [t.thparts]
  have := t.parts_deep 6 hd
  omega

/-! ### dicts whose keys are tuples within tuples -/
mutual
def nk : PyData → NestedKey
  | .int i => .num i
  | .str x => .text x
  | .tuple ds => .tup (nkAll ds)
  | _ => .none
def nkAll : List PyData → List NestedKey
  | [] => []
  | d :: r => nk d :: nkAll r
end
mutual
def nkOk : PyData → Bool
  | .int _ => true
  | .str _ => true
  | .tuple ds => nkOkAll ds
  | _ => false
def nkOkAll : List PyData → Bool
  | [] => true
  | d :: r => nkOk d && nkOkAll r
end
mutual
theorem nk_inj : ∀ d e : PyData, nkOk d = true → nkOk e = true → nk d = nk e → d = e
  | .int i, .int j, _, _, h => by
    injection h with h
    rw [h]
  | .str i, .str j, _, _, h => by
    injection h with h
    rw [h]
  | .tuple ds, .tuple es, h1, h2, h => by
    have h : NestedKey.tup (nkAll ds) = .tup (nkAll es) := h
    injection h with h
    rw [nkAll_inj ds es h1 h2 h]
  | .int _, .str _, _, _, h => by
    have h : NestedKey.num _ = .text _ := h
    cases h
  | .int _, .tuple _, _, _, h => by
    have h : NestedKey.num _ = .tup _ := h
    cases h
  | .str _, .int _, _, _, h => by
    have h : NestedKey.text _ = .num _ := h
    cases h
  | .str _, .tuple _, _, _, h => by
    have h : NestedKey.text _ = .tup _ := h
    cases h
  | .tuple _, .int _, _, _, h => by
    have h : NestedKey.tup _ = .num _ := h
    cases h
  | .tuple _, .str _, _, _, h => by
    have h : NestedKey.tup _ = .text _ := h
    cases h
  | .none, _, h, _, _ => by cases h
  | .bool _, _, h, _, _ => by cases h
  | .list _, _, h, _, _ => by cases h
  | .dict _, _, h, _, _ => by cases h
  | .int _, .none, _, h, _ => by cases h
  | .int _, .bool _, _, h, _ => by cases h
  | .int _, .list _, _, h, _ => by cases h
  | .int _, .dict _, _, h, _ => by cases h
  | .str _, .none, _, h, _ => by cases h
  | .str _, .bool _, _, h, _ => by cases h
  | .str _, .list _, _, h, _ => by cases h
  | .str _, .dict _, _, h, _ => by cases h
  | .tuple _, .none, _, h, _ => by cases h
  | .tuple _, .bool _, _, h, _ => by cases h
  | .tuple _, .list _, _, h, _ => by cases h
  | .tuple _, .dict _, _, h, _ => by cases h
theorem nkAll_inj : ∀ ds es : List PyData, nkOkAll ds = true → nkOkAll es = true → nkAll ds = nkAll es → ds = es
  | [], [], _, _, _ => rfl
  | d :: ds, e :: es, h1, h2, h => by
    obtain ⟨a1, a2⟩ := Bool.and_eq_true_iff.mp (show (nkOk d && nkOkAll ds) = true from h1)
    obtain ⟨b1, b2⟩ := Bool.and_eq_true_iff.mp (show (nkOk e && nkOkAll es) = true from h2)
    have h : nk d :: nkAll ds = nk e :: nkAll es := h
    injection h with h3 h4
    rw [nk_inj d e a1 b1 h3, nkAll_inj ds es a2 b2 h4]
  | [], _ :: _, _, _, h => by
    have h : ([] : List NestedKey) = _ :: _ := h
    cases h
  | _ :: _, [], _, _, h => by
    have h : _ :: _ = ([] : List NestedKey) := h
    cases h
end
mutual
theorem nk_depth : ∀ d : PyData, (nk d).depth ≤ d.depth
  | .int _ => Nat.le_refl _
  | .str _ => Nat.le_refl _
  | .tuple ds => Nat.succ_le_succ (nkAll_depth ds)
  | .none => Nat.le_refl _
  | .bool _ => Nat.le_refl _
  | .list _ => Nat.zero_le _
  | .dict _ => Nat.zero_le _
theorem nkAll_depth : ∀ ds : List PyData, NestedKey.depthAll (nkAll ds) ≤ PyData.depthAll ds
  | [] => Nat.le_refl _
  | d :: r => by
    have h1 := nk_depth d
    have h2 := nkAll_depth r
    show max (nk d).depth (NestedKey.depthAll (nkAll r)) ≤ max d.depth (PyData.depthAll r)
    omega
end
section
variable {P : Program} {w : World} {K : PySem.W.Frag} {H : Hp} {h : Heap}
mutual
theorem nest_of (hok : HOk P w H h) (KX : K.In h) : ∀ (d : PyData) (v : V) (u : Value), Dq K H v d → nkOk d = true → RelV v u → NestedIs h (nk d) u
  | .int i, v, u, hd, _, r => by
    cases hd
    obtain ⟨t, rfl⟩ := r
    exact .int i t
  | .str x, v, u, hd, _, r => by
    cases hd
    obtain ⟨t, rfl⟩ := r
    exact .text x t
  | .tuple ds, v, u, hd, ok, r => by
    cases hd with
    | tup hs hr =>
      cases r
      obtain ⟨its, o, n, rv, ho, hc, hdt⟩ := L2.sqT_at hok KX hs
      exact .tup ho hc hdt (nest_all hok KX ds _ _ hr ok (by simpa using rv))
  | .none, _, _, _, ok, _ => by cases ok
  | .bool _, _, _, _, ok, _ => by cases ok
  | .list _, _, _, _, ok, _ => by cases ok
  | .dict _, _, _, _, ok, _ => by cases ok
theorem nest_all (hok : HOk P w H h) (KX : K.In h) : ∀ (ds : List PyData) (vs : List V) (us : List Value), DqAll K H vs ds → nkOkAll ds = true → Vals vs us → NestedAll h (nkAll ds) us
  | [], _, _, hd, _, r => by
    cases hd
    cases r
    exact .nil
  | d :: ds, _, _, hd, ok, r => by
    obtain ⟨o1, o2⟩ := Bool.and_eq_true_iff.mp (show (nkOk d && nkOkAll ds) = true from ok)
    cases hd with
    | cons h1 h2 =>
      cases r with
      | cons r1 r2 => exact .cons (nest_of hok KX d _ _ h1 o1 r1) (nest_all hok KX ds _ _ h2 o2 r2)
end
end
abbrev Nx := List (PyData × Addr × Addr)
def xsK (xs : Nx) : List (NestedKey × Addr × Value) := xs.map fun x => (nk x.1, x.2.1, Value.ref x.2.2)
def NdP (w : World) (a : Addr) (xs : Nx) (h : Heap) : Prop := (a == sysModules) = false ∧ xs.length ≤ sizeLine ∧ ∃ o es ep, h.get? a = some o ∧ o.ExactDict ∧ o.data = .dict es ep ∧ es.toList = (xsK xs).map (fun x => (⟨x.1.hash w, .ref x.2.1, x.2.2⟩ : DictEntry)) ∧ ((xsK xs).map (·.1)).Nodup
/-- such a dict at a: its keys, where they stand, where its values stand -/
def NdO (w : World) (a : Addr) (xs : Nx) : HO := .ext (NdP w a xs)
def NdKeys (K : PySem.W.Frag) (H : Hp) (xs : Nx) : Prop := ∀ x ∈ xs, Dq K H (.ref x.2.1) x.1 ∧ nkOk x.1 = true ∧ x.1.depth ≤ 8
def findN (xs : Nx) (d : PyData) : Option (Addr × Addr) := (xs.find? fun x => decide (nk x.1 = nk d)).map (·.2)
theorem at_find (xs : Nx) (d : PyData) : atKey (xsK xs) (nk d) = (findN xs d).map fun p => (p.1, Value.ref p.2) := by
  unfold atKey findN xsK
  rw [List.find?_map]
  show Option.map _ (Option.map _ (xs.find? fun x => decide (nk x.1 = nk d))) = _
  cases xs.find? fun x => decide (nk x.1 = nk d) <;> rfl
theorem nd_ok {P : Program} {w : World} {H : Hp} {h : Heap} {a : Addr} {xs : Nx} (x : NdP w a xs h) : ObjOk P w H h a (NdO w a xs) := by
  obtain ⟨h1, h2, o, es, ep, ho, r⟩ := id x
  refine ⟨x, ⟨o, ho⟩, fun h3 h4 y k => ?_⟩
  obtain ⟨y1, y2, o', es', ep', ho', r'⟩ := y
  exact ⟨y1, y2, o', es', ep', k o' ho', r'⟩
section
variable {X : Cx} {pins : List (Addr × Obj)} {σ : L2.St} {H : Hp} {s : Shared} {a b : Addr} {xs : Nx} {d : PyData} {A : Around} {E : Value → Shared → Prop}
theorem nd_of (I : Inv X pins σ H s) (e : H a = some (NdO X.w a xs)) (hk : NdKeys X.K H xs) : (a == sysModules) = false ∧ xs.length ≤ sizeLine ∧ s.heap.DictOfH (nestedKind X.prog X.w) a (xsK xs) := by
  obtain ⟨⟨h1, h2, o, es, ep, h3, h4, h5, h6, h7⟩, _⟩ := (show ObjOk X.prog X.w H s.heap a (.ext (NdP X.w a xs)) from I.hok a _ e)
  refine ⟨h1, h2, o, es, ep, h3, h4, h5, h6, fun y hy => ?_, h7⟩
  obtain ⟨x, hx, rfl⟩ := List.mem_map.mp hy
  obtain ⟨k1, k2, k3⟩ := hk x hx
  exact ⟨nest_of I.hok I.kIn x.1 _ _ k1 k2 rfl, Nat.le_trans (nk_depth x.1) k3⟩
theorem nd_key (I : Inv X pins σ H s) (hd : Dq X.K H (.ref b) d) (ok : nkOk d = true) (dp : d.depth ≤ 8) : (nestedKind X.prog X.w).is s.heap (nk d) b := ⟨nest_of I.hok I.kIn d _ _ hd ok rfl, Nat.le_trans (nk_depth d) dp⟩
theorem nd_room (hu : A.units + 64 < cLine) : (nestedKind X.prog X.w).room A.in1 := by
  show A.in1.units + 8 < cLine
  have : A.in1.units ≤ A.units + 1 := by
    first | exact Nat.le_refl _ | (unfold Around.in1; exact Nat.le_refl _) | simp [Around.in1]
  omega
end
/-- y not in d -/
def tNNot (K : PySem.W.Frag) (w : World) (ty td : TE) : TE := fun σ H Q => ty σ H fun y H1 => td σ H1 fun x H2 => ∃ (a b : Addr) (xs : Nx) (d : PyData), x = .ref a ∧ y = .ref b ∧ H2 a = some (NdO w a xs) ∧ NdKeys K H2 xs ∧ Dq K H2 (.ref b) d ∧ nkOk d = true ∧ d.depth ≤ 8 ∧ Q (.bl (!(findN xs d).isSome)) H2
/-- d[y] -/
def tNGet (K : PySem.W.Frag) (w : World) (td ty : TE) : TE := fun σ H Q => td σ H fun x H1 => ty σ H1 fun y H2 => ∃ (a b : Addr) (xs : Nx) (d : PyData) (p : Addr × Addr), x = .ref a ∧ y = .ref b ∧ H2 a = some (NdO w a xs) ∧ NdKeys K H2 xs ∧ Dq K H2 (.ref b) d ∧ nkOk d = true ∧ d.depth ≤ 8 ∧ findN xs d = some p ∧ Q (.ref p.2) H2
/-- d[y] = v, y a new key -/
def sNPut (K : PySem.W.Frag) (w : World) (td ty tv : TE) : TS := fun D σ H => tv σ H fun v H1 => td σ H1 fun x H2 => ty σ H2 fun y H3 => ∃ (a b c : Addr) (xs : Nx) (d : PyData), x = .ref a ∧ y = .ref b ∧ v = .ref c ∧ H3 a = some (NdO w a xs) ∧ NdKeys K H3 xs ∧ Dq K H3 (.ref b) d ∧ nkOk d = true ∧ d.depth ≤ 8 ∧ xs.length < sizeLine ∧ findN xs d = none ∧ D.nx σ (upd H3 a (NdO w a (xs ++ [(d, b, c)])))
def rLenN (K : PySem.W.Frag) (w : World) : List V → Hp → VK → Prop := fun vs H Q => ∃ (a : Addr) (xs : Nx), vs = [.ref a] ∧ H a = some (NdO w a xs) ∧ NdKeys K H xs ∧ Q (.int xs.length) H
def tNNew (w : World) : TE := fun _ H Q => ∀ p, H p = none → Q (.ref p) (upd H p (NdO w p []))
section
variable {X : Cx} {o i e value : Expr} {pos pos' tpos : Pos} {td ty tv : TE}
theorem pc_nnot (hu : X.A.units + 64 < cLine) (hi : PE X i ty) (ho : PE X o td) : PC X .NotIn i o (tNNot X.K X.w ty td) := by
  refine ⟨fun pins s σ H Q I h => ?_⟩
  refine thn (hi.run pins s σ H _ I h) fun iv s1 ⟨y, H1, I1, ry, q1⟩ => thn (ho.run pins s1 σ H1 _ I1 q1) fun u s2 ⟨x, H2, I2, rx, a, b, xs, d, ex, ey, ha, hk, hd, ok, dp, q2⟩ => ?_
  subst ex ey
  obtain rfl : u = Value.ref a := rx
  obtain rfl : iv = Value.ref b := ry
  obtain ⟨z, _, dd⟩ := nd_of I2 ha hk
  refine wpAny_notIn_heap (nd_room (X := X) hu) (nd_key I2 hd ok dp) z dd ?_
  rw [at_find, Option.isSome_map]
  exact ⟨.bl _, H2, I2.tok _, rfl, q2⟩
theorem pe_nget (hu : X.A.units + 64 < cLine) (ho : PE X o td) (hi : PE X i ty) (hs : NoSl i) : PE X (.Subscript o i pos) (tNGet X.K X.w td ty) := by
  refine ⟨fun pins s σ H Q I h => ?_⟩
  refine subD_of PySem.F.slot_dict_getitem.lookup hs (thn (ho.run pins s σ H _ I h) fun u s1 ⟨x, H1, I1, rx, q1⟩ => thn (hi.run pins s1 σ H1 _ I1 q1) fun iv s2 ⟨y, H2, I2, ry, a, b, xs, d, p, ex, ey, ha, hk, hd, ok, dp, hf, q2⟩ => ?_)
  subst ex ey
  obtain rfl : u = Value.ref a := rx
  obtain rfl : iv = Value.ref b := ry
  obtain ⟨z, _, dd⟩ := nd_of I2 ha hk
  refine ⟨dd.typeIs, wpAny_getItem_heap (nd_room (X := X) hu) (nd_key I2 hd ok dp) dd (p := (p.1, Value.ref p.2)) (by rw [at_find, hf]; rfl) ?_⟩
  exact ⟨.ref p.2, H2, I2.tok _, rfl, q2⟩
theorem ps_nput (hu : X.A.units + 64 < cLine) (ho : PE X o td) (hi : PE X i ty) (hv : PE X value tv) (hs : swapsWith value (some (.Subscript o i pos')) pos.line X.env = pure false) :
    PS X (.Assign [.Subscript o i pos'] value pos) (sNPut X.K X.w td ty tv) := by
  refine ⟨fun pins s σ H D I h => ?_⟩
  refine wpAny_Assign_Subscript (thn (hv.run pins s σ H _ I h) fun r s1 ⟨v, H1, I1, rv, q1⟩ => thn (ho.run pins s1 σ H1 _ I1 q1) fun u s2 ⟨x, H2, I2, rx, q2⟩ => thn (hi.run pins s2 σ H2 _ I2 q2) fun iv s3 ⟨y, H3, I3, ry, a, b, c, xs, d, ex, ey, ev, ha, hk, hd, ok, dp, hl, hf, q3⟩ => ?_) hs
  subst ex ey ev
  obtain rfl : u = Value.ref a := rx
  obtain rfl : iv = Value.ref b := ry
  obtain rfl : r = Value.ref c := rv
  obtain ⟨z, hz, dd⟩ := nd_of I3 ha hk
  refine wpAny_setItem_heap (nd_room (X := X) hu) (nd_key I3 hd ok dp) dd (fun h' dd' hsb => ?_) (by unfold xsK; rw [List.length_map]; exact hz)
  rw [storedH_new (by rw [at_find, hf]; rfl)] at dd'
  obtain ⟨q, es, ep, hq, h2, h3, h4, _, h5⟩ := dd'
  refine ⟨σ, _, d_write I3 (by rw [ha]; exact True.intro) hsb ⟨q, hq⟩ (nd_ok ⟨z, by rw [List.length_append]; exact hl, q, es, ep, hq, h2, h3, ?_, ?_⟩), q3⟩
  · rw [h4]
    unfold xsK
    rw [List.map_append, List.map_append, List.map_append]
    rfl
  · unfold xsK at h5 ⊢
    rw [List.map_append]
    exact h5
theorem call_lenN : CallR X (.builtin "len") (rLenN X.K X.w) := by
  intro pins s σ H xs us Q I r h
  obtain ⟨a, ys, rfl, ha, hk, q⟩ := h
  obtain ⟨u, rfl, rx⟩ := vals1 r
  obtain rfl : u = .ref a := rx
  obtain ⟨z, hz, dd⟩ := nd_of I ha hk
  have hl : (xsK ys).length = ys.length := List.length_map _
  refine call_len_dictH z dd (by rw [hl]; rw [sizeLine_eq] at hz; omega) ?_
  rw [hl]
  exact ⟨.int ys.length, H, I.tok _, ⟨_, rfl⟩, q⟩
theorem pe_nnew : PE X (.Dict [] [] pos) (tNNew X.w) := ⟨fun pins s σ H Q I h =>
  wpAny_Dict_empty ⟨.ref s.heap.objs.size, _, I.laid (a := s.heap.objs.size) (o := NdO X.w s.heap.objs.size []) (t' := s.toks) (fun _ _ q => Heap.get?_push_of_some _ q) (Nat.le_refl _) (nd_ok ⟨beq_eq_false_iff_ne.mpr (Ne.symm (Nat.ne_of_lt I.big)), Nat.zero_le _, _, #[], 0, Heap.get?_push_size _ rfl, ⟨rfl, rfl, rfl⟩, rfl, rfl, List.nodup_nil⟩), rfl, h _ (I.hok.fresh (Nat.le_refl _))⟩⟩
end


section
variable {P : Program} {w : World} {K : PySem.W.Frag} {mg : Str → Option Value} {base : Heap}
/-- the deed of a raising def where nothing is raised -/
def calm (sp : Sp) : Sp := fun vs H Q _ => sp vs H Q E0
theorem calm_ok {k : Nat} {f : Addr} {fd : FuncData} {ps : List Str} {sp : Sp} (F : FnOk P w K mg base (L2.CX P w) k f fd ps sp) : FnOk P w K mg base CX0 k f fd ps (calm sp) :=
  ⟨fun vs H Q E h => F.len vs H Q E0 h, fun A outer s H args us vs Q E hr he hb hv h => codeAny_mono (F.run A outer s H args us vs Q E0 hr he hb hv h) fun r s' hq => by
    match r, hq with
    | .ok x, hq =>
      cases x with
      | ret u => exact hq
      | _ => exact hq
    | .error e, hq =>
      obtain ⟨_, _, _, _, _, _, _, _, _, _, _, _, z⟩ := hq
      exact z.elim⟩
end

/-! ### joined terms: the walk -/
def ixO : List (Tm × Tm) → Tm × Tm → Option Nat
  | [], _ => none
  | q :: r, p => if q = p then some 0 else (ixO r p).map (· + 1)
def jl (a b : Tm) (L : List (Tm × Tm)) : Tm × List (Tm × Tm) :=
  if a = b ∧ a.isU = false then (a, L) else match ixO L (a, b) with
    | some k => (.un k, L)
    | none => (.un L.length, L ++ [(a, b)])
def jn : Tm → Tm → List (Tm × Tm) → Tm × List (Tm × Tm)
  | .pr a b, .pr c d, L => (.pr (jn a c L).1 (jn b d (jn a c L).2).1, (jn b d (jn a c L).2).2)
  | a, b, L => jl a b L
theorem jn_l {a b : Tm} {L : List (Tm × Tm)} (h : (a.isP && b.isP) = false) : jn a b L = jl a b L := by
  cases a <;> cases b <;> first | rfl | cases h
theorem jl_len (a b : Tm) (L : List (Tm × Tm)) : (jl a b L).2.length ≤ L.length + 1 := by
  unfold jl
  split
  · exact Nat.le_succ _
  · split
    · exact Nat.le_succ _
    · rw [List.length_append]
      exact Nat.le_refl _
theorem jn_len : ∀ (a b : Tm) (L : List (Tm × Tm)), (jn a b L).2.length ≤ L.length + a.parts
  | .pr a b, .pr c d, L => by
    have h1 := jn_len a c L
    have h2 := jn_len b d (jn a c L).2
    show (jn b d (jn a c L).2).2.length ≤ L.length + (1 + a.parts + b.parts)
    omega
  | .nm _, _, L => by rw [jn_l rfl]; exact jl_len _ _ _
  | .nu _, _, L => by rw [jn_l rfl]; exact jl_len _ _ _
  | .un _, _, L => by rw [jn_l rfl]; exact jl_len _ _ _
  | .pr a b, .nm _, L => by
    have := jl_len (.pr a b) (.nm ‹_›) L
    rw [jn_l rfl]
    show _ ≤ L.length + (1 + a.parts + b.parts)
    omega
  | .pr a b, .nu _, L => by
    have := jl_len (.pr a b) (.nu ‹_›) L
    rw [jn_l rfl]
    show _ ≤ L.length + (1 + a.parts + b.parts)
    omega
  | .pr a b, .un _, L => by
    have := jl_len (.pr a b) (.un ‹_›) L
    rw [jn_l rfl]
    show _ ≤ L.length + (1 + a.parts + b.parts)
    omega
theorem ixO_last {L : List (Tm × Tm)} {p : Tm × Tm} (h : ixO L p = none) : ixO (L ++ [p]) p = some L.length := by
  induction L with
  | nil =>
    show (if p = p then some 0 else _) = _
    rw [if_pos rfl]
    rfl
  | cons x r ih =>
    show (if x = p then some 0 else (ixO (r ++ [p]) p).map (· + 1)) = _
    have h : (if x = p then some 0 else (ixO r p).map (· + 1)) = none := h
    by_cases e : x = p
    · rw [if_pos e] at h
      cases h
    · rw [if_neg e] at h ⊢
      cases h2 : ixO r p with
      | none =>
        rw [ih h2]
        rfl
      | some k =>
        rw [h2] at h
        cases h
theorem Tm.d_inj {a b : Tm} (h : a.d = b.d) : a = b := by
  have e := Tm.eqv a b
  rw [h, Tm.eqv b b, decide_eq_true rfl] at e
  exact of_decide_eq_true e.symm
def kyD (a b : Tm) : PyData := .tuple [a.d, b.d]
theorem Tm.nkOk : ∀ t : Tm, Fs.nkOk t.d = true
  | .nm _ => rfl
  | .nu _ => rfl
  | .un _ => rfl
  | .pr a b => by
    show (Fs.nkOk a.d && (Fs.nkOk b.d && true)) = true
    rw [a.nkOk, b.nkOk]
    rfl
theorem ky_ok (a b : Tm) : nkOk (kyD a b) = true := (Tm.pr a b).nkOk
theorem ky_inj {a b c d : Tm} (h : nk (kyD a b) = nk (kyD c d)) : (a, b) = (c, d) := by
  have e : (Tm.pr a b).d = (Tm.pr c d).d := nk_inj _ _ (ky_ok a b) (ky_ok c d) h
  have := Tm.pr.inj (Tm.d_inj e)
  rw [this.1, this.2]
/-- the dict stands for the row of pairs L -/
inductive JL (K : PySem.W.Frag) (F : Hp) : Nat → Nx → List (Tm × Tm) → Prop
  | nil {k : Nat} : JL K F k [] []
  | cons {k : Nat} {p q : Addr} {a b : Tm} {xs : Nx} {L : List (Tm × Tm)} : Dq K F (.ref p) (kyD a b) → a.deep ≤ 6 → b.deep ≤ 6 → Dq K F (.ref q) (.tuple [.int k]) → JL K F (k + 1) xs L → JL K F k ((kyD a b, p, q) :: xs) ((a, b) :: L)
theorem ky_deep {a b : Tm} (ha : a.deep ≤ 6) (hb : b.deep ≤ 6) : (kyD a b).depth ≤ 8 := by
  have := (Tm.pr a b).depth
  have e : (Tm.pr a b).deep = 1 + max a.deep b.deep := rfl
  show (Tm.pr a b).d.depth ≤ 8
  omega
section
variable {P : Program} {w : World} {K : PySem.W.Frag} {mg : Str → Option Value} {base : Heap}
theorem JL.same {F F' : Hp} (s : Same F F') {xs : Nx} {L : List (Tm × Tm)} {k : Nat} (h : JL K F k xs L) : JL K F' k xs L := by
  induction h with
  | nil => exact .nil
  | cons h1 h2 h3 h4 _ ih => exact .cons (h1.same s) h2 h3 (h4.same s) ih
theorem JL.len {F : Hp} {xs : Nx} {L : List (Tm × Tm)} {k : Nat} (h : JL K F k xs L) : xs.length = L.length := by
  induction h with
  | nil => rfl
  | cons h1 h2 h3 h4 _ ih => exact congrArg (· + 1) ih
theorem JL.keys {F H : Hp} (s : Same F H) {xs : Nx} {L : List (Tm × Tm)} {k : Nat} (h : JL K F k xs L) : NdKeys K H xs := by
  induction h with
  | nil => exact fun x hx => nomatch hx
  | cons h1 h2 h3 h4 _ ih =>
    intro x hx
    rcases List.mem_cons.mp hx with rfl | hx
    · exact ⟨h1.same s, ky_ok _ _, ky_deep h2 h3⟩
    · exact ih x hx
theorem JL.snoc {F : Hp} {p q : Addr} {a b : Tm} {xs : Nx} {L : List (Tm × Tm)} {k : Nat} (h : JL K F k xs L) (h1 : Dq K F (.ref p) (kyD a b)) (h2 : a.deep ≤ 6) (h3 : b.deep ≤ 6) (h4 : Dq K F (.ref q) (.tuple [.int ((k + L.length : Nat) : Int)])) : JL K F k (xs ++ [(kyD a b, p, q)]) (L ++ [(a, b)]) := by
  induction h with
  | nil => exact .cons h1 h2 h3 h4 .nil
  | @cons k p' q' a' b' xs L g1 g2 g3 g4 _ ih =>
    refine .cons g1 g2 g3 g4 (ih ?_)
    have e : k + (L.length + 1) = k + 1 + L.length := by omega
    rw [← e]
    exact h4
theorem JL.find {F : Hp} {a b : Tm} {xs : Nx} {L : List (Tm × Tm)} {k : Nat} (h : JL K F k xs L) : (findN xs (kyD a b) = none ∧ ixO L (a, b) = none) ∨ ∃ p i, findN xs (kyD a b) = some p ∧ ixO L (a, b) = some i ∧ Dq K F (.ref p.2) (.tuple [.int ((k + i : Nat) : Int)]) := by
  induction h with
  | nil => exact .inl ⟨rfl, rfl⟩
  | @cons k p' q' a' b' xs L g1 g2 g3 g4 _ ih =>
    by_cases e : (a', b') = (a, b)
    · have e1 : nk (kyD a' b') = nk (kyD a b) := by
        cases e
        rfl
      refine .inr ⟨(p', q'), 0, ?_, ?_, g4⟩
      · unfold findN
        rw [List.find?_cons, show decide (nk (kyD a' b', p', q').1 = nk (kyD a b)) = true from decide_eq_true e1]
        rfl
      · unfold ixO
        rw [if_pos e]
    · have e1 : ¬ nk (kyD a' b') = nk (kyD a b) := fun z => e (ky_inj z)
      have f1 : findN ((kyD a' b', p', q') :: xs) (kyD a b) = findN xs (kyD a b) := by
        unfold findN
        rw [List.find?_cons_of_neg (by simpa using e1)]
      have f2 : ixO ((a', b') :: L) (a, b) = (ixO L (a, b)).map (· + 1) := by
        rw [ixO, if_neg e]
      rw [f1, f2]
      rcases ih with ⟨h1, h2⟩ | ⟨p, i, h1, h2, h3⟩
      · exact .inl ⟨h1, by rw [h2]; rfl⟩
      · refine .inr ⟨p, i + 1, h1, by rw [h2]; rfl, ?_⟩
        have e : k + (i + 1) = k + 1 + i := by omega
        rw [e]
        exact h3
/-- what has changed beside the dict at p; F: what never changes -/
structure Jt (p : Addr) (F H F' H' : Hp) : Prop where
  fs : Same F F'
  nw : ∀ b, F' b ≠ none → F b ≠ none ∨ H b = none
  sm : Same F' H'
  fp : F' p = none
  off : Off p H H'
theorem Jt.refl {p : Addr} {F H : Hp} (s : Same F H) (h : F p = none) : Jt p F H F H := ⟨Same.refl F, fun _ z => .inl z, s, h, Off.refl p H⟩
theorem Jt.trans {p : Addr} {F H F1 H1 F2 H2 : Hp} (hp : H1 p ≠ none) (a : Jt p F H F1 H1) (b : Jt p F1 H1 F2 H2) : Jt p F H F2 H2 := by
  refine ⟨a.fs.trans b.fs, fun c z => ?_, b.sm, b.fp, a.off.trans b.off⟩
  rcases b.nw c z with z | z
  · exact a.nw c z
  · exact .inr (a.off.free z fun e => hp (by rw [← e]; exact z))
theorem Jt.new {p e : Addr} {F H F1 H1 : Hp} {o : HO} (hp : H1 p ≠ none) (a : Jt p F H F1 H1) (he : H1 e = none) : Jt p F H (upd F1 e o) (upd H1 e o) := by
  have ne : e ≠ p := fun z => hp (by rw [← z]; exact he)
  have f1 : F1 e = none := a.sm.free he
  refine ⟨a.fs.trans (same_upd f1), fun c z => ?_, fun c u z => ?_, ?_, a.off.new he⟩
  · by_cases q : c = e
    · rw [q]
      exact .inr (a.off.free he ne)
    · rw [upd_ne q] at z
      exact a.nw c z
  · by_cases q : c = e
    · subst q
      rw [upd_same] at z ⊢
      exact z
    · rw [upd_ne q] at z ⊢
      exact a.sm c u z
  · rw [upd_ne (Ne.symm ne)]
    exact a.fp
theorem Jt.put {p : Addr} {F H F1 H1 : Hp} {o : HO} (a : Jt p F H F1 H1) : Jt p F H F1 (upd H1 p o) :=
  ⟨a.fs, a.nw, fun c u z => by
    by_cases q : c = p
    · subst q
      rw [a.fp] at z
      cases z
    · rw [upd_ne q]
      exact a.sm c u z, a.fp, a.off.trans Off.put⟩
def sp_joined_within (K : PySem.W.Frag) (w : World) (n : Nat) : Sp := fun vs H Q _ => ∃ (F : Hp) (x y : V) (p : Addr) (xs : Nx) (a b : Tm) (L : List (Tm × Tm)), vs = [x, y, .ref p] ∧ Same F H ∧ F p = none ∧ Dq K F x a.d ∧ Dq K F y b.d ∧ a.ok ∧ b.ok ∧ a.deep ≤ n ∧ a.deep ≤ 6 ∧ b.deep ≤ 6 ∧ H p = some (NdO w p xs) ∧ JL K F 0 xs L ∧ L.length + a.parts ≤ 1000 ∧
  ∀ v F' H' xs', Jt p F H F' H' → H' p = some (NdO w p xs') → JL K F' 0 xs' (jn a b L).2 → Dq K F' v (jn a b L).1.d → Q v H'
theorem o_eq_run {H : Hp} {x y : V} {d e : PyData} {c : Bool} {Q : VK} (hx : Dq K H x d) (hy : Dq K H y e) (h : eqD d e = some c) (q : Q (.bl c) H) : rEqA K x y H Q := by
  rcases eqD_cases h with h | ⟨h1, h2, h3⟩
  · obtain ⟨s1, s2⟩ := eqSc_V hx hy h
    refine .inl ⟨s1, ?_⟩
    rw [s2]
    exact q
  · refine .inr ⟨d, e, (hx.shp h1).1, (hy.shp h2).1, (hx.shp h1).2, (hy.shp h2).2, ?_⟩
    rw [h3]
    exact q
theorem isPair_d (a : Tm) : isPairD a.d = a.isP := by
  cases a <;> rfl
theorem unkD_d {a : Tm} (h : a.ok) : unkD a.d = a.isU := by
  cases a with
  | nm x => rfl
  | nu x => rfl
  | un i =>
    show (decide (0 ≤ i) && decide (i ≤ 999999999)) = true
    rw [decide_eq_true h.1, decide_eq_true h.2]
    rfl
  | pr a b => rfl
theorem Dq.pr_d {H : Hp} {v : V} {a b : Tm} (h : Dq K H v (Tm.pr a b).d) : ∃ p x y, v = .ref p ∧ SqT K H p [x, y] ∧ Dq K H x a.d ∧ Dq K H y b.d := by
  cases h with
  | tup h r =>
    cases r with
    | cons r1 r =>
      cases r with
      | cons r2 r =>
        cases r
        exact ⟨_, _, _, rfl, h, r1, r2⟩
theorem ok_joined_within (T : Env K mg) : ∀ n : Nat, FnOk P w K mg base CX0 (n + 4) T.a_joined_within T.d_joined_within ["one", "other", "found"] (sp_joined_within K w n)
  | 0 => by
    have no : ∀ vs H Q E, ¬ sp_joined_within K w 0 vs H Q E := fun vs H Q E h => by
      obtain ⟨F, x, y, p, xs, a, b, L, _, _, _, _, _, _, _, h1, _⟩ := h
      cases a <;> simp [Tm.deep] at h1
    exact ⟨fun vs H Q E h => absurd h (no vs H Q E), fun A outer s H args us vs Q E _ _ _ _ h => absurd h (no vs H Q E)⟩
  | n + 1 => by
    have G_joined_within : FnOk P w K mg base CX0 (n + 4) T.a_joined_within T.d_joined_within ["one", "other", "found"] (sp_joined_within K w n) := ok_joined_within T n
    have G_is_pair : FnOk P w K mg base CX0 (n + 4) T.a_is_pair T.d_is_pair ["term"] (sp_is_pair K) := (ok_is_pair T).mono (by omega)
    have G_is_unknown : FnOk P w K mg base CX0 (n + 4) T.a_is_unknown T.d_is_unknown ["thing"] (sp_is_unknown K) := (ok_is_unknown T).mono (by omega)
    refine T.F_joined_within.ok sc_joined_within (fun vs H Q E h => ?_) (fun cdv A outer s H vs Q E hr h => ?_)
    · obtain ⟨F, x, y, p, xs, a, b, L, rfl, _⟩ := h
      rfl
    · obtain ⟨F, x, y, p, xs, a, b, L, rfl, sF, fp, hx, hy, oa, ob, dn, da, db, hp, hL, ll, q⟩ := h
      have hr_joined_within := hr
      have hr_is_pair := hr
      have hr_is_unknown := hr
      refine ⟨_, (pss_cons (ps_if (PW.pt (pw_and (pt_val (pe_call G_is_pair hr_is_pair (by rfl) T.g_is_pair T.F_is_pair.kp T.b_is_pair .nil pass0 (pa_cons (pv 0) pa_nil))) (pw_and1 (pt_val (pe_call G_is_pair hr_is_pair (by rfl) T.g_is_pair T.F_is_pair.kp T.b_is_pair .nil pass0 (pa_cons (pv 1) pa_nil)))))) (pss_cons (ps_set (i := 3) sc_joined_within.nd rfl (Or.inl rfl) (pe_call G_joined_within hr_joined_within (by rfl) T.g_joined_within T.F_joined_within.kp T.b_joined_within .nil pass0 (pa_cons (pe_ix ix_tup (pv 0) pe_int (fun _ _ => rfl)) (pa_cons (pe_ix ix_tup (pv 1) pe_int (fun _ _ => rfl)) (pa_cons (pv 2) pa_nil)))))
      (pss_one (ps_ret (pe_tup (pa_cons (pv 3) (pa_cons (pe_call G_joined_within hr_joined_within (by rfl) T.g_joined_within T.F_joined_within.kp T.b_joined_within .nil pass0 (pa_cons (pe_ix ix_tup (pv 0) pe_int (fun _ _ => rfl)) (pa_cons (pe_ix ix_tup (pv 1) pe_int (fun _ _ => rfl)) (pa_cons (pv 2) pa_nil)))) pa_nil)))))) pss_nil)
      (pss_cons (ps_if (PW.pt (pw_and (pt_cmpR (op_eqA hr.units) (pv 0) (pv 1) (nomark _)) (pw_and1 (pt_not (pt_val (pe_call G_is_unknown hr_is_unknown (by rfl) T.g_is_unknown T.F_is_unknown.kp T.b_is_unknown .nil pass0 (pa_cons (pv 0) pa_nil))))))) (pss_one (ps_ret (pv 0))) pss_nil)
      (pss_cons (ps_if (pt_cmp (pc_nnot hr.units (pe_tup (pa_cons (pv 0) (pa_cons (pv 1) pa_nil))) (pv 2))) (pss_one (ps_nput hr.units (pv 2) (pe_tup (pa_cons (pv 0) (pa_cons (pv 1) pa_nil))) (pe_tup (pa_cons (pe_callB call_lenN (by rfl) T.m_len PySem.boot_len (pa_cons (pv 2) pa_nil)) pa_nil)) rfl)) pss_nil)
      (pss_one (ps_ret (pe_nget hr.units (pv 2) (pe_tup (pa_cons (pv 0) (pa_cons (pv 1) pa_nil))) (fun _ _ => rfl))))))), ?_⟩
      refine ⟨_, rfl, x, a.d, rfl, hx.same sF, ?_⟩
      refine ⟨a.isP, congrArg V.bl (isPair_d a), ?_⟩
      cases ea : a.isP with
      | false =>
        have hP : (a.isP && b.isP) = false := by rw [ea]; rfl
        refine ⟨_, rfl, _, rfl, ?_⟩
        refine o_eq_run (hx.same sF) (hy.same sF) (Tm.eqD oa ob (by omega) (by omega)) ?_
        have eJ : jn a b L = jl a b L := jn_l hP
        rw [eJ] at q
        unfold jl at q
        refine ⟨decide (a = b), rfl, ?_⟩
        cases eab : decide (a = b) with
        | true =>
          have eab := of_decide_eq_true eab
          refine ⟨_, rfl, x, a.d, rfl, hx.same sF, a.isU, congrArg V.bl (unkD_d oa), ?_⟩
          cases eu : a.isU with
          | false =>
            rw [if_pos ⟨eab, eu⟩] at q
            exact ⟨_, rfl, q x F H xs (Jt.refl sF fp) hp hL hx⟩
          | true =>
            rw [if_neg (fun z => by rw [eu] at z; cases z.2)] at q
            refine ⟨_, rfl, _, rfl, (by show 2 ≤ sizeLine; decide), fun e he => ?_⟩
            have npe : H p ≠ none := by rw [hp]; exact fun z => nomatch z
            have j1 := Jt.new (o := .tup [x, y]) npe (Jt.refl sF fp) he
            have nep : p ≠ e := fun z => npe (by rw [z]; exact he)
            generalize hF1 : upd F e (.tup [x, y]) = F1 at j1
            generalize hH1 : upd H e (.tup [x, y]) = H1 at j1 ⊢
            have hp1 : H1 p = some (NdO w p xs) := by rw [← hH1, upd_ne nep]; exact hp
            have np1 : H1 p ≠ none := by rw [hp1]; exact fun z => nomatch z
            have hk1 : Dq K F1 (.ref e) (kyD a b) := by
              rw [← hF1]
              have f1 : F e = none := sF.free he
              exact .tup (SqT.of upd_same) (.cons (hx.same (same_upd f1)) (.cons (hy.same (same_upd f1)) .nil))
            have hL1 := hL.same j1.fs
            refine ⟨_, rfl, p, e, xs, kyD a b, rfl, rfl, hp1, hL1.keys j1.sm, hk1.same j1.sm, ky_ok a b, ky_deep da db, ?_⟩
            rcases hL1.find (a := a) (b := b) with ⟨g1, g2⟩ | ⟨r, i, g1, g2, g3⟩
            · rw [g2] at q
              rw [g1]
              refine ⟨true, rfl, ?_⟩
              refine ⟨_, rfl, p, xs, rfl, hp1, hL1.keys j1.sm, (by show 1 ≤ sizeLine; decide), fun z hz => ?_⟩
              have j2 := Jt.new (o := .tup [.int xs.length]) np1 j1 hz
              have nzp : p ≠ z := fun e => np1 (by rw [e]; exact hz)
              have f1 : F1 z = none := j1.sm.free hz
              have s12 : Same F1 (upd F1 z (.tup [.int xs.length])) := same_upd f1
              have hv2 : Dq K (upd F1 z (.tup [.int xs.length])) (.ref z) (.tuple [.int xs.length]) := .tup (SqT.of upd_same) (.cons (.int _) .nil)
              generalize upd F1 z (.tup [.int xs.length]) = F2 at j2 s12 hv2
              have hp2 : upd H1 z (.tup [.int xs.length]) p = some (NdO w p xs) := by rw [upd_ne nzp]; exact hp1
              generalize upd H1 z (.tup [.int xs.length]) = H2 at j2 hp2 ⊢
              have np2 : H2 p ≠ none := by rw [hp2]; exact fun z => nomatch z
              refine ⟨_, rfl, _, rfl, _, rfl, (by show 2 ≤ sizeLine; decide), fun k hk => ?_⟩
              have j3 := Jt.new (o := .tup [x, y]) np2 j2 hk
              have nkp : p ≠ k := fun e => np2 (by rw [e]; exact hk)
              have f2 : F2 k = none := j2.sm.free hk
              have s23 : Same F2 (upd F2 k (.tup [x, y])) := same_upd f2
              have hk3 : Dq K (upd F2 k (.tup [x, y])) (.ref k) (kyD a b) := .tup (SqT.of upd_same) (.cons ((hx.same j2.fs).same s23) (.cons ((hy.same j2.fs).same s23) .nil))
              generalize upd F2 k (.tup [x, y]) = F3 at j3 s23 hk3
              have hp3 : upd H2 k (.tup [x, y]) p = some (NdO w p xs) := by rw [upd_ne nkp]; exact hp2
              generalize upd H2 k (.tup [x, y]) = H3 at j3 hp3 ⊢
              have hL3 := (hL1.same s12).same s23
              have el := hL3.len
              have lx : xs.length < sizeLine := by
                have : (1000 : Nat) < sizeLine := by decide
                have := a.parts_pos
                omega
              refine ⟨p, k, z, xs, kyD a b, rfl, rfl, rfl, hp3, hL3.keys j3.sm, hk3.same j3.sm, ky_ok a b, ky_deep da db, lx, g1, ?_⟩
              have j4 := Jt.put (o := NdO w p (xs ++ [(kyD a b, k, z)])) j3
              have hp4 : upd H3 p (NdO w p (xs ++ [(kyD a b, k, z)])) p = some (NdO w p (xs ++ [(kyD a b, k, z)])) := upd_same
              have np4 : upd H3 p (NdO w p (xs ++ [(kyD a b, k, z)])) p ≠ none := by rw [hp4]; exact fun z => nomatch z
              have hL4 : JL K F3 0 (xs ++ [(kyD a b, k, z)]) (L ++ [(a, b)]) := hL3.snoc hk3 da db (by rw [Nat.zero_add, ← el]; exact hv2.same s23)
              refine ⟨_, rfl, _, rfl, _, rfl, (by show 2 ≤ sizeLine; decide), fun m hm => ?_⟩
              have j5 := Jt.new (o := .tup [x, y]) np4 j4 hm
              have hm4 : upd H3 p (NdO w p (xs ++ [(kyD a b, k, z)])) m = none := hm
              have nmp : p ≠ m := fun e => np4 (by rw [← e] at hm4; exact hm4)
              have f3 : F3 m = none := j4.sm.free hm
              have s34 : Same F3 (upd F3 m (.tup [x, y])) := same_upd f3
              have hk5 : Dq K (upd F3 m (.tup [x, y])) (.ref m) (kyD a b) := .tup (SqT.of upd_same) (.cons ((hx.same j4.fs).same s34) (.cons ((hy.same j4.fs).same s34) .nil))
              generalize upd F3 m (.tup [x, y]) = F5 at j5 s34 hk5
              have hp5 : upd (upd H3 p (NdO w p (xs ++ [(kyD a b, k, z)]))) m (.tup [x, y]) p = some (NdO w p (xs ++ [(kyD a b, k, z)])) := by rw [upd_ne nmp]; exact hp4
              have hL5 := hL4.same s34
              have e5 : ixO (L ++ [(a, b)]) (a, b) = some L.length := ixO_last g2
              rcases hL5.find (a := a) (b := b) with ⟨_, t2⟩ | ⟨r, i, t1, t2, t3⟩
              · rw [e5] at t2
                cases t2
              · rw [e5] at t2
                cases t2
                rw [Nat.zero_add] at t3
                exact ⟨p, m, _, kyD a b, r, rfl, rfl, hp5, hL5.keys j5.sm, hk5.same j5.sm, ky_ok a b, ky_deep da db, t1, q (.ref r.2) F5 _ _ j5 hp5 hL5 t3⟩
            · rw [g2] at q
              rw [g1]
              refine ⟨false, rfl, ?_⟩
              refine ⟨_, rfl, _, rfl, _, rfl, (by show 2 ≤ sizeLine; decide), fun m hm => ?_⟩
              have j5 := Jt.new (o := .tup [x, y]) np1 j1 hm
              have nmp : p ≠ m := fun e => np1 (by rw [e]; exact hm)
              have f3 : F1 m = none := j1.sm.free hm
              have s34 : Same F1 (upd F1 m (.tup [x, y])) := same_upd f3
              have hk5 : Dq K (upd F1 m (.tup [x, y])) (.ref m) (kyD a b) := .tup (SqT.of upd_same) (.cons ((hx.same j1.fs).same s34) (.cons ((hy.same j1.fs).same s34) .nil))
              generalize upd F1 m (.tup [x, y]) = F5 at j5 s34 hk5
              have hp5 : upd H1 m (.tup [x, y]) p = some (NdO w p xs) := by rw [upd_ne nmp]; exact hp1
              generalize upd H1 m (.tup [x, y]) = H5 at j5 hp5 ⊢
              have hL5 := hL1.same s34
              rw [Nat.zero_add] at g3
              exact ⟨p, m, _, kyD a b, r, rfl, rfl, hp5, hL5.keys j5.sm, hk5.same j5.sm, ky_ok a b, ky_deep da db, g1, q (.ref r.2) F5 H5 _ j5 hp5 hL5 (g3.same s34)⟩
        | false =>
          have eab := of_decide_eq_false eab
          rw [if_neg (fun z => eab z.1)] at q
          refine ⟨_, rfl, _, rfl, (by show 2 ≤ sizeLine; decide), fun e he => ?_⟩
          have npe : H p ≠ none := by rw [hp]; exact fun z => nomatch z
          have j1 := Jt.new (o := .tup [x, y]) npe (Jt.refl sF fp) he
          have nep : p ≠ e := fun z => npe (by rw [z]; exact he)
          generalize hF1 : upd F e (.tup [x, y]) = F1 at j1
          generalize hH1 : upd H e (.tup [x, y]) = H1 at j1 ⊢
          have hp1 : H1 p = some (NdO w p xs) := by rw [← hH1, upd_ne nep]; exact hp
          have np1 : H1 p ≠ none := by rw [hp1]; exact fun z => nomatch z
          have hk1 : Dq K F1 (.ref e) (kyD a b) := by
            rw [← hF1]
            have f1 : F e = none := sF.free he
            exact .tup (SqT.of upd_same) (.cons (hx.same (same_upd f1)) (.cons (hy.same (same_upd f1)) .nil))
          have hL1 := hL.same j1.fs
          refine ⟨_, rfl, p, e, xs, kyD a b, rfl, rfl, hp1, hL1.keys j1.sm, hk1.same j1.sm, ky_ok a b, ky_deep da db, ?_⟩
          rcases hL1.find (a := a) (b := b) with ⟨g1, g2⟩ | ⟨r, i, g1, g2, g3⟩
          · rw [g2] at q
            rw [g1]
            refine ⟨true, rfl, ?_⟩
            refine ⟨_, rfl, p, xs, rfl, hp1, hL1.keys j1.sm, (by show 1 ≤ sizeLine; decide), fun z hz => ?_⟩
            have j2 := Jt.new (o := .tup [.int xs.length]) np1 j1 hz
            have nzp : p ≠ z := fun e => np1 (by rw [e]; exact hz)
            have f1 : F1 z = none := j1.sm.free hz
            have s12 : Same F1 (upd F1 z (.tup [.int xs.length])) := same_upd f1
            have hv2 : Dq K (upd F1 z (.tup [.int xs.length])) (.ref z) (.tuple [.int xs.length]) := .tup (SqT.of upd_same) (.cons (.int _) .nil)
            generalize upd F1 z (.tup [.int xs.length]) = F2 at j2 s12 hv2
            have hp2 : upd H1 z (.tup [.int xs.length]) p = some (NdO w p xs) := by rw [upd_ne nzp]; exact hp1
            generalize upd H1 z (.tup [.int xs.length]) = H2 at j2 hp2 ⊢
            have np2 : H2 p ≠ none := by rw [hp2]; exact fun z => nomatch z
            refine ⟨_, rfl, _, rfl, _, rfl, (by show 2 ≤ sizeLine; decide), fun k hk => ?_⟩
            have j3 := Jt.new (o := .tup [x, y]) np2 j2 hk
            have nkp : p ≠ k := fun e => np2 (by rw [e]; exact hk)
            have f2 : F2 k = none := j2.sm.free hk
            have s23 : Same F2 (upd F2 k (.tup [x, y])) := same_upd f2
            have hk3 : Dq K (upd F2 k (.tup [x, y])) (.ref k) (kyD a b) := .tup (SqT.of upd_same) (.cons ((hx.same j2.fs).same s23) (.cons ((hy.same j2.fs).same s23) .nil))
            generalize upd F2 k (.tup [x, y]) = F3 at j3 s23 hk3
            have hp3 : upd H2 k (.tup [x, y]) p = some (NdO w p xs) := by rw [upd_ne nkp]; exact hp2
            generalize upd H2 k (.tup [x, y]) = H3 at j3 hp3 ⊢
            have hL3 := (hL1.same s12).same s23
            have el := hL3.len
            have lx : xs.length < sizeLine := by
              have : (1000 : Nat) < sizeLine := by decide
              have := a.parts_pos
              omega
            refine ⟨p, k, z, xs, kyD a b, rfl, rfl, rfl, hp3, hL3.keys j3.sm, hk3.same j3.sm, ky_ok a b, ky_deep da db, lx, g1, ?_⟩
            have j4 := Jt.put (o := NdO w p (xs ++ [(kyD a b, k, z)])) j3
            have hp4 : upd H3 p (NdO w p (xs ++ [(kyD a b, k, z)])) p = some (NdO w p (xs ++ [(kyD a b, k, z)])) := upd_same
            have np4 : upd H3 p (NdO w p (xs ++ [(kyD a b, k, z)])) p ≠ none := by rw [hp4]; exact fun z => nomatch z
            have hL4 : JL K F3 0 (xs ++ [(kyD a b, k, z)]) (L ++ [(a, b)]) := hL3.snoc hk3 da db (by rw [Nat.zero_add, ← el]; exact hv2.same s23)
            refine ⟨_, rfl, _, rfl, _, rfl, (by show 2 ≤ sizeLine; decide), fun m hm => ?_⟩
            have j5 := Jt.new (o := .tup [x, y]) np4 j4 hm
            have hm4 : upd H3 p (NdO w p (xs ++ [(kyD a b, k, z)])) m = none := hm
            have nmp : p ≠ m := fun e => np4 (by rw [← e] at hm4; exact hm4)
            have f3 : F3 m = none := j4.sm.free hm
            have s34 : Same F3 (upd F3 m (.tup [x, y])) := same_upd f3
            have hk5 : Dq K (upd F3 m (.tup [x, y])) (.ref m) (kyD a b) := .tup (SqT.of upd_same) (.cons ((hx.same j4.fs).same s34) (.cons ((hy.same j4.fs).same s34) .nil))
            generalize upd F3 m (.tup [x, y]) = F5 at j5 s34 hk5
            have hp5 : upd (upd H3 p (NdO w p (xs ++ [(kyD a b, k, z)]))) m (.tup [x, y]) p = some (NdO w p (xs ++ [(kyD a b, k, z)])) := by rw [upd_ne nmp]; exact hp4
            have hL5 := hL4.same s34
            have e5 : ixO (L ++ [(a, b)]) (a, b) = some L.length := ixO_last g2
            rcases hL5.find (a := a) (b := b) with ⟨_, t2⟩ | ⟨r, i, t1, t2, t3⟩
            · rw [e5] at t2
              cases t2
            · rw [e5] at t2
              cases t2
              rw [Nat.zero_add] at t3
              exact ⟨p, m, _, kyD a b, r, rfl, rfl, hp5, hL5.keys j5.sm, hk5.same j5.sm, ky_ok a b, ky_deep da db, t1, q (.ref r.2) F5 _ _ j5 hp5 hL5 t3⟩
          · rw [g2] at q
            rw [g1]
            refine ⟨false, rfl, ?_⟩
            refine ⟨_, rfl, _, rfl, _, rfl, (by show 2 ≤ sizeLine; decide), fun m hm => ?_⟩
            have j5 := Jt.new (o := .tup [x, y]) np1 j1 hm
            have nmp : p ≠ m := fun e => np1 (by rw [e]; exact hm)
            have f3 : F1 m = none := j1.sm.free hm
            have s34 : Same F1 (upd F1 m (.tup [x, y])) := same_upd f3
            have hk5 : Dq K (upd F1 m (.tup [x, y])) (.ref m) (kyD a b) := .tup (SqT.of upd_same) (.cons ((hx.same j1.fs).same s34) (.cons ((hy.same j1.fs).same s34) .nil))
            generalize upd F1 m (.tup [x, y]) = F5 at j5 s34 hk5
            have hp5 : upd H1 m (.tup [x, y]) p = some (NdO w p xs) := by rw [upd_ne nmp]; exact hp1
            generalize upd H1 m (.tup [x, y]) = H5 at j5 hp5 ⊢
            have hL5 := hL1.same s34
            rw [Nat.zero_add] at g3
            exact ⟨p, m, _, kyD a b, r, rfl, rfl, hp5, hL5.keys j5.sm, hk5.same j5.sm, ky_ok a b, ky_deep da db, g1, q (.ref r.2) F5 H5 _ j5 hp5 hL5 (g3.same s34)⟩
      | true =>
        refine ⟨_, rfl, y, b.d, rfl, hy.same sF, b.isP, congrArg V.bl (isPair_d b), ?_⟩
        cases eb : b.isP with
        | false =>
          have hP : (a.isP && b.isP) = false := by rw [ea, eb]; rfl
          refine ⟨_, rfl, _, rfl, ?_⟩
          refine o_eq_run (hx.same sF) (hy.same sF) (Tm.eqD oa ob (by omega) (by omega)) ?_
          have eJ : jn a b L = jl a b L := jn_l hP
          rw [eJ] at q
          unfold jl at q
          refine ⟨decide (a = b), rfl, ?_⟩
          cases eab : decide (a = b) with
          | true =>
            have eab := of_decide_eq_true eab
            refine ⟨_, rfl, x, a.d, rfl, hx.same sF, a.isU, congrArg V.bl (unkD_d oa), ?_⟩
            cases eu : a.isU with
            | false =>
              rw [if_pos ⟨eab, eu⟩] at q
              exact ⟨_, rfl, q x F H xs (Jt.refl sF fp) hp hL hx⟩
            | true =>
              rw [if_neg (fun z => by rw [eu] at z; cases z.2)] at q
              refine ⟨_, rfl, _, rfl, (by show 2 ≤ sizeLine; decide), fun e he => ?_⟩
              have npe : H p ≠ none := by rw [hp]; exact fun z => nomatch z
              have j1 := Jt.new (o := .tup [x, y]) npe (Jt.refl sF fp) he
              have nep : p ≠ e := fun z => npe (by rw [z]; exact he)
              generalize hF1 : upd F e (.tup [x, y]) = F1 at j1
              generalize hH1 : upd H e (.tup [x, y]) = H1 at j1 ⊢
              have hp1 : H1 p = some (NdO w p xs) := by rw [← hH1, upd_ne nep]; exact hp
              have np1 : H1 p ≠ none := by rw [hp1]; exact fun z => nomatch z
              have hk1 : Dq K F1 (.ref e) (kyD a b) := by
                rw [← hF1]
                have f1 : F e = none := sF.free he
                exact .tup (SqT.of upd_same) (.cons (hx.same (same_upd f1)) (.cons (hy.same (same_upd f1)) .nil))
              have hL1 := hL.same j1.fs
              refine ⟨_, rfl, p, e, xs, kyD a b, rfl, rfl, hp1, hL1.keys j1.sm, hk1.same j1.sm, ky_ok a b, ky_deep da db, ?_⟩
              rcases hL1.find (a := a) (b := b) with ⟨g1, g2⟩ | ⟨r, i, g1, g2, g3⟩
              · rw [g2] at q
                rw [g1]
                refine ⟨true, rfl, ?_⟩
                refine ⟨_, rfl, p, xs, rfl, hp1, hL1.keys j1.sm, (by show 1 ≤ sizeLine; decide), fun z hz => ?_⟩
                have j2 := Jt.new (o := .tup [.int xs.length]) np1 j1 hz
                have nzp : p ≠ z := fun e => np1 (by rw [e]; exact hz)
                have f1 : F1 z = none := j1.sm.free hz
                have s12 : Same F1 (upd F1 z (.tup [.int xs.length])) := same_upd f1
                have hv2 : Dq K (upd F1 z (.tup [.int xs.length])) (.ref z) (.tuple [.int xs.length]) := .tup (SqT.of upd_same) (.cons (.int _) .nil)
                generalize upd F1 z (.tup [.int xs.length]) = F2 at j2 s12 hv2
                have hp2 : upd H1 z (.tup [.int xs.length]) p = some (NdO w p xs) := by rw [upd_ne nzp]; exact hp1
                generalize upd H1 z (.tup [.int xs.length]) = H2 at j2 hp2 ⊢
                have np2 : H2 p ≠ none := by rw [hp2]; exact fun z => nomatch z
                refine ⟨_, rfl, _, rfl, _, rfl, (by show 2 ≤ sizeLine; decide), fun k hk => ?_⟩
                have j3 := Jt.new (o := .tup [x, y]) np2 j2 hk
                have nkp : p ≠ k := fun e => np2 (by rw [e]; exact hk)
                have f2 : F2 k = none := j2.sm.free hk
                have s23 : Same F2 (upd F2 k (.tup [x, y])) := same_upd f2
                have hk3 : Dq K (upd F2 k (.tup [x, y])) (.ref k) (kyD a b) := .tup (SqT.of upd_same) (.cons ((hx.same j2.fs).same s23) (.cons ((hy.same j2.fs).same s23) .nil))
                generalize upd F2 k (.tup [x, y]) = F3 at j3 s23 hk3
                have hp3 : upd H2 k (.tup [x, y]) p = some (NdO w p xs) := by rw [upd_ne nkp]; exact hp2
                generalize upd H2 k (.tup [x, y]) = H3 at j3 hp3 ⊢
                have hL3 := (hL1.same s12).same s23
                have el := hL3.len
                have lx : xs.length < sizeLine := by
                  have : (1000 : Nat) < sizeLine := by decide
                  have := a.parts_pos
                  omega
                refine ⟨p, k, z, xs, kyD a b, rfl, rfl, rfl, hp3, hL3.keys j3.sm, hk3.same j3.sm, ky_ok a b, ky_deep da db, lx, g1, ?_⟩
                have j4 := Jt.put (o := NdO w p (xs ++ [(kyD a b, k, z)])) j3
                have hp4 : upd H3 p (NdO w p (xs ++ [(kyD a b, k, z)])) p = some (NdO w p (xs ++ [(kyD a b, k, z)])) := upd_same
                have np4 : upd H3 p (NdO w p (xs ++ [(kyD a b, k, z)])) p ≠ none := by rw [hp4]; exact fun z => nomatch z
                have hL4 : JL K F3 0 (xs ++ [(kyD a b, k, z)]) (L ++ [(a, b)]) := hL3.snoc hk3 da db (by rw [Nat.zero_add, ← el]; exact hv2.same s23)
                refine ⟨_, rfl, _, rfl, _, rfl, (by show 2 ≤ sizeLine; decide), fun m hm => ?_⟩
                have j5 := Jt.new (o := .tup [x, y]) np4 j4 hm
                have hm4 : upd H3 p (NdO w p (xs ++ [(kyD a b, k, z)])) m = none := hm
                have nmp : p ≠ m := fun e => np4 (by rw [← e] at hm4; exact hm4)
                have f3 : F3 m = none := j4.sm.free hm
                have s34 : Same F3 (upd F3 m (.tup [x, y])) := same_upd f3
                have hk5 : Dq K (upd F3 m (.tup [x, y])) (.ref m) (kyD a b) := .tup (SqT.of upd_same) (.cons ((hx.same j4.fs).same s34) (.cons ((hy.same j4.fs).same s34) .nil))
                generalize upd F3 m (.tup [x, y]) = F5 at j5 s34 hk5
                have hp5 : upd (upd H3 p (NdO w p (xs ++ [(kyD a b, k, z)]))) m (.tup [x, y]) p = some (NdO w p (xs ++ [(kyD a b, k, z)])) := by rw [upd_ne nmp]; exact hp4
                have hL5 := hL4.same s34
                have e5 : ixO (L ++ [(a, b)]) (a, b) = some L.length := ixO_last g2
                rcases hL5.find (a := a) (b := b) with ⟨_, t2⟩ | ⟨r, i, t1, t2, t3⟩
                · rw [e5] at t2
                  cases t2
                · rw [e5] at t2
                  cases t2
                  rw [Nat.zero_add] at t3
                  exact ⟨p, m, _, kyD a b, r, rfl, rfl, hp5, hL5.keys j5.sm, hk5.same j5.sm, ky_ok a b, ky_deep da db, t1, q (.ref r.2) F5 _ _ j5 hp5 hL5 t3⟩
              · rw [g2] at q
                rw [g1]
                refine ⟨false, rfl, ?_⟩
                refine ⟨_, rfl, _, rfl, _, rfl, (by show 2 ≤ sizeLine; decide), fun m hm => ?_⟩
                have j5 := Jt.new (o := .tup [x, y]) np1 j1 hm
                have nmp : p ≠ m := fun e => np1 (by rw [e]; exact hm)
                have f3 : F1 m = none := j1.sm.free hm
                have s34 : Same F1 (upd F1 m (.tup [x, y])) := same_upd f3
                have hk5 : Dq K (upd F1 m (.tup [x, y])) (.ref m) (kyD a b) := .tup (SqT.of upd_same) (.cons ((hx.same j1.fs).same s34) (.cons ((hy.same j1.fs).same s34) .nil))
                generalize upd F1 m (.tup [x, y]) = F5 at j5 s34 hk5
                have hp5 : upd H1 m (.tup [x, y]) p = some (NdO w p xs) := by rw [upd_ne nmp]; exact hp1
                generalize upd H1 m (.tup [x, y]) = H5 at j5 hp5 ⊢
                have hL5 := hL1.same s34
                rw [Nat.zero_add] at g3
                exact ⟨p, m, _, kyD a b, r, rfl, rfl, hp5, hL5.keys j5.sm, hk5.same j5.sm, ky_ok a b, ky_deep da db, g1, q (.ref r.2) F5 H5 _ j5 hp5 hL5 (g3.same s34)⟩
          | false =>
            have eab := of_decide_eq_false eab
            rw [if_neg (fun z => eab z.1)] at q
            refine ⟨_, rfl, _, rfl, (by show 2 ≤ sizeLine; decide), fun e he => ?_⟩
            have npe : H p ≠ none := by rw [hp]; exact fun z => nomatch z
            have j1 := Jt.new (o := .tup [x, y]) npe (Jt.refl sF fp) he
            have nep : p ≠ e := fun z => npe (by rw [z]; exact he)
            generalize hF1 : upd F e (.tup [x, y]) = F1 at j1
            generalize hH1 : upd H e (.tup [x, y]) = H1 at j1 ⊢
            have hp1 : H1 p = some (NdO w p xs) := by rw [← hH1, upd_ne nep]; exact hp
            have np1 : H1 p ≠ none := by rw [hp1]; exact fun z => nomatch z
            have hk1 : Dq K F1 (.ref e) (kyD a b) := by
              rw [← hF1]
              have f1 : F e = none := sF.free he
              exact .tup (SqT.of upd_same) (.cons (hx.same (same_upd f1)) (.cons (hy.same (same_upd f1)) .nil))
            have hL1 := hL.same j1.fs
            refine ⟨_, rfl, p, e, xs, kyD a b, rfl, rfl, hp1, hL1.keys j1.sm, hk1.same j1.sm, ky_ok a b, ky_deep da db, ?_⟩
            rcases hL1.find (a := a) (b := b) with ⟨g1, g2⟩ | ⟨r, i, g1, g2, g3⟩
            · rw [g2] at q
              rw [g1]
              refine ⟨true, rfl, ?_⟩
              refine ⟨_, rfl, p, xs, rfl, hp1, hL1.keys j1.sm, (by show 1 ≤ sizeLine; decide), fun z hz => ?_⟩
              have j2 := Jt.new (o := .tup [.int xs.length]) np1 j1 hz
              have nzp : p ≠ z := fun e => np1 (by rw [e]; exact hz)
              have f1 : F1 z = none := j1.sm.free hz
              have s12 : Same F1 (upd F1 z (.tup [.int xs.length])) := same_upd f1
              have hv2 : Dq K (upd F1 z (.tup [.int xs.length])) (.ref z) (.tuple [.int xs.length]) := .tup (SqT.of upd_same) (.cons (.int _) .nil)
              generalize upd F1 z (.tup [.int xs.length]) = F2 at j2 s12 hv2
              have hp2 : upd H1 z (.tup [.int xs.length]) p = some (NdO w p xs) := by rw [upd_ne nzp]; exact hp1
              generalize upd H1 z (.tup [.int xs.length]) = H2 at j2 hp2 ⊢
              have np2 : H2 p ≠ none := by rw [hp2]; exact fun z => nomatch z
              refine ⟨_, rfl, _, rfl, _, rfl, (by show 2 ≤ sizeLine; decide), fun k hk => ?_⟩
              have j3 := Jt.new (o := .tup [x, y]) np2 j2 hk
              have nkp : p ≠ k := fun e => np2 (by rw [e]; exact hk)
              have f2 : F2 k = none := j2.sm.free hk
              have s23 : Same F2 (upd F2 k (.tup [x, y])) := same_upd f2
              have hk3 : Dq K (upd F2 k (.tup [x, y])) (.ref k) (kyD a b) := .tup (SqT.of upd_same) (.cons ((hx.same j2.fs).same s23) (.cons ((hy.same j2.fs).same s23) .nil))
              generalize upd F2 k (.tup [x, y]) = F3 at j3 s23 hk3
              have hp3 : upd H2 k (.tup [x, y]) p = some (NdO w p xs) := by rw [upd_ne nkp]; exact hp2
              generalize upd H2 k (.tup [x, y]) = H3 at j3 hp3 ⊢
              have hL3 := (hL1.same s12).same s23
              have el := hL3.len
              have lx : xs.length < sizeLine := by
                have : (1000 : Nat) < sizeLine := by decide
                have := a.parts_pos
                omega
              refine ⟨p, k, z, xs, kyD a b, rfl, rfl, rfl, hp3, hL3.keys j3.sm, hk3.same j3.sm, ky_ok a b, ky_deep da db, lx, g1, ?_⟩
              have j4 := Jt.put (o := NdO w p (xs ++ [(kyD a b, k, z)])) j3
              have hp4 : upd H3 p (NdO w p (xs ++ [(kyD a b, k, z)])) p = some (NdO w p (xs ++ [(kyD a b, k, z)])) := upd_same
              have np4 : upd H3 p (NdO w p (xs ++ [(kyD a b, k, z)])) p ≠ none := by rw [hp4]; exact fun z => nomatch z
              have hL4 : JL K F3 0 (xs ++ [(kyD a b, k, z)]) (L ++ [(a, b)]) := hL3.snoc hk3 da db (by rw [Nat.zero_add, ← el]; exact hv2.same s23)
              refine ⟨_, rfl, _, rfl, _, rfl, (by show 2 ≤ sizeLine; decide), fun m hm => ?_⟩
              have j5 := Jt.new (o := .tup [x, y]) np4 j4 hm
              have hm4 : upd H3 p (NdO w p (xs ++ [(kyD a b, k, z)])) m = none := hm
              have nmp : p ≠ m := fun e => np4 (by rw [← e] at hm4; exact hm4)
              have f3 : F3 m = none := j4.sm.free hm
              have s34 : Same F3 (upd F3 m (.tup [x, y])) := same_upd f3
              have hk5 : Dq K (upd F3 m (.tup [x, y])) (.ref m) (kyD a b) := .tup (SqT.of upd_same) (.cons ((hx.same j4.fs).same s34) (.cons ((hy.same j4.fs).same s34) .nil))
              generalize upd F3 m (.tup [x, y]) = F5 at j5 s34 hk5
              have hp5 : upd (upd H3 p (NdO w p (xs ++ [(kyD a b, k, z)]))) m (.tup [x, y]) p = some (NdO w p (xs ++ [(kyD a b, k, z)])) := by rw [upd_ne nmp]; exact hp4
              have hL5 := hL4.same s34
              have e5 : ixO (L ++ [(a, b)]) (a, b) = some L.length := ixO_last g2
              rcases hL5.find (a := a) (b := b) with ⟨_, t2⟩ | ⟨r, i, t1, t2, t3⟩
              · rw [e5] at t2
                cases t2
              · rw [e5] at t2
                cases t2
                rw [Nat.zero_add] at t3
                exact ⟨p, m, _, kyD a b, r, rfl, rfl, hp5, hL5.keys j5.sm, hk5.same j5.sm, ky_ok a b, ky_deep da db, t1, q (.ref r.2) F5 _ _ j5 hp5 hL5 t3⟩
            · rw [g2] at q
              rw [g1]
              refine ⟨false, rfl, ?_⟩
              refine ⟨_, rfl, _, rfl, _, rfl, (by show 2 ≤ sizeLine; decide), fun m hm => ?_⟩
              have j5 := Jt.new (o := .tup [x, y]) np1 j1 hm
              have nmp : p ≠ m := fun e => np1 (by rw [e]; exact hm)
              have f3 : F1 m = none := j1.sm.free hm
              have s34 : Same F1 (upd F1 m (.tup [x, y])) := same_upd f3
              have hk5 : Dq K (upd F1 m (.tup [x, y])) (.ref m) (kyD a b) := .tup (SqT.of upd_same) (.cons ((hx.same j1.fs).same s34) (.cons ((hy.same j1.fs).same s34) .nil))
              generalize upd F1 m (.tup [x, y]) = F5 at j5 s34 hk5
              have hp5 : upd H1 m (.tup [x, y]) p = some (NdO w p xs) := by rw [upd_ne nmp]; exact hp1
              generalize upd H1 m (.tup [x, y]) = H5 at j5 hp5 ⊢
              have hL5 := hL1.same s34
              rw [Nat.zero_add] at g3
              exact ⟨p, m, _, kyD a b, r, rfl, rfl, hp5, hL5.keys j5.sm, hk5.same j5.sm, ky_ok a b, ky_deep da db, g1, q (.ref r.2) F5 H5 _ j5 hp5 hL5 (g3.same s34)⟩
        | true =>
          cases a with
          | nm _ => cases ea
          | nu _ => cases ea
          | un _ => cases ea
          | pr a1 a2 =>
            cases b with
            | nm _ => cases eb
            | nu _ => cases eb
            | un _ => cases eb
            | pr b1 b2 =>
              obtain ⟨pa, x1, x2, rfl, ha, hx1, hx2⟩ := hx.pr_d
              obtain ⟨pb, y1, y2, rfl, hb, hy1, hy2⟩ := hy.pr_d
              have dn : 1 + max a1.deep a2.deep ≤ n + 1 := dn
              have da : 1 + max a1.deep a2.deep ≤ 6 := da
              have db : 1 + max b1.deep b2.deep ≤ 6 := db
              have ll : L.length + (1 + a1.parts + a2.parts) ≤ 1000 := ll
              refine ⟨_, rfl, pa, _, 0, x1, rfl, rfl, seqT sF ha, atI_nat (j := 0) rfl, _, rfl, pb, _, 0, y1, rfl, rfl, seqT sF hb, atI_nat (j := 0) rfl, _, rfl, ?_⟩
              refine ⟨F, x1, y1, p, xs, a1, b1, L, rfl, sF, fp, hx1, hy1, oa.1, ob.1, by omega, by omega, by omega, hp, hL, by omega, fun v F1 H1 xs1 j1 hp1 hL1 hv => ?_⟩
              have np1 : H1 p ≠ none := by rw [hp1]; exact fun z => nomatch z
              refine ⟨_, rfl, _, rfl, pa, _, 1, x2, rfl, rfl, seqT (j1.fs.trans j1.sm) ha, atI_nat (j := 1) rfl, _, rfl, pb, _, 1, y2, rfl, rfl, seqT (j1.fs.trans j1.sm) hb, atI_nat (j := 1) rfl, _, rfl, ?_⟩
              have l1 := jn_len a1 b1 L
              refine ⟨F1, x2, y2, p, xs1, a2, b2, (jn a1 b1 L).2, rfl, j1.sm, j1.fp, hx2.same j1.fs, hy2.same j1.fs, oa.2, ob.2, by omega, by omega, by omega, hp1, hL1, by omega, fun u F2 H2 xs2 j2 hp2 hL2 hu => ?_⟩
              have np2 : H2 p ≠ none := by rw [hp2]; exact fun z => nomatch z
              refine ⟨(by show 2 ≤ sizeLine; decide), fun z hz => ?_⟩
              have f2 : F2 z = none := j2.sm.free hz
              have nz : p ≠ z := fun e => np2 (by rw [e]; exact hz)
              refine q (.ref z) (upd F2 z (.tup [v, u])) _ xs2 (Jt.new np2 (j1.trans np1 j2) hz) (by rw [upd_ne nz]; exact hp2) (hL2.same (same_upd f2)) (.tup (SqT.of upd_same) (.cons ((hv.same j2.fs).same (same_upd f2)) (.cons (hu.same (same_upd f2)) .nil)))
def sp_joined (K : PySem.W.Frag) : Sp := fun vs H Q _ => ∃ (F : Hp) (x y : V) (a b : Tm), vs = [x, y] ∧ Same F H ∧ Dq K F x a.d ∧ Dq K F y b.d ∧ a.ok ∧ b.ok ∧ a.deep ≤ 6 ∧ b.deep ≤ 6 ∧
  ∀ v F' H', Same F F' → (∀ b, F' b ≠ none → F b ≠ none ∨ H b = none) → Same F' H' → Same H H' → Dq K F' v (jn a b []).1.d → Q v H'
theorem Tm.okTh {t : Tm} (h : t.ok) : OkTh t.th := ⟨t.nf, by rw [t.toD]; exact Tm.fine h⟩
theorem Tm.isTerm' {t : Tm} (h : t.ok) (hd : t.deep ≤ 6) : t.th.isTerm = true := by
  have := Tm.isTerm h hd
  rw [t.of] at this
  exact this
theorem ok_joined (T : Env K mg) : FnOk P w K mg base CX0 11 T.a_joined T.d_joined ["one", "other"] (sp_joined K) := by
  have G_need_term : FnOk P w K mg base CX0 10 T.a_need_term T.d_need_term ["thing"] (calm (sp_need_term K T.a_NoTerm)) := (calm_ok (ok_need_term T)).mono (by decide)
  have G_joined_within : FnOk P w K mg base CX0 10 T.a_joined_within T.d_joined_within ["one", "other", "found"] (sp_joined_within K w 6) := ok_joined_within T 6
  refine T.F_joined.ok sc_joined (fun vs H Q E h => ?_) (fun cdv A outer s H vs Q E hr h => ?_)
  · obtain ⟨F, x, y, a, b, rfl, _⟩ := h
    rfl
  · obtain ⟨F, x, y, a, b, rfl, sF, hx, hy, oa, ob, da, db, q⟩ := h
    have hr_need_term := hr
    have hr_joined_within := hr
    refine ⟨_, (pss_cons (ps_expr (pe_call G_need_term hr_need_term (by rfl) T.g_need_term T.F_need_term.kp T.b_need_term .nil pass0 (pa_cons (pv 0) pa_nil)))
      (pss_cons (ps_expr (pe_call G_need_term hr_need_term (by rfl) T.g_need_term T.F_need_term.kp T.b_need_term .nil pass0 (pa_cons (pv 1) pa_nil)))
      (pss_one (ps_ret (pe_call G_joined_within hr_joined_within (by rfl) T.g_joined_within T.F_joined_within.kp T.b_joined_within .nil pass0 (pa_cons (pv 0) (pa_cons (pv 1) (pa_cons pe_nnew pa_nil)))))))), ?_⟩
    refine ⟨_, rfl, x, a.th, rfl, by rw [a.toD]; exact hx.same sF, Tm.okTh oa, fun _ H1 s1 => ?_, fun e => ?_⟩
    · refine ⟨_, rfl, y, b.th, rfl, by rw [b.toD]; exact (hy.same sF).same s1, Tm.okTh ob, fun _ H2 s2 => ?_, fun e => ?_⟩
      · refine ⟨_, rfl, _, rfl, fun p hp => ?_⟩
        have s02 : Same H H2 := s1.trans s2
        have sF2 : Same F H2 := sF.trans s02
        have fp : F p = none := sF2.free hp
        have h3 : Same H2 (upd H2 p (NdO w p [])) := same_upd hp
        have pa := a.parts_deep 6 da
        refine ⟨F, x, y, p, [], a, b, [], rfl, sF2.trans h3, fp, hx, hy, oa, ob, da, da, db, upd_same, .nil, ?_, fun v F' H' xs' j _ _ hv => ?_⟩
        · show 0 + a.parts ≤ 1000
          omega
        · refine q v F' H' j.fs (fun c z => ?_) j.sm (fun c o z => ?_) hv
          · rcases j.nw c z with z | z
            · exact .inl z
            · exact .inr ((s02.trans h3).free z)
          · refine j.off c o (fun e => ?_) (h3 c o (s02 c o z))
            subst e
            have := s02 c o z
            rw [hp] at this
            cases this
      · rw [Tm.isTerm' ob db] at e
        cases e
    · rw [Tm.isTerm' oa da] at e
      cases e
open Classical in
noncomputable def m_joined : Mf := fun ts => if h : ∃ q : Tm × Tm, ts = [.f q.1.d, .f q.2.d] ∧ q.1.ok ∧ q.2.ok ∧ q.1.deep ≤ 6 ∧ q.2.deep ≤ 6 then .ok (.f (jn h.choose.1 h.choose.2 []).1.d) [none, none] else .no
theorem e_joined {a b : Tm} (oa : a.ok) (ob : b.ok) (da : a.deep ≤ 6) (db : b.deep ≤ 6) : m_joined [.f a.d, .f b.d] = .ok (.f (jn a b []).1.d) [none, none] := by
  have h : ∃ q : Tm × Tm, [T.f a.d, T.f b.d] = [.f q.1.d, .f q.2.d] ∧ q.1.ok ∧ q.2.ok ∧ q.1.deep ≤ 6 ∧ q.2.deep ≤ 6 := ⟨(a, b), rfl, oa, ob, da, db⟩
  unfold m_joined
  rw [dif_pos h]
  obtain ⟨e, _⟩ := h.choose_spec
  have e1 : a = h.choose.1 := Tm.d_inj (T.f.inj (List.cons.inj e).1)
  have e2 : b = h.choose.2 := Tm.d_inj (T.f.inj (List.cons.inj (List.cons.inj e).2).1)
  rw [← e1, ← e2]
theorem okp_joined (T : Env K mg) {xa : Nat → Addr} : FnG P w K mg base (L2.CX P w) 11 T.a_joined T.d_joined ["one", "other"] (spM K xa m_joined) := fnM_of (ok_joined T) fun vs H Q E h => by
  obtain ⟨F, ts, S, re, gd, q⟩ := h
  unfold m_joined at q
  split at q
  · rename_i c
    obtain ⟨e, oa, ob, da, db⟩ := c.choose_spec
    generalize c.choose = ab at e oa ob da db q
    subst e
    obtain ⟨hl, Sf, h1, _, _⟩ := re
    match vs, hl with
    | [x, y], _ =>
      obtain ⟨v0, e0, r0⟩ := h1 0 (.f ab.1.d) rfl
      obtain ⟨v1, e1, r1⟩ := h1 1 (.f ab.2.d) rfl
      cases e0
      cases e1
      refine ⟨F, x, y, ab.1, ab.2, rfl, gd.sm, r0.dq, r1.dq, oa, ob, da, db, fun v F' H' s1 nw s2 s3 hv => ?_⟩
      have to : To F H S F' H' S := by
        refine ⟨fun b o e _ => s3 b o e, s1, fun b z => ?_, fun _ z => .inl z, s2, fun b z => ?_⟩
        · rcases nw b z with z | z
          · exact .inl z
          · exact .inr (.inr z)
        · obtain ⟨z1, z2⟩ := gd.ow b z
          refine ⟨?_, ?_⟩
          · cases e : H b with
            | none => exact absurd e z1
            | some o =>
              rw [s3 b o e]
              exact fun z => nomatch z
          · cases e : F' b with
            | none => rfl
            | some o =>
              rcases nw b (by rw [e]; exact fun z => nomatch z) with z | z
              · exact absurd z2 z
              · exact absurd z z1
      exact q v F' H' noS S (to.wk fun b z => z.elim (fun z => z.elim) id) (fun _ z => z.elim) (.f hv) (env_none rfl)
  · exact q.elim
end


def xaOf {K : PySem.W.Frag} {mg : Str → Option Value} (T : Env K mg) : Nat → Addr
  | 0 => T.a_SeekError
  | 1 => T.a_NoTerm
  | _ => 0
theorem hr_ {k : Nat} {A : Around} (h : Room k A) : A.units + 64 < cLine := h.units
theorem kit_two {K : PySem.W.Frag} {t a b : Value} {x y : Bool} (h1 : PySem.W.kitOne K t a = some x) (h2 : PySem.W.kitOne K t b = some y) : PySem.W.kitAny K t [a, b] = some (x || y) := by
  unfold PySem.W.kitAny
  rw [h1]
  cases x with
  | true => rfl
  | false =>
    show PySem.W.kitAny K t [b] = _
    unfold PySem.W.kitAny
    rw [h2]
    cases y <;> rfl
theorem XF {K : PySem.W.Frag} {mg : Str → Option Value} (T : Env K mg) : XFacts K (xaOf T) [1] := by
  refine ⟨fun c hc x hx => ?_, fun c hc x hx => ?_, fun c hc => ?_⟩
  · simp only [List.mem_cons, List.not_mem_nil, or_false] at hc hx
    rcases hc with rfl <;> rcases hx with rfl | rfl
    · exact T.em_NoTerm_SeekError
    · exact T.em_NoTerm_NoTerm
  · simp only [List.mem_cons, List.not_mem_nil, or_false] at hc hx
    rcases hc with rfl <;> rcases hx with rfl | rfl
    · exact T.km_NoTerm_SeekError
    · exact T.km_NoTerm_NoTerm
  · simp only [List.mem_cons, List.not_mem_nil, or_false] at hc
    rcases hc with rfl
    · exact T.y_NoTerm

theorem only_NoTerm {c : Nat} (hc : c ∈ ([1] : List Nat)) (hs : exSub c 1 = true) : c = 1 := by
  simp only [List.mem_cons, List.not_mem_nil, or_false] at hc
  rcases hc with rfl <;> first | rfl | exact absurd hs (by decide)
theorem xf_NoTerm {K : PySem.W.Frag} {mg : Str → Option Value} (T : Env K mg) {c : Nat} (hc : c ∈ ([1] : List Nat)) (hs : exSub c 1 = true) : XfC K (xaOf T c) := by
  rw [only_NoTerm hc hs]
  exact T.f_NoTerm
theorem nf_NoTerm_found {K : PySem.W.Frag} {mg : Str → Option Value} (T : Env K mg) {c : Nat} (hc : c ∈ ([1] : List Nat)) (hs : exSub c 1 = true) : PySem.W.findIn K (.ref (xaOf T c)) "found" = some none := by
  rw [only_NoTerm hc hs]
  exact T.n_NoTerm_found
section
variable {P : Program} {w : World} {K : PySem.W.Frag} {mg : Str → Option Value} {base : Heap}
def b_need_term : MS := (sIf (bNot (bV (vFz (eCall m_is_term [] (aCons (vVar 0) aNil))))) (sRaise 1 "found" (vVar 0)) sNx)
def m_need_term : Mf := mFn [false] 1 b_need_term
theorem okm_need_term (T : Env K mg) : FnG P w K mg base (L2.CX P w) 6 T.a_need_term T.d_need_term ["thing"] (spM K (xaOf T) m_need_term) := by
  have G_is_term : FnG P w K mg base (L2.CX P w) (5) T.a_is_term T.d_is_term ["thing"] (spM K (xaOf T) m_is_term) := (okp_is_term T).mono (by omega)
  show FnG P w K mg base (L2.CX P w) (5 + 1) T.a_need_term T.d_need_term ["thing"] (spM K (xaOf T) (mFn [false] (["thing"] : List Str).length b_need_term))
  exact fnM (P := P) (w := w) (base := base) (mg := mg) (xa := xaOf T) (k := 5) (lent := [false]) (body := b_need_term) T.F_need_term sc_need_term rfl (by decide) fun cdv A outer s H E hr hgd => (qss_one (qs_if (qb_not (qb_val (qv_fz (qe_call G_is_term hr hgd (takes_of rfl rfl rfl rfl) (by rfl) T.g_is_term T.F_is_term.kp T.b_is_term .nil (fun _ => .nil) (qa_cons (qv_var (pv 0)) qa_nil))))) (qss_one (qs_raise (c := 1) (qv_var (pv 0)) fun _ p => ps_raise (by rfl) (takes_of rfl rfl rfl rfl) (pmk_oex T.x_NoTerm T.ii_NoTerm T.ti_NoTerm (ok_NoTerm T) (hr.mono (by decide)) T.bi_NoTerm .nil pass0 (by rfl) T.g_NoTerm (pa_cons p pa_nil)))) qss_nil))
def b_turned_into (self : Mf) : MS := (sSeq (sIf (bV (vFz (eCall m_is_pair [] (aCons (vVar 0) aNil)))) (sRet (vN pTup (aCons (vFz (eCallL self [(1, 1)] (rV (v2 pIx (vVar 0) (vC (PyData.int 0))) (rL 1 rNil)))) (aCons (vFz (eCallL self [(1, 1)] (rV (v2 pIx (vVar 0) (vC (PyData.int 1))) (rL 1 rNil)))) aNil)))) sNx)
  (sSeq (sIf (bV (vFz (eCall m_is_unknown [] (aCons (vVar 0) aNil)))) (sRet (vDGet2 1 (v2 pIx (vVar 0) (vC (PyData.int 0))) (vVar 0))) sNx)
  (sRet (vVar 0))))
def m_turned_into : Nat → Mf
  | 0 => fun _ => .no
  | n + 1 => mFn [false, true] 2 (b_turned_into (m_turned_into n))
theorem okm_turned_into (T : Env K mg) : ∀ n : Nat, FnG P w K mg base (L2.CX P w) (3 + n) T.a_turned_into T.d_turned_into ["term", "values"] (spM K (xaOf T) (m_turned_into n))
  | 0 => fnM_no
  | n + 1 => by
    have G_turned_into : FnG P w K mg base (L2.CX P w) (3 + n) T.a_turned_into T.d_turned_into ["term", "values"] (spM K (xaOf T) (m_turned_into n)) := okm_turned_into T n
    have G_is_pair : FnG P w K mg base (L2.CX P w) (3 + n) T.a_is_pair T.d_is_pair ["term"] (spM K (xaOf T) m_is_pair) := (okp_is_pair T).mono (by omega)
    have G_is_unknown : FnG P w K mg base (L2.CX P w) (3 + n) T.a_is_unknown T.d_is_unknown ["thing"] (spM K (xaOf T) m_is_unknown) := (okp_is_unknown T).mono (by omega)
    show FnG P w K mg base (L2.CX P w) (3 + n + 1) T.a_turned_into T.d_turned_into ["term", "values"] (spM K (xaOf T) (mFn [false, true] (["term", "values"] : List Str).length (b_turned_into (m_turned_into n))))
    exact fnM (P := P) (w := w) (base := base) (mg := mg) (xa := xaOf T) (k := 3 + n) (lent := [false, true]) (body := b_turned_into (m_turned_into n)) T.F_turned_into sc_turned_into rfl (by decide) fun cdv A outer s H E hr hgd => (qss_cons (qs_if (qb_val (qv_fz (qe_call G_is_pair hr hgd (takes_of rfl rfl rfl rfl) (by rfl) T.g_is_pair T.F_is_pair.kp T.b_is_pair .nil (fun _ => .nil) (qa_cons (qv_var (pv 0)) qa_nil)))) (qss_one (qs_ret (qv_tup (qa_cons (qv_fz (qe_callL G_turned_into hr hgd (takes_of rfl rfl rfl rfl) (by rfl) T.g_turned_into T.F_turned_into.kp T.b_turned_into (qr_v (qv_ix (qv_var (pv 0)) qv_int (fun _ _ => rfl)) (qr_l (pv 1) qr_nil)))) (qa_cons (qv_fz (qe_callL G_turned_into hr hgd (takes_of rfl rfl rfl rfl) (by rfl) T.g_turned_into T.F_turned_into.kp T.b_turned_into (qr_v (qv_ix (qv_var (pv 0)) qv_int (fun _ _ => rfl)) (qr_l (pv 1) qr_nil)))) qa_nil))))) qss_nil)
    (qss_cons (qs_if (qb_val (qv_fz (qe_call G_is_unknown hr hgd (takes_of rfl rfl rfl rfl) (by rfl) T.g_is_unknown T.F_is_unknown.kp T.b_is_unknown .nil (fun _ => .nil) (qa_cons (qv_var (pv 0)) qa_nil)))) (qss_one (qs_ret (qv_dget2 (hu_of hr) (pv 1) (qv_ix (qv_var (pv 0)) qv_int (fun _ _ => rfl)) (qv_var (pv 0)) ⟨rfl, rfl, rfl, rfl⟩))) qss_nil)
    (qss_one (qs_ret (qv_var (pv 0))))))
def b_by_coming : MS := (sSeq (sIf (bNot (bV (vIsi (fun k => Kn.isLst k || Kn.isTup k) (vVar 0)))) (sRaise 1 "found" (vVar 0)) sNx)
  (sSeq (sSetE 1 eD0)
  (sSeq (sFor (iSeq (vVar 0)) (Tg.nm 2) (sSeq (sExpr (vFz (eCall m_need_term [] (aCons (vVar 2) aNil))))
  (sFor (iSeq (vFz (eCall m_numbers_in [] (aCons (vVar 2) aNil)))) (Tg.nm 3) (sIf (bV (vDIn true (vVar 3) 1)) (sDPut 1 (vVar 3) (vN pTup (aCons (vDLen 1) aNil))) sNx))))
  (sRetE (eLc [2] (iSeq (vVar 0)) (Tg.nm 2) bYes (vFz (eCallL (m_turned_into 110) [(1, 1)] (rV (vVar 2) (rL 1 rNil)))))))))
def m_by_coming : Mf := mFn [false] 4 b_by_coming
theorem okm_by_coming (T : Env K mg) : FnG P w K mg base (L2.CX P w) 114 T.a_by_coming T.d_by_coming ["terms"] (spM K (xaOf T) m_by_coming) := by
  have G_need_term : FnG P w K mg base (L2.CX P w) (113) T.a_need_term T.d_need_term ["thing"] (spM K (xaOf T) m_need_term) := (okm_need_term T).mono (by omega)
  have G_numbers_in : FnG P w K mg base (L2.CX P w) (113) T.a_numbers_in T.d_numbers_in ["term"] (spM K (xaOf T) m_numbers_in) := (okp_numbers_in T).mono (by omega)
  have G_turned_into : FnG P w K mg base (L2.CX P w) (113) T.a_turned_into T.d_turned_into ["term", "values"] (spM K (xaOf T) (m_turned_into 110)) := (okm_turned_into T 110).mono (by omega)
  show FnG P w K mg base (L2.CX P w) (113 + 1) T.a_by_coming T.d_by_coming ["terms"] (spM K (xaOf T) (mFn [false] (["terms", "values", "term", "number"] : List Str).length b_by_coming))
  exact fnM (P := P) (w := w) (base := base) (mg := mg) (xa := xaOf T) (k := 113) (lent := [false]) (body := b_by_coming) T.F_by_coming sc_by_coming rfl (by decide) fun cdv A outer s H E hr hgd => (qss_cons (qs_if (qb_not (qb_val (qv_isi2 (fun k => kit_two (kit_lst k) (kit_tup k)) (by rfl) T.m_isinstance (qv_var (pv 0)) (pe_bltn (v := .ty "list") (by rfl) T.m_list PyProof.Rows.boot_list rfl) (pe_bltn (v := .ty "tuple") (by rfl) T.m_tuple PyProof.Rows.boot_tuple rfl) (x := "")))) (qss_one (qs_raise (c := 1) (qv_var (pv 0)) fun _ p => ps_raise (by rfl) (takes_of rfl rfl rfl rfl) (pmk_oex T.x_NoTerm T.ii_NoTerm T.ti_NoTerm (ok_NoTerm T) (hr.mono (by decide)) T.bi_NoTerm .nil pass0 (by rfl) T.g_NoTerm (pa_cons p pa_nil)))) qss_nil)
    (qss_cons (qs_setE (i := 1) (by rfl) qe_d0 fun _ p => ps_set (i := 1) sc_by_coming.nd rfl (Or.inr rfl) p)
    (qss_cons (qs_for (by rfl) (qi_seq (qv_var (pv 0))) ⟨_, (pg_name (i := 2) sc_by_coming.nd rfl (Or.inl rfl)), (simg_nm 2)⟩ (qss_cons (qs_expr (qv_fz (qe_call G_need_term hr hgd (takes_of rfl rfl rfl rfl) (by rfl) T.g_need_term T.F_need_term.kp T.b_need_term .nil (fun _ => .nil) (qa_cons (qv_var (pv 2)) qa_nil))) fun _ p => ps_expr p)
    (qss_one (qs_for (by rfl) (qi_seq (qv_fz (qe_call G_numbers_in hr hgd (takes_of rfl rfl rfl rfl) (by rfl) T.g_numbers_in T.F_numbers_in.kp T.b_numbers_in .nil (fun _ => .nil) (qa_cons (qv_var (pv 2)) qa_nil)))) ⟨_, (pg_name (i := 3) sc_by_coming.nd rfl (Or.inl rfl)), (simg_nm 3)⟩ (qss_one (qs_if (qb_dnotin (hu_of hr) (pv 1) (qv_var (pv 3)) fun _ p => pt_cmp p) (qss_one (qs_dput (hu_of hr) (pv 1) (qv_var (pv 3)) (qv_tup (qa_cons (qv_dlen (pe_callB call_lenA (by rfl) T.m_len PySem.boot_len (pa_cons (pv 1) pa_nil))) qa_nil)) rfl)) qss_nil)) fun _ _ _ p1 p2 p3 => ps_for (passes_of rfl) (by rfl) p1 p2 p3))) fun _ _ _ p1 p2 p3 => ps_for (passes_of rfl) (by rfl) p1 p2 p3)
    (qss_one (qs_retE (qe_lc (own := [("term", 2)]) (g := (Tg.nm 2)) (by decide) (by rfl) sc_by_coming.nd (qi_seq (qv_var (pv 0))) (blkOk_by (own := [("term", 2)]) (N := ["terms", "values", "term", "number"]) (sc := defScope s_by_coming) (by decide +kernel)) (fun _ => (pg_name (i := 2) sc_by_coming.nd rfl (Or.inl rfl))) (simg_nm 2) (fun _ => qts_nil) (fun _ => (qv_fz (qe_callL G_turned_into hr hgd takes0 (by rfl) T.g_turned_into T.F_turned_into.kp T.b_turned_into (qr_v (qv_var (pv 2)) (qr_l (pv 1) qr_nil)))))))))))
def b_instance : MS := (sSeq (sExpr (vFz (eCall m_need_term [] (aCons (vVar 0) aNil))))
  (sSeq (sExpr (vFz (eCall m_need_term [] (aCons (vVar 1) aNil))))
  (sSeq (sSetE 2 eD0)
  (sSeq (sSetE 3 (eLst (aCons (vN pTup (aCons (vVar 0) (aCons (vVar 1) aNil))) aNil)))
  (sSeq (sWhile 1000000 (bNil true 3) (sSeq (sAsg (Tg.tp [(Tg.nm 4), (Tg.nm 5)]) (vPop 3))
  (sIf (bV (vFz (eCall m_is_unknown [] (aCons (vVar 4) aNil)))) (sIf (bV (v2 pNe (vDSetd 2 (v2 pIx (vVar 4) (vC (PyData.int 0))) (vVar 5)) (vVar 5))) (sRet (vC PyData.none)) sNx) (sIf (bAnd (bV (vFz (eCall m_is_pair [] (aCons (vVar 4) aNil)))) (bV (vFz (eCall m_is_pair [] (aCons (vVar 5) aNil))))) (sExpr (vExt 3 (aCons (vN pTup (aCons (v2 pIx (vVar 4) (vC (PyData.int 1))) (aCons (v2 pIx (vVar 5) (vC (PyData.int 1))) aNil))) (aCons (vN pTup (aCons (v2 pIx (vVar 4) (vC (PyData.int 0))) (aCons (v2 pIx (vVar 5) (vC (PyData.int 0))) aNil))) aNil)))) (sIf (bV (v2 pNe (vVar 4) (vVar 5))) (sRet (vC PyData.none)) sNx)))))
  (sRetE (eSortIt 2)))))))
def m_instance : Mf := mFn [false, false] 6 b_instance
theorem okm_instance (T : Env K mg) : FnG P w K mg base (L2.CX P w) 7 T.a_instance T.d_instance ["wider", "term"] (spM K (xaOf T) m_instance) := by
  have G_need_term : FnG P w K mg base (L2.CX P w) (6) T.a_need_term T.d_need_term ["thing"] (spM K (xaOf T) m_need_term) := (okm_need_term T).mono (by omega)
  have G_is_unknown : FnG P w K mg base (L2.CX P w) (6) T.a_is_unknown T.d_is_unknown ["thing"] (spM K (xaOf T) m_is_unknown) := (okp_is_unknown T).mono (by omega)
  have G_is_pair : FnG P w K mg base (L2.CX P w) (6) T.a_is_pair T.d_is_pair ["term"] (spM K (xaOf T) m_is_pair) := (okp_is_pair T).mono (by omega)
  show FnG P w K mg base (L2.CX P w) (6 + 1) T.a_instance T.d_instance ["wider", "term"] (spM K (xaOf T) (mFn [false, false] (["wider", "term", "found", "left", "one", "other"] : List Str).length b_instance))
  exact fnM (P := P) (w := w) (base := base) (mg := mg) (xa := xaOf T) (k := 6) (lent := [false, false]) (body := b_instance) T.F_instance sc_instance rfl (by decide) fun cdv A outer s H E hr hgd => (qss_cons (qs_expr (qv_fz (qe_call G_need_term hr hgd (takes_of rfl rfl rfl rfl) (by rfl) T.g_need_term T.F_need_term.kp T.b_need_term .nil (fun _ => .nil) (qa_cons (qv_var (pv 0)) qa_nil))) fun _ p => ps_expr p)
    (qss_cons (qs_expr (qv_fz (qe_call G_need_term hr hgd (takes_of rfl rfl rfl rfl) (by rfl) T.g_need_term T.F_need_term.kp T.b_need_term .nil (fun _ => .nil) (qa_cons (qv_var (pv 1)) qa_nil))) fun _ p => ps_expr p)
    (qss_cons (qs_setE (i := 2) (by rfl) qe_d0 fun _ p => ps_set (i := 2) sc_instance.nd rfl (Or.inl rfl) p)
    (qss_cons (qs_setE (i := 3) (by rfl) (qe_lst (qa_cons (qv_tup (qa_cons (qv_var (pv 0)) (qa_cons (qv_var (pv 1)) qa_nil))) qa_nil)) fun _ p => ps_set (i := 3) sc_instance.nd rfl (Or.inl rfl) p)
    (qss_cons (qs_while (n := 1000000) (passes_of rfl) (qb_nil (neg := true) (pt_cmpR (op_neNil (hr_ hr)) (pv 3) (pe_lst pa_nil) (nomark _))) (qss_cons (qs_asg (by rfl) (qv_pop (pe_bm0 PySem.F.plainAttrs_list PySem.F.slot_list_pop PySem.F.type_list_pop mt_pop (pv 3))) ⟨_, (pg_tup (by rfl) (pgs_cons (pg_name (i := 4) sc_instance.nd rfl (Or.inl rfl)) (pgs_cons (pg_name (i := 5) sc_instance.nd rfl (Or.inl rfl)) pgs_nil))), (simg_tp rfl (simg_cons (simg_nm 4) (simg_cons (simg_nm 5) simg_nil)))⟩ fun _ _ p p' => ps_asg p p')
    (qss_one (qs_if (qb_val (qv_fz (qe_call G_is_unknown hr hgd (takes_of rfl rfl rfl rfl) (by rfl) T.g_is_unknown T.F_is_unknown.kp T.b_is_unknown .nil (fun _ => .nil) (qa_cons (qv_var (pv 4)) qa_nil)))) (qss_one (qs_if (qb_cmp (op_neA (hr_ hr)) o_ne (qv_dsetd (pv 2) (qv_ix (qv_var (pv 4)) qv_int (fun _ _ => rfl)) (qv_var (pv 5)) ⟨rfl, rfl, rfl, rfl⟩) (qv_var (pv 5)) (nomark _)) (qss_one (qs_ret qv_non)) qss_nil)) (qss_one (qs_if (QW.qb (qw_and (qb_val (qv_fz (qe_call G_is_pair hr hgd (takes_of rfl rfl rfl rfl) (by rfl) T.g_is_pair T.F_is_pair.kp T.b_is_pair .nil (fun _ => .nil) (qa_cons (qv_var (pv 4)) qa_nil)))) (qw_and1 (qb_val (qv_fz (qe_call G_is_pair hr hgd (takes_of rfl rfl rfl rfl) (by rfl) T.g_is_pair T.F_is_pair.kp T.b_is_pair .nil (fun _ => .nil) (qa_cons (qv_var (pv 5)) qa_nil))))))) (qss_one (qs_expr (qv_ext (i := 3) (qa_cons (qv_tup (qa_cons (qv_ix (qv_var (pv 4)) qv_int (fun _ _ => rfl)) (qa_cons (qv_ix (qv_var (pv 5)) qv_int (fun _ _ => rfl)) qa_nil))) (qa_cons (qv_tup (qa_cons (qv_ix (qv_var (pv 4)) qv_int (fun _ _ => rfl)) (qa_cons (qv_ix (qv_var (pv 5)) qv_int (fun _ _ => rfl)) qa_nil))) qa_nil)) fun _ p => pe_bm PySem.F.plainAttrs_list PySem.F.slot_list_extend PySem.F.type_list_extend mt_extend (pv 3) (pa_cons (pe_lst p) pa_nil)) fun _ p => ps_expr p)) (qss_one (qs_if (qb_cmp (op_neA (hr_ hr)) o_ne (qv_var (pv 4)) (qv_var (pv 5)) (nomark _)) (qss_one (qs_ret qv_non)) qss_nil))))))))
    (qss_one (qs_retE (qe_sortIt (pe_callB (cr_sortN rfl) (by rfl) T.m_sorted PyProof.Rows.boot_sorted (pa_cons (pe_bm0 PySem.F.plainAttrs_dict PySem.F.slot_dict_items PySem.F.type_dict_items mt_itemsK (pv 2)) pa_nil))))))))))
def b_are_variants : MS := (sSeq (sExpr (vFz (eCall m_need_term [] (aCons (vVar 0) aNil))))
  (sSeq (sExpr (vFz (eCall m_need_term [] (aCons (vVar 1) aNil))))
  (sRet (v2 pEq (vFz (eCall m_by_coming [] (aCons (vN pLst (aCons (vVar 0) aNil)) aNil))) (vFz (eCall m_by_coming [] (aCons (vN pLst (aCons (vVar 1) aNil)) aNil)))))))
def m_are_variants : Mf := mFn [false, false] 2 b_are_variants
theorem okm_are_variants (T : Env K mg) : FnG P w K mg base (L2.CX P w) 115 T.a_are_variants T.d_are_variants ["one", "other"] (spM K (xaOf T) m_are_variants) := by
  have G_need_term : FnG P w K mg base (L2.CX P w) (114) T.a_need_term T.d_need_term ["thing"] (spM K (xaOf T) m_need_term) := (okm_need_term T).mono (by omega)
  have G_by_coming : FnG P w K mg base (L2.CX P w) (114) T.a_by_coming T.d_by_coming ["terms"] (spM K (xaOf T) m_by_coming) := (okm_by_coming T).mono (by omega)
  show FnG P w K mg base (L2.CX P w) (114 + 1) T.a_are_variants T.d_are_variants ["one", "other"] (spM K (xaOf T) (mFn [false, false] (["one", "other"] : List Str).length b_are_variants))
  exact fnM (P := P) (w := w) (base := base) (mg := mg) (xa := xaOf T) (k := 114) (lent := [false, false]) (body := b_are_variants) T.F_are_variants sc_are_variants rfl (by decide) fun cdv A outer s H E hr hgd => (qss_cons (qs_expr (qv_fz (qe_call G_need_term hr hgd (takes_of rfl rfl rfl rfl) (by rfl) T.g_need_term T.F_need_term.kp T.b_need_term .nil (fun _ => .nil) (qa_cons (qv_var (pv 0)) qa_nil))) fun _ p => ps_expr p)
    (qss_cons (qs_expr (qv_fz (qe_call G_need_term hr hgd (takes_of rfl rfl rfl rfl) (by rfl) T.g_need_term T.F_need_term.kp T.b_need_term .nil (fun _ => .nil) (qa_cons (qv_var (pv 1)) qa_nil))) fun _ p => ps_expr p)
    (qss_one (qs_ret (qv_cmp (op_eqA (hr_ hr)) o_eq (qv_fz (qe_call G_by_coming hr hgd (takes_of rfl rfl rfl rfl) (by rfl) T.g_by_coming T.F_by_coming.kp T.b_by_coming .nil (fun _ => .nil) (qa_cons (qv_lst (qa_cons (qv_var (pv 0)) qa_nil)) qa_nil))) (qv_fz (qe_call G_by_coming hr hgd (takes_of rfl rfl rfl rfl) (by rfl) T.g_by_coming T.F_by_coming.kp T.b_by_coming .nil (fun _ => .nil) (qa_cons (qv_lst (qa_cons (qv_var (pv 1)) qa_nil)) qa_nil))) (nomark _))))))
end

/-! ### step by step: what the mirrors' makers do at a slot row -/
theorem allF_map : ∀ ds : List PyData, allF (ds.map T.f) = some ds
  | [] => rfl
  | d :: r => by
    show (match allF (r.map T.f) with | some ds => some (d :: ds) | none => none) = _
    rw [allF_map r]
theorem frzAll_map : ∀ ds : List PyData, frzAll (ds.map T.f) = ds.map T.f
  | [] => rfl
  | d :: r => congrArg _ (frzAll_map r)
theorem frz_ls (ds : List PyData) : (T.lst (ds.map T.f)).frz = .f (.list ds) := by
  show mkF (.lst true) (frzAll (ds.map T.f)) = _
  rw [frzAll_map]
  unfold mkF
  rw [allF_map]
def look (i : Nat) (ρ : MEnv) : Option T → Ou PyData
  | some (.f d) => .ok d ρ
  | some (.nd k ts) => (match (T.nd k ts).frz with
    | .f d => .ok d (st ρ i (some (.f d)))
    | _ => .no)
  | none => .no
section
variable {α β : Type} {ρ : MEnv}
theorem bd_ok (a : α) (k : α → MEnv → Ou β) : (Ou.ok a ρ).bd k = k a ρ := rfl
theorem bd_no (k : α → MEnv → Ou β) : (Ou.no : Ou α).bd k = .no := rfl
theorem bd_ex (c : Nat) (p : List (Str × PyData)) (k : α → MEnv → Ou β) : (Ou.ex c p ρ : Ou α).bd k = .ex c p ρ := rfl
theorem of_some (a : α) : Ou.of (some a) ρ = .ok a ρ := rfl
theorem x_vC (d : PyData) : vC d ρ = .ok d ρ := rfl
theorem x_vVar (i : Nat) : vVar i ρ = look i ρ (gt ρ i) := by
  unfold vVar look
  cases gt ρ i with
  | none => rfl
  | some t => cases t <;> rfl
theorem look_f (i : Nat) (d : PyData) : look i ρ (some (.f d)) = .ok d ρ := rfl
theorem look_l (i : Nat) (ds : List PyData) : look i ρ (some (.lst (ds.map T.f))) = .ok (.list ds) (st ρ i (some (.f (.list ds)))) := by
  unfold look
  simp only [frz_ls]
theorem look_0 (i : Nat) : look i ρ (some (.lst [])) = .ok (.list []) (st ρ i (some (.f (.list [])))) := rfl
def k_v1 (g : PyData → Option PyData) : PyData → MEnv → Ou PyData := fun x ρ => .of (g x) ρ
theorem k_v1' (g : PyData → Option PyData) (x : PyData) : k_v1 g x ρ = .of (g x) ρ := rfl
theorem x_v1 (g : PyData → Option PyData) (a : MV) : v1 g a ρ = (a ρ).bd (k_v1 g) := rfl
def k_v2 (g : PyData → PyData → Option PyData) (b : MV) : PyData → MEnv → Ou PyData := fun x ρ => (b ρ).bd (k_v1 (g x))
theorem k_v2' (g : PyData → PyData → Option PyData) (b : MV) (x : PyData) : k_v2 g b x ρ = (b ρ).bd (k_v1 (g x)) := rfl
theorem x_v2 (g : PyData → PyData → Option PyData) (a b : MV) : v2 g a b ρ = (a ρ).bd (k_v2 g b) := rfl
theorem x_aNil : aNil ρ = .ok [] ρ := rfl
def k_c2 (x : PyData) : List PyData → MEnv → Ou (List PyData) := fun xs ρ => .ok (x :: xs) ρ
theorem k_c2' (x : PyData) (xs : List PyData) : k_c2 x xs ρ = .ok (x :: xs) ρ := rfl
def k_c1 (r : MA) : PyData → MEnv → Ou (List PyData) := fun x ρ => (r ρ).bd (k_c2 x)
theorem k_c1' (r : MA) (x : PyData) : k_c1 r x ρ = (r ρ).bd (k_c2 x) := rfl
theorem x_aCons (a : MV) (r : MA) : aCons a r ρ = (a ρ).bd (k_c1 r) := rfl
def k_vN (g : List PyData → Option PyData) : List PyData → MEnv → Ou PyData := fun xs ρ => .of (g xs) ρ
theorem k_vN' (g : List PyData → Option PyData) (xs : List PyData) : k_vN g xs ρ = .of (g xs) ρ := rfl
theorem x_vN (g : List PyData → Option PyData) (a : MA) : vN g a ρ = (a ρ).bd (k_vN g) := rfl
def andB (b : MV) : PyData → MEnv → Ou PyData := fun x ρ => match x with
  | .bool true => b ρ
  | .bool false => .ok (.bool false) ρ
  | _ => .no
def orB (b : MV) : PyData → MEnv → Ou PyData := fun x ρ => match x with
  | .bool true => .ok (.bool true) ρ
  | .bool false => b ρ
  | _ => .no
def ifB (a b : MEnv → Ou α) : Bool → MEnv → Ou α := fun x ρ => match x with
  | true => a ρ
  | false => b ρ
theorem andB_t (b : MV) : andB b (.bool true) ρ = b ρ := rfl
theorem andB_f (b : MV) : andB b (.bool false) ρ = .ok (.bool false) ρ := rfl
theorem orB_t (b : MV) : orB b (.bool true) ρ = .ok (.bool true) ρ := rfl
theorem orB_f (b : MV) : orB b (.bool false) ρ = b ρ := rfl
theorem ifB_t (a b : MEnv → Ou α) : ifB a b true ρ = a ρ := rfl
theorem ifB_f (a b : MEnv → Ou α) : ifB a b false ρ = b ρ := rfl
theorem x_vAnd (a b : MV) : vAnd a b ρ = (a ρ).bd (andB b) := rfl
theorem x_vOr (a b : MV) : vOr a b ρ = (a ρ).bd (orB b) := rfl
theorem x_bIf (c : MB) (a b : MEnv → Ou α) : bIf c a b ρ = (c ρ).bd (ifB a b) := rfl
def asBk : PyData → MEnv → Ou Bool := fun x ρ => .of (asB x) ρ
theorem asBk_b (b : Bool) : asBk (.bool b) ρ = .ok b ρ := rfl
theorem x_bV (a : MV) : bV a ρ = (a ρ).bd asBk := rfl
def k_not : Bool → MEnv → Ou Bool := fun x ρ => .ok (!x) ρ
theorem k_not' (x : Bool) : k_not x ρ = .ok (!x) ρ := rfl
theorem x_bNot (a : MB) : bNot a ρ = (a ρ).bd k_not := rfl
def bNo : MEnv → Ou Bool := fun ρ => .ok false ρ
def bYs : MEnv → Ou Bool := fun ρ => .ok true ρ
theorem k_no : bNo ρ = .ok false ρ := rfl
theorem k_ys : bYs ρ = .ok true ρ := rfl
theorem x_bAnd (a b : MB) : bAnd a b ρ = (a ρ).bd (ifB b bNo) := rfl
theorem x_bOr (a b : MB) : bOr a b ρ = (a ρ).bd (ifB bYs b) := rfl
theorem x_oNone : oNone ρ = .ok none ρ := rfl
def k_o : PyData → MEnv → Ou (Option Int) := fun x ρ => .of (asI x) ρ
theorem k_o' (x : PyData) : k_o x ρ = .of (asI x) ρ := rfl
theorem x_oSome (a : MV) : oSome a ρ = (a ρ).bd k_o := rfl
theorem x_asI (i : Int) : asI (.int i) = some (some i) := rfl
def k_s3 (g : PyData → Option Int → Option Int → Option PyData) (x : PyData) (l : Option Int) : Option Int → MEnv → Ou PyData := fun h ρ => .of (g x l h) ρ
theorem k_s3' (g : PyData → Option Int → Option Int → Option PyData) (x : PyData) (l h : Option Int) : k_s3 g x l h ρ = .of (g x l h) ρ := rfl
def k_s2 (g : PyData → Option Int → Option Int → Option PyData) (hi : MO) (x : PyData) : Option Int → MEnv → Ou PyData := fun l ρ => (hi ρ).bd (k_s3 g x l)
theorem k_s2' (g : PyData → Option Int → Option Int → Option PyData) (hi : MO) (x : PyData) (l : Option Int) : k_s2 g hi x l ρ = (hi ρ).bd (k_s3 g x l) := rfl
def k_s1 (g : PyData → Option Int → Option Int → Option PyData) (lo hi : MO) : PyData → MEnv → Ou PyData := fun x ρ => (lo ρ).bd (k_s2 g hi x)
theorem k_s1' (g : PyData → Option Int → Option Int → Option PyData) (lo hi : MO) (x : PyData) : k_s1 g lo hi x ρ = (lo ρ).bd (k_s2 g hi x) := rfl
theorem x_vSl (g : PyData → Option Int → Option Int → Option PyData) (a : MV) (lo hi : MO) : vSl g a lo hi ρ = (a ρ).bd (k_s1 g lo hi) := rfl
def chB (g' : PyData → PyData → Option PyData) (y : PyData) (c : MV) (o : Option PyData) (ρ : MEnv) : Ou PyData := match o with
  | some (.bool true) => (c ρ).bd fun z ρ => .of (g' y z) ρ
  | some (.bool false) => .ok (.bool false) ρ
  | _ => .no
theorem chB_t (g' : PyData → PyData → Option PyData) (y : PyData) (c : MV) : chB g' y c (some (.bool true)) ρ = (c ρ).bd (k_v1 (g' y)) := rfl
theorem chB_f (g' : PyData → PyData → Option PyData) (y : PyData) (c : MV) : chB g' y c (some (.bool false)) ρ = .ok (.bool false) ρ := rfl
def k_ch2 (g g' : PyData → PyData → Option PyData) (c : MV) (x : PyData) : PyData → MEnv → Ou PyData := fun y ρ => chB g' y c (g x y) ρ
theorem k_ch2' (g g' : PyData → PyData → Option PyData) (c : MV) (x y : PyData) : k_ch2 g g' c x y ρ = chB g' y c (g x y) ρ := rfl
def k_ch1 (g g' : PyData → PyData → Option PyData) (b c : MV) : PyData → MEnv → Ou PyData := fun x ρ => (b ρ).bd (k_ch2 g g' c x)
theorem k_ch1' (g g' : PyData → PyData → Option PyData) (b c : MV) (x : PyData) : k_ch1 g g' b c x ρ = (b ρ).bd (k_ch2 g g' c x) := rfl
theorem x_vChain (g g' : PyData → PyData → Option PyData) (a b c : MV) : vChain g g' a b c ρ = (a ρ).bd (k_ch1 g g' b c) := rfl
def k_isi (f : Kn → Bool) : PyData → MEnv → Ou PyData := fun x ρ => .ok (.bool (f (knD x))) ρ
theorem k_isi' (f : Kn → Bool) (x : PyData) : k_isi f x ρ = .ok (.bool (f (knD x))) ρ := rfl
theorem x_vIsi (f : Kn → Bool) (a : MV) : vIsi f a ρ = (a ρ).bd (k_isi f) := rfl
theorem x_sNx : sNx ρ = .ok .nx ρ := rfl
theorem x_sSeq (a b : MS) : sSeq a b ρ = (a ρ).bd (thenS b) := rfl
theorem th_nx (m : MS) : thenS m .nx ρ = m ρ := rfl
theorem th_rt (m : MS) (t : T) : thenS m (.rt t) ρ = .ok (.rt t) ρ := rfl
theorem x_sIf (c : MB) (a b : MS) : sIf c a b ρ = (c ρ).bd (ifB a b) := rfl
def k_ret : PyData → MEnv → Ou Fl := fun d ρ => .ok (.rt (.f d)) ρ
theorem k_ret' (d : PyData) : k_ret d ρ = .ok (.rt (.f d)) ρ := rfl
def k_retE : T → MEnv → Ou Fl := fun t ρ => .ok (.rt t) ρ
theorem k_retE' (t : T) : k_retE t ρ = .ok (.rt t) ρ := rfl
def k_exp : PyData → MEnv → Ou Fl := fun _ ρ => .ok .nx ρ
theorem k_exp' (d : PyData) : k_exp d ρ = .ok .nx ρ := rfl
def k_set (i : Nat) : PyData → MEnv → Ou Fl := fun d ρ => .ok .nx (st ρ i (some (.f d)))
theorem k_set' (i : Nat) (d : PyData) : k_set i d ρ = .ok .nx (st ρ i (some (.f d))) := rfl
def k_setE (i : Nat) : T → MEnv → Ou Fl := fun t ρ => .ok .nx (st ρ i (some t))
theorem k_setE' (i : Nat) (t : T) : k_setE i t ρ = .ok .nx (st ρ i (some t)) := rfl
theorem x_sRet (m : MV) : sRet m ρ = (m ρ).bd k_ret := rfl
theorem x_sRetE (m : ME) : sRetE m ρ = (m ρ).bd k_retE := rfl
theorem x_sExpr (m : MV) : sExpr m ρ = (m ρ).bd k_exp := rfl
theorem x_sSet (i : Nat) (m : MV) : sSet i m ρ = (m ρ).bd (k_set i) := rfl
theorem x_sSetE (i : Nat) (m : ME) : sSetE i m ρ = (m ρ).bd (k_setE i) := rfl
def k_eV : PyData → MEnv → Ou T := fun d ρ => .ok (.f d) ρ
theorem k_eV' (d : PyData) : k_eV d ρ = .ok (.f d) ρ := rfl
theorem x_eV (m : MV) : eV m ρ = (m ρ).bd k_eV := rfl
def fzB : T → MEnv → Ou PyData := fun t ρ => match t.frz with
  | .f d => .ok d ρ
  | _ => .no
theorem fzB_f (d : PyData) : fzB (.f d) ρ = .ok d ρ := rfl
theorem fzB_l (ds : List PyData) : fzB (.lst (ds.map T.f)) ρ = .ok (.list ds) ρ := by
  unfold fzB
  rw [frz_ls]
theorem x_vFz (m : ME) : vFz m ρ = (m ρ).bd fzB := rfl
def moveB (i : Nat) (ρ : MEnv) : Option T → Ou T
  | some t => .ok t (st ρ i none)
  | none => .no
theorem moveB_s (i : Nat) (t : T) : moveB i ρ (some t) = .ok t (st ρ i none) := rfl
theorem x_eMove (i : Nat) : eMove i ρ = moveB i ρ (gt ρ i) := by
  unfold eMove moveB
  cases gt ρ i <;> rfl
def k_lst : List PyData → MEnv → Ou T := fun ds ρ => if ds.length ≤ sizeLine then .ok (.lst (ds.map T.f)) ρ else .no
theorem k_lst0 : k_lst [] ρ = .ok (.lst []) ρ := rfl
theorem k_lst1 (a : PyData) : k_lst [a] ρ = .ok (.lst [.f a]) ρ := if_pos (by show 1 ≤ sizeLine; decide)
theorem k_lst2 (a b : PyData) : k_lst [a, b] ρ = .ok (.lst [.f a, .f b]) ρ := if_pos (by show 2 ≤ sizeLine; decide)
theorem x_eLst (a : MA) : eLst a ρ = (a ρ).bd k_lst := rfl
def callB (ρ : MEnv) : Ou T → Ou T
  | .no => .no
  | .ok r _ => .ok r ρ
  | .ex c p _ => .ex c p ρ
theorem callB_ok (r : T) (b : MEnv) : callB ρ (.ok r b) = .ok r ρ := rfl
theorem callB_ex (c : Nat) (p : List (Str × PyData)) (b : MEnv) : callB ρ (.ex c p b) = .ex c p ρ := rfl
def k_call (m : Mf) (dv : List PyData) : List PyData → MEnv → Ou T := fun ds ρ => callB ρ (m ((ds ++ dv).map T.f))
theorem k_call' (m : Mf) (dv ds : List PyData) : k_call m dv ds ρ = callB ρ (m ((ds ++ dv).map T.f)) := rfl
theorem x_eCall (m : Mf) (dv : List PyData) (a : MA) : eCall m dv a ρ = (a ρ).bd (k_call m dv) := by
  unfold eCall k_call
  refine congrArg _ ?_
  funext ds ρ
  cases m ((ds ++ dv).map T.f) <;> rfl
def k_for (g : Tg) (b : MS) : List PyData → MEnv → Ou Fl := fun ds ρ => forS g b ds ρ
theorem k_for' (g : Tg) (b : MS) (ds : List PyData) : k_for g b ds ρ = forS g b ds ρ := rfl
theorem x_sFor (i : MI) (g : Tg) (b : MS) : sFor i g b ρ = (i ρ).bd (k_for g b) := rfl
def k_seq : PyData → MEnv → Ou (List PyData) := fun x ρ => match x with
  | .list ds => .ok ds ρ
  | .tuple ds => .ok ds ρ
  | _ => .no
theorem k_seqL (ds : List PyData) : k_seq (.list ds) ρ = .ok ds ρ := rfl
theorem k_seqT (ds : List PyData) : k_seq (.tuple ds) ρ = .ok ds ρ := rfl
theorem x_iSeq (a : MV) : iSeq a ρ = (a ρ).bd k_seq := rfl
theorem x_end_rt (l : List Bool) (t : T) : endF l (.ok (.rt t) ρ) = .ok t (backs l ρ) := rfl
theorem x_end_nx (l : List Bool) : endF l (.ok .nx ρ) = .ok (.f .none) (backs l ρ) := rfl
theorem x_end_ex (l : List Bool) (c : Nat) (p : List (Str × PyData)) : endF l (.ex c p ρ) = .ex c p (backs l ρ) := rfl
theorem x_rNil : rNil ρ = .ok [] ρ := rfl
def k_r2 (x : PyData) : MEnv → MEnv → Ou MEnv := fun xs ρ => .ok (some (.f x) :: xs) ρ
theorem k_r2' (x : PyData) (xs : MEnv) : k_r2 x xs ρ = .ok (some (.f x) :: xs) ρ := rfl
def k_r1 (r : MR) : PyData → MEnv → Ou MEnv := fun x ρ => (r ρ).bd (k_r2 x)
theorem k_r1' (r : MR) (x : PyData) : k_r1 r x ρ = (r ρ).bd (k_r2 x) := rfl
theorem x_rV (a : MV) (r : MR) : rV a r ρ = (a ρ).bd (k_r1 r) := rfl
def k_rL : MEnv → MEnv → Ou MEnv := fun xs ρ => .ok (none :: xs) ρ
theorem k_rL' (xs : MEnv) : k_rL xs ρ = .ok (none :: xs) ρ := rfl
def lookL (r : MR) (ρ : MEnv) : Option T → Ou MEnv
  | some _ => (r ρ).bd k_rL
  | none => .no
theorem lookL_s (r : MR) (t : T) : lookL r ρ (some t) = (r ρ).bd k_rL := rfl
theorem x_rL (i : Nat) (r : MR) : rL i r ρ = lookL r ρ (gt ρ i) := by
  unfold rL lookL
  cases gt ρ i <;> rfl
def k_ld (m : Mf) (L : List (Nat × Nat)) : MEnv → MEnv → Ou T := fun α ρ => lendCall m L α ρ
theorem k_ld' (m : Mf) (L : List (Nat × Nat)) (α : MEnv) : k_ld m L α ρ = lendCall m L α ρ := rfl
theorem x_eCallL (m : Mf) (L : List (Nat × Nat)) (a : MR) : eCallL m L a ρ = (a ρ).bd (k_ld m L) := rfl
def lendB (i : Nat) (ρ : MEnv) : Ou T → Ou T
  | .no => .no
  | .ok r back => .ok r (st ρ i (gt back 0))
  | .ex c p back => .ex c p (st ρ i (gt back 0))
theorem lendB_ok (i : Nat) (r : T) (back : MEnv) : lendB i ρ (.ok r back) = .ok r (st ρ i (gt back 0)) := rfl
theorem gt_0 (x : Option T) (r : MEnv) : gt (x :: r) 0 = x := rfl
theorem gt_s (x : Option T) (r : MEnv) (i : Nat) : gt (x :: r) (i + 1) = gt r i := rfl
theorem st_0 (x y : Option T) (r : MEnv) : st (x :: r) 0 y = y :: r := rfl
theorem st_s (x y : Option T) (r : MEnv) (i : Nat) : st (x :: r) (i + 1) y = x :: st r i y := rfl
theorem bk_n (l : List Bool) (t : Option T) (r : MEnv) : backs (false :: l) (t :: r) = none :: backs l r := rfl
theorem bk_y (l : List Bool) (t : Option T) (r : MEnv) : backs (true :: l) (t :: r) = t :: backs l r := rfl
theorem bk_0 (r : MEnv) : backs [] r = [] := by cases r <;> rfl
theorem q_lt (i j : Int) : pLt (.int i) (.int j) = some (.bool (decide (i < j))) := rfl
theorem q_gt (i j : Int) : pGt (.int i) (.int j) = some (.bool (decide (j < i))) := rfl
theorem q_le (i j : Int) : pLe (.int i) (.int j) = some (.bool (decide (i ≤ j))) := rfl
theorem q_ge (i j : Int) : pGe (.int i) (.int j) = some (.bool (decide (j ≤ i))) := rfl
theorem q_eq (i j : Int) : pEq (.int i) (.int j) = some (.bool (decide (i = j))) := rfl
theorem q_add (i j : Int) : pAdd (.int i) (.int j) = some (.int (i + j)) := rfl
theorem q_sub (i j : Int) : pSub (.int i) (.int j) = some (.int (i - j)) := rfl
theorem q_mod {i j : Int} (h : 0 < j) : pMod (.int i) (.int j) = some (.int (i % j)) := if_pos h
theorem q_lst {l : List PyData} (h : l.length ≤ sizeLine) : pLst l = some (.list l) := if_pos h
theorem q_tup {l : List PyData} (h : l.length ≤ sizeLine) : pTup l = some (.tuple l) := if_pos h
theorem q_tup1 (a : PyData) : pTup [a] = some (.tuple [a]) := if_pos (by show 1 ≤ sizeLine; decide)
theorem q_tup2 (a b : PyData) : pTup [a, b] = some (.tuple [a, b]) := if_pos (by show 2 ≤ sizeLine; decide)
theorem q_lenL (ds : List PyData) : pLen [.list ds] = some (.int ds.length) := rfl
theorem q_lenT (ds : List PyData) : pLen [.tuple ds] = some (.int ds.length) := rfl
end

theorem mFn2 {lent : List Bool} {n : Nat} {body : MS} {ts : List T} {e : MEnv} (h : ts.length = lent.length) (he : ts.map some ++ List.replicate (n - ts.length) none = e) : mFn lent n body ts = endF lent (body e) := by
  unfold mFn
  rw [if_pos h, he]
/-! ### a call that lends one slot -/
theorem gt_app : ∀ (ρ α : MEnv) (i : Nat), i < ρ.length → gt (ρ ++ α) i = gt ρ i
  | _ :: _, _, 0, _ => rfl
  | _ :: r, α, i + 1, h => gt_app r α i (Nat.lt_of_succ_lt_succ h)
theorem gt_app2 : ∀ (ρ α : MEnv) (i : Nat), gt (ρ ++ α) (ρ.length + i) = gt α i
  | [], α, i => by rw [List.nil_append, List.length_nil, Nat.zero_add]
  | _ :: r, α, i => by
    rw [List.cons_append, List.length_cons, Nat.succ_add]
    exact gt_app2 r α i
theorem st_app : ∀ (ρ α : MEnv) (i : Nat) (x : Option T), i < ρ.length → st (ρ ++ α) i x = st ρ i x ++ α
  | _ :: _, _, 0, _, _ => rfl
  | _ :: r, α, i + 1, x, h => congrArg _ (st_app r α i x (Nat.lt_of_succ_lt_succ h))
theorem st_app2 : ∀ (ρ α : MEnv) (i : Nat) (x : Option T), st (ρ ++ α) (ρ.length + i) x = ρ ++ st α i x
  | [], α, i, x => by rw [List.nil_append, List.length_nil, Nat.zero_add, List.nil_append]
  | _ :: r, α, i, x => by
    rw [List.cons_append, List.length_cons, Nat.succ_add]
    exact congrArg _ (st_app2 r α i x)
theorem alls_map : ∀ ts : List T, alls (ts.map some) = some ts
  | [] => rfl
  | t :: r => by
    show (match alls (r.map some) with | some ts => some (t :: ts) | none => none) = _
    rw [alls_map r]
theorem mvs1 (ρ α : MEnv) (i : Nat) (h : i < ρ.length) (x : Option T) : mvs (outs [(i, 0)] ρ.length) (ρ ++ x :: α) = st ρ i none ++ gt ρ i :: α := by
  show mv (ρ ++ x :: α) i (ρ.length + 0) = _
  unfold mv
  rw [gt_app ρ _ i h, st_app ρ _ i none h]
  have := st_app2 (st ρ i none) (x :: α) 0 (gt ρ i)
  rw [st_len] at this
  exact this
theorem mvs2 (ρ back : MEnv) (i n : Nat) (hn : ρ.length = n) (h : i < n) : (mvs (ins_ [(i, 0)] n) (ρ ++ back)).take n = st ρ i (gt back 0) := by
  subst hn
  show (mv (ρ ++ back) (ρ.length + 0) i).take ρ.length = _
  unfold mv
  rw [gt_app2, st_app2, st_app _ _ _ _ h, List.take_left' (st_len ..)]
theorem lend1 {m : Mf} {i : Nat} {t : T} {ρ : MEnv} {as : List T} (h : gt ρ i = some t) : lendCall m [(i, 0)] (none :: as.map some) ρ = (match m (t :: as) with
    | .no => .no
    | .ok r back => .ok r (st ρ i (gt back 0))
    | .ex c p back => .ex c p (st ρ i (gt back 0))) := by
  have hi := gt_len h
  unfold lendCall
  rw [mvs1 ρ _ i hi, h]
  have e1 : (st ρ i none ++ some t :: as.map some).drop ρ.length = (t :: as).map some := List.drop_left' (st_len ..)
  have e2 : (st ρ i none ++ some t :: as.map some).take ρ.length = st ρ i none := List.take_left' (st_len ..)
  rw [e1, e2, alls_map]
  cases e : m (t :: as) with
  | no => simp only [e]
  | ok r back => simp only [e, mvs2 _ _ _ _ (st_len ..) hi, st_st]
  | ex c p back => simp only [e, mvs2 _ _ _ _ (st_len ..) hi, st_st]
theorem lend2 {m : Mf} {i : Nat} {t : T} {ρ : MEnv} {as : List T} (h : gt ρ i = some t) : lendCall m [(i, 0)] (none :: as.map some) ρ = lendB i ρ (m (t :: as)) := by
  rw [lend1 h]
  cases m (t :: as) <;> rfl
section
variable {m : Mf} {t a b : T} {x y : Option T} {r : MEnv}
theorem ld0_0 : lendCall m [(0, 0)] [none] (some t :: r) = lendB 0 (some t :: r) (m [t]) := lend2 (as := []) rfl
theorem ld0_1 : lendCall m [(0, 0)] [none, some a] (some t :: r) = lendB 0 (some t :: r) (m [t, a]) := lend2 (as := [a]) rfl
theorem ld0_2 : lendCall m [(0, 0)] [none, some a, some b] (some t :: r) = lendB 0 (some t :: r) (m [t, a, b]) := lend2 (as := [a, b]) rfl
theorem ld2_0 : lendCall m [(2, 0)] [none] (x :: y :: some t :: r) = lendB 2 (x :: y :: some t :: r) (m [t]) := lend2 (as := []) rfl
theorem ld2_1 : lendCall m [(2, 0)] [none, some a] (x :: y :: some t :: r) = lendB 2 (x :: y :: some t :: r) (m [t, a]) := lend2 (as := [a]) rfl
theorem ld2_2 : lendCall m [(2, 0)] [none, some a, some b] (x :: y :: some t :: r) = lendB 2 (x :: y :: some t :: r) (m [t, a, b]) := lend2 (as := [a, b]) rfl
end


section
variable {P : Program} {w : World} {K : PySem.W.Frag} {mg : Str → Option Value} {base : Heap}
def b_l_cell : MS := (sSeq (sIf (bV (v2 pLt (vVar 1) (vN pLen (aCons (vVar 0) aNil)))) (sRet (v2 pIx (vVar 0) (vVar 1))) sNx)
  (sRet (v2 pAdd (v2 pMul (vC (PyData.int 7919)) (vVar 1)) (vC (PyData.int 13)))))
def m_l_cell : Mf := mFn [false, false] 2 b_l_cell
theorem okm_l_cell (T : Env K mg) : FnG P w K mg base (L2.CX P w) 2 T.a_l_cell T.d_l_cell ["_law_script", "_law_k"] (spM K (xaOf T) m_l_cell) := by
  show FnG P w K mg base (L2.CX P w) (1 + 1) T.a_l_cell T.d_l_cell ["_law_script", "_law_k"] (spM K (xaOf T) (mFn [false, false] (["_law_script", "_law_k"] : List Str).length b_l_cell))
  exact fnM (P := P) (w := w) (base := base) (mg := mg) (xa := xaOf T) (k := 1) (lent := [false, false]) (body := b_l_cell) T.F_l_cell sc_l_cell rfl (by decide) fun cdv A outer s H E hr hgd => (qss_cons (qs_if (qb_cmp op_ltA o_cmp (qv_var (pv 1)) (qv_callB call_lenA o_len (by rfl) T.m_len PySem.boot_len (qa_cons (qv_var (pv 0)) qa_nil)) (nomark _)) (qss_one (qs_ret (qv_ix (qv_var (pv 0)) (qv_var (pv 1)) (fun _ _ => rfl)))) qss_nil)
    (qss_one (qs_ret (qv_op op_addA o_add (qv_op op_mulW o_mul qv_int (qv_var (pv 1))) qv_int))))
def b_l_box : MS := (sSeq (sIf (bV (v2 pGe (vVar 0) (v2 pPow (vC (PyData.int 10)) (vC (PyData.int 18))))) (sRetE (eLst (aCons (vVar 0) (aCons (v2 pMod (vVar 0) (vC (PyData.int 2147483629))) (aCons (vC (PyData.int 0)) aNil))))) sNx)
  (sRetE (eLst (aCons (vC (PyData.int 0)) (aCons (v2 pMod (vVar 0) (vC (PyData.int 2147483629))) (aCons (vC (PyData.int 0)) aNil))))))
def m_l_box : Mf := mFn [false] 1 b_l_box
theorem okm_l_box (T : Env K mg) : FnG P w K mg base (L2.CX P w) 2 T.a_l_box T.d_l_box ["_law_cell_here"] (spM K (xaOf T) m_l_box) := by
  show FnG P w K mg base (L2.CX P w) (1 + 1) T.a_l_box T.d_l_box ["_law_cell_here"] (spM K (xaOf T) (mFn [false] (["_law_cell_here"] : List Str).length b_l_box))
  exact fnM (P := P) (w := w) (base := base) (mg := mg) (xa := xaOf T) (k := 1) (lent := [false]) (body := b_l_box) T.F_l_box sc_l_box rfl (by decide) fun cdv A outer s H E hr hgd => (qss_cons (qs_if (qb_cmp op_geA o_cmp (qv_var (pv 0)) (qv_op op_pow o_pow qv_int qv_int) (nomark _)) (qss_one (qs_retE (qe_lst (qa_cons (qv_var (pv 0)) (qa_cons (qv_op op_mod o_mod (qv_var (pv 0)) qv_int) (qa_cons qv_int qa_nil)))))) qss_nil)
    (qss_one (qs_retE (qe_lst (qa_cons qv_int (qa_cons (qv_op op_mod o_mod (qv_var (pv 0)) qv_int) (qa_cons qv_int qa_nil)))))))
def b_l_take : MS := (sSeq (sIf (bV (v2 pGt (vIxS 0 (vC (PyData.int 0))) (vC (PyData.int 0)))) (sSeq (sSet 2 (v2 pMod (vIxS 0 (vC (PyData.int 0))) (vVar 1)))
  (sSeq (sSetIx 0 (v2 pDiv (vIxS 0 (vC (PyData.int 0))) (vVar 1)) (vC (PyData.int 0)))
  (sRet (vVar 2)))) sNx)
  (sSeq (sSetIx 0 (v2 pAdd (vIxS 0 (vC (PyData.int 2))) (vC (PyData.int 1))) (vC (PyData.int 2)))
  (sSeq (sSet 2 (v2 pMod (v2 pAdd (v2 pAdd (v2 pMul (vIxS 0 (vC (PyData.int 1))) (vC (PyData.int 48271))) (v2 pMul (vC (PyData.int 7919)) (vIxS 0 (vC (PyData.int 2))))) (vC (PyData.int 101))) (vC (PyData.int 2147483647))))
  (sSeq (sSet 2 (v2 pMod (v2 pAdd (v2 pAdd (v2 pMul (vVar 2) (vVar 2)) (v2 pMul (vC (PyData.int 104729)) (vIxS 0 (vC (PyData.int 2))))) (vC (PyData.int 7))) (vC (PyData.int 2147483629))))
  (sRet (v2 pMod (v2 pMod (v2 pMul (vVar 2) (v2 pAdd (vVar 2) (vC (PyData.int 3)))) (vC (PyData.int 2147483587))) (vVar 1)))))))
def m_l_take : Mf := mFn [true, false] 3 b_l_take
theorem okm_l_take (T : Env K mg) : FnG P w K mg base (L2.CX P w) 2 T.a_l_take T.d_l_take ["_law_box_here", "_law_many"] (spM K (xaOf T) m_l_take) := by
  show FnG P w K mg base (L2.CX P w) (1 + 1) T.a_l_take T.d_l_take ["_law_box_here", "_law_many"] (spM K (xaOf T) (mFn [true, false] (["_law_box_here", "_law_many", "_law_number"] : List Str).length b_l_take))
  exact fnM (P := P) (w := w) (base := base) (mg := mg) (xa := xaOf T) (k := 1) (lent := [true, false]) (body := b_l_take) T.F_l_take sc_l_take rfl (by decide) fun cdv A outer s H E hr hgd => (qss_cons (qs_if (qb_cmp op_gtA o_cmp (qv_ixS (pv 0) qv_int (fun _ _ => rfl)) qv_int (nomark _)) (qss_cons (qs_set (i := 2) (by rfl) (qv_op op_mod o_mod (qv_ixS (pv 0) qv_int (fun _ _ => rfl)) (qv_var (pv 1))) fun _ p => ps_set (i := 2) sc_l_take.nd rfl (Or.inl rfl) p)
    (qss_cons (qs_setIx (qv_op op_fdivW o_div (qv_ixS (pv 0) qv_int (fun _ _ => rfl)) (qv_var (pv 1))) qv_int fun _ _ p p' => ps_asg p (pg_sub (pv 0) p' set_list))
    (qss_one (qs_ret (qv_var (pv 2)))))) qss_nil)
    (qss_cons (qs_setIx (qv_op op_addA o_add (qv_ixS (pv 0) qv_int (fun _ _ => rfl)) qv_int) qv_int fun _ _ p p' => ps_asg p (pg_sub (pv 0) p' set_list))
    (qss_cons (qs_set (i := 2) (by rfl) (qv_op op_mod o_mod (qv_op op_addA o_add (qv_op op_addA o_add (qv_op op_mulW o_mul (qv_ixS (pv 0) qv_int (fun _ _ => rfl)) qv_int) (qv_op op_mulW o_mul qv_int (qv_ixS (pv 0) qv_int (fun _ _ => rfl)))) qv_int) qv_int) fun _ p => ps_set (i := 2) sc_l_take.nd rfl (Or.inl rfl) p)
    (qss_cons (qs_set (i := 2) (by rfl) (qv_op op_mod o_mod (qv_op op_addA o_add (qv_op op_addA o_add (qv_op op_mulW o_mul (qv_var (pv 2)) (qv_var (pv 2))) (qv_op op_mulW o_mul qv_int (qv_ixS (pv 0) qv_int (fun _ _ => rfl)))) qv_int) qv_int) fun _ p => ps_set (i := 2) sc_l_take.nd rfl (Or.inl rfl) p)
    (qss_one (qs_ret (qv_op op_mod o_mod (qv_op op_mod o_mod (qv_op op_mulW o_mul (qv_var (pv 2)) (qv_op op_addA o_add (qv_var (pv 2)) qv_int)) qv_int) (qv_var (pv 1)))))))))
def b_l_name : MS := (sSeq (sSet 1 (vC (PyData.str "abcdefghijklmnopqrstuvwxyz")))
  (sSeq (sSet 2 (vM1 pJoin (vC (PyData.str "")) (vLc [3] (iRange1 (v2 pAdd (vC (PyData.int 1)) (vFz (eCallL m_l_take [(0, 0)] (rL 0 (rV (vC (PyData.int 8)) rNil)))))) (Tg.nm 3) bYes (v2 pIx (vVar 1) (vFz (eCallL m_l_take [(0, 0)] (rL 0 (rV (vC (PyData.int 26)) rNil))))))))
  (sSeq (sIf (bV (v2 (pIn false) (vVar 2) (vN pLst (aCons (vC (PyData.str "rel")) (aCons (vC (PyData.str "same")) (aCons (vC (PyData.str "unlike")) (aCons (vC (PyData.str "one")) (aCons (vC (PyData.str "both")) (aCons (vC (PyData.str "fresh")) (aCons (vC (PyData.str "call")) (aCons (vC (PyData.str "not")) aNil))))))))))) (sRet (vC (PyData.str "nil"))) sNx)
  (sRet (vVar 2)))))
def m_l_name : Mf := mFn [true] 4 b_l_name
theorem okm_l_name (T : Env K mg) : FnG P w K mg base (L2.CX P w) 3 T.a_l_name T.d_l_name ["_law_box_here"] (spM K (xaOf T) m_l_name) := by
  have G_l_take : FnG P w K mg base (L2.CX P w) (2) T.a_l_take T.d_l_take ["_law_box_here", "_law_many"] (spM K (xaOf T) m_l_take) := (okm_l_take T).mono (by omega)
  show FnG P w K mg base (L2.CX P w) (2 + 1) T.a_l_name T.d_l_name ["_law_box_here"] (spM K (xaOf T) (mFn [true] (["_law_box_here", "_law_letters", "_law_name_here", "_law_k"] : List Str).length b_l_name))
  exact fnM (P := P) (w := w) (base := base) (mg := mg) (xa := xaOf T) (k := 2) (lent := [true]) (body := b_l_name) T.F_l_name sc_l_name rfl (by decide) fun cdv A outer s H E hr hgd => (qss_cons (qs_set (i := 1) (by rfl) qv_str fun _ p => ps_set (i := 1) sc_l_name.nd rfl (Or.inr rfl) p)
    (qss_cons (qs_set (i := 2) (by rfl) (qv_join qv_str (qv_lc (own := [("_law_k", 3)]) (g := (Tg.nm 3)) (by decide) (by rfl) sc_l_name.nd (qi_r1 (qv_op op_addA o_add qv_int (qv_fz (qe_callL G_l_take hr hgd (takes_of rfl rfl rfl rfl) (by rfl) T.g_l_take T.F_l_take.kp T.b_l_take (qr_l (pv 0) (qr_v qv_int qr_nil))))) fun _ p => pi_range1 (by rfl) T.m_range (pa_cons p pa_nil)) (blkOk_by (own := [("_law_k", 3)]) (N := ["_law_box_here", "_law_letters", "_law_name_here", "_law_k"]) (sc := defScope s_l_name) (by decide +kernel)) (fun _ => (pg_name (i := 3) sc_l_name.nd rfl (Or.inl rfl))) (simg_nm 3) (fun _ => qts_nil) (fun _ => (qv_ix (qv_var (pv 1)) (qv_fz (qe_callL G_l_take hr hgd takes0 (by rfl) T.g_l_take T.F_l_take.kp T.b_l_take (qr_l (pv 0) (qr_v qv_int qr_nil)))) (fun _ _ => rfl))))) fun _ p => ps_set (i := 2) sc_l_name.nd rfl (Or.inl rfl) p)
    (qss_cons (qs_if (qb_cmp (op_inA (lt65 hr)) (o_in false) (qv_var (pv 2)) (qv_lst (qa_cons qv_str (qa_cons qv_str (qa_cons qv_str (qa_cons qv_str (qa_cons qv_str (qa_cons qv_str (qa_cons qv_str (qa_cons qv_str qa_nil))))))))) (by rfl)) (qss_one (qs_ret qv_str)) qss_nil)
    (qss_one (qs_ret (qv_var (pv 2)))))))
def b_l_single : MS := (sSeq (sSet 2 (vFz (eCallL m_l_take [(0, 0)] (rL 0 (rV (vC (PyData.int 6)) rNil)))))
  (sSeq (sIf (bAnd (bV (v2 pLt (vVar 2) (vC (PyData.int 3)))) (bNilV true (vVar 1))) (sRet (vN pTup (aCons (v2 pIx (vVar 1) (vFz (eCallL m_l_take [(0, 0)] (rL 0 (rV (vN pLen (aCons (vVar 1) aNil)) rNil))))) aNil))) sNx)
  (sSeq (sIf (bV (v2 pEq (vVar 2) (vC (PyData.int 3)))) (sRet (v2 pIx (vN pLst (aCons (vC (PyData.int 0)) (aCons (vC (PyData.int 1)) (aCons (vC (PyData.int 7)) (aCons (v2 pAdd (v2 pPow (vC (PyData.int 10)) (vC (PyData.int 29))) (vFz (eCallL m_l_take [(0, 0)] (rL 0 (rV (vC (PyData.int 1000)) rNil))))) aNil))))) (vFz (eCallL m_l_take [(0, 0)] (rL 0 (rV (vC (PyData.int 4)) rNil)))))) sNx)
  (sRet (v2 pIx (vN pLst (aCons (vC (PyData.str "a")) (aCons (vC (PyData.str "b")) (aCons (vC (PyData.str "nil")) (aCons (vFz (eCallL m_l_name [(0, 0)] (rL 0 rNil))) aNil))))) (vFz (eCallL m_l_take [(0, 0)] (rL 0 (rV (vC (PyData.int 4)) rNil)))))))))
def m_l_single : Mf := mFn [true, false] 3 b_l_single
theorem okm_l_single (T : Env K mg) : FnG P w K mg base (L2.CX P w) 4 T.a_l_single T.d_l_single ["_law_box_here", "_law_numbers_here"] (spM K (xaOf T) m_l_single) := by
  have G_l_take : FnG P w K mg base (L2.CX P w) (3) T.a_l_take T.d_l_take ["_law_box_here", "_law_many"] (spM K (xaOf T) m_l_take) := (okm_l_take T).mono (by omega)
  have G_l_name : FnG P w K mg base (L2.CX P w) (3) T.a_l_name T.d_l_name ["_law_box_here"] (spM K (xaOf T) m_l_name) := (okm_l_name T).mono (by omega)
  show FnG P w K mg base (L2.CX P w) (3 + 1) T.a_l_single T.d_l_single ["_law_box_here", "_law_numbers_here"] (spM K (xaOf T) (mFn [true, false] (["_law_box_here", "_law_numbers_here", "_law_way"] : List Str).length b_l_single))
  exact fnM (P := P) (w := w) (base := base) (mg := mg) (xa := xaOf T) (k := 3) (lent := [true, false]) (body := b_l_single) T.F_l_single sc_l_single rfl (by decide) fun cdv A outer s H E hr hgd => (qss_cons (qs_set (i := 2) (by rfl) (qv_fz (qe_callL G_l_take hr hgd (takes_of rfl rfl rfl rfl) (by rfl) T.g_l_take T.F_l_take.kp T.b_l_take (qr_l (pv 0) (qr_v qv_int qr_nil)))) fun _ p => ps_set (i := 2) sc_l_single.nd rfl (Or.inl rfl) p)
    (qss_cons (qs_if (QW.qb (qw_and (qb_cmp op_ltA o_cmp (qv_var (pv 2)) qv_int (nomark _)) (qw_and1 (qb_nilV (neg := true) (qv_var (pv 1)) fun _ p => pt_cmpR (op_neNil (hr_ hr)) p (pe_lst pa_nil) (nomark _))))) (qss_one (qs_ret (qv_tup (qa_cons (qv_ix (qv_var (pv 1)) (qv_fz (qe_callL G_l_take hr hgd (takes_of rfl rfl rfl rfl) (by rfl) T.g_l_take T.F_l_take.kp T.b_l_take (qr_l (pv 0) (qr_v (qv_callB call_lenA o_len (by rfl) T.m_len PySem.boot_len (qa_cons (qv_var (pv 1)) qa_nil)) qr_nil)))) (fun _ _ => rfl)) qa_nil)))) qss_nil)
    (qss_cons (qs_if (qb_cmp (op_eqA (hr_ hr)) o_eq (qv_var (pv 2)) qv_int (nomark _)) (qss_one (qs_ret (qv_ix (qv_lst (qa_cons qv_int (qa_cons qv_int (qa_cons qv_int (qa_cons (qv_op op_addA o_add (qv_op op_pow o_pow qv_int qv_int) (qv_fz (qe_callL G_l_take hr hgd (takes_of rfl rfl rfl rfl) (by rfl) T.g_l_take T.F_l_take.kp T.b_l_take (qr_l (pv 0) (qr_v qv_int qr_nil))))) qa_nil))))) (qv_fz (qe_callL G_l_take hr hgd (takes_of rfl rfl rfl rfl) (by rfl) T.g_l_take T.F_l_take.kp T.b_l_take (qr_l (pv 0) (qr_v qv_int qr_nil)))) (fun _ _ => rfl)))) qss_nil)
    (qss_one (qs_ret (qv_ix (qv_lst (qa_cons qv_str (qa_cons qv_str (qa_cons qv_str (qa_cons (qv_fz (qe_callL G_l_name hr hgd (takes_of rfl rfl rfl rfl) (by rfl) T.g_l_name T.F_l_name.kp T.b_l_name (qr_l (pv 0) qr_nil))) qa_nil))))) (qv_fz (qe_callL G_l_take hr hgd (takes_of rfl rfl rfl rfl) (by rfl) T.g_l_take T.F_l_take.kp T.b_l_take (qr_l (pv 0) (qr_v qv_int qr_nil)))) (fun _ _ => rfl)))))))
def b_l_term (self : Mf) : MS := (sSeq (sIf (bOr (bV (v2 pEq (vVar 2) (vC (PyData.int 0)))) (bV (v2 pEq (vFz (eCallL m_l_take [(0, 0)] (rL 0 (rV (vC (PyData.int 3)) rNil)))) (vC (PyData.int 0))))) (sRetE (eCallL m_l_single [(0, 0)] (rL 0 (rV (vVar 1) rNil)))) sNx)
  (sRet (vN pTup (aCons (vFz (eCallL self [(0, 0)] (rL 0 (rV (vVar 1) (rV (v2 pSub (vVar 2) (vC (PyData.int 1))) rNil))))) (aCons (vFz (eCallL self [(0, 0)] (rL 0 (rV (vVar 1) (rV (v2 pSub (vVar 2) (vC (PyData.int 1))) rNil))))) aNil)))))
def m_l_term : Nat → Mf
  | 0 => fun _ => .no
  | n + 1 => mFn [true, false, false] 3 (b_l_term (m_l_term n))
theorem okm_l_term (T : Env K mg) : ∀ n : Nat, FnG P w K mg base (L2.CX P w) (4 + n) T.a_l_term T.d_l_term ["_law_box_here", "_law_numbers_here", "_law_deep"] (spM K (xaOf T) (m_l_term n))
  | 0 => fnM_no
  | n + 1 => by
    have G_l_term : FnG P w K mg base (L2.CX P w) (4 + n) T.a_l_term T.d_l_term ["_law_box_here", "_law_numbers_here", "_law_deep"] (spM K (xaOf T) (m_l_term n)) := okm_l_term T n
    have G_l_single : FnG P w K mg base (L2.CX P w) (4 + n) T.a_l_single T.d_l_single ["_law_box_here", "_law_numbers_here"] (spM K (xaOf T) m_l_single) := (okm_l_single T).mono (by omega)
    have G_l_take : FnG P w K mg base (L2.CX P w) (4 + n) T.a_l_take T.d_l_take ["_law_box_here", "_law_many"] (spM K (xaOf T) m_l_take) := (okm_l_take T).mono (by omega)
    show FnG P w K mg base (L2.CX P w) (4 + n + 1) T.a_l_term T.d_l_term ["_law_box_here", "_law_numbers_here", "_law_deep"] (spM K (xaOf T) (mFn [true, false, false] (["_law_box_here", "_law_numbers_here", "_law_deep"] : List Str).length (b_l_term (m_l_term n))))
    exact fnM (P := P) (w := w) (base := base) (mg := mg) (xa := xaOf T) (k := 4 + n) (lent := [true, false, false]) (body := b_l_term (m_l_term n)) T.F_l_term sc_l_term rfl (by decide) fun cdv A outer s H E hr hgd => (qss_cons (qs_if (QW.qb (qw_or (qb_cmp (op_eqA (hr_ hr)) o_eq (qv_var (pv 2)) qv_int (nomark _)) (qw_or1 (qb_cmp (op_eqA (hr_ hr)) o_eq (qv_fz (qe_callL G_l_take hr hgd (takes_of rfl rfl rfl rfl) (by rfl) T.g_l_take T.F_l_take.kp T.b_l_take (qr_l (pv 0) (qr_v qv_int qr_nil)))) qv_int (nomark _))))) (qss_one (qs_retE (qe_callL G_l_single hr hgd (takes_of rfl rfl rfl rfl) (by rfl) T.g_l_single T.F_l_single.kp T.b_l_single (qr_l (pv 0) (qr_v (qv_var (pv 1)) qr_nil))))) qss_nil)
    (qss_one (qs_ret (qv_tup (qa_cons (qv_fz (qe_callL G_l_term hr hgd (takes_of rfl rfl rfl rfl) (by rfl) T.g_l_term T.F_l_term.kp T.b_l_term (qr_l (pv 0) (qr_v (qv_var (pv 1)) (qr_v (qv_op op_sub o_sub (qv_var (pv 2)) qv_int) qr_nil))))) (qa_cons (qv_fz (qe_callL G_l_term hr hgd (takes_of rfl rfl rfl rfl) (by rfl) T.g_l_term T.F_l_term.kp T.b_l_term (qr_l (pv 0) (qr_v (qv_var (pv 1)) (qr_v (qv_op op_sub o_sub (qv_var (pv 2)) qv_int) qr_nil))))) qa_nil))))))
def b_l_numbers : MS := (sSeq (sSet 1 (v2 pIx (vN pLst (aCons (vC (PyData.int 0)) (aCons (vC (PyData.int 0)) (aCons (vC (PyData.int 5)) (aCons (vC (PyData.int 999999990)) aNil))))) (vFz (eCallL m_l_take [(0, 0)] (rL 0 (rV (vC (PyData.int 4)) rNil))))))
  (sSeq (sSet 2 (v2 pIx (vN pLst (aCons (vC (PyData.int 1)) (aCons (vC (PyData.int 2)) aNil))) (vFz (eCallL m_l_take [(0, 0)] (rL 0 (rV (vC (PyData.int 2)) rNil))))))
  (sSeq (sSet 3 (vLc [4] (iRange1 (v2 pAdd (vC (PyData.int 1)) (vFz (eCallL m_l_take [(0, 0)] (rL 0 (rV (vC (PyData.int 5)) rNil)))))) (Tg.nm 4) bYes (v2 pAdd (vVar 1) (v2 pMul (vVar 2) (vVar 4)))))
  (sRet (v2 pStep (vVar 3) (v2 pIx (vN pLst (aCons (vC (PyData.int 1)) (aCons (v1 pNeg (vC (PyData.int 1))) aNil))) (vFz (eCallL m_l_take [(0, 0)] (rL 0 (rV (vC (PyData.int 2)) rNil))))))))))
def m_l_numbers : Mf := mFn [true] 5 b_l_numbers
theorem okm_l_numbers (T : Env K mg) : FnG P w K mg base (L2.CX P w) 3 T.a_l_numbers T.d_l_numbers ["_law_box_here"] (spM K (xaOf T) m_l_numbers) := by
  have G_l_take : FnG P w K mg base (L2.CX P w) (2) T.a_l_take T.d_l_take ["_law_box_here", "_law_many"] (spM K (xaOf T) m_l_take) := (okm_l_take T).mono (by omega)
  show FnG P w K mg base (L2.CX P w) (2 + 1) T.a_l_numbers T.d_l_numbers ["_law_box_here"] (spM K (xaOf T) (mFn [true] (["_law_box_here", "_law_base", "_law_step", "_law_found", "_law_k"] : List Str).length b_l_numbers))
  exact fnM (P := P) (w := w) (base := base) (mg := mg) (xa := xaOf T) (k := 2) (lent := [true]) (body := b_l_numbers) T.F_l_numbers sc_l_numbers rfl (by decide) fun cdv A outer s H E hr hgd => (qss_cons (qs_set (i := 1) (by rfl) (qv_ix (qv_lst (qa_cons qv_int (qa_cons qv_int (qa_cons qv_int (qa_cons qv_int qa_nil))))) (qv_fz (qe_callL G_l_take hr hgd (takes_of rfl rfl rfl rfl) (by rfl) T.g_l_take T.F_l_take.kp T.b_l_take (qr_l (pv 0) (qr_v qv_int qr_nil)))) (fun _ _ => rfl)) fun _ p => ps_set (i := 1) sc_l_numbers.nd rfl (Or.inr rfl) p)
    (qss_cons (qs_set (i := 2) (by rfl) (qv_ix (qv_lst (qa_cons qv_int (qa_cons qv_int qa_nil))) (qv_fz (qe_callL G_l_take hr hgd (takes_of rfl rfl rfl rfl) (by rfl) T.g_l_take T.F_l_take.kp T.b_l_take (qr_l (pv 0) (qr_v qv_int qr_nil)))) (fun _ _ => rfl)) fun _ p => ps_set (i := 2) sc_l_numbers.nd rfl (Or.inr rfl) p)
    (qss_cons (qs_setLc (i := 3) (own := [("_law_k", 4)]) (g := (Tg.nm 4)) (by rfl) (by decide) (by rfl) sc_l_numbers.nd rfl rfl (sw_true rfl rfl rfl (by decide +kernel)) (qi_r1 (qv_op op_addA o_add qv_int (qv_fz (qe_callL G_l_take hr hgd (takes_of rfl rfl rfl rfl) (by rfl) T.g_l_take T.F_l_take.kp T.b_l_take (qr_l (pv 0) (qr_v qv_int qr_nil))))) fun _ p => pi_range1 (by rfl) T.m_range (pa_cons p pa_nil)) (blkOk_by (own := [("_law_k", 4)]) (N := ["_law_box_here", "_law_base", "_law_step", "_law_found", "_law_k"]) (sc := defScope s_l_numbers) (by decide +kernel)) (fun _ => (pg_name (i := 4) sc_l_numbers.nd rfl (Or.inl rfl))) (simg_nm 4) (fun _ => qts_nil) (fun _ => (qv_op op_addA o_add (qv_var (pv 1)) (qv_op op_mulW o_mul (qv_var (pv 2)) (qv_var (pv 4))))))
    (qss_one (qs_ret (qv_step (qv_var (pv 3)) (qv_ix (qv_lst (qa_cons qv_int (qa_cons (qv_un un_neg o_neg qv_int fun _ p => pe_un un_neg p) qa_nil))) (qv_fz (qe_callL G_l_take hr hgd (takes_of rfl rfl rfl rfl) (by rfl) T.g_l_take T.F_l_take.kp T.b_l_take (qr_l (pv 0) (qr_v qv_int qr_nil)))) (fun _ _ => rfl))))))))
def b_l_near (self : Mf) : MS := (sSeq (sIf (bAnd (bV (v2 pEq (vFz (eCallL m_l_take [(0, 0)] (rL 0 (rV (vC (PyData.int 5)) rNil)))) (vC (PyData.int 0)))) (bNilV true (vVar 2))) (sRet (vN pTup (aCons (v2 pIx (vVar 2) (vFz (eCallL m_l_take [(0, 0)] (rL 0 (rV (vN pLen (aCons (vVar 2) aNil)) rNil))))) aNil))) sNx)
  (sSeq (sIf (bAnd (bV (vIsi Kn.isTup (vVar 1))) (bV (v2 pEq (vN pLen (aCons (vVar 1) aNil)) (vC (PyData.int 2))))) (sRet (vN pTup (aCons (vFz (eCallL self [(0, 0)] (rL 0 (rV (v2 pIx (vVar 1) (vC (PyData.int 0))) (rV (vVar 2) rNil))))) (aCons (vFz (eCallL self [(0, 0)] (rL 0 (rV (v2 pIx (vVar 1) (vC (PyData.int 1))) (rV (vVar 2) rNil))))) aNil)))) sNx)
  (sSeq (sIf (bV (v2 pEq (vFz (eCallL m_l_take [(0, 0)] (rL 0 (rV (vC (PyData.int 12)) rNil)))) (vC (PyData.int 0)))) (sRetE (eCallL m_l_single [(0, 0)] (rL 0 (rV (vVar 2) rNil)))) sNx)
  (sRet (vVar 1)))))
def m_l_near : Nat → Mf
  | 0 => fun _ => .no
  | n + 1 => mFn [true, false, false] 3 (b_l_near (m_l_near n))
theorem okm_l_near (T : Env K mg) : ∀ n : Nat, FnG P w K mg base (L2.CX P w) (4 + n) T.a_l_near T.d_l_near ["_law_box_here", "_law_term_here", "_law_numbers_here"] (spM K (xaOf T) (m_l_near n))
  | 0 => fnM_no
  | n + 1 => by
    have G_l_near : FnG P w K mg base (L2.CX P w) (4 + n) T.a_l_near T.d_l_near ["_law_box_here", "_law_term_here", "_law_numbers_here"] (spM K (xaOf T) (m_l_near n)) := okm_l_near T n
    have G_l_take : FnG P w K mg base (L2.CX P w) (4 + n) T.a_l_take T.d_l_take ["_law_box_here", "_law_many"] (spM K (xaOf T) m_l_take) := (okm_l_take T).mono (by omega)
    have G_l_single : FnG P w K mg base (L2.CX P w) (4 + n) T.a_l_single T.d_l_single ["_law_box_here", "_law_numbers_here"] (spM K (xaOf T) m_l_single) := (okm_l_single T).mono (by omega)
    show FnG P w K mg base (L2.CX P w) (4 + n + 1) T.a_l_near T.d_l_near ["_law_box_here", "_law_term_here", "_law_numbers_here"] (spM K (xaOf T) (mFn [true, false, false] (["_law_box_here", "_law_term_here", "_law_numbers_here"] : List Str).length (b_l_near (m_l_near n))))
    exact fnM (P := P) (w := w) (base := base) (mg := mg) (xa := xaOf T) (k := 4 + n) (lent := [true, false, false]) (body := b_l_near (m_l_near n)) T.F_l_near sc_l_near rfl (by decide) fun cdv A outer s H E hr hgd => (qss_cons (qs_if (QW.qb (qw_and (qb_cmp (op_eqA (hr_ hr)) o_eq (qv_fz (qe_callL G_l_take hr hgd (takes_of rfl rfl rfl rfl) (by rfl) T.g_l_take T.F_l_take.kp T.b_l_take (qr_l (pv 0) (qr_v qv_int qr_nil)))) qv_int (nomark _)) (qw_and1 (qb_nilV (neg := true) (qv_var (pv 2)) fun _ p => pt_cmpR (op_neNil (hr_ hr)) p (pe_lst pa_nil) (nomark _))))) (qss_one (qs_ret (qv_tup (qa_cons (qv_ix (qv_var (pv 2)) (qv_fz (qe_callL G_l_take hr hgd (takes_of rfl rfl rfl rfl) (by rfl) T.g_l_take T.F_l_take.kp T.b_l_take (qr_l (pv 0) (qr_v (qv_callB call_lenA o_len (by rfl) T.m_len PySem.boot_len (qa_cons (qv_var (pv 2)) qa_nil)) qr_nil)))) (fun _ _ => rfl)) qa_nil)))) qss_nil)
    (qss_cons (qs_if (QW.qb (qw_and (qb_val (qv_isi (fun k => kit_tup k) (by rfl) T.m_isinstance (qv_var (pv 1)) (pe_bltn (v := .ty "tuple") (by rfl) T.m_tuple PyProof.Rows.boot_tuple rfl) (x := ""))) (qw_and1 (qb_cmp (op_eqA (hr_ hr)) o_eq (qv_callB call_lenA o_len (by rfl) T.m_len PySem.boot_len (qa_cons (qv_var (pv 1)) qa_nil)) qv_int (nomark _))))) (qss_one (qs_ret (qv_tup (qa_cons (qv_fz (qe_callL G_l_near hr hgd (takes_of rfl rfl rfl rfl) (by rfl) T.g_l_near T.F_l_near.kp T.b_l_near (qr_l (pv 0) (qr_v (qv_ix (qv_var (pv 1)) qv_int (fun _ _ => rfl)) (qr_v (qv_var (pv 2)) qr_nil))))) (qa_cons (qv_fz (qe_callL G_l_near hr hgd (takes_of rfl rfl rfl rfl) (by rfl) T.g_l_near T.F_l_near.kp T.b_l_near (qr_l (pv 0) (qr_v (qv_ix (qv_var (pv 1)) qv_int (fun _ _ => rfl)) (qr_v (qv_var (pv 2)) qr_nil))))) qa_nil))))) qss_nil)
    (qss_cons (qs_if (qb_cmp (op_eqA (hr_ hr)) o_eq (qv_fz (qe_callL G_l_take hr hgd (takes_of rfl rfl rfl rfl) (by rfl) T.g_l_take T.F_l_take.kp T.b_l_take (qr_l (pv 0) (qr_v qv_int qr_nil)))) qv_int (nomark _)) (qss_one (qs_retE (qe_callL G_l_single hr hgd (takes_of rfl rfl rfl rfl) (by rfl) T.g_l_single T.F_l_single.kp T.b_l_single (qr_l (pv 0) (qr_v (qv_var (pv 2)) qr_nil))))) qss_nil)
    (qss_one (qs_ret (qv_var (pv 1)))))))
def b_l_put (self : Mf) : MS := (sSeq (sIf (bAnd (bV (vIsi Kn.isTup (vVar 0))) (bV (v2 pEq (vN pLen (aCons (vVar 0) aNil)) (vC (PyData.int 2))))) (sRet (vN pTup (aCons (vFz (eCallL self [(1, 1)] (rV (v2 pIx (vVar 0) (vC (PyData.int 0))) (rL 1 rNil)))) (aCons (vFz (eCallL self [(1, 1)] (rV (v2 pIx (vVar 0) (vC (PyData.int 1))) (rL 1 rNil)))) aNil)))) sNx)
  (sSeq (sIf (bV (vIsi Kn.isTup (vVar 0))) (sRet (vDGet2 1 (v2 pIx (vVar 0) (vC (PyData.int 0))) (vVar 0))) sNx)
  (sRet (vVar 0))))
def m_l_put : Nat → Mf
  | 0 => fun _ => .no
  | n + 1 => mFn [false, true] 2 (b_l_put (m_l_put n))
theorem okm_l_put (T : Env K mg) : ∀ n : Nat, FnG P w K mg base (L2.CX P w) (1 + n) T.a_l_put T.d_l_put ["_law_term_here", "_law_values"] (spM K (xaOf T) (m_l_put n))
  | 0 => fnM_no
  | n + 1 => by
    have G_l_put : FnG P w K mg base (L2.CX P w) (1 + n) T.a_l_put T.d_l_put ["_law_term_here", "_law_values"] (spM K (xaOf T) (m_l_put n)) := okm_l_put T n
    show FnG P w K mg base (L2.CX P w) (1 + n + 1) T.a_l_put T.d_l_put ["_law_term_here", "_law_values"] (spM K (xaOf T) (mFn [false, true] (["_law_term_here", "_law_values"] : List Str).length (b_l_put (m_l_put n))))
    exact fnM (P := P) (w := w) (base := base) (mg := mg) (xa := xaOf T) (k := 1 + n) (lent := [false, true]) (body := b_l_put (m_l_put n)) T.F_l_put sc_l_put rfl (by decide) fun cdv A outer s H E hr hgd => (qss_cons (qs_if (QW.qb (qw_and (qb_val (qv_isi (fun k => kit_tup k) (by rfl) T.m_isinstance (qv_var (pv 0)) (pe_bltn (v := .ty "tuple") (by rfl) T.m_tuple PyProof.Rows.boot_tuple rfl) (x := ""))) (qw_and1 (qb_cmp (op_eqA (hr_ hr)) o_eq (qv_callB call_lenA o_len (by rfl) T.m_len PySem.boot_len (qa_cons (qv_var (pv 0)) qa_nil)) qv_int (nomark _))))) (qss_one (qs_ret (qv_tup (qa_cons (qv_fz (qe_callL G_l_put hr hgd (takes_of rfl rfl rfl rfl) (by rfl) T.g_l_put T.F_l_put.kp T.b_l_put (qr_v (qv_ix (qv_var (pv 0)) qv_int (fun _ _ => rfl)) (qr_l (pv 1) qr_nil)))) (qa_cons (qv_fz (qe_callL G_l_put hr hgd (takes_of rfl rfl rfl rfl) (by rfl) T.g_l_put T.F_l_put.kp T.b_l_put (qr_v (qv_ix (qv_var (pv 0)) qv_int (fun _ _ => rfl)) (qr_l (pv 1) qr_nil)))) qa_nil))))) qss_nil)
    (qss_cons (qs_if (qb_val (qv_isi (fun k => kit_tup k) (by rfl) T.m_isinstance (qv_var (pv 0)) (pe_bltn (v := .ty "tuple") (by rfl) T.m_tuple PyProof.Rows.boot_tuple rfl) (x := ""))) (qss_one (qs_ret (qv_dget2 (hu_of hr) (pv 1) (qv_ix (qv_var (pv 0)) qv_int (fun _ _ => rfl)) (qv_var (pv 0)) ⟨rfl, rfl, rfl, rfl⟩))) qss_nil)
    (qss_one (qs_ret (qv_var (pv 0))))))
def b_l_joined (self : Mf) : MS := (sSeq (sSet 3 (vAnd (vIsi Kn.isTup (vVar 0)) (v2 pEq (vN pLen (aCons (vVar 0) aNil)) (vC (PyData.int 2)))))
  (sSeq (sIf (bAnd (bV (vVar 3)) (bAnd (bV (vIsi Kn.isTup (vVar 1))) (bV (v2 pEq (vN pLen (aCons (vVar 1) aNil)) (vC (PyData.int 2)))))) (sSeq (sSet 4 (vFz (eCallL self [(2, 2)] (rV (v2 pIx (vVar 0) (vC (PyData.int 0))) (rV (v2 pIx (vVar 1) (vC (PyData.int 0))) (rL 2 rNil))))))
  (sRet (vN pTup (aCons (vVar 4) (aCons (vFz (eCallL self [(2, 2)] (rV (v2 pIx (vVar 0) (vC (PyData.int 1))) (rV (v2 pIx (vVar 1) (vC (PyData.int 1))) (rL 2 rNil))))) aNil))))) sNx)
  (sSeq (sIf (bAnd (bV (v2 pEq (vVar 0) (vVar 1))) (bNot (bV (vIsi Kn.isTup (vVar 0))))) (sRet (vVar 0)) sNx)
  (sSeq (sFor (iRange1 (vLenS 2)) (Tg.nm 5) (sIf (bV (v2 pEq (vIxS 2 (vVar 5)) (vN pTup (aCons (vVar 0) (aCons (vVar 1) aNil))))) (sRet (vN pTup (aCons (vVar 5) aNil))) sNx))
  (sSeq (sExpr (vApp 2 (vN pTup (aCons (vVar 0) (aCons (vVar 1) aNil)))))
  (sRet (vN pTup (aCons (v2 pSub (vLenS 2) (vC (PyData.int 1))) aNil))))))))
def m_l_joined : Nat → Mf
  | 0 => fun _ => .no
  | n + 1 => mFn [false, false, true] 6 (b_l_joined (m_l_joined n))
theorem okm_l_joined (T : Env K mg) : ∀ n : Nat, FnG P w K mg base (L2.CX P w) (1 + n) T.a_l_joined T.d_l_joined ["_law_one", "_law_other", "_law_found"] (spM K (xaOf T) (m_l_joined n))
  | 0 => fnM_no
  | n + 1 => by
    have G_l_joined : FnG P w K mg base (L2.CX P w) (1 + n) T.a_l_joined T.d_l_joined ["_law_one", "_law_other", "_law_found"] (spM K (xaOf T) (m_l_joined n)) := okm_l_joined T n
    show FnG P w K mg base (L2.CX P w) (1 + n + 1) T.a_l_joined T.d_l_joined ["_law_one", "_law_other", "_law_found"] (spM K (xaOf T) (mFn [false, false, true] (["_law_one", "_law_other", "_law_found", "_law_pair", "_law_first", "_law_k"] : List Str).length (b_l_joined (m_l_joined n))))
    exact fnM (P := P) (w := w) (base := base) (mg := mg) (xa := xaOf T) (k := 1 + n) (lent := [false, false, true]) (body := b_l_joined (m_l_joined n)) T.F_l_joined sc_l_joined rfl (by decide) fun cdv A outer s H E hr hgd => (qss_cons (qs_set (i := 3) (by rfl) (qv_and (qv_isi (fun k => kit_tup k) (by rfl) T.m_isinstance (qv_var (pv 0)) (pe_bltn (v := .ty "tuple") (by rfl) T.m_tuple PyProof.Rows.boot_tuple rfl) (x := "")) (qv_one (qv_cmp (op_eqA (hr_ hr)) o_eq (qv_callB call_lenA o_len (by rfl) T.m_len PySem.boot_len (qa_cons (qv_var (pv 0)) qa_nil)) qv_int (nomark _)) fun _ p => pe_one p)) fun _ p => ps_set (i := 3) sc_l_joined.nd rfl (Or.inl rfl) p)
    (qss_cons (qs_if (QW.qb (qw_and (qb_val (qv_var (pv 3))) (qw_and (qb_val (qv_isi (fun k => kit_tup k) (by rfl) T.m_isinstance (qv_var (pv 1)) (pe_bltn (v := .ty "tuple") (by rfl) T.m_tuple PyProof.Rows.boot_tuple rfl) (x := ""))) (qw_and1 (qb_cmp (op_eqA (hr_ hr)) o_eq (qv_callB call_lenA o_len (by rfl) T.m_len PySem.boot_len (qa_cons (qv_var (pv 1)) qa_nil)) qv_int (nomark _)))))) (qss_cons (qs_set (i := 4) (by rfl) (qv_fz (qe_callL G_l_joined hr hgd (takes_of rfl rfl rfl rfl) (by rfl) T.g_l_joined T.F_l_joined.kp T.b_l_joined (qr_v (qv_ix (qv_var (pv 0)) qv_int (fun _ _ => rfl)) (qr_v (qv_ix (qv_var (pv 1)) qv_int (fun _ _ => rfl)) (qr_l (pv 2) qr_nil))))) fun _ p => ps_set (i := 4) sc_l_joined.nd rfl (Or.inl rfl) p)
    (qss_one (qs_ret (qv_tup (qa_cons (qv_var (pv 4)) (qa_cons (qv_fz (qe_callL G_l_joined hr hgd (takes_of rfl rfl rfl rfl) (by rfl) T.g_l_joined T.F_l_joined.kp T.b_l_joined (qr_v (qv_ix (qv_var (pv 0)) qv_int (fun _ _ => rfl)) (qr_v (qv_ix (qv_var (pv 1)) qv_int (fun _ _ => rfl)) (qr_l (pv 2) qr_nil))))) qa_nil)))))) qss_nil)
    (qss_cons (qs_if (QW.qb (qw_and (qb_cmp (op_eqA (hr_ hr)) o_eq (qv_var (pv 0)) (qv_var (pv 1)) (nomark _)) (qw_and1 (qb_not (qb_val (qv_isi (fun k => kit_tup k) (by rfl) T.m_isinstance (qv_var (pv 0)) (pe_bltn (v := .ty "tuple") (by rfl) T.m_tuple PyProof.Rows.boot_tuple rfl) (x := ""))))))) (qss_one (qs_ret (qv_var (pv 0)))) qss_nil)
    (qss_cons (qs_for (by rfl) (qi_r1 (qv_lenS (pe_callB call_lenA (by rfl) T.m_len PySem.boot_len (pa_cons (pv 2) pa_nil))) fun _ p => pi_range1 (by rfl) T.m_range (pa_cons p pa_nil)) ⟨_, (pg_name (i := 5) sc_l_joined.nd rfl (Or.inl rfl)), (simg_nm 5)⟩ (qss_one (qs_if (qb_cmp (op_eqA (hr_ hr)) o_eq (qv_ixS (pv 2) (qv_var (pv 5)) (fun _ _ => rfl)) (qv_tup (qa_cons (qv_var (pv 0)) (qa_cons (qv_var (pv 1)) qa_nil))) (nomark _)) (qss_one (qs_ret (qv_tup (qa_cons (qv_var (pv 5)) qa_nil)))) qss_nil)) fun _ _ _ p1 p2 p3 => ps_for (passes_of rfl) (by rfl) p1 p2 p3)
    (qss_cons (qs_expr (qv_app (i := 2) (qv_tup (qa_cons (qv_var (pv 0)) (qa_cons (qv_var (pv 1)) qa_nil))) fun _ p => pe_bm PySem.F.plainAttrs_list PySem.F.slot_list_append PySem.F.type_list_append mt_append (pv 2) (pa_cons p pa_nil)) fun _ p => ps_expr p)
    (qss_one (qs_ret (qv_tup (qa_cons (qv_op op_sub o_sub (qv_lenS (pe_callB call_lenA (by rfl) T.m_len PySem.boot_len (pa_cons (pv 2) pa_nil))) qv_int) qa_nil)))))))))
noncomputable def b_l_right : MS := (sSeq (sSet 2 (vFz (eCall m_joined [] (aCons (vVar 0) (aCons (vVar 1) aNil)))))
  (sSeq (sIf (bV (v2 pNe (vVar 2) (vFz (eCallL (m_l_joined 120) [] (rV (vVar 0) (rV (vVar 1) (rE (eLst aNil) rNil))))))) (sRet (vC (PyData.bool false))) sNx)
  (sSeq (sIf (bOr (bV (v2 (pIsNone false) (vFz (eCall m_instance [] (aCons (vVar 2) (aCons (vVar 0) aNil)))) (vC PyData.none))) (bV (v2 (pIsNone false) (vFz (eCall m_instance [] (aCons (vVar 2) (aCons (vVar 1) aNil)))) (vC PyData.none)))) (sRet (vC (PyData.bool false))) sNx)
  (sSeq (sIf (bNot (bV (vFz (eCall m_are_variants [] (aCons (vFz (eCall m_joined [] (aCons (vVar 1) (aCons (vVar 0) aNil)))) (aCons (vVar 2) aNil)))))) (sRet (vC (PyData.bool false))) sNx)
  (sSeq (sIf (bAnd (bV (v2 (pIsNone true) (vFz (eCall m_instance [] (aCons (vVar 0) (aCons (vVar 1) aNil)))) (vC PyData.none))) (bNot (bV (vFz (eCall m_are_variants [] (aCons (vVar 2) (aCons (vVar 0) aNil))))))) (sRet (vC (PyData.bool false))) sNx)
  (sRet (vAnd (vFz (eCall m_are_variants [] (aCons (vFz (eCall m_joined [] (aCons (vVar 2) (aCons (vVar 0) aNil)))) (aCons (vVar 2) aNil)))) (vFz (eCall m_are_variants [] (aCons (vFz (eCall m_joined [] (aCons (vVar 0) (aCons (vVar 0) aNil)))) (aCons (vVar 0) aNil)))))))))))
noncomputable def m_l_right : Mf := mFn [false, false] 3 b_l_right
theorem okm_l_right (T : Env K mg) : FnG P w K mg base (L2.CX P w) 122 T.a_l_right T.d_l_right ["_law_one", "_law_other"] (spM K (xaOf T) m_l_right) := by
  have G_joined : FnG P w K mg base (L2.CX P w) (121) T.a_joined T.d_joined ["one", "other"] (spM K (xaOf T) m_joined) := (okp_joined T).mono (by omega)
  have G_l_joined : FnG P w K mg base (L2.CX P w) (121) T.a_l_joined T.d_l_joined ["_law_one", "_law_other", "_law_found"] (spM K (xaOf T) (m_l_joined 120)) := (okm_l_joined T 120).mono (by omega)
  have G_are_variants : FnG P w K mg base (L2.CX P w) (121) T.a_are_variants T.d_are_variants ["one", "other"] (spM K (xaOf T) m_are_variants) := (okm_are_variants T).mono (by omega)
  have G_instance : FnG P w K mg base (L2.CX P w) (121) T.a_instance T.d_instance ["wider", "term"] (spM K (xaOf T) m_instance) := (okm_instance T).mono (by omega)
  show FnG P w K mg base (L2.CX P w) (121 + 1) T.a_l_right T.d_l_right ["_law_one", "_law_other"] (spM K (xaOf T) (mFn [false, false] (["_law_one", "_law_other", "_law_found"] : List Str).length b_l_right))
  exact fnM (P := P) (w := w) (base := base) (mg := mg) (xa := xaOf T) (k := 121) (lent := [false, false]) (body := b_l_right) T.F_l_right sc_l_right rfl (by decide) fun cdv A outer s H E hr hgd => (qss_cons (qs_set (i := 2) (by rfl) (qv_fz (qe_call G_joined hr hgd (takes_of rfl rfl rfl rfl) (by rfl) T.g_joined T.F_joined.kp T.b_joined .nil (fun _ => .nil) (qa_cons (qv_var (pv 0)) (qa_cons (qv_var (pv 1)) qa_nil)))) fun _ p => ps_set (i := 2) sc_l_right.nd rfl (Or.inl rfl) p)
    (qss_cons (qs_if (qb_cmp (op_neA (hr_ hr)) o_ne (qv_var (pv 2)) (qv_fz (qe_callL G_l_joined hr hgd (takes_of rfl rfl rfl rfl) (by rfl) T.g_l_joined T.F_l_joined.kp T.b_l_joined (qr_v (qv_var (pv 0)) (qr_v (qv_var (pv 1)) (qr_e (qe_lst qa_nil) qr_nil))))) (nomark _)) (qss_one (qs_ret qv_bl)) qss_nil)
    (qss_cons (qs_if (QW.qb (qw_or (qb_cmp op_isN o_isN (qv_fz (qe_call G_instance hr hgd (takes_of rfl rfl rfl rfl) (by rfl) T.g_instance T.F_instance.kp T.b_instance .nil (fun _ => .nil) (qa_cons (qv_var (pv 2)) (qa_cons (qv_var (pv 0)) qa_nil)))) qv_non (nomark _)) (qw_or1 (qb_cmp op_isN o_isN (qv_fz (qe_call G_instance hr hgd (takes_of rfl rfl rfl rfl) (by rfl) T.g_instance T.F_instance.kp T.b_instance .nil (fun _ => .nil) (qa_cons (qv_var (pv 2)) (qa_cons (qv_var (pv 1)) qa_nil)))) qv_non (nomark _))))) (qss_one (qs_ret qv_bl)) qss_nil)
    (qss_cons (qs_if (qb_not (qb_val (qv_fz (qe_call G_are_variants hr hgd (takes_of rfl rfl rfl rfl) (by rfl) T.g_are_variants T.F_are_variants.kp T.b_are_variants .nil (fun _ => .nil) (qa_cons (qv_fz (qe_call G_joined hr hgd (takes_of rfl rfl rfl rfl) (by rfl) T.g_joined T.F_joined.kp T.b_joined .nil (fun _ => .nil) (qa_cons (qv_var (pv 1)) (qa_cons (qv_var (pv 0)) qa_nil)))) (qa_cons (qv_var (pv 2)) qa_nil)))))) (qss_one (qs_ret qv_bl)) qss_nil)
    (qss_cons (qs_if (QW.qb (qw_and (qb_cmp op_notN o_notN (qv_fz (qe_call G_instance hr hgd (takes_of rfl rfl rfl rfl) (by rfl) T.g_instance T.F_instance.kp T.b_instance .nil (fun _ => .nil) (qa_cons (qv_var (pv 0)) (qa_cons (qv_var (pv 1)) qa_nil)))) qv_non (nomark _)) (qw_and1 (qb_not (qb_val (qv_fz (qe_call G_are_variants hr hgd (takes_of rfl rfl rfl rfl) (by rfl) T.g_are_variants T.F_are_variants.kp T.b_are_variants .nil (fun _ => .nil) (qa_cons (qv_var (pv 2)) (qa_cons (qv_var (pv 0)) qa_nil))))))))) (qss_one (qs_ret qv_bl)) qss_nil)
    (qss_one (qs_ret (qv_and (qv_fz (qe_call G_are_variants hr hgd (takes_of rfl rfl rfl rfl) (by rfl) T.g_are_variants T.F_are_variants.kp T.b_are_variants .nil (fun _ => .nil) (qa_cons (qv_fz (qe_call G_joined hr hgd (takes_of rfl rfl rfl rfl) (by rfl) T.g_joined T.F_joined.kp T.b_joined .nil (fun _ => .nil) (qa_cons (qv_var (pv 2)) (qa_cons (qv_var (pv 0)) qa_nil)))) (qa_cons (qv_var (pv 2)) qa_nil)))) (qv_one (qv_fz (qe_call G_are_variants hr hgd (takes_of rfl rfl rfl rfl) (by rfl) T.g_are_variants T.F_are_variants.kp T.b_are_variants .nil (fun _ => .nil) (qa_cons (qv_fz (qe_call G_joined hr hgd (takes_of rfl rfl rfl rfl) (by rfl) T.g_joined T.F_joined.kp T.b_joined .nil (fun _ => .nil) (qa_cons (qv_var (pv 0)) (qa_cons (qv_var (pv 0)) qa_nil)))) (qa_cons (qv_var (pv 0)) qa_nil)))) fun _ p => pe_one p)))))))))
end

section
variable {P : Program} {w : World} {K : PySem.W.Frag} {mg : Str → Option Value} {base : Heap}
noncomputable def b_law : MS := (sSeq (sFor (iRange1 (vN pMax2 (aCons (vC (PyData.int 4)) (aCons (vN pMin2 (aCons (vC (PyData.int 10)) (aCons (vN pLen (aCons (vVar 0) aNil)) aNil))) aNil)))) (Tg.nm 1) (sSeq (sSetE 2 (eCall m_l_box [] (aCons (vFz (eCall m_l_cell [] (aCons (vVar 0) (aCons (vVar 1) aNil)))) aNil)))
  (sSeq (sSet 3 (vFz (eCallL m_l_numbers [(2, 0)] (rL 2 rNil))))
  (sSeq (sSet 4 (vFz (eCallL (m_l_term 6) [(2, 0)] (rL 2 (rV (vVar 3) (rV (vC (PyData.int 3)) rNil))))))
  (sSeq (sSetE 5 (eLst aNil))
  (sSeq (sFor (iRange1 (vC (PyData.int 2))) (Tg.nm 6) (sSeq (sSetE 7 eD0)
  (sSeq (sFor (iSeq (vVar 3)) (Tg.nm 8) (sDPut 7 (vVar 8) (vFz (eCallL (m_l_term 6) [(2, 0)] (rL 2 (rV (vVar 3) (rV (vC (PyData.int 2)) rNil)))))))
  (sExpr (vApp 5 (vFz (eCallL (m_l_put 120) [(7, 1)] (rV (vVar 4) (rL 7 rNil)))))))))
  (sSeq (sSet 9 (vFz (eCall m_joined [] (aCons (vIxS 5 (vC (PyData.int 0))) (aCons (vIxS 5 (vC (PyData.int 1))) aNil)))))
  (sSeq (sIf (bV (v2 (pIsNone false) (vFz (eCall m_instance [] (aCons (vVar 4) (aCons (vVar 9) aNil)))) (vC PyData.none))) (sRet (vC (PyData.bool false))) sNx)
  (sSeq (sSet 10 (vFz (eCallL (m_l_term 6) [(2, 0)] (rL 2 (rV (vVar 3) (rV (vC (PyData.int 4)) rNil))))))
  (sSeq (sSet 11 (vFz (eCallL (m_l_near 120) [(2, 0)] (rL 2 (rV (vIxS 5 (vC (PyData.int 0))) (rV (vVar 3) rNil))))))
  (sSeq (sSet 12 (vN pLst (aCons (vN pTup (aCons (vIxS 5 (vC (PyData.int 0))) (aCons (vIxS 5 (vC (PyData.int 1))) aNil))) (aCons (vN pTup (aCons (vIxS 5 (vC (PyData.int 0))) (aCons (vVar 11) aNil))) (aCons (vN pTup (aCons (vIxS 5 (vC (PyData.int 1))) (aCons (vVar 10) aNil))) (aCons (vN pTup (aCons (vVar 4) (aCons (vIxS 5 (vC (PyData.int 0))) aNil))) aNil))))))
  (sFor (iSeq (vVar 12)) (Tg.tp [(Tg.nm 13), (Tg.nm 14)]) (sIf (bOr (bNot (bV (vFz (eCall m_l_right [] (aCons (vVar 13) (aCons (vVar 14) aNil)))))) (bNot (bV (vFz (eCall m_l_right [] (aCons (vVar 14) (aCons (vVar 13) aNil))))))) (sRet (vC (PyData.bool false))) sNx)))))))))))))
  (sRet (vAnd (v2 pEq (vFz (eCall m_joined [] (aCons (vN pTup (aCons (vC (PyData.str "a")) (aCons (vC (PyData.int 7)) aNil))) (aCons (vN pTup (aCons (vC (PyData.str "a")) (aCons (vC (PyData.int 7)) aNil))) aNil)))) (vN pTup (aCons (vC (PyData.str "a")) (aCons (vC (PyData.int 7)) aNil)))) (vAnd (v2 pEq (vFz (eCall m_joined [] (aCons (vN pTup (aCons (vC (PyData.int 5)) aNil)) (aCons (vN pTup (aCons (vC (PyData.int 5)) aNil)) aNil)))) (vN pTup (aCons (vC (PyData.int 0)) aNil))) (v2 pEq (vFz (eCall m_joined [] (aCons (vC (PyData.int 1)) (aCons (vC (PyData.str "a")) aNil)))) (vN pTup (aCons (vC (PyData.int 0)) aNil)))))))
noncomputable def m_law : Mf := mFn [false] 15 b_law
theorem okm_law (T : Env K mg) : FnG P w K mg base (L2.CX P w) 125 T.a_law T.d_law ["_law_script"] (spM K (xaOf T) m_law) := by
  have G_l_box : FnG P w K mg base (L2.CX P w) (124) T.a_l_box T.d_l_box ["_law_cell_here"] (spM K (xaOf T) m_l_box) := (okm_l_box T).mono (by omega)
  have G_l_numbers : FnG P w K mg base (L2.CX P w) (124) T.a_l_numbers T.d_l_numbers ["_law_box_here"] (spM K (xaOf T) m_l_numbers) := (okm_l_numbers T).mono (by omega)
  have G_l_term : FnG P w K mg base (L2.CX P w) (124) T.a_l_term T.d_l_term ["_law_box_here", "_law_numbers_here", "_law_deep"] (spM K (xaOf T) (m_l_term 6)) := (okm_l_term T 6).mono (by omega)
  have G_joined : FnG P w K mg base (L2.CX P w) (124) T.a_joined T.d_joined ["one", "other"] (spM K (xaOf T) m_joined) := (okp_joined T).mono (by omega)
  have G_l_near : FnG P w K mg base (L2.CX P w) (124) T.a_l_near T.d_l_near ["_law_box_here", "_law_term_here", "_law_numbers_here"] (spM K (xaOf T) (m_l_near 120)) := (okm_l_near T 120).mono (by omega)
  have G_l_cell : FnG P w K mg base (L2.CX P w) (124) T.a_l_cell T.d_l_cell ["_law_script", "_law_k"] (spM K (xaOf T) m_l_cell) := (okm_l_cell T).mono (by omega)
  have G_instance : FnG P w K mg base (L2.CX P w) (124) T.a_instance T.d_instance ["wider", "term"] (spM K (xaOf T) m_instance) := (okm_instance T).mono (by omega)
  have G_l_put : FnG P w K mg base (L2.CX P w) (124) T.a_l_put T.d_l_put ["_law_term_here", "_law_values"] (spM K (xaOf T) (m_l_put 120)) := (okm_l_put T 120).mono (by omega)
  have G_l_right : FnG P w K mg base (L2.CX P w) (124) T.a_l_right T.d_l_right ["_law_one", "_law_other"] (spM K (xaOf T) m_l_right) := (okm_l_right T).mono (by omega)
  show FnG P w K mg base (L2.CX P w) (124 + 1) T.a_law T.d_law ["_law_script"] (spM K (xaOf T) (mFn [false] (["_law_script", "_law_k", "_law_box_here", "_law_numbers_here", "_law_wider", "_law_terms", "_law_turn", "_law_values", "_law_number", "_law_found", "_law_other", "_law_near_here", "_law_pairs", "_law_one", "_law_two"] : List Str).length b_law))
  exact fnM (P := P) (w := w) (base := base) (mg := mg) (xa := xaOf T) (k := 124) (lent := [false]) (body := b_law) T.F_law sc_law rfl (by decide) fun cdv A outer s H E hr hgd => (qss_cons (qs_for (by rfl) (qi_r1 (qv_callB (call_max2 (by rfl)) o_max2 (by rfl) T.m_max PyProof.Rows.boot_max (qa_cons qv_int (qa_cons (qv_callB (call_min2 (by rfl)) o_min2 (by rfl) T.m_min PyProof.Rows.boot_min (qa_cons qv_int (qa_cons (qv_callB call_lenA o_len (by rfl) T.m_len PySem.boot_len (qa_cons (qv_var (pv 0)) qa_nil)) qa_nil))) qa_nil))) fun _ p => pi_range1 (by rfl) T.m_range (pa_cons p pa_nil)) ⟨_, (pg_name (i := 1) sc_law.nd rfl (Or.inl rfl)), (simg_nm 1)⟩ (qss_cons (qs_setE (i := 2) (by rfl) (qe_call G_l_box hr hgd (takes_of rfl rfl rfl rfl) (by rfl) T.g_l_box T.F_l_box.kp T.b_l_box .nil (fun _ => .nil) (qa_cons (qv_fz (qe_call G_l_cell hr hgd (takes_of rfl rfl rfl rfl) (by rfl) T.g_l_cell T.F_l_cell.kp T.b_l_cell .nil (fun _ => .nil) (qa_cons (qv_var (pv 0)) (qa_cons (qv_var (pv 1)) qa_nil)))) qa_nil)) fun _ p => ps_set (i := 2) sc_law.nd rfl (Or.inl rfl) p)
    (qss_cons (qs_set (i := 3) (by rfl) (qv_fz (qe_callL G_l_numbers hr hgd (takes_of rfl rfl rfl rfl) (by rfl) T.g_l_numbers T.F_l_numbers.kp T.b_l_numbers (qr_l (pv 2) qr_nil))) fun _ p => ps_set (i := 3) sc_law.nd rfl (Or.inl rfl) p)
    (qss_cons (qs_set (i := 4) (by rfl) (qv_fz (qe_callL G_l_term hr hgd (takes_of rfl rfl rfl rfl) (by rfl) T.g_l_term T.F_l_term.kp T.b_l_term (qr_l (pv 2) (qr_v (qv_var (pv 3)) (qr_v qv_int qr_nil))))) fun _ p => ps_set (i := 4) sc_law.nd rfl (Or.inl rfl) p)
    (qss_cons (qs_setE (i := 5) (by rfl) (qe_lst qa_nil) fun _ p => ps_set (i := 5) sc_law.nd rfl (Or.inl rfl) p)
    (qss_cons (qs_for (by rfl) (qi_r1 qv_int fun _ p => pi_range1 (by rfl) T.m_range (pa_cons p pa_nil)) ⟨_, (pg_name (i := 6) sc_law.nd rfl (Or.inl rfl)), (simg_nm 6)⟩ (qss_cons (qs_setE (i := 7) (by rfl) qe_d0 fun _ p => ps_set (i := 7) sc_law.nd rfl (Or.inl rfl) p)
    (qss_cons (qs_for (by rfl) (qi_seq (qv_var (pv 3))) ⟨_, (pg_name (i := 8) sc_law.nd rfl (Or.inl rfl)), (simg_nm 8)⟩ (qss_one (qs_dput (hu_of hr) (pv 7) (qv_var (pv 8)) (qv_fz (qe_callL G_l_term hr hgd (takes_of rfl rfl rfl rfl) (by rfl) T.g_l_term T.F_l_term.kp T.b_l_term (qr_l (pv 2) (qr_v (qv_var (pv 3)) (qr_v qv_int qr_nil))))) rfl)) fun _ _ _ p1 p2 p3 => ps_for (passes_of rfl) (by rfl) p1 p2 p3)
    (qss_one (qs_expr (qv_app (i := 5) (qv_fz (qe_callL G_l_put hr hgd (takes_of rfl rfl rfl rfl) (by rfl) T.g_l_put T.F_l_put.kp T.b_l_put (qr_v (qv_var (pv 4)) (qr_l (pv 7) qr_nil)))) fun _ p => pe_bm PySem.F.plainAttrs_list PySem.F.slot_list_append PySem.F.type_list_append mt_append (pv 5) (pa_cons p pa_nil)) fun _ p => ps_expr p)))) fun _ _ _ p1 p2 p3 => ps_for (passes_of rfl) (by rfl) p1 p2 p3)
    (qss_cons (qs_set (i := 9) (by rfl) (qv_fz (qe_call G_joined hr hgd (takes_of rfl rfl rfl rfl) (by rfl) T.g_joined T.F_joined.kp T.b_joined .nil (fun _ => .nil) (qa_cons (qv_ixS (pv 5) qv_int (fun _ _ => rfl)) (qa_cons (qv_ixS (pv 5) qv_int (fun _ _ => rfl)) qa_nil)))) fun _ p => ps_set (i := 9) sc_law.nd rfl (Or.inl rfl) p)
    (qss_cons (qs_if (qb_cmp op_isN o_isN (qv_fz (qe_call G_instance hr hgd (takes_of rfl rfl rfl rfl) (by rfl) T.g_instance T.F_instance.kp T.b_instance .nil (fun _ => .nil) (qa_cons (qv_var (pv 4)) (qa_cons (qv_var (pv 9)) qa_nil)))) qv_non (nomark _)) (qss_one (qs_ret qv_bl)) qss_nil)
    (qss_cons (qs_set (i := 10) (by rfl) (qv_fz (qe_callL G_l_term hr hgd (takes_of rfl rfl rfl rfl) (by rfl) T.g_l_term T.F_l_term.kp T.b_l_term (qr_l (pv 2) (qr_v (qv_var (pv 3)) (qr_v qv_int qr_nil))))) fun _ p => ps_set (i := 10) sc_law.nd rfl (Or.inl rfl) p)
    (qss_cons (qs_set (i := 11) (by rfl) (qv_fz (qe_callL G_l_near hr hgd (takes_of rfl rfl rfl rfl) (by rfl) T.g_l_near T.F_l_near.kp T.b_l_near (qr_l (pv 2) (qr_v (qv_ixS (pv 5) qv_int (fun _ _ => rfl)) (qr_v (qv_var (pv 3)) qr_nil))))) fun _ p => ps_set (i := 11) sc_law.nd rfl (Or.inl rfl) p)
    (qss_cons (qs_set (i := 12) (by rfl) (qv_lst (qa_cons (qv_tup (qa_cons (qv_ixS (pv 5) qv_int (fun _ _ => rfl)) (qa_cons (qv_ixS (pv 5) qv_int (fun _ _ => rfl)) qa_nil))) (qa_cons (qv_tup (qa_cons (qv_ixS (pv 5) qv_int (fun _ _ => rfl)) (qa_cons (qv_var (pv 11)) qa_nil))) (qa_cons (qv_tup (qa_cons (qv_ixS (pv 5) qv_int (fun _ _ => rfl)) (qa_cons (qv_var (pv 10)) qa_nil))) (qa_cons (qv_tup (qa_cons (qv_var (pv 4)) (qa_cons (qv_ixS (pv 5) qv_int (fun _ _ => rfl)) qa_nil))) qa_nil))))) fun _ p => ps_set (i := 12) sc_law.nd rfl (Or.inl rfl) p)
    (qss_one (qs_for (by rfl) (qi_seq (qv_var (pv 12))) ⟨_, (pg_tup (by rfl) (pgs_cons (pg_name (i := 13) sc_law.nd rfl (Or.inl rfl)) (pgs_cons (pg_name (i := 14) sc_law.nd rfl (Or.inl rfl)) pgs_nil))), (simg_tp rfl (simg_cons (simg_nm 13) (simg_cons (simg_nm 14) simg_nil)))⟩ (qss_one (qs_if (QW.qb (qw_or (qb_not (qb_val (qv_fz (qe_call G_l_right hr hgd (takes_of rfl rfl rfl rfl) (by rfl) T.g_l_right T.F_l_right.kp T.b_l_right .nil (fun _ => .nil) (qa_cons (qv_var (pv 13)) (qa_cons (qv_var (pv 14)) qa_nil)))))) (qw_or1 (qb_not (qb_val (qv_fz (qe_call G_l_right hr hgd (takes_of rfl rfl rfl rfl) (by rfl) T.g_l_right T.F_l_right.kp T.b_l_right .nil (fun _ => .nil) (qa_cons (qv_var (pv 14)) (qa_cons (qv_var (pv 13)) qa_nil))))))))) (qss_one (qs_ret qv_bl)) qss_nil)) fun _ _ _ p1 p2 p3 => ps_for (passes_of rfl) (by rfl) p1 p2 p3)))))))))))) fun _ _ _ p1 p2 p3 => ps_for (passes_of rfl) (by rfl) p1 p2 p3)
    (qss_one (qs_ret (qv_and (qv_cmp (op_eqA (hr_ hr)) o_eq (qv_fz (qe_call G_joined hr hgd (takes_of rfl rfl rfl rfl) (by rfl) T.g_joined T.F_joined.kp T.b_joined .nil (fun _ => .nil) (qa_cons (qv_tup (qa_cons qv_str (qa_cons qv_int qa_nil))) (qa_cons (qv_tup (qa_cons qv_str (qa_cons qv_int qa_nil))) qa_nil)))) (qv_tup (qa_cons qv_str (qa_cons qv_int qa_nil))) (nomark _)) (qv_and (qv_cmp (op_eqA (hr_ hr)) o_eq (qv_fz (qe_call G_joined hr hgd (takes_of rfl rfl rfl rfl) (by rfl) T.g_joined T.F_joined.kp T.b_joined .nil (fun _ => .nil) (qa_cons (qv_tup (qa_cons qv_int qa_nil)) (qa_cons (qv_tup (qa_cons qv_int qa_nil)) qa_nil)))) (qv_tup (qa_cons qv_int qa_nil)) (nomark _)) (qv_one (qv_cmp (op_eqA (hr_ hr)) o_eq (qv_fz (qe_call G_joined hr hgd (takes_of rfl rfl rfl rfl) (by rfl) T.g_joined T.F_joined.kp T.b_joined .nil (fun _ => .nil) (qa_cons qv_int (qa_cons qv_str qa_nil)))) (qv_tup (qa_cons qv_int qa_nil)) (nomark _)) fun _ p => pe_one p))))))
end

theorem e_is_term {t : Tm} (h : t.ok) (hd : t.deep ≤ 6) : m_is_term [.f t.d] = .ok (.f (.bool true)) [none] := by
  show (if fine t.d = true then Ou.ok (T.f (.bool (thOf t.d).isTerm)) [none] else .no) = _
  rw [if_pos (Tm.fine h), Tm.isTerm h hd]
theorem e_need {t : Tm} (h : t.ok) (hd : t.deep ≤ 6) : m_need_term [.f t.d] = .ok (.f .none) [none] := by
  rw [show m_need_term [.f t.d] = endF [false] (b_need_term [some (.f t.d)]) from mFn2 rfl rfl]
  have e := e_is_term h hd
  unfold b_need_term
  generalize m_is_term = m at e
  simp only [k_v1', k_v2', k_c1', k_c2', k_vN', k_not', k_no, k_ys, k_o', k_s1', k_s2', k_s3', k_ch1', k_ch2', k_isi', k_ret', k_retE', k_exp', k_set', k_setE', k_eV', k_lst0, k_lst1, k_lst2, k_call', k_for', k_seqL, k_seqT, look_f, look_l, look_0, moveB_s, x_rNil, k_r1', k_r2', x_rV, k_rL', lookL_s, x_rL, k_ld', x_eCallL, lendB_ok, ld0_0, ld0_1, ld0_2, ld2_0, ld2_1, ld2_2, bd_ok, bd_no, bd_ex, of_some, x_vC, x_vVar, x_v1, x_v2, x_aNil, x_aCons, x_vN, andB_t, andB_f, orB_t, orB_f, ifB_t, ifB_f, x_vAnd, x_vOr, x_bIf, asBk_b, x_bV, x_bNot, x_bAnd, x_bOr, x_oNone, x_oSome, x_asI, x_vSl, chB_t, chB_f, x_vChain, x_vIsi, x_sNx, x_sSeq, th_nx, th_rt, x_sIf, x_sRet, x_sRetE, x_sExpr, x_sSet, x_sSetE, x_eV, fzB_f, x_vFz, x_eMove, x_eLst, callB_ok, callB_ex, x_eCall, x_sFor, x_iSeq, x_end_rt, x_end_nx, x_end_ex, gt_0, gt_s, st_0, st_s, bk_n, bk_y, bk_0, List.map_cons, List.map_nil, List.cons_append, List.nil_append, List.append_nil, List.length_cons, List.length_nil, if_true, if_false, Bool.not_true, Bool.not_false, q_tup1, q_tup2, q_lt, q_gt, q_le, q_ge, q_eq, q_add, q_sub, e]
theorem e_isP (t : Tm) : m_is_pair [.f t.d] = .ok (.f (.bool t.isP)) [none] := by
  cases t <;> rfl
theorem unkD_un {i : Int} (h0 : 0 ≤ i) (h1 : i ≤ 999999999) : unkD (.tuple [.int i]) = true := by
  show (decide (0 ≤ i) && decide (i ≤ 999999999)) = true
  rw [decide_eq_true h0, decide_eq_true h1]
  rfl
theorem e_isU {t : Tm} (h : t.ok) : m_is_unknown [.f t.d] = .ok (.f (.bool t.isU)) [none] := by
  cases t with
  | nm x => rfl
  | nu x => rfl
  | un i =>
    have e : Ou.ok (T.f (.bool (unkD (.tuple [.int i])))) [none] = Ou.ok (T.f (.bool true)) [none] := by rw [unkD_un h.1 h.2]
    exact e
  | pr a b => rfl

/-! ### matching, told plainly -/
abbrev Fd := List (Int × Tm)
def lk (f : Fd) (i : Int) : Option Tm := (f.find? fun p => decide (p.1 = i)).map (·.2)
def mtU (i : Int) (t : Tm) (f : Fd) : Option Tm → Bool × Fd
  | some u => (decide (u = t), f)
  | none => (true, f ++ [(i, t)])
def mtS (r : Bool × Fd) (k : Fd → Bool × Fd) : Bool × Fd := if r.1 = true then k r.2 else (false, r.2)
def mt : Tm → Tm → Fd → Bool × Fd
  | .un i, t, f => mtU i t f (lk f i)
  | .pr a b, .pr c d, f => mtS (mt a c f) (mt b d)
  | .pr _ _, .nm _, f => (false, f)
  | .pr _ _, .nu _, f => (false, f)
  | .pr _ _, .un _, f => (false, f)
  | .nm x, t, f => (decide (Tm.nm x = t), f)
  | .nu x, t, f => (decide (Tm.nu x = t), f)
theorem mt_un (i : Int) (t : Tm) (f : Fd) : mt (.un i) t f = mtU i t f (lk f i) := by cases t <;> rfl
theorem mt_pr (a b c d : Tm) (f : Fd) : mt (.pr a b) (.pr c d) f = mtS (mt a c f) (mt b d) := rfl
theorem mt_nm (x : Str) (t : Tm) (f : Fd) : mt (.nm x) t f = (decide (Tm.nm x = t), f) := by cases t <;> rfl
theorem mt_nu (x : Int) (t : Tm) (f : Fd) : mt (.nu x) t f = (decide (Tm.nu x = t), f) := by cases t <;> rfl
theorem mt_prn (a b : Tm) {t : Tm} (f : Fd) (h : t.isP = false) : mt (.pr a b) t f = (false, f) := by
  cases t with
  | pr c d => cases h
  | _ => rfl
theorem mtS_t {r : Bool × Fd} {k : Fd → Bool × Fd} (h : r.1 = true) : mtS r k = k r.2 := if_pos h
theorem mtS_f {r : Bool × Fd} {k : Fd → Bool × Fd} (h : r.1 = false) : mtS r k = (false, r.2) := if_neg (by rw [h]; decide)
/-- what holds of what is found, and stays so -/
theorem mt_keep (p : Nat → Fd → Prop) (hU : ∀ n i t f, p n f → lk f i = none → p (n + 1) (f ++ [(i, t)])) (up : ∀ n m f, n ≤ m → p n f → p m f) : ∀ (w t : Tm) (f : Fd) (n : Nat), p n f → p (n + w.parts) (mt w t f).2
  | .un i, t, f, n, h => by
    rw [mt_un]
    show p (n + 1) _
    cases e : lk f i with
    | some u => exact up n (n + 1) f (by omega) h
    | none => exact hU n i t f h e
  | .pr a b, .pr c d, f, n, h => by
    rw [mt_pr]
    have h1 := mt_keep p hU up a c f n h
    cases e : (mt a c f).1 with
    | true =>
      rw [mtS_t e]
      exact up _ _ _ (show n + a.parts + b.parts ≤ n + (1 + a.parts + b.parts) by omega) (mt_keep p hU up b d (mt a c f).2 (n + a.parts) h1)
    | false =>
      rw [mtS_f e]
      exact up _ _ _ (show n + a.parts ≤ n + (1 + a.parts + b.parts) by omega) h1
  | .pr _ _, .nm _, f, n, h => up n _ f (by omega) h
  | .pr _ _, .nu _, f, n, h => up n _ f (by omega) h
  | .pr _ _, .un _, f, n, h => up n _ f (by omega) h
  | .nm x, t, f, n, h => by
    rw [mt_nm]
    exact up n _ f (by omega) h
  | .nu x, t, f, n, h => by
    rw [mt_nu]
    exact up n _ f (by omega) h
theorem lk_none {f : Fd} {i : Int} (h : lk f i = none) : i ∉ f.map (·.1) := fun z => by
  obtain ⟨p, hp, e⟩ := List.mem_map.mp z
  unfold lk at h
  cases e2 : f.find? fun p => decide (p.1 = i) with
  | none =>
    have := List.find?_eq_none.mp e2 p hp
    rw [decide_eq_true e] at this
    exact this rfl
  | some q =>
    rw [e2] at h
    cases h
theorem lk_none' {f : Fd} {i : Int} (h : i ∉ f.map (·.1)) : lk f i = none := by
  unfold lk
  rw [List.find?_eq_none.mpr fun p hp => ?_]
  · rfl
  · intro z
    exact h (List.mem_map.mpr ⟨p, hp, of_decide_eq_true z⟩)
def KeyNd (f : Fd) : Prop := (f.map (·.1)).Nodup
theorem KeyNd.snoc {f : Fd} {i : Int} {t : Tm} (h : KeyNd f) (e : lk f i = none) : KeyNd (f ++ [(i, t)]) := by
  unfold KeyNd
  rw [List.map_append]
  refine List.nodup_append.mpr ⟨h, List.nodup_cons.mpr ⟨(fun z => by cases z), .nil⟩, fun x hx y hy e2 => ?_⟩
  have hy : y = i := List.mem_singleton.mp hy
  rw [hy] at e2
  exact lk_none e (by rw [← e2]; exact hx)
theorem mt_nd (w t : Tm) (f : Fd) (h : KeyNd f) : KeyNd (mt w t f).2 := mt_keep (fun _ f => KeyNd f) (fun _ _ _ _ h e => h.snoc e) (fun _ _ _ _ h => h) w t f 0 h
theorem mt_len (w t : Tm) (f : Fd) : (mt w t f).2.length ≤ f.length + w.parts := mt_keep (fun n f => f.length ≤ n) (fun n i t f h _ => by
  rw [List.length_append]
  exact Nat.succ_le_succ h) (fun _ _ _ h1 h2 => Nat.le_trans h2 h1) w t f f.length (Nat.le_refl _)
/-- what is found is of terms -/
def FdOk (f : Fd) : Prop := ∀ p ∈ f, p.2.ok ∧ p.2.deep ≤ 6
theorem FdOk.snoc {f : Fd} {i : Int} {t : Tm} (h : FdOk f) (ht : t.ok) (hd : t.deep ≤ 6) : FdOk (f ++ [(i, t)]) := fun p hp => by
  rcases List.mem_append.mp hp with hp | hp
  · exact h p hp
  · rw [List.mem_singleton.mp hp]
    exact ⟨ht, hd⟩
theorem FdOk.lk {f : Fd} {i : Int} {t : Tm} (h : FdOk f) (e : lk f i = some t) : t.ok ∧ t.deep ≤ 6 := by
  unfold Fs.lk at e
  cases e2 : f.find? fun p => decide (p.1 = i) with
  | none =>
    rw [e2] at e
    cases e
  | some p =>
    rw [e2] at e
    cases e
    exact h p (List.mem_of_find?_eq_some e2)
theorem mt_ok : ∀ (w t : Tm) (f : Fd), FdOk f → t.ok → t.deep ≤ 6 → FdOk (mt w t f).2
  | .un i, t, f, h, ht, hd => by
    rw [mt_un]
    cases lk f i with
    | some u => exact h
    | none => exact h.snoc ht hd
  | .pr a b, .pr c d, f, h, ht, hd => by
    have hd : 1 + max c.deep d.deep ≤ 6 := hd
    rw [mt_pr]
    have h1 := mt_ok a c f h ht.1 (by omega)
    cases e : (mt a c f).1 with
    | true =>
      rw [mtS_t e]
      exact mt_ok b d _ h1 ht.2 (by omega)
    | false =>
      rw [mtS_f e]
      exact h1
  | .pr _ _, .nm _, f, h, _, _ => h
  | .pr _ _, .nu _, f, h, _, _ => h
  | .pr _ _, .un _, f, h, _, _ => h
  | .nm x, t, f, h, _, _ => by
    rw [mt_nm]
    exact h
  | .nu x, t, f, h, _, _ => by
    rw [mt_nu]
    exact h
/-! ### both ways: the unknowns named by their coming -/
def ix (us : List Int) (i : Int) : Option Nat := us.findIdx? fun j => decide (j = i)
def addN (us : List Int) (i : Int) : List Int := if i ∈ us then us else us ++ [i]
/-- the number of i by its coming -/
def com (us : List Int) (i : Int) : Int := match ix us i with
  | some k => (k : Int)
  | none => (us.length : Int)
def rn : Tm → List Int → Tm × List Int
  | .un i, us => (.un (com us i), addN us i)
  | .pr a b, us => (.pr (rn a us).1 (rn b (rn a us).2).1, (rn b (rn a us).2).2)
  | .nm x, us => (.nm x, us)
  | .nu x, us => (.nu x, us)
theorem ix_none {us : List Int} {i : Int} : ix us i = none ↔ i ∉ us := by
  unfold ix
  rw [List.findIdx?_eq_none_iff]
  exact ⟨(fun h z => by have := h i z; rw [decide_eq_true rfl] at this; cases this), fun h x hx => decide_eq_false fun e => h (by rw [← e]; exact hx)⟩
theorem ix_some {us : List Int} {i : Int} {k : Nat} (h : ix us i = some k) : us[k]? = some i := by
  unfold ix at h
  obtain ⟨h1, h2, _⟩ := List.findIdx?_eq_some_iff_getElem.mp h
  rw [List.getElem?_eq_getElem h1]
  exact congrArg some (of_decide_eq_true h2)
theorem ix_mem {us : List Int} {i : Int} {k : Nat} (h : ix us i = some k) : i ∈ us := List.mem_of_getElem? (ix_some h)
theorem ix_lt {us : List Int} {i : Int} {k : Nat} (h : ix us i = some k) : k < us.length := by
  have := ix_some h
  exact (List.getElem?_eq_some_iff.mp this).1
theorem ix_of {us : List Int} (nd : us.Nodup) {i : Int} {k : Nat} (h : us[k]? = some i) : ix us i = some k := by
  cases e : ix us i with
  | none => exact absurd (List.mem_of_getElem? h) (ix_none.mp e)
  | some l =>
    have h2 := ix_some e
    rw [(List.getElem?_inj (ix_lt e) nd).mp (h2.trans h.symm)]
theorem com_none {us : List Int} {i : Int} (h : ix us i = none) : com us i = (us.length : Int) := by
  unfold com
  rw [h]
theorem com_some {us : List Int} {i : Int} {k : Nat} (h : ix us i = some k) : com us i = (k : Int) := by
  unfold com
  rw [h]
theorem addN_in {us : List Int} {i : Int} (h : i ∈ us) : addN us i = us := if_pos h
theorem addN_new {us : List Int} {i : Int} (h : i ∉ us) : addN us i = us ++ [i] := if_neg h
theorem addN_nd {us : List Int} (h : us.Nodup) (i : Int) : (addN us i).Nodup := by
  by_cases c : i ∈ us
  · rw [addN_in c]
    exact h
  · rw [addN_new c]
    refine List.nodup_append.mpr ⟨h, List.nodup_cons.mpr ⟨(fun z => by cases z), .nil⟩, fun x hx y hy e2 => ?_⟩
    rw [List.mem_singleton.mp hy] at e2
    exact c (by rw [← e2]; exact hx)
/-- two rows of unknowns, one for one -/
structure Two (us vs : List Int) : Prop where
  ln : us.length = vs.length
  n1 : us.Nodup
  n2 : vs.Nodup
theorem Two.sym {us vs : List Int} (h : Two us vs) : Two vs us := ⟨h.ln.symm, h.n2, h.n1⟩
theorem Two.add {us vs : List Int} (h : Two us vs) {i j : Int} (e : ix us i = ix vs j) : Two (addN us i) (addN vs j) := by
  refine ⟨?_, addN_nd h.n1 i, addN_nd h.n2 j⟩
  cases c : ix us i with
  | none =>
    rw [addN_new (ix_none.mp c), addN_new (ix_none.mp (e.symm.trans c)), List.length_append, List.length_append, h.ln]
    rfl
  | some k =>
    rw [addN_in (ix_mem c), addN_in (ix_mem (e.symm.trans c)), h.ln]
def zt (us vs : List Int) : Fd := us.zip (vs.map Tm.un)
theorem zt_fst {us vs : List Int} (h : us.length = vs.length) : (zt us vs).map (·.1) = us := by
  unfold zt
  exact List.map_fst_zip (by rw [List.length_map]; omega)
theorem zt_snoc {us vs : List Int} (h : us.length = vs.length) (i j : Int) : zt (us ++ [i]) (vs ++ [j]) = zt us vs ++ [(i, .un j)] := by
  unfold zt
  rw [List.map_append, List.zip_append (by rw [List.length_map]; exact h)]
  rfl
theorem lk_zt {us vs : List Int} (h : Two us vs) (i : Int) : lk (zt us vs) i = ((ix us i).bind fun k => vs[k]?).map Tm.un := by
  cases c : ix us i with
  | none => exact lk_none' (by rw [zt_fst h.ln]; exact ix_none.mp c)
  | some k =>
    have hk := ix_lt c
    have e1 := ix_some c
    show _ = (vs[k]?).map Tm.un
    rw [List.getElem?_eq_getElem (by rw [← h.ln]; exact hk)]
    have nd : ((zt us vs).map (·.1)).Nodup := by rw [zt_fst h.ln]; exact h.n1
    have mem : (i, Tm.un (vs[k]'(by rw [← h.ln]; exact hk))) ∈ zt us vs := by
      refine List.mem_of_getElem? (i := k) ?_
      unfold zt
      rw [List.getElem?_zip_eq_some]
      exact ⟨e1, by rw [List.getElem?_map, List.getElem?_eq_getElem (by rw [← h.ln]; exact hk)]; rfl⟩
    unfold lk
    cases e2 : (zt us vs).find? fun p => decide (p.1 = i) with
    | none =>
      have := List.find?_eq_none.mp e2 _ mem
      rw [decide_eq_true rfl] at this
      exact (this rfl).elim
    | some p =>
      have h1 : p.1 = i := of_decide_eq_true (List.find?_some (p := fun p : Int × Tm => decide (p.1 = i)) e2)
      have h2 := List.mem_of_find?_eq_some e2
      obtain ⟨a, ha⟩ := List.mem_iff_getElem?.mp h2
      obtain ⟨b, hb⟩ := List.mem_iff_getElem?.mp mem
      have q : a = b := by
        have la : a < ((zt us vs).map (·.1)).length := by
          rw [List.length_map]
          exact (List.getElem?_eq_some_iff.mp ha).1
        refine (List.getElem?_inj la nd).mp ?_
        rw [List.getElem?_map, List.getElem?_map, ha, hb]
        exact congrArg some h1
      rw [q, hb] at ha
      cases ha
      rfl


/-! ### both match: the same by coming -/
theorem nm_f {x : Str} {t : Tm} {f : Fd} (h : Tm.nm x ≠ t) : (mt (.nm x) t f).1 = false := by
  rw [mt_nm]
  exact decide_eq_false h
theorem nu_f {x : Int} {t : Tm} {f : Fd} (h : Tm.nu x ≠ t) : (mt (.nu x) t f).1 = false := by
  rw [mt_nu]
  exact decide_eq_false h
theorem un_ne {i j : Int} (h : i ≠ j) : Tm.un i ≠ Tm.un j := fun e => h (Tm.un.inj e)
theorem mt_un_zt {us vs : List Int} (h : Two us vs) {i j : Int} (e : ix us i = ix vs j) : mt (.un i) (.un j) (zt us vs) = (true, zt (addN us i) (addN vs j)) := by
  rw [mt_un, lk_zt h]
  cases c : ix us i with
  | none =>
    rw [addN_new (ix_none.mp c), addN_new (ix_none.mp (e.symm.trans c)), zt_snoc h.ln]
    rfl
  | some k =>
    have c2 := e.symm.trans c
    rw [addN_in (ix_mem c), addN_in (ix_mem c2)]
    show mtU i (.un j) _ ((vs[k]?).map Tm.un) = _
    rw [ix_some c2]
    show (decide (Tm.un j = Tm.un j), _) = _
    rw [decide_eq_true rfl]
theorem mt_un_no {us vs : List Int} (h : Two us vs) {i j : Int} {k : Nat} (c : ix us i = some k) (e : ix us i ≠ ix vs j) : (mt (.un i) (.un j) (zt us vs)).1 = false := by
  rw [mt_un, lk_zt h, c]
  have hk : k < vs.length := by rw [← h.ln]; exact ix_lt c
  show (mtU i (.un j) _ ((vs[k]?).map Tm.un)).1 = _
  rw [List.getElem?_eq_getElem hk]
  show decide (Tm.un vs[k] = Tm.un j) = false
  refine decide_eq_false fun z => e ?_
  rw [c, ix_of h.n2 (k := k) (by rw [List.getElem?_eq_getElem hk, Tm.un.inj z])]
theorem com_ne {us vs : List Int} (h : Two us vs) {i j : Int} (e : ix us i ≠ ix vs j) : com us i ≠ com vs j := by
  cases c : ix us i with
  | none =>
    cases c2 : ix vs j with
    | none => exact absurd (c.trans c2.symm) e
    | some l =>
      rw [com_none c, com_some c2]
      have := ix_lt c2
      have := h.ln
      omega
  | some k =>
    cases c2 : ix vs j with
    | none =>
      rw [com_some c, com_none c2]
      have := ix_lt c
      have := h.ln
      omega
    | some l =>
      rw [com_some c, com_some c2]
      intro z
      exact e (by rw [c, c2, Int.ofNat.inj z])
/-- either both go on alike, or one fails and the names by coming differ -/
def Goes (a b : Tm) (us vs : List Int) : Prop :=
  (∃ us' vs', Two us' vs' ∧ mt a b (zt us vs) = (true, zt us' vs') ∧ mt b a (zt vs us) = (true, zt vs' us') ∧ (rn a us).1 = (rn b vs).1 ∧ (rn a us).2 = us' ∧ (rn b vs).2 = vs') ∨
  (((mt a b (zt us vs)).1 = false ∨ (mt b a (zt vs us)).1 = false) ∧ (rn a us).1 ≠ (rn b vs).1)
theorem goes : ∀ (a b : Tm) (us vs : List Int), Two us vs → Goes a b us vs
  | .un i, .un j, us, vs, h => by
    by_cases e : ix us i = ix vs j
    · refine .inl ⟨_, _, h.add e, mt_un_zt h e, mt_un_zt h.sym e.symm, ?_, rfl, rfl⟩
      show Tm.un (com us i) = Tm.un (com vs j)
      unfold com
      rw [e, h.ln]
    · refine .inr ⟨?_, un_ne (com_ne h e)⟩
      cases c : ix us i with
      | some k => exact .inl (mt_un_no h c e)
      | none =>
        cases c2 : ix vs j with
        | none => exact absurd (c.trans c2.symm) e
        | some l => exact .inr (mt_un_no h.sym c2 fun z => e z.symm)
  | .pr a b, .pr c d, us, vs, h => by
    rcases goes a c us vs h with ⟨us1, vs1, h1, m1, m2, r1, r2, r3⟩ | ⟨m, r⟩
    · have s1 : mt (.pr a b) (.pr c d) (zt us vs) = mt b d (zt us1 vs1) := by
        rw [mt_pr, m1]
        exact mtS_t rfl
      have s2 : mt (.pr c d) (.pr a b) (zt vs us) = mt d b (zt vs1 us1) := by
        rw [mt_pr, m2]
        exact mtS_t rfl
      have p1 : rn (.pr a b) us = (.pr (rn a us).1 (rn b us1).1, (rn b us1).2) := by
        show (Tm.pr (rn a us).1 (rn b (rn a us).2).1, (rn b (rn a us).2).2) = _
        rw [r2]
      have p2 : rn (.pr c d) vs = (.pr (rn c vs).1 (rn d vs1).1, (rn d vs1).2) := by
        show (Tm.pr (rn c vs).1 (rn d (rn c vs).2).1, (rn d (rn c vs).2).2) = _
        rw [r3]
      rcases goes b d us1 vs1 h1 with ⟨us2, vs2, h2, m3, m4, r4, r5, r6⟩ | ⟨m, r⟩
      · refine .inl ⟨us2, vs2, h2, s1.trans m3, s2.trans m4, ?_, ?_, ?_⟩
        · rw [p1, p2, r1, r4]
        · rw [p1]
          exact r5
        · rw [p2]
          exact r6
      · refine .inr ⟨by rw [s1, s2]; exact m, ?_⟩
        rw [p1, p2]
        exact fun z => r (Tm.pr.inj z).2
    · refine .inr ⟨?_, fun z => r (Tm.pr.inj z).1⟩
      rcases m with m | m
      · left
        rw [mt_pr, mtS_f m]
      · right
        rw [mt_pr, mtS_f m]
  | .nm x, .nm y, us, vs, h => by
    by_cases e : x = y
    · subst e
      refine .inl ⟨us, vs, h, ?_, ?_, rfl, rfl, rfl⟩ <;> rw [mt_nm, decide_eq_true rfl]
    · refine .inr ⟨.inl ?_, fun z => e (Tm.nm.inj z)⟩
      rw [mt_nm]
      exact decide_eq_false fun z => e (Tm.nm.inj z)
  | .nu x, .nu y, us, vs, h => by
    by_cases e : x = y
    · subst e
      refine .inl ⟨us, vs, h, ?_, ?_, rfl, rfl, rfl⟩ <;> rw [mt_nu, decide_eq_true rfl]
    · refine .inr ⟨.inl ?_, fun z => e (Tm.nu.inj z)⟩
      rw [mt_nu]
      exact decide_eq_false fun z => e (Tm.nu.inj z)
  | .nm _, .nu _, us, vs, h => .inr ⟨.inl (nm_f (by intro z; cases z)), by intro z; cases z⟩
  | .nm _, .un _, us, vs, h => .inr ⟨.inl (nm_f (by intro z; cases z)), by intro z; cases z⟩
  | .nm _, .pr _ _, us, vs, h => .inr ⟨.inl (nm_f (by intro z; cases z)), by intro z; cases z⟩
  | .nu _, .nm _, us, vs, h => .inr ⟨.inl (nu_f (by intro z; cases z)), by intro z; cases z⟩
  | .nu _, .un _, us, vs, h => .inr ⟨.inl (nu_f (by intro z; cases z)), by intro z; cases z⟩
  | .nu _, .pr _ _, us, vs, h => .inr ⟨.inl (nu_f (by intro z; cases z)), by intro z; cases z⟩
  | .un _, .nm _, us, vs, h => .inr ⟨.inr (nm_f (by intro z; cases z)), by intro z; cases z⟩
  | .un _, .nu _, us, vs, h => .inr ⟨.inr (nu_f (by intro z; cases z)), by intro z; cases z⟩
  | .un _, .pr _ _, us, vs, h => .inr ⟨.inr rfl, by intro z; cases z⟩
  | .pr _ _, .nm _, us, vs, h => .inr ⟨.inl rfl, by intro z; cases z⟩
  | .pr _ _, .nu _, us, vs, h => .inr ⟨.inl rfl, by intro z; cases z⟩
  | .pr _ _, .un _, us, vs, h => .inr ⟨.inl rfl, by intro z; cases z⟩
theorem both (a b : Tm) : decide ((rn a []).1 = (rn b []).1) = ((mt a b []).1 && (mt b a []).1) := by
  have m0 : ∀ x y : Tm, mt x y (zt [] []) = mt x y [] := fun _ _ => rfl
  rcases goes a b [] [] ⟨rfl, .nil, .nil⟩ with ⟨_, _, _, m1, m2, r, _⟩ | ⟨m, r⟩
  · rw [m0] at m1 m2
    rw [m1, m2, decide_eq_true r]
    rfl
  · rw [m0, m0] at m
    rw [decide_eq_false r]
    rcases m with m | m
    · rw [m, Bool.false_and]
    · rw [m, Bool.and_false]
/-! ### named by coming: put in -/
def sub (f : Fd) : Tm → Tm
  | .un i => (lk f i).getD (.un i)
  | .pr a b => .pr (sub f a) (sub f b)
  | .nm x => .nm x
  | .nu x => .nu x
def iota (n : Nat) : List Int := (List.range n).map Int.ofNat
theorem iota_len (n : Nat) : (iota n).length = n := by
  unfold iota
  rw [List.length_map, List.length_range]
theorem iota_get {n k : Nat} (h : k < n) : (iota n)[k]? = some (k : Int) := by
  unfold iota
  rw [List.getElem?_map, List.getElem?_range h]
  rfl
theorem iota_nd (n : Nat) : (iota n).Nodup := by
  unfold iota
  refine List.Pairwise.map _ ?_ List.nodup_range
  intro a b h z
  exact h (Int.ofNat.inj z)
theorem two_iota {us : List Int} (h : us.Nodup) : Two us (iota us.length) := ⟨(iota_len _).symm, h, iota_nd _⟩
theorem rn_ext : ∀ (t : Tm) (us : List Int), ∃ r, (rn t us).2 = us ++ r
  | .un i, us => by
    by_cases c : i ∈ us
    · exact ⟨[], by show addN us i = _; rw [addN_in c, List.append_nil]⟩
    · exact ⟨[i], addN_new c⟩
  | .pr a b, us => by
    obtain ⟨r1, e1⟩ := rn_ext a us
    obtain ⟨r2, e2⟩ := rn_ext b (rn a us).2
    exact ⟨r1 ++ r2, by show (rn b (rn a us).2).2 = _; rw [e2, e1, List.append_assoc]⟩
  | .nm _, us => ⟨[], (List.append_nil _).symm⟩
  | .nu _, us => ⟨[], (List.append_nil _).symm⟩
theorem rn_nd : ∀ (t : Tm) (us : List Int), us.Nodup → (rn t us).2.Nodup
  | .un i, us, h => addN_nd h i
  | .pr a b, us, h => rn_nd b _ (rn_nd a us h)
  | .nm _, us, h => h
  | .nu _, us, h => h
theorem rn_sub {us : List Int} (nd : us.Nodup) : ∀ (t : Tm) (vs r : List Int), us = (rn t vs).2 ++ r → sub (zt us (iota us.length)) t = (rn t vs).1
  | .un i, vs, r, e => by
    have e : us = addN vs i ++ r := e
    have key : ix us i = some (com vs i).toNat := by
      cases c : ix vs i with
      | none =>
        rw [addN_new (ix_none.mp c)] at e
        rw [com_none c, Int.toNat_natCast]
        refine ix_of nd ?_
        rw [e, List.append_assoc, List.getElem?_append_right (Nat.le_refl _), Nat.sub_self]
        rfl
      | some k =>
        rw [addN_in (ix_mem c)] at e
        rw [com_some c, Int.toNat_natCast]
        refine ix_of nd ?_
        rw [e, List.getElem?_append_left (ix_lt c), ix_some c]
    have pos : 0 ≤ com vs i := by
      unfold com
      split <;> omega
    show (lk (zt us (iota us.length)) i).getD (.un i) = .un (com vs i)
    rw [lk_zt (two_iota nd), key]
    show (((iota us.length)[(com vs i).toNat]?).map Tm.un).getD (.un i) = _
    rw [iota_get (ix_lt key)]
    show Tm.un ((com vs i).toNat : Int) = _
    rw [Int.toNat_of_nonneg pos]
  | .pr a b, vs, r, e => by
    have e : us = (rn b (rn a vs).2).2 ++ r := e
    obtain ⟨r2, e2⟩ := rn_ext b (rn a vs).2
    show Tm.pr (sub _ a) (sub _ b) = .pr (rn a vs).1 (rn b (rn a vs).2).1
    rw [rn_sub nd a vs (r2 ++ r) (by rw [e, e2, List.append_assoc]), rn_sub nd b (rn a vs).2 r e]
  | .nm _, vs, r, e => rfl
  | .nu _, vs, r, e => rfl
theorem unkNum_two (a b : PyData) : unkNum (.tuple [a, b]) = none := by cases a <;> rfl
theorem rn_unks : ∀ (t : Tm) (us : List Int), t.ok → t.th.pre.foldl stepU us = (rn t us).2
  | .un i, us, h => by
    have e : unkNum (.tuple [.int i]) = some i := by
      unfold unkNum
      exact if_pos (by show (decide (0 ≤ i) && decide (i ≤ 999999999)) = true; rw [decide_eq_true h.1, decide_eq_true h.2]; rfl)
    show stepU us (.lf (.tuple [.int i])) = addN us i
    unfold stepU
    rw [show unkNum (Th.lf (.tuple [.int i])).toD = some i from e]
    rfl
  | .pr a b, us, h => by
    show (Th.pr a.th b.th :: (a.th.pre ++ b.th.pre)).foldl stepU us = (rn b (rn a us).2).2
    rw [List.foldl_cons, List.foldl_append]
    have e : stepU us (.pr a.th b.th) = us := by
      unfold stepU
      rw [show unkNum (Th.pr a.th b.th).toD = none from unkNum_two _ _]
    rw [e, rn_unks a us h.1, rn_unks b _ h.2]
  | .nm _, us, h => rfl
  | .nu _, us, h => rfl
theorem unks_rn {t : Tm} (h : t.ok) : (thOf t.d).unks = (rn t []).2 := by
  rw [t.of]
  exact rn_unks t [] h
theorem rn_by {t : Tm} : sub (zt (rn t []).2 (iota (rn t []).2.length)) t = (rn t []).1 := rn_sub (rn_nd t [] .nil) t [] [] (List.append_nil _).symm
theorem sub_deep {f : Fd} {k : Nat} (h : ∀ p ∈ f, p.2.deep ≤ k) (hk : 1 ≤ k) : ∀ t : Tm, (sub f t).deep + 1 ≤ t.deep + k
  | .un i => by
    show ((lk f i).getD (.un i)).deep + 1 ≤ 1 + k
    unfold lk
    cases e : f.find? fun p => decide (p.1 = i) with
    | none =>
      show 1 + 1 ≤ 1 + k
      omega
    | some p =>
      have := h p (List.mem_of_find?_eq_some e)
      show p.2.deep + 1 ≤ 1 + k
      omega
  | .pr a b => by
    have := sub_deep h hk a
    have := sub_deep h hk b
    show 1 + max (sub f a).deep (sub f b).deep + 1 ≤ 1 + max a.deep b.deep + k
    omega
  | .nm _ => by
    show 1 + 1 ≤ 1 + k
    omega
  | .nu _ => by
    show 1 + 1 ≤ 1 + k
    omega
theorem sub_ok {f : Fd} (h : ∀ p ∈ f, p.2.ok) : ∀ t : Tm, t.ok → (sub f t).ok
  | .un i, ht => by
    show ((lk f i).getD (.un i)).ok
    unfold lk
    cases e : f.find? fun p => decide (p.1 = i) with
    | none => exact ht
    | some p => exact h p (List.mem_of_find?_eq_some e)
  | .pr a b, ht => ⟨sub_ok h a ht.1, sub_ok h b ht.2⟩
  | .nm _, ht => ht
  | .nu _, ht => ht


/-! ### step by step: dicts, and slots lent to other places -/
def lendC (i j : Nat) (ρ : MEnv) : Ou T → Ou T
  | .no => .no
  | .ok r back => .ok r (st ρ i (gt back j))
  | .ex c p back => .ex c p (st ρ i (gt back j))
theorem lendC_ok (i j : Nat) (ρ : MEnv) (r : T) (back : MEnv) : lendC i j ρ (.ok r back) = .ok r (st ρ i (gt back j)) := rfl
theorem lendG {m : Mf} {i j : Nat} {t : T} {ρ α : MEnv} {ts : List T} (h : gt ρ i = some t) (ha : alls (st α j (some t)) = some ts) : lendCall m [(i, j)] α ρ = lendC i j ρ (m ts) := by
  have hi := gt_len h
  have e0 : mvs (outs [(i, j)] ρ.length) (ρ ++ α) = st ρ i none ++ st α j (some t) := by
    show mv (ρ ++ α) i (ρ.length + j) = _
    unfold mv
    rw [gt_app ρ _ i hi, st_app ρ _ i none hi, h]
    have := st_app2 (st ρ i none) α j (some t)
    rw [st_len] at this
    exact this
  unfold lendCall
  rw [e0]
  have e1 : (st ρ i none ++ st α j (some t)).drop ρ.length = st α j (some t) := List.drop_left' (st_len ..)
  have e2 : (st ρ i none ++ st α j (some t)).take ρ.length = st ρ i none := List.take_left' (st_len ..)
  rw [e1, e2, ha]
  have e3 : ∀ back : MEnv, (mvs (ins_ [(i, j)] ρ.length) (st ρ i none ++ back)).take ρ.length = st ρ i (gt back j) := fun back => by
    show (mv (st ρ i none ++ back) (ρ.length + j) i).take ρ.length = _
    unfold mv
    have g := gt_app2 (st ρ i none) back j
    have s := st_app2 (st ρ i none) back j none
    rw [st_len] at g s
    rw [g, s, st_app _ _ _ _ (by rw [st_len]; exact hi), List.take_left' (by rw [st_len, st_len]), st_st]
  cases e : m ts with
  | no => simp only [e]; rfl
  | ok r back => simp only [e, e3]; rfl
  | ex c p back => simp only [e, e3]; rfl
section
variable {m : Mf} {t a b : T} {x y : Option T} {r : MEnv}
theorem ld11 : lendCall m [(1, 1)] [some a, none] (x :: some t :: r) = lendC 1 1 (x :: some t :: r) (m [a, t]) := lendG rfl rfl
theorem ld22 : lendCall m [(2, 2)] [some a, some b, none] (x :: y :: some t :: r) = lendC 2 2 (x :: y :: some t :: r) (m [a, b, t]) := lendG rfl rfl
end
/-- a call that lends nothing -/
theorem lend0 {m : Mf} {ρ α : MEnv} {ts : List T} (ha : alls α = some ts) : lendCall m [] α ρ = callB ρ (m ts) := by
  unfold lendCall
  have e1 : (mvs (outs [] ρ.length) (ρ ++ α)).drop ρ.length = α := List.drop_left' rfl
  have e2 : (mvs (outs [] ρ.length) (ρ ++ α)).take ρ.length = ρ := List.take_left' rfl
  rw [e1, e2, ha]
  have e3 : ∀ back : MEnv, (mvs (ins_ [] ρ.length) (ρ ++ back)).take ρ.length = ρ := fun back => List.take_left' rfl
  cases e : m ts with
  | no => simp only [e]; rfl
  | ok r back => simp only [e, e3]; rfl
  | ex c p back => simp only [e, e3]; rfl
section
variable {ρ : MEnv}
theorem keyD_i (i : Int) : keyD (.int i) = some (.inl i) := rfl
def dInB (neg : Bool) (ρ : MEnv) : Option Key → Option Kvs → Ou PyData
  | some k, some kvs => .ok (.bool (xor neg (valP kvs k).isSome)) ρ
  | _, _ => .no
theorem dInB_s (neg : Bool) (k : Key) (kvs : Kvs) : dInB neg ρ (some k) (some kvs) = .ok (.bool (xor neg (valP kvs k).isSome)) ρ := rfl
def k_dIn (neg : Bool) (i : Nat) : PyData → MEnv → Ou PyData := fun d ρ => dInB neg ρ (keyD d) (odr (gt ρ i))
theorem k_dIn' (neg : Bool) (i : Nat) (d : PyData) : k_dIn neg i d ρ = dInB neg ρ (keyD d) (odr (gt ρ i)) := rfl
theorem x_vDIn (neg : Bool) (m : MV) (i : Nat) : vDIn neg m i ρ = (m ρ).bd (k_dIn neg i) := by
  unfold vDIn k_dIn
  refine congrArg _ ?_
  funext d ρ
  cases keyD d <;> cases odr (gt ρ i) <;> rfl
def dgC (ρ : MEnv) : Option Key → Option Kvs → Ou PyData
  | some k, some kvs => .of (valP kvs k) ρ
  | _, _ => .no
theorem dgC_s (k : Key) (kvs : Kvs) : dgC ρ (some k) (some kvs) = .of (valP kvs k) ρ := rfl
def k_dg (i : Nat) : PyData → MEnv → Ou PyData := fun d ρ => dgC ρ (keyD d) (odr (gt ρ i))
theorem k_dg' (i : Nat) (d : PyData) : k_dg i d ρ = dgC ρ (keyD d) (odr (gt ρ i)) := rfl
def dgB (i : Nat) (o : Ou PyData) : Option Kvs → Ou PyData
  | some _ => o.bd (k_dg i)
  | none => .no
theorem dgB_s (i : Nat) (o : Ou PyData) (kvs : Kvs) : dgB i o (some kvs) = o.bd (k_dg i) := rfl
theorem x_vDGet (i : Nat) (m : MV) : vDGet i m ρ = dgB i (m ρ) (odr (gt ρ i)) := by
  unfold vDGet dgB k_dg
  cases odr (gt ρ i) with
  | none => rfl
  | some kvs =>
    show Ou.bd (m ρ) _ = Ou.bd (m ρ) _
    refine congrArg _ ?_
    funext d ρ
    cases keyD d <;> cases odr (gt ρ i) <;> rfl
def d2C (z : PyData) (ρ : MEnv) : Option Key → Option Kvs → Ou PyData
  | some k, some kvs => .ok ((valP kvs k).getD z) ρ
  | _, _ => .no
theorem d2C_s (z : PyData) (k : Key) (kvs : Kvs) : d2C z ρ (some k) (some kvs) = .ok ((valP kvs k).getD z) ρ := rfl
def k_d22 (i : Nat) (d : PyData) : PyData → MEnv → Ou PyData := fun z ρ => d2C z ρ (keyD d) (odr (gt ρ i))
theorem k_d22' (i : Nat) (d z : PyData) : k_d22 i d z ρ = d2C z ρ (keyD d) (odr (gt ρ i)) := rfl
def k_d21 (i : Nat) (x : MV) : PyData → MEnv → Ou PyData := fun d ρ => (x ρ).bd (k_d22 i d)
theorem k_d21' (i : Nat) (x : MV) (d : PyData) : k_d21 i x d ρ = (x ρ).bd (k_d22 i d) := rfl
def d2B (i : Nat) (o : Ou PyData) (x : MV) : Option Kvs → Ou PyData
  | some _ => o.bd (k_d21 i x)
  | none => .no
theorem d2B_s (i : Nat) (o : Ou PyData) (x : MV) (kvs : Kvs) : d2B i o x (some kvs) = o.bd (k_d21 i x) := rfl
theorem x_vDGet2 (i : Nat) (m x : MV) : vDGet2 i m x ρ = d2B i (m ρ) x (odr (gt ρ i)) := by
  unfold vDGet2 d2B k_d21
  cases odr (gt ρ i) with
  | none => rfl
  | some kvs =>
    show Ou.bd (m ρ) _ = Ou.bd (m ρ) _
    refine congrArg _ ?_
    funext d ρ
    refine congrArg _ ?_
    funext z ρ
    unfold k_d22
    cases keyD d <;> cases odr (gt ρ i) <;> rfl
def dpC (i : Nat) (z : PyData) (ρ : MEnv) : Option Key → Option Kvs → Ou Fl
  | some k, some kvs => if kvs.length < sizeLine then .ok .nx (st ρ i (some (T.dk (putP kvs k z)))) else .no
  | _, _ => .no
theorem dpC_s {i : Nat} {z : PyData} {k : Key} {kvs : Kvs} (h : kvs.length < sizeLine) : dpC i z ρ (some k) (some kvs) = .ok .nx (st ρ i (some (T.dk (putP kvs k z)))) := if_pos h
def k_dp2 (i : Nat) (z : PyData) : PyData → MEnv → Ou Fl := fun d ρ => dpC i z ρ (keyD d) (od (gt ρ i))
theorem k_dp2' (i : Nat) (z d : PyData) : k_dp2 i z d ρ = dpC i z ρ (keyD d) (od (gt ρ i)) := rfl
def dpB (i : Nat) (z : PyData) (o : Ou PyData) : Option Kvs → Ou Fl
  | some _ => o.bd (k_dp2 i z)
  | none => .no
theorem dpB_s (i : Nat) (z : PyData) (o : Ou PyData) (kvs : Kvs) : dpB i z o (some kvs) = o.bd (k_dp2 i z) := rfl
def k_dp1 (i : Nat) (m : MV) : PyData → MEnv → Ou Fl := fun z ρ => dpB i z (m ρ) (od (gt ρ i))
theorem k_dp1' (i : Nat) (m : MV) (z : PyData) : k_dp1 i m z ρ = dpB i z (m ρ) (od (gt ρ i)) := rfl
theorem x_sDPut (i : Nat) (m x : MV) : sDPut i m x ρ = (x ρ).bd (k_dp1 i m) := by
  unfold sDPut k_dp1
  refine congrArg _ ?_
  funext z ρ
  unfold dpB
  cases od (gt ρ i) with
  | none => rfl
  | some kvs =>
    show Ou.bd (m ρ) _ = Ou.bd (m ρ) _
    refine congrArg _ ?_
    funext d ρ
    unfold k_dp2
    cases keyD d <;> cases od (gt ρ i) <;> rfl
def dsV (i : Nat) (k : Key) (z : PyData) (kvs : Kvs) (ρ : MEnv) : Option PyData → Ou PyData
  | some y => .ok y ρ
  | none => .ok z (st ρ i (some (T.dk (putP kvs k z))))
theorem dsV_s (i : Nat) (k : Key) (z : PyData) (kvs : Kvs) (y : PyData) : dsV i k z kvs ρ (some y) = .ok y ρ := rfl
theorem dsV_n (i : Nat) (k : Key) (z : PyData) (kvs : Kvs) : dsV i k z kvs ρ none = .ok z (st ρ i (some (T.dk (putP kvs k z)))) := rfl
def dsC (i : Nat) (z : PyData) (ρ : MEnv) : Option Key → Option Kvs → Ou PyData
  | some k, some kvs => if kvs.length < sizeLine then dsV i k z kvs ρ (valP kvs k) else .no
  | _, _ => .no
theorem dsC_s {i : Nat} {z : PyData} {k : Key} {kvs : Kvs} (h : kvs.length < sizeLine) : dsC i z ρ (some k) (some kvs) = dsV i k z kvs ρ (valP kvs k) := if_pos h
def k_ds2 (i : Nat) (d : PyData) : PyData → MEnv → Ou PyData := fun z ρ => dsC i z ρ (keyD d) (od (gt ρ i))
theorem k_ds2' (i : Nat) (d z : PyData) : k_ds2 i d z ρ = dsC i z ρ (keyD d) (od (gt ρ i)) := rfl
def k_ds1 (i : Nat) (x : MV) : PyData → MEnv → Ou PyData := fun d ρ => (x ρ).bd (k_ds2 i d)
theorem k_ds1' (i : Nat) (x : MV) (d : PyData) : k_ds1 i x d ρ = (x ρ).bd (k_ds2 i d) := rfl
def dsB (i : Nat) (o : Ou PyData) (x : MV) : Option Kvs → Ou PyData
  | some _ => o.bd (k_ds1 i x)
  | none => .no
theorem dsB_s (i : Nat) (o : Ou PyData) (x : MV) (kvs : Kvs) : dsB i o x (some kvs) = o.bd (k_ds1 i x) := rfl
theorem x_vDSetd (i : Nat) (m x : MV) : vDSetd i m x ρ = dsB i (m ρ) x (od (gt ρ i)) := by
  unfold vDSetd dsB k_ds1
  cases od (gt ρ i) with
  | none => rfl
  | some kvs =>
    show Ou.bd (m ρ) _ = Ou.bd (m ρ) _
    refine congrArg _ ?_
    funext d ρ
    refine congrArg _ ?_
    funext z ρ
    unfold k_ds2
    cases keyD d with
    | none => cases od (gt ρ i) <;> rfl
    | some k =>
      cases od (gt ρ i) with
      | none => rfl
      | some kvs =>
        show (if kvs.length < sizeLine then _ else _) = (if kvs.length < sizeLine then dsV i k z kvs ρ (valP kvs k) else .no)
        cases valP kvs k <;> rfl
def dlB (ρ : MEnv) : Option Kvs → Ou PyData
  | some kvs => .ok (.int kvs.length) ρ
  | none => .no
theorem dlB_s (kvs : Kvs) : dlB ρ (some kvs) = .ok (.int kvs.length) ρ := rfl
theorem x_vDLen (i : Nat) : vDLen i ρ = dlB ρ (odr (gt ρ i)) := by
  unfold vDLen dlB
  cases odr (gt ρ i) <;> rfl
theorem x_eD0 : eD0 ρ = .ok (T.dk []) ρ := rfl
def k_rE2 (t : T) : MEnv → MEnv → Ou MEnv := fun xs ρ => .ok (some t :: xs) ρ
theorem k_rE2' (t : T) (xs : MEnv) : k_rE2 t xs ρ = .ok (some t :: xs) ρ := rfl
def k_rE1 (r : MR) : T → MEnv → Ou MEnv := fun t ρ => (r ρ).bd (k_rE2 t)
theorem k_rE1' (r : MR) (t : T) : k_rE1 r t ρ = (r ρ).bd (k_rE2 t) := rfl
theorem x_rE (a : ME) (r : MR) : rE a r ρ = (a ρ).bd (k_rE1 r) := rfl
end
/-- what is found, as a dict -/
def kv (f : Fd) : Kvs := f.map fun p => (Sum.inl p.1, p.2.d)
theorem kv_len (f : Fd) : (kv f).length = f.length := List.length_map _
theorem kv_snoc (f : Fd) (i : Int) (t : Tm) : kv (f ++ [(i, t)]) = kv f ++ [(Sum.inl i, t.d)] := List.map_append
theorem val_kv : ∀ (f : Fd) (i : Int), valP (kv f) (.inl i) = (lk f i).map Tm.d
  | [], i => rfl
  | p :: f, i => by
    show ((((Sum.inl p.1, p.2.d) : Key × PyData) :: kv f).find? fun kv => decide (kv.1 = Sum.inl i)).map (·.2) = (((p :: f).find? fun p => decide (p.1 = i)).map (·.2)).map Tm.d
    rw [List.find?_cons, List.find?_cons]
    by_cases c : p.1 = i
    · rw [decide_eq_true c, show decide (((Sum.inl p.1, p.2.d) : Key × PyData).1 = Sum.inl i) = true from decide_eq_true (congrArg Sum.inl c)]
      rfl
    · rw [decide_eq_false c, show decide (((Sum.inl p.1, p.2.d) : Key × PyData).1 = Sum.inl i) = false from decide_eq_false fun e => c (Sum.inl.inj e)]
      exact val_kv f i
theorem put_new {f : Fd} {i : Int} {t : Tm} (h : lk f i = none) : putP (kv f) (.inl i) t.d = kv (f ++ [(i, t)]) := by
  unfold putP
  have : ((kv f).any fun kv => decide (kv.1 = Sum.inl i)) = false := by
    rw [List.any_eq_false]
    intro q hq z
    obtain ⟨p, hp, rfl⟩ := List.mem_map.mp hq
    exact lk_none h (List.mem_map.mpr ⟨p, hp, Sum.inl.inj (of_decide_eq_true z)⟩)
  rw [this, if_neg (by decide), kv_snoc]
def putF (f : Fd) (i : Int) (t : Tm) : Fd := if (f.any fun p => decide (p.1 = i)) = true then f.map (fun p => if p.1 = i then (p.1, t) else p) else f ++ [(i, t)]
theorem put_kv (f : Fd) (i : Int) (t : Tm) : putP (kv f) (.inl i) t.d = kv (putF f i t) := by
  unfold putP putF
  have e : ((kv f).any fun kv => decide (kv.1 = Sum.inl i)) = f.any fun p => decide (p.1 = i) := by
    unfold kv
    rw [List.any_map]
    refine congrArg (f.any ·) ?_
    funext p
    exact decide_eq_decide.mpr ⟨fun h => Sum.inl.inj h, fun h => congrArg Sum.inl h⟩
  rw [e]
  split
  · unfold kv
    rw [List.map_map, List.map_map]
    refine List.map_congr_left fun p _ => ?_
    show (if (Sum.inl p.1 : Key) = Sum.inl i then ((Sum.inl p.1 : Key), t.d) else (Sum.inl p.1, p.2.d)) = ((fun q : Int × Tm => ((Sum.inl q.1 : Key), q.2.d)) (if p.1 = i then (p.1, t) else p))
    by_cases c : p.1 = i
    · rw [if_pos (congrArg Sum.inl c), if_pos c]
    · rw [if_neg (fun h => c (Sum.inl.inj h)), if_neg c]
  · rw [kv_snoc]
theorem putF_all {f : Fd} {i : Int} {t : Tm} {p : Tm → Prop} (h : ∀ q ∈ f, p q.2) (ht : p t) : ∀ q ∈ putF f i t, p q.2 := fun q hq => by
  unfold putF at hq
  split at hq
  · obtain ⟨q', hq', rfl⟩ := List.mem_map.mp hq
    split
    · exact ht
    · exact h q' hq'
  · rcases List.mem_append.mp hq with hq | hq
    · exact h q hq
    · rw [List.mem_singleton.mp hq]
      exact ht
theorem putF_len (f : Fd) (i : Int) (t : Tm) : (putF f i t).length ≤ f.length + 1 := by
  unfold putF
  split
  · rw [List.length_map]
    omega
  · rw [List.length_append]
    exact Nat.le_refl _
theorem odr_kv (f : Fd) : odr (some (T.dk (kv f))) = some (kv f) := odr_dk _
theorem od_kv (f : Fd) : od (some (T.dk (kv f))) = some (kv f) := od_dk _


/-! ### step by step: loops, comprehensions, lists -/
theorem pick {L : List PyData} {i : Int} (h0 : 0 ≤ i) (h1 : i < L.length) : ∃ d, d ∈ L ∧ pIx (.list L) (.int i) = some d := by
  obtain ⟨k, rfl⟩ := Int.eq_ofNat_of_zero_le h0
  have hk : k < L.length := by omega
  exact ⟨L[k], List.getElem_mem hk, atI_nat (List.getElem?_eq_getElem hk)⟩
theorem range_nil (lo : Int) : rangeD lo 0 = [] := rfl
theorem range_cons (lo : Int) (n : Nat) : rangeD lo (n + 1) = .int lo :: rangeD (lo + 1) n := by
  unfold rangeD
  rw [List.range_succ_eq_map, List.map_cons, List.map_map]
  refine congr (congrArg _ ?_) (List.map_congr_left fun k _ => ?_)
  · show PyData.int (lo + ((0 : Nat) : Int)) = _
    rw [show lo + ((0 : Nat) : Int) = lo by omega]
  · show PyData.int (lo + ((k + 1 : Nat) : Int)) = PyData.int (lo + 1 + (k : Int))
    rw [show lo + ((k + 1 : Nat) : Int) = lo + 1 + (k : Int) by omega]
theorem range_all {lo : Int} {n : Nat} {d : PyData} (h : d ∈ rangeD lo n) : ∃ k : Nat, k < n ∧ d = .int (lo + (k : Int)) := by
  obtain ⟨k, hk, rfl⟩ := List.mem_map.mp h
  exact ⟨k, List.mem_range.mp hk, rfl⟩
theorem forS_nil (g : Tg) (b : MS) (ρ : MEnv) : forS g b [] ρ = .ok .nx ρ := rfl
def k_fr (g : Tg) (b : MS) (ds : List PyData) : Fl → MEnv → Ou Fl := fun fl ρ2 => match fl with
  | .nx => forS g b ds ρ2
  | .ct => forS g b ds ρ2
  | .bk => .ok .nx ρ2
  | .rt t => .ok (.rt t) ρ2
theorem fr_nx (g : Tg) (b : MS) (ds : List PyData) (ρ : MEnv) : k_fr g b ds .nx ρ = forS g b ds ρ := rfl
theorem fr_rt (g : Tg) (b : MS) (ds : List PyData) (t : T) (ρ : MEnv) : k_fr g b ds (.rt t) ρ = .ok (.rt t) ρ := rfl
theorem forS_nm (i : Nat) (b : MS) (d : PyData) (ds : List PyData) (ρ : MEnv) : forS (.nm i) b (d :: ds) ρ = (b (st ρ i (some (.f d)))).bd (k_fr (.nm i) b ds) := rfl
theorem forS_2 (i j : Nat) (b : MS) (d e : PyData) (ds : List PyData) (ρ : MEnv) : forS (.tp [.nm i, .nm j]) b (.tuple [d, e] :: ds) ρ = (b (st (st ρ i (some (.f d))) j (some (.f e)))).bd (k_fr (.tp [.nm i, .nm j]) b ds) := rfl
theorem forS_inv (i : Nat) (b : MS) (p : MEnv → Prop) : ∀ (ds : List PyData) (ρ : MEnv), p ρ → (∀ d ∈ ds, ∀ ρ, p ρ → ∃ ρ', b (st ρ i (some (.f d))) = .ok .nx ρ' ∧ p ρ') → ∃ ρ', forS (.nm i) b ds ρ = .ok .nx ρ' ∧ p ρ'
  | [], ρ, h, _ => ⟨ρ, rfl, h⟩
  | d :: ds, ρ, h, hb => by
    obtain ⟨ρ1, e1, h1⟩ := hb d (List.mem_cons_self ..) ρ h
    obtain ⟨ρ2, e2, h2⟩ := forS_inv i b p ds ρ1 h1 fun d' hd => hb d' (List.mem_cons_of_mem _ hd)
    refine ⟨ρ2, ?_, h2⟩
    rw [forS_nm, e1, bd_ok, fr_nx]
    exact e2
theorem log_lt {i : Int} {n : Nat} (h : i.natAbs < 2 ^ n) : i.natAbs.log2 ≤ n := by
  by_cases h0 : i.natAbs = 0
  · rw [h0]
    exact Nat.zero_le _
  · exact Nat.le_of_lt ((Nat.log2_lt h0).mpr h)
theorem q_mul {i j : Int} {n : Nat} (h1 : i.natAbs < 2 ^ n) (h2 : j.natAbs < 2 ^ n) (hn : n ≤ 1000) : pMul (.int i) (.int j) = some (.int (i * j)) := if_pos (by
  have := log_lt h1
  have := log_lt h2
  omega)
theorem pow10_18 : pPow (.int 10) (.int 18) = some (.int 1000000000000000000) := by rfl
abbrev tl (ds : List PyData) : T := .lst (ds.map T.f)
theorem ol_tl (ds : List PyData) : ol (some (tl ds)) = some ds := allF_map ds
theorem run_app {ρ ρ' : MEnv} {i : Nat} {m : MV} {d : PyData} {ds : List PyData} (h : gt ρ i = some (tl ds)) (e : m ρ = .ok d ρ') (h' : gt ρ' i = some (tl ds)) (hl : ds.length < sizeLine) : vApp i m ρ = .ok .none (st ρ' i (some (tl (ds ++ [d])))) := by
  unfold vApp
  rw [h, ol_tl]
  simp only [e, bd_ok, h', ol_tl, if_pos hl]
theorem run_extE {ρ ρ' : MEnv} {i : Nat} {m : ME} {ds es : List PyData} (h : gt ρ i = some (tl ds)) (e : m ρ = .ok (tl es) ρ') (h' : gt ρ' i = some (tl ds)) (hl : ds.length + es.length ≤ sizeLine) : vExtE i m ρ = .ok .none (st ρ' i (some (tl (ds ++ es)))) := by
  unfold vExtE
  rw [h, ol_tl]
  simp only [e, bd_ok, h', ol_tl, if_pos hl]
theorem run_extV {ρ ρ' : MEnv} {i : Nat} {m : MV} {ds es : List PyData} (h : gt ρ i = some (tl ds)) (e : m ρ = .ok (.list es) ρ') (h' : gt ρ' i = some (tl ds)) (hl : ds.length + es.length ≤ sizeLine) : vExtV i m ρ = .ok .none (st ρ' i (some (tl (ds ++ es)))) := by
  unfold vExtV
  rw [h, ol_tl]
  simp only [e, bd_ok, h', ol_tl, seqD, if_pos hl]
theorem run_ixS {ρ ρ' : MEnv} {i : Nat} {m : MV} {j d : PyData} {ds : List PyData} (h : gt ρ i = some (tl ds)) (e : m ρ = .ok j ρ') (h' : gt ρ' i = some (tl ds)) (hd : pIx (.list ds) j = some d) : vIxS i m ρ = .ok d ρ' := by
  unfold vIxS
  rw [h, ol_tl]
  simp only [e, bd_ok, h', ol_tl, hd, of_some]
theorem comp_fm {vs : List Nat} {g : Tg} {c : MB} {e : MV} {ρ : MEnv} {p : PyData → Bool} {f : PyData → PyData} : ∀ (ds acc : List PyData), acc.length + ds.length ≤ sizeLine →
    (∀ d ∈ ds, ∃ ρ1, asgT g d ρ = some ρ1 ∧ ((p d = false ∧ ∃ ρ2, c ρ1 = .ok false ρ2 ∧ wipeM ρ2 vs = ρ) ∨ (p d = true ∧ ∃ ρ2 ρ3, c ρ1 = .ok true ρ2 ∧ e ρ2 = .ok (f d) ρ3 ∧ wipeM ρ3 vs = ρ))) → compS vs g c e ds acc ρ = .ok (acc ++ (ds.filter p).map f) ρ
  | [], acc, _, _ => by
    show Ou.ok acc ρ = .ok (acc ++ []) ρ
    rw [List.append_nil]
  | d :: ds, acc, hl, h => by
    have hl' : acc.length + (ds.length + 1) ≤ sizeLine := hl
    obtain ⟨ρ1, e1, h1⟩ := h d (List.mem_cons_self ..)
    rcases h1 with ⟨hp, ρ2, e2, e3⟩ | ⟨hp, ρ2, ρ3, e2, e3, e4⟩
    · unfold compS
      simp only [e1, e2, e3]
      rw [comp_fm ds acc (by omega) fun d' hd => h d' (List.mem_cons_of_mem _ hd), List.filter_cons, hp]
      rfl
    · unfold compS
      simp only [e1, e2, e3, e4]
      rw [if_pos (show acc.length < sizeLine by omega), comp_fm ds (acc ++ [f d]) (by rw [List.length_append]; show acc.length + 1 + ds.length ≤ sizeLine; omega) fun d' hd => h d' (List.mem_cons_of_mem _ hd), List.filter_cons, hp, List.append_assoc]
      rfl
theorem comp_map {vs : List Nat} {g : Tg} {e : MV} {ρ : MEnv} {f : PyData → PyData} (ds : List PyData) (hl : ds.length ≤ sizeLine) (h : ∀ d ∈ ds, ∃ ρ1 ρ3, asgT g d ρ = some ρ1 ∧ e ρ1 = .ok (f d) ρ3 ∧ wipeM ρ3 vs = ρ) : compS vs g bYes e ds [] ρ = .ok (ds.map f) ρ := by
  rw [comp_fm (p := fun _ => true) (f := f) ds [] (by rw [List.length_nil]; omega) fun d hd => ?_, List.nil_append, List.filter_eq_self.mpr fun _ _ => rfl]
  obtain ⟨ρ1, ρ3, e1, e2, e3⟩ := h d hd
  exact ⟨ρ1, e1, .inr ⟨rfl, ρ1, ρ3, rfl, e2, e3⟩⟩
theorem run_r2 {ρ ρ1 ρ2 : MEnv} {a b : MV} {i j : Int} (ha : a ρ = .ok (.int i) ρ1) (hb : b ρ1 = .ok (.int j) ρ2) (h : (-1000 ≤ i ∧ i ≤ 1000000) ∧ -1000 ≤ j ∧ j ≤ 1000000) : iRange2 a b ρ = .ok (rangeD i (j - i).toNat) ρ2 := by
  unfold iRange2
  rw [ha, bd_ok, hb, bd_ok]
  exact if_pos ⟨by omega, by omega, by omega, by omega⟩

/-! ### _law_match, _law_put, turned_into -/
theorem knT (ds : List PyData) : Kn.isTup (knD (.tuple ds)) = true := rfl
theorem knS (x : Str) : Kn.isTup (knD (.str x)) = false := rfl
theorem knI (i : Int) : Kn.isTup (knD (.int i)) = false := rfl
theorem q_len1 (a : PyData) : pLen [.tuple [a]] = some (.int 1) := rfl
theorem q_len2 (a b : PyData) : pLen [.tuple [a, b]] = some (.int 2) := rfl
theorem q_ix10 (a : PyData) : pIx (.tuple [a]) (.int 0) = some a := rfl
theorem q_ix20 (a b : PyData) : pIx (.tuple [a, b]) (.int 0) = some a := rfl
theorem q_ix21 (a b : PyData) : pIx (.tuple [a, b]) (.int 1) = some b := rfl
theorem d11 : decide ((1 : Int) = 1) = true := rfl
theorem d12 : decide ((1 : Int) = 2) = false := rfl
theorem d21 : decide ((2 : Int) = 1) = false := rfl
theorem d22 : decide ((2 : Int) = 2) = true := rfl
theorem q_not (b : Bool) : pNot (.bool b) = some (.bool (!b)) := rfl
theorem get_d (f : Fd) (i : Int) : ((lk f i).map Tm.d).getD (.tuple [.int i]) = ((lk f i).getD (.un i)).d := by
  cases lk f i <;> rfl
theorem e_put (f : Fd) : ∀ (t : Tm) (n : Nat), t.deep ≤ n → m_l_put n [.f t.d, T.dk (kv f)] = .ok (.f (sub f t).d) [none, some (T.dk (kv f))]
  | t, 0, h => absurd h (by cases t <;> simp only [Tm.deep] <;> omega)
  | .un i, n + 1, _ => by
    rw [show m_l_put (n + 1) [.f (Tm.un i).d, T.dk (kv f)] = endF [false, true] (b_l_put (m_l_put n) [some (.f (.tuple [.int i])), some (T.dk (kv f))]) from mFn2 rfl rfl]
    unfold b_l_put
    generalize m_l_put n = self
    simp only [k_v1', k_v2', k_c1', k_c2', k_vN', k_not', k_no, k_ys, k_o', k_s1', k_s2', k_s3', k_ch1', k_ch2', k_isi', k_ret', k_retE', k_exp', k_set', k_setE', k_eV', k_lst0, k_lst1, k_lst2, k_call', k_for', k_seqL, k_seqT, look_f, look_l, look_0, moveB_s, x_rNil, k_r1', k_r2', x_rV, k_rL', lookL_s, x_rL, k_ld', x_eCallL, lendB_ok, ld0_0, ld0_1, ld0_2, ld2_0, ld2_1, ld2_2, bd_ok, bd_no, bd_ex, of_some, x_vC, x_vVar, x_v1, x_v2, x_aNil, x_aCons, x_vN, andB_t, andB_f, orB_t, orB_f, ifB_t, ifB_f, x_vAnd, x_vOr, x_bIf, asBk_b, x_bV, x_bNot, x_bAnd, x_bOr, x_oNone, x_oSome, x_asI, x_vSl, chB_t, chB_f, x_vChain, x_vIsi, x_sNx, x_sSeq, th_nx, th_rt, x_sIf, x_sRet, x_sRetE, x_sExpr, x_sSet, x_sSetE, x_eV, fzB_f, x_vFz, x_eMove, x_eLst, callB_ok, callB_ex, x_eCall, x_sFor, x_iSeq, x_end_rt, x_end_nx, x_end_ex, gt_0, gt_s, st_0, st_s, bk_n, bk_y, bk_0, List.map_cons, List.map_nil, List.cons_append, List.nil_append, List.append_nil, List.length_cons, List.length_nil, if_true, if_false, Bool.not_true, Bool.not_false, q_tup1, q_tup2, q_lt, q_gt, q_le, q_ge, q_eq, q_add, q_sub, decide_true, decide_false, lendC_ok, ld11, ld22, keyD_i, dInB_s, k_dIn', x_vDIn, dgC_s, k_dg', dgB_s, x_vDGet, d2C_s, k_d22', k_d21', d2B_s, x_vDGet2, k_dp2', dpB_s, k_dp1', x_sDPut, dsV_s, dsV_n, k_ds2', k_ds1', dsB_s, x_vDSetd, dlB_s, x_vDLen, x_eD0, k_rE1', k_rE2', x_rE, odr_kv, od_kv, odr_dk, od_dk, val_kv, Option.map_some, Option.map_none, Option.isSome_some, Option.isSome_none, Option.getD_some, Option.getD_none, Bool.false_xor, Bool.true_xor, knT, q_len1, d12, q_ix10, get_d]
    rfl
  | .pr a b, n + 1, h => by
    have h : 1 + max a.deep b.deep ≤ n + 1 := h
    have i1 := e_put f a n (by omega)
    have i2 := e_put f b n (by omega)
    rw [show m_l_put (n + 1) [.f (Tm.pr a b).d, T.dk (kv f)] = endF [false, true] (b_l_put (m_l_put n) [some (.f (.tuple [a.d, b.d])), some (T.dk (kv f))]) from mFn2 rfl rfl]
    unfold b_l_put
    generalize m_l_put n = self at i1 i2
    simp only [k_v1', k_v2', k_c1', k_c2', k_vN', k_not', k_no, k_ys, k_o', k_s1', k_s2', k_s3', k_ch1', k_ch2', k_isi', k_ret', k_retE', k_exp', k_set', k_setE', k_eV', k_lst0, k_lst1, k_lst2, k_call', k_for', k_seqL, k_seqT, look_f, look_l, look_0, moveB_s, x_rNil, k_r1', k_r2', x_rV, k_rL', lookL_s, x_rL, k_ld', x_eCallL, lendB_ok, ld0_0, ld0_1, ld0_2, ld2_0, ld2_1, ld2_2, bd_ok, bd_no, bd_ex, of_some, x_vC, x_vVar, x_v1, x_v2, x_aNil, x_aCons, x_vN, andB_t, andB_f, orB_t, orB_f, ifB_t, ifB_f, x_vAnd, x_vOr, x_bIf, asBk_b, x_bV, x_bNot, x_bAnd, x_bOr, x_oNone, x_oSome, x_asI, x_vSl, chB_t, chB_f, x_vChain, x_vIsi, x_sNx, x_sSeq, th_nx, th_rt, x_sIf, x_sRet, x_sRetE, x_sExpr, x_sSet, x_sSetE, x_eV, fzB_f, x_vFz, x_eMove, x_eLst, callB_ok, callB_ex, x_eCall, x_sFor, x_iSeq, x_end_rt, x_end_nx, x_end_ex, gt_0, gt_s, st_0, st_s, bk_n, bk_y, bk_0, List.map_cons, List.map_nil, List.cons_append, List.nil_append, List.append_nil, List.length_cons, List.length_nil, if_true, if_false, Bool.not_true, Bool.not_false, q_tup1, q_tup2, q_lt, q_gt, q_le, q_ge, q_eq, q_add, q_sub, decide_true, decide_false, lendC_ok, ld11, ld22, keyD_i, dInB_s, k_dIn', x_vDIn, dgC_s, k_dg', dgB_s, x_vDGet, d2C_s, k_d22', k_d21', d2B_s, x_vDGet2, k_dp2', dpB_s, k_dp1', x_sDPut, dsV_s, dsV_n, k_ds2', k_ds1', dsB_s, x_vDSetd, dlB_s, x_vDLen, x_eD0, k_rE1', k_rE2', x_rE, odr_kv, od_kv, odr_dk, od_dk, val_kv, Option.map_some, Option.map_none, Option.isSome_some, Option.isSome_none, Option.getD_some, Option.getD_none, Bool.false_xor, Bool.true_xor, knT, q_len2, d22, q_ix20, q_ix21, i1, i2]
    rfl
  | .nm x, n + 1, _ => by
    rw [show m_l_put (n + 1) [.f (Tm.nm x).d, T.dk (kv f)] = endF [false, true] (b_l_put (m_l_put n) [some (.f (.str x)), some (T.dk (kv f))]) from mFn2 rfl rfl]
    unfold b_l_put
    generalize m_l_put n = self
    simp only [k_v1', k_v2', k_c1', k_c2', k_vN', k_not', k_no, k_ys, k_o', k_s1', k_s2', k_s3', k_ch1', k_ch2', k_isi', k_ret', k_retE', k_exp', k_set', k_setE', k_eV', k_lst0, k_lst1, k_lst2, k_call', k_for', k_seqL, k_seqT, look_f, look_l, look_0, moveB_s, x_rNil, k_r1', k_r2', x_rV, k_rL', lookL_s, x_rL, k_ld', x_eCallL, lendB_ok, ld0_0, ld0_1, ld0_2, ld2_0, ld2_1, ld2_2, bd_ok, bd_no, bd_ex, of_some, x_vC, x_vVar, x_v1, x_v2, x_aNil, x_aCons, x_vN, andB_t, andB_f, orB_t, orB_f, ifB_t, ifB_f, x_vAnd, x_vOr, x_bIf, asBk_b, x_bV, x_bNot, x_bAnd, x_bOr, x_oNone, x_oSome, x_asI, x_vSl, chB_t, chB_f, x_vChain, x_vIsi, x_sNx, x_sSeq, th_nx, th_rt, x_sIf, x_sRet, x_sRetE, x_sExpr, x_sSet, x_sSetE, x_eV, fzB_f, x_vFz, x_eMove, x_eLst, callB_ok, callB_ex, x_eCall, x_sFor, x_iSeq, x_end_rt, x_end_nx, x_end_ex, gt_0, gt_s, st_0, st_s, bk_n, bk_y, bk_0, List.map_cons, List.map_nil, List.cons_append, List.nil_append, List.append_nil, List.length_cons, List.length_nil, if_true, if_false, Bool.not_true, Bool.not_false, q_tup1, q_tup2, q_lt, q_gt, q_le, q_ge, q_eq, q_add, q_sub, decide_true, decide_false, lendC_ok, ld11, ld22, keyD_i, dInB_s, k_dIn', x_vDIn, dgC_s, k_dg', dgB_s, x_vDGet, d2C_s, k_d22', k_d21', d2B_s, x_vDGet2, k_dp2', dpB_s, k_dp1', x_sDPut, dsV_s, dsV_n, k_ds2', k_ds1', dsB_s, x_vDSetd, dlB_s, x_vDLen, x_eD0, k_rE1', k_rE2', x_rE, odr_kv, od_kv, odr_dk, od_dk, val_kv, Option.map_some, Option.map_none, Option.isSome_some, Option.isSome_none, Option.getD_some, Option.getD_none, Bool.false_xor, Bool.true_xor, knS]
    rfl
  | .nu x, n + 1, _ => by
    rw [show m_l_put (n + 1) [.f (Tm.nu x).d, T.dk (kv f)] = endF [false, true] (b_l_put (m_l_put n) [some (.f (.int x)), some (T.dk (kv f))]) from mFn2 rfl rfl]
    unfold b_l_put
    generalize m_l_put n = self
    simp only [k_v1', k_v2', k_c1', k_c2', k_vN', k_not', k_no, k_ys, k_o', k_s1', k_s2', k_s3', k_ch1', k_ch2', k_isi', k_ret', k_retE', k_exp', k_set', k_setE', k_eV', k_lst0, k_lst1, k_lst2, k_call', k_for', k_seqL, k_seqT, look_f, look_l, look_0, moveB_s, x_rNil, k_r1', k_r2', x_rV, k_rL', lookL_s, x_rL, k_ld', x_eCallL, lendB_ok, ld0_0, ld0_1, ld0_2, ld2_0, ld2_1, ld2_2, bd_ok, bd_no, bd_ex, of_some, x_vC, x_vVar, x_v1, x_v2, x_aNil, x_aCons, x_vN, andB_t, andB_f, orB_t, orB_f, ifB_t, ifB_f, x_vAnd, x_vOr, x_bIf, asBk_b, x_bV, x_bNot, x_bAnd, x_bOr, x_oNone, x_oSome, x_asI, x_vSl, chB_t, chB_f, x_vChain, x_vIsi, x_sNx, x_sSeq, th_nx, th_rt, x_sIf, x_sRet, x_sRetE, x_sExpr, x_sSet, x_sSetE, x_eV, fzB_f, x_vFz, x_eMove, x_eLst, callB_ok, callB_ex, x_eCall, x_sFor, x_iSeq, x_end_rt, x_end_nx, x_end_ex, gt_0, gt_s, st_0, st_s, bk_n, bk_y, bk_0, List.map_cons, List.map_nil, List.cons_append, List.nil_append, List.append_nil, List.length_cons, List.length_nil, if_true, if_false, Bool.not_true, Bool.not_false, q_tup1, q_tup2, q_lt, q_gt, q_le, q_ge, q_eq, q_add, q_sub, decide_true, decide_false, lendC_ok, ld11, ld22, keyD_i, dInB_s, k_dIn', x_vDIn, dgC_s, k_dg', dgB_s, x_vDGet, d2C_s, k_d22', k_d21', d2B_s, x_vDGet2, k_dp2', dpB_s, k_dp1', x_sDPut, dsV_s, dsV_n, k_ds2', k_ds1', dsB_s, x_vDSetd, dlB_s, x_vDLen, x_eD0, k_rE1', k_rE2', x_rE, odr_kv, od_kv, odr_dk, od_dk, val_kv, Option.map_some, Option.map_none, Option.isSome_some, Option.isSome_none, Option.getD_some, Option.getD_none, Bool.false_xor, Bool.true_xor, knI]
    rfl
theorem e_turned (f : Fd) : ∀ (t : Tm) (n : Nat), t.ok → t.deep ≤ n → m_turned_into n [.f t.d, T.dk (kv f)] = .ok (.f (sub f t).d) [none, some (T.dk (kv f))]
  | t, 0, _, h => absurd h (by cases t <;> simp only [Tm.deep] <;> omega)
  | .un i, n + 1, ht, _ => by
    have e1 : m_is_pair [.f (.tuple [.int i])] = .ok (.f (.bool false)) [none] := e_isP (.un i)
    have e2 : m_is_unknown [.f (.tuple [.int i])] = .ok (.f (.bool true)) [none] := e_isU (t := .un i) ht
    rw [show m_turned_into (n + 1) [.f (Tm.un i).d, T.dk (kv f)] = endF [false, true] (b_turned_into (m_turned_into n) [some (.f (.tuple [.int i])), some (T.dk (kv f))]) from mFn2 rfl rfl]
    unfold b_turned_into
    generalize m_turned_into n = self
    generalize m_is_pair = m1 at e1
    generalize m_is_unknown = m2 at e2
    simp only [k_v1', k_v2', k_c1', k_c2', k_vN', k_not', k_no, k_ys, k_o', k_s1', k_s2', k_s3', k_ch1', k_ch2', k_isi', k_ret', k_retE', k_exp', k_set', k_setE', k_eV', k_lst0, k_lst1, k_lst2, k_call', k_for', k_seqL, k_seqT, look_f, look_l, look_0, moveB_s, x_rNil, k_r1', k_r2', x_rV, k_rL', lookL_s, x_rL, k_ld', x_eCallL, lendB_ok, ld0_0, ld0_1, ld0_2, ld2_0, ld2_1, ld2_2, bd_ok, bd_no, bd_ex, of_some, x_vC, x_vVar, x_v1, x_v2, x_aNil, x_aCons, x_vN, andB_t, andB_f, orB_t, orB_f, ifB_t, ifB_f, x_vAnd, x_vOr, x_bIf, asBk_b, x_bV, x_bNot, x_bAnd, x_bOr, x_oNone, x_oSome, x_asI, x_vSl, chB_t, chB_f, x_vChain, x_vIsi, x_sNx, x_sSeq, th_nx, th_rt, x_sIf, x_sRet, x_sRetE, x_sExpr, x_sSet, x_sSetE, x_eV, fzB_f, x_vFz, x_eMove, x_eLst, callB_ok, callB_ex, x_eCall, x_sFor, x_iSeq, x_end_rt, x_end_nx, x_end_ex, gt_0, gt_s, st_0, st_s, bk_n, bk_y, bk_0, List.map_cons, List.map_nil, List.cons_append, List.nil_append, List.append_nil, List.length_cons, List.length_nil, if_true, if_false, Bool.not_true, Bool.not_false, q_tup1, q_tup2, q_lt, q_gt, q_le, q_ge, q_eq, q_add, q_sub, decide_true, decide_false, lendC_ok, ld11, ld22, keyD_i, dInB_s, k_dIn', x_vDIn, dgC_s, k_dg', dgB_s, x_vDGet, d2C_s, k_d22', k_d21', d2B_s, x_vDGet2, k_dp2', dpB_s, k_dp1', x_sDPut, dsV_s, dsV_n, k_ds2', k_ds1', dsB_s, x_vDSetd, dlB_s, x_vDLen, x_eD0, k_rE1', k_rE2', x_rE, odr_kv, od_kv, odr_dk, od_dk, val_kv, Option.map_some, Option.map_none, Option.isSome_some, Option.isSome_none, Option.getD_some, Option.getD_none, Bool.false_xor, Bool.true_xor, e1, e2, q_ix10, get_d]
    rfl
  | .pr a b, n + 1, ht, h => by
    have h : 1 + max a.deep b.deep ≤ n + 1 := h
    have i1 := e_turned f a n ht.1 (by omega)
    have i2 := e_turned f b n ht.2 (by omega)
    have e1 : m_is_pair [.f (.tuple [a.d, b.d])] = .ok (.f (.bool true)) [none] := e_isP (.pr a b)
    rw [show m_turned_into (n + 1) [.f (Tm.pr a b).d, T.dk (kv f)] = endF [false, true] (b_turned_into (m_turned_into n) [some (.f (.tuple [a.d, b.d])), some (T.dk (kv f))]) from mFn2 rfl rfl]
    unfold b_turned_into
    generalize m_turned_into n = self at i1 i2
    generalize m_is_pair = m1 at e1
    simp only [k_v1', k_v2', k_c1', k_c2', k_vN', k_not', k_no, k_ys, k_o', k_s1', k_s2', k_s3', k_ch1', k_ch2', k_isi', k_ret', k_retE', k_exp', k_set', k_setE', k_eV', k_lst0, k_lst1, k_lst2, k_call', k_for', k_seqL, k_seqT, look_f, look_l, look_0, moveB_s, x_rNil, k_r1', k_r2', x_rV, k_rL', lookL_s, x_rL, k_ld', x_eCallL, lendB_ok, ld0_0, ld0_1, ld0_2, ld2_0, ld2_1, ld2_2, bd_ok, bd_no, bd_ex, of_some, x_vC, x_vVar, x_v1, x_v2, x_aNil, x_aCons, x_vN, andB_t, andB_f, orB_t, orB_f, ifB_t, ifB_f, x_vAnd, x_vOr, x_bIf, asBk_b, x_bV, x_bNot, x_bAnd, x_bOr, x_oNone, x_oSome, x_asI, x_vSl, chB_t, chB_f, x_vChain, x_vIsi, x_sNx, x_sSeq, th_nx, th_rt, x_sIf, x_sRet, x_sRetE, x_sExpr, x_sSet, x_sSetE, x_eV, fzB_f, x_vFz, x_eMove, x_eLst, callB_ok, callB_ex, x_eCall, x_sFor, x_iSeq, x_end_rt, x_end_nx, x_end_ex, gt_0, gt_s, st_0, st_s, bk_n, bk_y, bk_0, List.map_cons, List.map_nil, List.cons_append, List.nil_append, List.append_nil, List.length_cons, List.length_nil, if_true, if_false, Bool.not_true, Bool.not_false, q_tup1, q_tup2, q_lt, q_gt, q_le, q_ge, q_eq, q_add, q_sub, decide_true, decide_false, lendC_ok, ld11, ld22, keyD_i, dInB_s, k_dIn', x_vDIn, dgC_s, k_dg', dgB_s, x_vDGet, d2C_s, k_d22', k_d21', d2B_s, x_vDGet2, k_dp2', dpB_s, k_dp1', x_sDPut, dsV_s, dsV_n, k_ds2', k_ds1', dsB_s, x_vDSetd, dlB_s, x_vDLen, x_eD0, k_rE1', k_rE2', x_rE, odr_kv, od_kv, odr_dk, od_dk, val_kv, Option.map_some, Option.map_none, Option.isSome_some, Option.isSome_none, Option.getD_some, Option.getD_none, Bool.false_xor, Bool.true_xor, e1, q_ix20, q_ix21, i1, i2]
    rfl
  | .nm x, n + 1, ht, _ => by
    have e1 : m_is_pair [.f (.str x)] = .ok (.f (.bool false)) [none] := e_isP (.nm x)
    have e2 : m_is_unknown [.f (.str x)] = .ok (.f (.bool false)) [none] := e_isU (t := .nm x) ht
    rw [show m_turned_into (n + 1) [.f (Tm.nm x).d, T.dk (kv f)] = endF [false, true] (b_turned_into (m_turned_into n) [some (.f (.str x)), some (T.dk (kv f))]) from mFn2 rfl rfl]
    unfold b_turned_into
    generalize m_turned_into n = self
    generalize m_is_pair = m1 at e1
    generalize m_is_unknown = m2 at e2
    simp only [k_v1', k_v2', k_c1', k_c2', k_vN', k_not', k_no, k_ys, k_o', k_s1', k_s2', k_s3', k_ch1', k_ch2', k_isi', k_ret', k_retE', k_exp', k_set', k_setE', k_eV', k_lst0, k_lst1, k_lst2, k_call', k_for', k_seqL, k_seqT, look_f, look_l, look_0, moveB_s, x_rNil, k_r1', k_r2', x_rV, k_rL', lookL_s, x_rL, k_ld', x_eCallL, lendB_ok, ld0_0, ld0_1, ld0_2, ld2_0, ld2_1, ld2_2, bd_ok, bd_no, bd_ex, of_some, x_vC, x_vVar, x_v1, x_v2, x_aNil, x_aCons, x_vN, andB_t, andB_f, orB_t, orB_f, ifB_t, ifB_f, x_vAnd, x_vOr, x_bIf, asBk_b, x_bV, x_bNot, x_bAnd, x_bOr, x_oNone, x_oSome, x_asI, x_vSl, chB_t, chB_f, x_vChain, x_vIsi, x_sNx, x_sSeq, th_nx, th_rt, x_sIf, x_sRet, x_sRetE, x_sExpr, x_sSet, x_sSetE, x_eV, fzB_f, x_vFz, x_eMove, x_eLst, callB_ok, callB_ex, x_eCall, x_sFor, x_iSeq, x_end_rt, x_end_nx, x_end_ex, gt_0, gt_s, st_0, st_s, bk_n, bk_y, bk_0, List.map_cons, List.map_nil, List.cons_append, List.nil_append, List.append_nil, List.length_cons, List.length_nil, if_true, if_false, Bool.not_true, Bool.not_false, q_tup1, q_tup2, q_lt, q_gt, q_le, q_ge, q_eq, q_add, q_sub, decide_true, decide_false, lendC_ok, ld11, ld22, keyD_i, dInB_s, k_dIn', x_vDIn, dgC_s, k_dg', dgB_s, x_vDGet, d2C_s, k_d22', k_d21', d2B_s, x_vDGet2, k_dp2', dpB_s, k_dp1', x_sDPut, dsV_s, dsV_n, k_ds2', k_ds1', dsB_s, x_vDSetd, dlB_s, x_vDLen, x_eD0, k_rE1', k_rE2', x_rE, odr_kv, od_kv, odr_dk, od_dk, val_kv, Option.map_some, Option.map_none, Option.isSome_some, Option.isSome_none, Option.getD_some, Option.getD_none, Bool.false_xor, Bool.true_xor, e1, e2]
    rfl
  | .nu x, n + 1, ht, _ => by
    have e1 : m_is_pair [.f (.int x)] = .ok (.f (.bool false)) [none] := e_isP (.nu x)
    have e2 : m_is_unknown [.f (.int x)] = .ok (.f (.bool false)) [none] := e_isU (t := .nu x) ht
    rw [show m_turned_into (n + 1) [.f (Tm.nu x).d, T.dk (kv f)] = endF [false, true] (b_turned_into (m_turned_into n) [some (.f (.int x)), some (T.dk (kv f))]) from mFn2 rfl rfl]
    unfold b_turned_into
    generalize m_turned_into n = self
    generalize m_is_pair = m1 at e1
    generalize m_is_unknown = m2 at e2
    simp only [k_v1', k_v2', k_c1', k_c2', k_vN', k_not', k_no, k_ys, k_o', k_s1', k_s2', k_s3', k_ch1', k_ch2', k_isi', k_ret', k_retE', k_exp', k_set', k_setE', k_eV', k_lst0, k_lst1, k_lst2, k_call', k_for', k_seqL, k_seqT, look_f, look_l, look_0, moveB_s, x_rNil, k_r1', k_r2', x_rV, k_rL', lookL_s, x_rL, k_ld', x_eCallL, lendB_ok, ld0_0, ld0_1, ld0_2, ld2_0, ld2_1, ld2_2, bd_ok, bd_no, bd_ex, of_some, x_vC, x_vVar, x_v1, x_v2, x_aNil, x_aCons, x_vN, andB_t, andB_f, orB_t, orB_f, ifB_t, ifB_f, x_vAnd, x_vOr, x_bIf, asBk_b, x_bV, x_bNot, x_bAnd, x_bOr, x_oNone, x_oSome, x_asI, x_vSl, chB_t, chB_f, x_vChain, x_vIsi, x_sNx, x_sSeq, th_nx, th_rt, x_sIf, x_sRet, x_sRetE, x_sExpr, x_sSet, x_sSetE, x_eV, fzB_f, x_vFz, x_eMove, x_eLst, callB_ok, callB_ex, x_eCall, x_sFor, x_iSeq, x_end_rt, x_end_nx, x_end_ex, gt_0, gt_s, st_0, st_s, bk_n, bk_y, bk_0, List.map_cons, List.map_nil, List.cons_append, List.nil_append, List.append_nil, List.length_cons, List.length_nil, if_true, if_false, Bool.not_true, Bool.not_false, q_tup1, q_tup2, q_lt, q_gt, q_le, q_ge, q_eq, q_add, q_sub, decide_true, decide_false, lendC_ok, ld11, ld22, keyD_i, dInB_s, k_dIn', x_vDIn, dgC_s, k_dg', dgB_s, x_vDGet, d2C_s, k_d22', k_d21', d2B_s, x_vDGet2, k_dp2', dpB_s, k_dp1', x_sDPut, dsV_s, dsV_n, k_ds2', k_ds1', dsB_s, x_vDSetd, dlB_s, x_vDLen, x_eD0, k_rE1', k_rE2', x_rE, odr_kv, od_kv, odr_dk, od_dk, val_kv, Option.map_some, Option.map_none, Option.isSome_some, Option.isSome_none, Option.getD_some, Option.getD_none, Bool.false_xor, Bool.true_xor, e1, e2]
    rfl


/-! ### by_coming, are_variants -/
theorem iota_s (n : Nat) : iota (n + 1) = iota n ++ [(n : Int)] := by
  unfold iota
  rw [List.range_succ, List.map_append]
  rfl
def bcNum : MS := sIf (bV (vDIn true (vVar 3) 1)) (sDPut 1 (vVar 3) (vN pTup (aCons (vDLen 1) aNil))) sNx
theorem bc_nums {x0 x2 : Option T} : ∀ (us vs : List Int) (x3 : Option T), (vs ++ us).Nodup → (vs ++ us).length ≤ 1000 → ∃ x3', forS (.nm 3) bcNum (us.map PyData.int) [x0, some (T.dk (kv (zt vs (iota vs.length)))), x2, x3] = .ok .nx [x0, some (T.dk (kv (zt (vs ++ us) (iota (vs ++ us).length)))), x2, x3']
  | [], vs, x3, _, _ => ⟨x3, by
    show Ou.ok Fl.nx _ = Ou.ok Fl.nx _
    rw [List.append_nil]⟩
  | i :: us, vs, x3, nd, hl => by
    have e0 : vs ++ i :: us = (vs ++ [i]) ++ us := by rw [List.append_assoc]; rfl
    rw [e0] at nd hl ⊢
    obtain ⟨y, e⟩ := bc_nums (x0 := x0) (x2 := x2) us (vs ++ [i]) (some (.f (.int i))) nd hl
    refine ⟨y, ?_⟩
    have nd1 := (List.nodup_append.mp nd).1
    have ni : i ∉ vs := fun z => (List.nodup_append.mp nd1).2.2 i z i (List.mem_singleton.mpr rfl) rfl
    have l0 : lk (zt vs (iota vs.length)) i = none := lk_none' (by rw [zt_fst (iota_len _).symm]; exact ni)
    have ln : (kv (zt vs (iota vs.length))).length = vs.length := by
      rw [kv_len]
      unfold zt
      rw [List.length_zip, List.length_map, iota_len, Nat.min_self]
    have hs : (kv (zt vs (iota vs.length))).length < sizeLine := by
      rw [ln]
      rw [List.length_append, List.length_append] at hl
      exact Nat.lt_of_le_of_lt (show vs.length ≤ 1000 by omega) (by decide)
    have pn : putP (kv (zt vs (iota vs.length))) (.inl i) (.tuple [.int (vs.length : Int)]) = kv (zt (vs ++ [i]) (iota (vs ++ [i]).length)) := by
      rw [show PyData.tuple [.int (vs.length : Int)] = (Tm.un (vs.length : Int)).d from rfl, put_new l0, List.length_append, List.length_singleton, iota_s, zt_snoc (iota_len _).symm]
    rw [List.map_cons, forS_nm]
    have b1 : bcNum [x0, some (T.dk (kv (zt vs (iota vs.length)))), x2, some (.f (.int i))] = .ok .nx [x0, some (T.dk (kv (zt (vs ++ [i]) (iota (vs ++ [i]).length)))), x2, some (.f (.int i))] := by
      unfold bcNum
      simp only [k_v1', k_v2', k_c1', k_c2', k_vN', k_not', k_no, k_ys, k_o', k_s1', k_s2', k_s3', k_ch1', k_ch2', k_isi', k_ret', k_retE', k_exp', k_set', k_setE', k_eV', k_lst0, k_lst1, k_lst2, k_call', k_for', k_seqL, k_seqT, look_f, look_l, look_0, moveB_s, x_rNil, k_r1', k_r2', x_rV, k_rL', lookL_s, x_rL, k_ld', x_eCallL, lendB_ok, ld0_0, ld0_1, ld0_2, ld2_0, ld2_1, ld2_2, bd_ok, bd_no, bd_ex, of_some, x_vC, x_vVar, x_v1, x_v2, x_aNil, x_aCons, x_vN, andB_t, andB_f, orB_t, orB_f, ifB_t, ifB_f, x_vAnd, x_vOr, x_bIf, asBk_b, x_bV, x_bNot, x_bAnd, x_bOr, x_oNone, x_oSome, x_asI, x_vSl, chB_t, chB_f, x_vChain, x_vIsi, x_sNx, x_sSeq, th_nx, th_rt, x_sIf, x_sRet, x_sRetE, x_sExpr, x_sSet, x_sSetE, x_eV, fzB_f, x_vFz, x_eMove, x_eLst, callB_ok, callB_ex, x_eCall, x_sFor, x_iSeq, x_end_rt, x_end_nx, x_end_ex, gt_0, gt_s, st_0, st_s, bk_n, bk_y, bk_0, List.map_cons, List.map_nil, List.cons_append, List.nil_append, List.append_nil, List.length_cons, List.length_nil, if_true, if_false, Bool.not_true, Bool.not_false, q_tup1, q_tup2, q_lt, q_gt, q_le, q_ge, q_eq, q_add, q_sub, decide_true, decide_false, lendC_ok, ld11, ld22, keyD_i, dInB_s, k_dIn', x_vDIn, dgC_s, k_dg', dgB_s, x_vDGet, d2C_s, k_d22', k_d21', d2B_s, x_vDGet2, k_dp2', dpB_s, k_dp1', x_sDPut, dsV_s, dsV_n, k_ds2', k_ds1', dsB_s, x_vDSetd, dlB_s, x_vDLen, x_eD0, k_rE1', k_rE2', x_rE, odr_kv, od_kv, odr_dk, od_dk, val_kv, Option.map_some, Option.map_none, Option.isSome_some, Option.isSome_none, Option.getD_some, Option.getD_none, Bool.false_xor, Bool.true_xor, l0, ln, dpC_s hs, pn]
    show Ou.bd (bcNum [x0, some (T.dk (kv (zt vs (iota vs.length)))), x2, some (.f (.int i))]) _ = _
    rw [b1, bd_ok, fr_nx]
    exact e
theorem b_by_coming_eq : b_by_coming = sSeq (sIf (bNot (bV (vIsi (fun k => Kn.isLst k || Kn.isTup k) (vVar 0)))) (sRaise 1 "found" (vVar 0)) sNx)
  (sSeq (sSetE 1 eD0)
  (sSeq (sFor (iSeq (vVar 0)) (Tg.nm 2) (sSeq (sExpr (vFz (eCall m_need_term [] (aCons (vVar 2) aNil))))
  (sFor (iSeq (vFz (eCall m_numbers_in [] (aCons (vVar 2) aNil)))) (Tg.nm 3) bcNum)))
  (sRetE (eLc [2] (iSeq (vVar 0)) (Tg.nm 2) bYes (vFz (eCallL (m_turned_into 110) [(1, 1)] (rV (vVar 2) (rL 1 rNil)))))))) := rfl
theorem dk_nil : T.dk [] = T.dk (kv (zt [] (iota ([] : List Int).length))) := rfl
theorem rn_len : ∀ (t : Tm) (us : List Int), (rn t us).2.length ≤ us.length + t.parts
  | .un i, us => by
    show (addN us i).length ≤ us.length + 1
    unfold addN
    split
    · omega
    · rw [List.length_append]
      exact Nat.le_refl _
  | .pr a b, us => by
    have := rn_len a us
    have := rn_len b (rn a us).2
    show (rn b (rn a us).2).2.length ≤ us.length + (1 + a.parts + b.parts)
    omega
  | .nm _, us => by
    show us.length ≤ us.length + 1
    omega
  | .nu _, us => by
    show us.length ≤ us.length + 1
    omega
theorem e_numbers_in {t : Tm} (h : t.ok) (hd : t.deep ≤ 6) : m_numbers_in [.f t.d] = .ok (.f (.list ((rn t []).2.map PyData.int))) [none] := by
  have hp := t.parts_deep 6 hd
  show (if (thOf t.d).parts ≤ 500000 then Ou.ok (T.f (.list ((thOf t.d).unks.map PyData.int))) [none] else .no) = _
  rw [if_pos (by rw [t.of, t.thparts]; omega), unks_rn h]
theorem e_by_coming {t : Tm} (h : t.ok) (hd : t.deep ≤ 6) : m_by_coming [.f (.list [t.d])] = .ok (tl [(rn t []).1.d]) [none] := by
  have hp := t.parts_deep 6 hd
  have hn := rn_len t []
  rw [List.length_nil] at hn
  rw [show m_by_coming [.f (.list [t.d])] = endF [false] (b_by_coming [some (.f (.list [t.d])), none, none, none]) from mFn2 rfl rfl, b_by_coming_eq]
  have e1 := e_need h hd
  have e2 := e_numbers_in h hd
  have e3 := e_turned (zt (rn t []).2 (iota (rn t []).2.length)) t 110 h (by omega)
  rw [rn_by] at e3
  obtain ⟨y, e4⟩ := bc_nums (x0 := some (.f (.list [t.d]))) (x2 := some (.f t.d)) (rn t []).2 [] none (rn_nd t [] .nil) (by rw [List.nil_append]; omega)
  rw [← dk_nil, List.nil_append] at e4
  generalize (rn t []).2.map PyData.int = nums at e2 e4
  generalize kv (zt (rn t []).2 (iota (rn t []).2.length)) = kk at e3 e4
  generalize (rn t []).1.d = rd at e3 ⊢
  generalize m_need_term = m1 at e1
  generalize m_numbers_in = m2 at e2
  generalize m_turned_into 110 = m3 at e3
  generalize bcNum = bb at e4
  have k1 : (fun k => Kn.isLst k || Kn.isTup k) (knD (.list [t.d])) = true := rfl
  have s3 : (sFor (iSeq (vVar 0)) (Tg.nm 2) (sSeq (sExpr (vFz (eCall m1 [] (aCons (vVar 2) aNil)))) (sFor (iSeq (vFz (eCall m2 [] (aCons (vVar 2) aNil)))) (Tg.nm 3) bb)) : MS) [some (.f (.list [t.d])), some (T.dk []), none, none] = .ok .nx [some (.f (.list [t.d])), some (T.dk kk), some (.f t.d), y] := by
    simp only [k_v1', k_v2', k_c1', k_c2', k_vN', k_not', k_no, k_ys, k_o', k_s1', k_s2', k_s3', k_ch1', k_ch2', k_isi', k_ret', k_retE', k_exp', k_set', k_setE', k_eV', k_lst0, k_lst1, k_lst2, k_call', k_for', k_seqL, k_seqT, look_f, look_l, look_0, moveB_s, x_rNil, k_r1', k_r2', x_rV, k_rL', lookL_s, x_rL, k_ld', x_eCallL, lendB_ok, ld0_0, ld0_1, ld0_2, ld2_0, ld2_1, ld2_2, bd_ok, bd_no, bd_ex, of_some, x_vC, x_vVar, x_v1, x_v2, x_aNil, x_aCons, x_vN, andB_t, andB_f, orB_t, orB_f, ifB_t, ifB_f, x_vAnd, x_vOr, x_bIf, asBk_b, x_bV, x_bNot, x_bAnd, x_bOr, x_oNone, x_oSome, x_asI, x_vSl, chB_t, chB_f, x_vChain, x_vIsi, x_sNx, x_sSeq, th_nx, th_rt, x_sIf, x_sRet, x_sRetE, x_sExpr, x_sSet, x_sSetE, x_eV, fzB_f, x_vFz, x_eMove, x_eLst, callB_ok, callB_ex, x_eCall, x_sFor, x_iSeq, x_end_rt, x_end_nx, x_end_ex, gt_0, gt_s, st_0, st_s, bk_n, bk_y, bk_0, List.map_cons, List.map_nil, List.cons_append, List.nil_append, List.append_nil, List.length_cons, List.length_nil, if_true, if_false, Bool.not_true, Bool.not_false, q_tup1, q_tup2, q_lt, q_gt, q_le, q_ge, q_eq, q_add, q_sub, decide_true, decide_false, lendC_ok, ld11, ld22, keyD_i, dInB_s, k_dIn', x_vDIn, dgC_s, k_dg', dgB_s, x_vDGet, d2C_s, k_d22', k_d21', d2B_s, x_vDGet2, k_dp2', dpB_s, k_dp1', x_sDPut, dsV_s, dsV_n, k_ds2', k_ds1', dsB_s, x_vDSetd, dlB_s, x_vDLen, x_eD0, k_rE1', k_rE2', x_rE, odr_kv, od_kv, odr_dk, od_dk, val_kv, Option.map_some, Option.map_none, Option.isSome_some, Option.isSome_none, Option.getD_some, Option.getD_none, Bool.false_xor, Bool.true_xor, forS_nm, e1, e2, e4, fr_nx, forS_nil]
  have s4 : (eLc [2] (iSeq (vVar 0)) (Tg.nm 2) bYes (vFz (eCallL m3 [(1, 1)] (rV (vVar 2) (rL 1 rNil)))) : ME) [some (.f (.list [t.d])), some (T.dk kk), some (.f t.d), y] = .ok (tl [rd]) [some (.f (.list [t.d])), some (T.dk kk), none, y] := by
    unfold eLc
    rw [show iSeq (vVar 0) [some (.f (.list [t.d])), some (T.dk kk), some (.f t.d), y] = .ok [t.d] [some (.f (.list [t.d])), some (T.dk kk), some (.f t.d), y] from rfl, bd_ok]
    show Ou.bd (compS [2] (Tg.nm 2) bYes (vFz (eCallL m3 [(1, 1)] (rV (vVar 2) (rL 1 rNil)))) [t.d] [] [some (.f (.list [t.d])), some (T.dk kk), none, y]) _ = _
    rw [comp_map (f := fun _ => rd) _ (by show 1 ≤ sizeLine; decide) fun d hd => ⟨_, [some (.f (.list [t.d])), some (T.dk kk), some (.f d), y], rfl, ?_, rfl⟩, bd_ok]
    · rfl
    · rw [List.mem_singleton.mp hd]
      show vFz (eCallL m3 [(1, 1)] (rV (vVar 2) (rL 1 rNil))) [some (.f (.list [t.d])), some (T.dk kk), some (.f t.d), y] = _
      simp only [k_v1', k_v2', k_c1', k_c2', k_vN', k_not', k_no, k_ys, k_o', k_s1', k_s2', k_s3', k_ch1', k_ch2', k_isi', k_ret', k_retE', k_exp', k_set', k_setE', k_eV', k_lst0, k_lst1, k_lst2, k_call', k_for', k_seqL, k_seqT, look_f, look_l, look_0, moveB_s, x_rNil, k_r1', k_r2', x_rV, k_rL', lookL_s, x_rL, k_ld', x_eCallL, lendB_ok, ld0_0, ld0_1, ld0_2, ld2_0, ld2_1, ld2_2, bd_ok, bd_no, bd_ex, of_some, x_vC, x_vVar, x_v1, x_v2, x_aNil, x_aCons, x_vN, andB_t, andB_f, orB_t, orB_f, ifB_t, ifB_f, x_vAnd, x_vOr, x_bIf, asBk_b, x_bV, x_bNot, x_bAnd, x_bOr, x_oNone, x_oSome, x_asI, x_vSl, chB_t, chB_f, x_vChain, x_vIsi, x_sNx, x_sSeq, th_nx, th_rt, x_sIf, x_sRet, x_sRetE, x_sExpr, x_sSet, x_sSetE, x_eV, fzB_f, x_vFz, x_eMove, x_eLst, callB_ok, callB_ex, x_eCall, x_sFor, x_iSeq, x_end_rt, x_end_nx, x_end_ex, gt_0, gt_s, st_0, st_s, bk_n, bk_y, bk_0, List.map_cons, List.map_nil, List.cons_append, List.nil_append, List.append_nil, List.length_cons, List.length_nil, if_true, if_false, Bool.not_true, Bool.not_false, q_tup1, q_tup2, q_lt, q_gt, q_le, q_ge, q_eq, q_add, q_sub, decide_true, decide_false, lendC_ok, ld11, ld22, keyD_i, dInB_s, k_dIn', x_vDIn, dgC_s, k_dg', dgB_s, x_vDGet, d2C_s, k_d22', k_d21', d2B_s, x_vDGet2, k_dp2', dpB_s, k_dp1', x_sDPut, dsV_s, dsV_n, k_ds2', k_ds1', dsB_s, x_vDSetd, dlB_s, x_vDLen, x_eD0, k_rE1', k_rE2', x_rE, odr_kv, od_kv, odr_dk, od_dk, val_kv, Option.map_some, Option.map_none, Option.isSome_some, Option.isSome_none, Option.getD_some, Option.getD_none, Bool.false_xor, Bool.true_xor, e3]
  rw [x_sSeq]
  have s1 : (sIf (bNot (bV (vIsi (fun k => Kn.isLst k || Kn.isTup k) (vVar 0)))) (sRaise 1 "found" (vVar 0)) sNx : MS) [some (.f (.list [t.d])), none, none, none] = .ok .nx [some (.f (.list [t.d])), none, none, none] := rfl
  rw [s1, bd_ok, th_nx, x_sSeq]
  have s2 : (sSetE 1 eD0 : MS) [some (.f (.list [t.d])), none, none, none] = .ok .nx [some (.f (.list [t.d])), some (T.dk []), none, none] := rfl
  rw [s2, bd_ok, th_nx, x_sSeq, s3, bd_ok, th_nx, x_sRetE, s4, bd_ok, k_retE', x_end_rt]
  rfl
theorem rn_ok : ∀ (t : Tm) (us : List Int), t.ok → us.length + t.parts ≤ 999999999 → (rn t us).1.ok ∧ (rn t us).1.deep = t.deep
  | .un i, us, h, hl => by
    have hl : us.length + 1 ≤ 999999999 := hl
    refine ⟨?_, rfl⟩
    show 0 ≤ com us i ∧ com us i ≤ 999999999
    cases c : ix us i with
    | none =>
      rw [com_none c]
      omega
    | some k =>
      rw [com_some c]
      have := ix_lt c
      omega
  | .pr a b, us, h, hl => by
    have hl : us.length + (1 + a.parts + b.parts) ≤ 999999999 := hl
    have := rn_len a us
    obtain ⟨a1, a2⟩ := rn_ok a us h.1 (by omega)
    obtain ⟨b1, b2⟩ := rn_ok b (rn a us).2 h.2 (by omega)
    refine ⟨⟨a1, b1⟩, ?_⟩
    show 1 + max (rn a us).1.deep (rn b (rn a us).2).1.deep = 1 + max a.deep b.deep
    rw [a2, b2]
  | .nm _, us, h, _ => ⟨h, rfl⟩
  | .nu _, us, h, _ => ⟨h, rfl⟩
theorem shp_list {a : PyData} (h : shapely a = true) (hd : a.depth ≤ 60) : shapely (.list [a]) = true := by
  obtain ⟨h1, h2⟩ := Bool.and_eq_true_iff.mp h
  obtain ⟨h3, _⟩ := Bool.and_eq_true_iff.mp h2
  refine Bool.and_eq_true_iff.mpr ⟨?_, Bool.and_eq_true_iff.mpr ⟨?_, decide_eq_true ?_⟩⟩
  · show (noDict a && true) = true
    rw [h1]
    rfl
  · show (PyData.canLay0 a && true) = true
    rw [h3]
    rfl
  · show max a.depth 0 + 1 ≤ 64
    omega
theorem pEq_one {a b : Tm} (ha : a.ok) (hb : b.ok) (da : a.deep ≤ 6) (db : b.deep ≤ 6) : pEq (.list [a.d]) (.list [b.d]) = some (.bool (decide (a = b))) := by
  unfold pEq
  rw [eqD_shp rfl (shp_list (Tm.shp ha (by omega)) (Nat.le_trans a.depth (by omega))) (shp_list (Tm.shp hb (by omega)) (Nat.le_trans b.depth (by omega)))]
  show some (PyData.bool (PyData.eqv a.d b.d && true)) = _
  rw [Bool.and_true, Tm.eqv]
theorem e_variants {a b : Tm} (ha : a.ok) (hb : b.ok) (da : a.deep ≤ 6) (db : b.deep ≤ 6) : m_are_variants [.f a.d, .f b.d] = .ok (.f (.bool ((mt a b []).1 && (mt b a []).1))) [none, none] := by
  have pa := a.parts_deep 6 da
  have pb := b.parts_deep 6 db
  obtain ⟨a1, a2⟩ := rn_ok a [] ha (by rw [List.length_nil]; omega)
  obtain ⟨b1, b2⟩ := rn_ok b [] hb (by rw [List.length_nil]; omega)
  have pe := pEq_one a1 b1 (by omega) (by omega)
  rw [both] at pe
  have e1 := e_need ha da
  have e2 := e_need hb db
  have e3 := e_by_coming ha da
  have e4 := e_by_coming hb db
  have f1 : ∀ (x : PyData) (ρ : MEnv), fzB (tl [x]) ρ = .ok (.list [x]) ρ := fun x ρ => fzB_l [x]
  have l1 : ∀ x : PyData, pLst [x] = some (.list [x]) := fun x => q_lst (by show 1 ≤ sizeLine; decide)
  rw [show m_are_variants [.f a.d, .f b.d] = endF [false, false] (b_are_variants [some (.f a.d), some (.f b.d)]) from mFn2 rfl rfl]
  unfold b_are_variants
  generalize m_need_term = m1 at e1 e2
  generalize m_by_coming = m2 at e3 e4
  simp only [k_v1', k_v2', k_c1', k_c2', k_vN', k_not', k_no, k_ys, k_o', k_s1', k_s2', k_s3', k_ch1', k_ch2', k_isi', k_ret', k_retE', k_exp', k_set', k_setE', k_eV', k_lst0, k_lst1, k_lst2, k_call', k_for', k_seqL, k_seqT, look_f, look_l, look_0, moveB_s, x_rNil, k_r1', k_r2', x_rV, k_rL', lookL_s, x_rL, k_ld', x_eCallL, lendB_ok, ld0_0, ld0_1, ld0_2, ld2_0, ld2_1, ld2_2, bd_ok, bd_no, bd_ex, of_some, x_vC, x_vVar, x_v1, x_v2, x_aNil, x_aCons, x_vN, andB_t, andB_f, orB_t, orB_f, ifB_t, ifB_f, x_vAnd, x_vOr, x_bIf, asBk_b, x_bV, x_bNot, x_bAnd, x_bOr, x_oNone, x_oSome, x_asI, x_vSl, chB_t, chB_f, x_vChain, x_vIsi, x_sNx, x_sSeq, th_nx, th_rt, x_sIf, x_sRet, x_sRetE, x_sExpr, x_sSet, x_sSetE, x_eV, fzB_f, x_vFz, x_eMove, x_eLst, callB_ok, callB_ex, x_eCall, x_sFor, x_iSeq, x_end_rt, x_end_nx, x_end_ex, gt_0, gt_s, st_0, st_s, bk_n, bk_y, bk_0, List.map_cons, List.map_nil, List.cons_append, List.nil_append, List.append_nil, List.length_cons, List.length_nil, if_true, if_false, Bool.not_true, Bool.not_false, q_tup1, q_tup2, q_lt, q_gt, q_le, q_ge, q_eq, q_add, q_sub, decide_true, decide_false, lendC_ok, ld11, ld22, keyD_i, dInB_s, k_dIn', x_vDIn, dgC_s, k_dg', dgB_s, x_vDGet, d2C_s, k_d22', k_d21', d2B_s, x_vDGet2, k_dp2', dpB_s, k_dp1', x_sDPut, dsV_s, dsV_n, k_ds2', k_ds1', dsB_s, x_vDSetd, dlB_s, x_vDLen, x_eD0, k_rE1', k_rE2', x_rE, odr_kv, od_kv, odr_dk, od_dk, val_kv, Option.map_some, Option.map_none, Option.isSome_some, Option.isSome_none, Option.getD_some, Option.getD_none, Bool.false_xor, Bool.true_xor, e1, e2, e3, e4, l1, f1, pe]


/-! ### instance -/
section
variable {c : MB} {b : MS} {n : Nat} {ρ ρ' : MEnv}
theorem wh_go (hc : c ρ = .ok true ρ) (hb : b ρ = .ok .nx ρ') : whileS c b (n + 1) ρ = whileS c b n ρ' := by
  show (c ρ).bd _ = _
  rw [hc, bd_ok]
  show (b ρ).bd _ = _
  rw [hb, bd_ok]
theorem wh_rt {t : T} (hc : c ρ = .ok true ρ) (hb : b ρ = .ok (.rt t) ρ') : whileS c b (n + 1) ρ = .ok (.rt t) ρ' := by
  show (c ρ).bd _ = _
  rw [hc, bd_ok]
  show (b ρ).bd _ = _
  rw [hb, bd_ok]
theorem wh_end (hc : c ρ = .ok false ρ) : whileS c b (n + 1) ρ = .ok .nx ρ := by
  show (c ρ).bd _ = _
  rw [hc, bd_ok]
end
def itC : MB := bNil true 3
def itAsg : MS := sAsg (Tg.tp [(Tg.nm 4), (Tg.nm 5)]) (vPop 3)
def itU : MS := sIf (bV (v2 pNe (vDSetd 2 (v2 pIx (vVar 4) (vC (PyData.int 0))) (vVar 5)) (vVar 5))) (sRet (vC PyData.none)) sNx
def itP : MS := sExpr (vExt 3 (aCons (vN pTup (aCons (v2 pIx (vVar 4) (vC (PyData.int 1))) (aCons (v2 pIx (vVar 5) (vC (PyData.int 1))) aNil))) (aCons (vN pTup (aCons (v2 pIx (vVar 4) (vC (PyData.int 0))) (aCons (v2 pIx (vVar 5) (vC (PyData.int 0))) aNil))) aNil)))
def itN : MS := sIf (bV (v2 pNe (vVar 4) (vVar 5))) (sRet (vC PyData.none)) sNx
def itB : MS := sSeq itAsg (sIf (bV (vFz (eCall m_is_unknown [] (aCons (vVar 4) aNil)))) itU (sIf (bAnd (bV (vFz (eCall m_is_pair [] (aCons (vVar 4) aNil)))) (bV (vFz (eCall m_is_pair [] (aCons (vVar 5) aNil))))) itP itN))
theorem b_instance_eq : b_instance = sSeq (sExpr (vFz (eCall m_need_term [] (aCons (vVar 0) aNil))))
  (sSeq (sExpr (vFz (eCall m_need_term [] (aCons (vVar 1) aNil))))
  (sSeq (sSetE 2 eD0)
  (sSeq (sSetE 3 (eLst (aCons (vN pTup (aCons (vVar 0) (aCons (vVar 1) aNil))) aNil)))
  (sSeq (sWhile 1000000 itC itB)
  (sRetE (eSortIt 2)))))) := rfl
def pd (p : Tm × Tm) : PyData := .tuple [p.1.d, p.2.d]
abbrev itE (w0 t0 : PyData) (f : Fd) (st : List (Tm × Tm)) (x4 x5 : Option T) : MEnv := [some (.f w0), some (.f t0), some (T.dk (kv f)), some (tl (st.map pd)), x4, x5]
section
variable {w0 t0 : PyData} {f : Fd} {rest : List (Tm × Tm)} {x4 x5 : Option T}
theorem it_pop (w t : Tm) : itAsg (itE w0 t0 f (rest ++ [(w, t)]) x4 x5) = .ok .nx (itE w0 t0 f rest (some (.f w.d)) (some (.f t.d))) := by
  have e : vPop 3 (itE w0 t0 f (rest ++ [(w, t)]) x4 x5) = .ok (.tuple [w.d, t.d]) (itE w0 t0 f rest x4 x5) := by
    unfold vPop
    rw [show gt (itE w0 t0 f (rest ++ [(w, t)]) x4 x5) 3 = some (tl ((rest ++ [(w, t)]).map pd)) from rfl, ol_tl]
    simp only [List.map_append, List.map_cons, List.map_nil, List.getLast?_append, List.getLast?_singleton, List.dropLast_concat, Option.some_or]
    rfl
  unfold itAsg sAsg
  rw [e, bd_ok]
  rfl
theorem it_cond (p : Tm × Tm) : itC (itE w0 t0 f (rest ++ [p]) x4 x5) = .ok true (itE w0 t0 f (rest ++ [p]) x4 x5) := by
  unfold itC bNil
  rw [show gt (itE w0 t0 f (rest ++ [p]) x4 x5) 3 = some (tl ((rest ++ [p]).map pd)) from rfl, ol_tl]
  simp only [List.map_append, List.map_cons, List.map_nil]
  cases rest.map pd <;> rfl
theorem it_stop : itC (itE w0 t0 f [] x4 x5) = .ok false (itE w0 t0 f [] x4 x5) := rfl
theorem it_body {w t : Tm} (hw : w.ok) : itB (itE w0 t0 f (rest ++ [(w, t)]) x4 x5) = (if w.isU = true then itU (itE w0 t0 f rest (some (.f w.d)) (some (.f t.d))) else if w.isP = true ∧ t.isP = true then itP (itE w0 t0 f rest (some (.f w.d)) (some (.f t.d))) else itN (itE w0 t0 f rest (some (.f w.d)) (some (.f t.d)))) := by
  have e1 := e_isU hw
  have e2 := e_isP w
  have e3 := e_isP t
  unfold itB
  rw [x_sSeq, it_pop, bd_ok, th_nx]
  generalize itU = U
  generalize itP = Q
  generalize itN = N
  generalize m_is_unknown = m1 at e1
  generalize m_is_pair = m2 at e2 e3
  generalize T.dk (kv f) = dd
  generalize tl (rest.map pd) = ll
  cases c1 : w.isU with
  | true =>
    rw [c1] at e1
    simp only [k_v1', k_v2', k_c1', k_c2', k_vN', k_not', k_no, k_ys, k_o', k_s1', k_s2', k_s3', k_ch1', k_ch2', k_isi', k_ret', k_retE', k_exp', k_set', k_setE', k_eV', k_lst0, k_lst1, k_lst2, k_call', k_for', k_seqL, k_seqT, look_f, look_l, look_0, moveB_s, x_rNil, k_r1', k_r2', x_rV, k_rL', lookL_s, x_rL, k_ld', x_eCallL, lendB_ok, ld0_0, ld0_1, ld0_2, ld2_0, ld2_1, ld2_2, bd_ok, bd_no, bd_ex, of_some, x_vC, x_vVar, x_v1, x_v2, x_aNil, x_aCons, x_vN, andB_t, andB_f, orB_t, orB_f, ifB_t, ifB_f, x_vAnd, x_vOr, x_bIf, asBk_b, x_bV, x_bNot, x_bAnd, x_bOr, x_oNone, x_oSome, x_asI, x_vSl, chB_t, chB_f, x_vChain, x_vIsi, x_sNx, x_sSeq, th_nx, th_rt, x_sIf, x_sRet, x_sRetE, x_sExpr, x_sSet, x_sSetE, x_eV, fzB_f, x_vFz, x_eMove, x_eLst, callB_ok, callB_ex, x_eCall, x_sFor, x_iSeq, x_end_rt, x_end_nx, x_end_ex, gt_0, gt_s, st_0, st_s, bk_n, bk_y, bk_0, List.map_cons, List.map_nil, List.cons_append, List.nil_append, List.append_nil, List.length_cons, List.length_nil, if_true, if_false, Bool.not_true, Bool.not_false, q_tup1, q_tup2, q_lt, q_gt, q_le, q_ge, q_eq, q_add, q_sub, decide_true, decide_false, lendC_ok, ld11, ld22, keyD_i, dInB_s, k_dIn', x_vDIn, dgC_s, k_dg', dgB_s, x_vDGet, d2C_s, k_d22', k_d21', d2B_s, x_vDGet2, k_dp2', dpB_s, k_dp1', x_sDPut, dsV_s, dsV_n, k_ds2', k_ds1', dsB_s, x_vDSetd, dlB_s, x_vDLen, x_eD0, k_rE1', k_rE2', x_rE, odr_kv, od_kv, odr_dk, od_dk, val_kv, Option.map_some, Option.map_none, Option.isSome_some, Option.isSome_none, Option.getD_some, Option.getD_none, Bool.false_xor, Bool.true_xor, e1]
  | false =>
    rw [c1] at e1
    cases c2 : w.isP with
    | false =>
      rw [c2] at e2
      simp only [k_v1', k_v2', k_c1', k_c2', k_vN', k_not', k_no, k_ys, k_o', k_s1', k_s2', k_s3', k_ch1', k_ch2', k_isi', k_ret', k_retE', k_exp', k_set', k_setE', k_eV', k_lst0, k_lst1, k_lst2, k_call', k_for', k_seqL, k_seqT, look_f, look_l, look_0, moveB_s, x_rNil, k_r1', k_r2', x_rV, k_rL', lookL_s, x_rL, k_ld', x_eCallL, lendB_ok, ld0_0, ld0_1, ld0_2, ld2_0, ld2_1, ld2_2, bd_ok, bd_no, bd_ex, of_some, x_vC, x_vVar, x_v1, x_v2, x_aNil, x_aCons, x_vN, andB_t, andB_f, orB_t, orB_f, ifB_t, ifB_f, x_vAnd, x_vOr, x_bIf, asBk_b, x_bV, x_bNot, x_bAnd, x_bOr, x_oNone, x_oSome, x_asI, x_vSl, chB_t, chB_f, x_vChain, x_vIsi, x_sNx, x_sSeq, th_nx, th_rt, x_sIf, x_sRet, x_sRetE, x_sExpr, x_sSet, x_sSetE, x_eV, fzB_f, x_vFz, x_eMove, x_eLst, callB_ok, callB_ex, x_eCall, x_sFor, x_iSeq, x_end_rt, x_end_nx, x_end_ex, gt_0, gt_s, st_0, st_s, bk_n, bk_y, bk_0, List.map_cons, List.map_nil, List.cons_append, List.nil_append, List.append_nil, List.length_cons, List.length_nil, if_true, if_false, Bool.not_true, Bool.not_false, q_tup1, q_tup2, q_lt, q_gt, q_le, q_ge, q_eq, q_add, q_sub, decide_true, decide_false, lendC_ok, ld11, ld22, keyD_i, dInB_s, k_dIn', x_vDIn, dgC_s, k_dg', dgB_s, x_vDGet, d2C_s, k_d22', k_d21', d2B_s, x_vDGet2, k_dp2', dpB_s, k_dp1', x_sDPut, dsV_s, dsV_n, k_ds2', k_ds1', dsB_s, x_vDSetd, dlB_s, x_vDLen, x_eD0, k_rE1', k_rE2', x_rE, odr_kv, od_kv, odr_dk, od_dk, val_kv, Option.map_some, Option.map_none, Option.isSome_some, Option.isSome_none, Option.getD_some, Option.getD_none, Bool.false_xor, Bool.true_xor, e1, e2, Bool.false_eq_true, false_and]
    | true =>
      rw [c2] at e2
      cases c3 : t.isP with
      | false =>
        rw [c3] at e3
        simp only [k_v1', k_v2', k_c1', k_c2', k_vN', k_not', k_no, k_ys, k_o', k_s1', k_s2', k_s3', k_ch1', k_ch2', k_isi', k_ret', k_retE', k_exp', k_set', k_setE', k_eV', k_lst0, k_lst1, k_lst2, k_call', k_for', k_seqL, k_seqT, look_f, look_l, look_0, moveB_s, x_rNil, k_r1', k_r2', x_rV, k_rL', lookL_s, x_rL, k_ld', x_eCallL, lendB_ok, ld0_0, ld0_1, ld0_2, ld2_0, ld2_1, ld2_2, bd_ok, bd_no, bd_ex, of_some, x_vC, x_vVar, x_v1, x_v2, x_aNil, x_aCons, x_vN, andB_t, andB_f, orB_t, orB_f, ifB_t, ifB_f, x_vAnd, x_vOr, x_bIf, asBk_b, x_bV, x_bNot, x_bAnd, x_bOr, x_oNone, x_oSome, x_asI, x_vSl, chB_t, chB_f, x_vChain, x_vIsi, x_sNx, x_sSeq, th_nx, th_rt, x_sIf, x_sRet, x_sRetE, x_sExpr, x_sSet, x_sSetE, x_eV, fzB_f, x_vFz, x_eMove, x_eLst, callB_ok, callB_ex, x_eCall, x_sFor, x_iSeq, x_end_rt, x_end_nx, x_end_ex, gt_0, gt_s, st_0, st_s, bk_n, bk_y, bk_0, List.map_cons, List.map_nil, List.cons_append, List.nil_append, List.append_nil, List.length_cons, List.length_nil, if_true, if_false, Bool.not_true, Bool.not_false, q_tup1, q_tup2, q_lt, q_gt, q_le, q_ge, q_eq, q_add, q_sub, decide_true, decide_false, lendC_ok, ld11, ld22, keyD_i, dInB_s, k_dIn', x_vDIn, dgC_s, k_dg', dgB_s, x_vDGet, d2C_s, k_d22', k_d21', d2B_s, x_vDGet2, k_dp2', dpB_s, k_dp1', x_sDPut, dsV_s, dsV_n, k_ds2', k_ds1', dsB_s, x_vDSetd, dlB_s, x_vDLen, x_eD0, k_rE1', k_rE2', x_rE, odr_kv, od_kv, odr_dk, od_dk, val_kv, Option.map_some, Option.map_none, Option.isSome_some, Option.isSome_none, Option.getD_some, Option.getD_none, Bool.false_xor, Bool.true_xor, e1, e2, e3, Bool.false_eq_true, and_false]
      | true =>
        rw [c3] at e3
        simp only [k_v1', k_v2', k_c1', k_c2', k_vN', k_not', k_no, k_ys, k_o', k_s1', k_s2', k_s3', k_ch1', k_ch2', k_isi', k_ret', k_retE', k_exp', k_set', k_setE', k_eV', k_lst0, k_lst1, k_lst2, k_call', k_for', k_seqL, k_seqT, look_f, look_l, look_0, moveB_s, x_rNil, k_r1', k_r2', x_rV, k_rL', lookL_s, x_rL, k_ld', x_eCallL, lendB_ok, ld0_0, ld0_1, ld0_2, ld2_0, ld2_1, ld2_2, bd_ok, bd_no, bd_ex, of_some, x_vC, x_vVar, x_v1, x_v2, x_aNil, x_aCons, x_vN, andB_t, andB_f, orB_t, orB_f, ifB_t, ifB_f, x_vAnd, x_vOr, x_bIf, asBk_b, x_bV, x_bNot, x_bAnd, x_bOr, x_oNone, x_oSome, x_asI, x_vSl, chB_t, chB_f, x_vChain, x_vIsi, x_sNx, x_sSeq, th_nx, th_rt, x_sIf, x_sRet, x_sRetE, x_sExpr, x_sSet, x_sSetE, x_eV, fzB_f, x_vFz, x_eMove, x_eLst, callB_ok, callB_ex, x_eCall, x_sFor, x_iSeq, x_end_rt, x_end_nx, x_end_ex, gt_0, gt_s, st_0, st_s, bk_n, bk_y, bk_0, List.map_cons, List.map_nil, List.cons_append, List.nil_append, List.append_nil, List.length_cons, List.length_nil, if_true, if_false, Bool.not_true, Bool.not_false, q_tup1, q_tup2, q_lt, q_gt, q_le, q_ge, q_eq, q_add, q_sub, decide_true, decide_false, lendC_ok, ld11, ld22, keyD_i, dInB_s, k_dIn', x_vDIn, dgC_s, k_dg', dgB_s, x_vDGet, d2C_s, k_d22', k_d21', d2B_s, x_vDGet2, k_dp2', dpB_s, k_dp1', x_sDPut, dsV_s, dsV_n, k_ds2', k_ds1', dsB_s, x_vDSetd, dlB_s, x_vDLen, x_eD0, k_rE1', k_rE2', x_rE, odr_kv, od_kv, odr_dk, od_dk, val_kv, Option.map_some, Option.map_none, Option.isSome_some, Option.isSome_none, Option.getD_some, Option.getD_none, Bool.false_xor, Bool.true_xor, e1, e2, e3, Bool.false_eq_true, and_self]
theorem it_un {i : Int} {t : Tm} (ht : t.ok) (dt : t.deep ≤ 6) (hf : FdOk f) (hl : f.length ≤ 1000) : itU (itE w0 t0 f rest (some (.f (Tm.un i).d)) (some (.f t.d))) = (if (mt (.un i) t f).1 = true then .ok .nx (itE w0 t0 (mt (.un i) t f).2 rest (some (.f (Tm.un i).d)) (some (.f t.d))) else .ok (.rt (.f .none)) (itE w0 t0 f rest (some (.f (Tm.un i).d)) (some (.f t.d)))) := by
  have hs : (kv f).length < sizeLine := by
    rw [kv_len]
    exact Nat.lt_of_le_of_lt hl (by decide)
  show itU [some (.f w0), some (.f t0), some (T.dk (kv f)), some (tl (rest.map pd)), some (.f (.tuple [.int i])), some (.f t.d)] = _
  rw [mt_un]
  unfold itU
  cases e : lk f i with
  | some u =>
    have pe : pNe u.d t.d = _ := Tm.pNe (hf.lk e).1 ht (Nat.le_trans (hf.lk e).2 (by decide)) (Nat.le_trans dt (by decide))
    show _ = (if decide (u = t) = true then _ else _)
    cases c : decide (u = t) with
    | true =>
      rw [c] at pe
      simp only [k_v1', k_v2', k_c1', k_c2', k_vN', k_not', k_no, k_ys, k_o', k_s1', k_s2', k_s3', k_ch1', k_ch2', k_isi', k_ret', k_retE', k_exp', k_set', k_setE', k_eV', k_lst0, k_lst1, k_lst2, k_call', k_for', k_seqL, k_seqT, look_f, look_l, look_0, moveB_s, x_rNil, k_r1', k_r2', x_rV, k_rL', lookL_s, x_rL, k_ld', x_eCallL, lendB_ok, ld0_0, ld0_1, ld0_2, ld2_0, ld2_1, ld2_2, bd_ok, bd_no, bd_ex, of_some, x_vC, x_vVar, x_v1, x_v2, x_aNil, x_aCons, x_vN, andB_t, andB_f, orB_t, orB_f, ifB_t, ifB_f, x_vAnd, x_vOr, x_bIf, asBk_b, x_bV, x_bNot, x_bAnd, x_bOr, x_oNone, x_oSome, x_asI, x_vSl, chB_t, chB_f, x_vChain, x_vIsi, x_sNx, x_sSeq, th_nx, th_rt, x_sIf, x_sRet, x_sRetE, x_sExpr, x_sSet, x_sSetE, x_eV, fzB_f, x_vFz, x_eMove, x_eLst, callB_ok, callB_ex, x_eCall, x_sFor, x_iSeq, x_end_rt, x_end_nx, x_end_ex, gt_0, gt_s, st_0, st_s, bk_n, bk_y, bk_0, List.map_cons, List.map_nil, List.cons_append, List.nil_append, List.append_nil, List.length_cons, List.length_nil, if_true, if_false, Bool.not_true, Bool.not_false, q_tup1, q_tup2, q_lt, q_gt, q_le, q_ge, q_eq, q_add, q_sub, decide_true, decide_false, lendC_ok, ld11, ld22, keyD_i, dInB_s, k_dIn', x_vDIn, dgC_s, k_dg', dgB_s, x_vDGet, d2C_s, k_d22', k_d21', d2B_s, x_vDGet2, k_dp2', dpB_s, k_dp1', x_sDPut, dsV_s, dsV_n, k_ds2', k_ds1', dsB_s, x_vDSetd, dlB_s, x_vDLen, x_eD0, k_rE1', k_rE2', x_rE, odr_kv, od_kv, odr_dk, od_dk, val_kv, Option.map_some, Option.map_none, Option.isSome_some, Option.isSome_none, Option.getD_some, Option.getD_none, Bool.false_xor, Bool.true_xor, q_ix10, e, dsC_s hs, pe]
      rfl
    | false =>
      rw [c] at pe
      simp only [k_v1', k_v2', k_c1', k_c2', k_vN', k_not', k_no, k_ys, k_o', k_s1', k_s2', k_s3', k_ch1', k_ch2', k_isi', k_ret', k_retE', k_exp', k_set', k_setE', k_eV', k_lst0, k_lst1, k_lst2, k_call', k_for', k_seqL, k_seqT, look_f, look_l, look_0, moveB_s, x_rNil, k_r1', k_r2', x_rV, k_rL', lookL_s, x_rL, k_ld', x_eCallL, lendB_ok, ld0_0, ld0_1, ld0_2, ld2_0, ld2_1, ld2_2, bd_ok, bd_no, bd_ex, of_some, x_vC, x_vVar, x_v1, x_v2, x_aNil, x_aCons, x_vN, andB_t, andB_f, orB_t, orB_f, ifB_t, ifB_f, x_vAnd, x_vOr, x_bIf, asBk_b, x_bV, x_bNot, x_bAnd, x_bOr, x_oNone, x_oSome, x_asI, x_vSl, chB_t, chB_f, x_vChain, x_vIsi, x_sNx, x_sSeq, th_nx, th_rt, x_sIf, x_sRet, x_sRetE, x_sExpr, x_sSet, x_sSetE, x_eV, fzB_f, x_vFz, x_eMove, x_eLst, callB_ok, callB_ex, x_eCall, x_sFor, x_iSeq, x_end_rt, x_end_nx, x_end_ex, gt_0, gt_s, st_0, st_s, bk_n, bk_y, bk_0, List.map_cons, List.map_nil, List.cons_append, List.nil_append, List.append_nil, List.length_cons, List.length_nil, if_true, if_false, Bool.not_true, Bool.not_false, q_tup1, q_tup2, q_lt, q_gt, q_le, q_ge, q_eq, q_add, q_sub, decide_true, decide_false, lendC_ok, ld11, ld22, keyD_i, dInB_s, k_dIn', x_vDIn, dgC_s, k_dg', dgB_s, x_vDGet, d2C_s, k_d22', k_d21', d2B_s, x_vDGet2, k_dp2', dpB_s, k_dp1', x_sDPut, dsV_s, dsV_n, k_ds2', k_ds1', dsB_s, x_vDSetd, dlB_s, x_vDLen, x_eD0, k_rE1', k_rE2', x_rE, odr_kv, od_kv, odr_dk, od_dk, val_kv, Option.map_some, Option.map_none, Option.isSome_some, Option.isSome_none, Option.getD_some, Option.getD_none, Bool.false_xor, Bool.true_xor, q_ix10, e, dsC_s hs, pe, Bool.false_eq_true]
      rfl
  | none =>
    have pe : pNe t.d t.d = _ := Tm.pNe ht ht (Nat.le_trans dt (by decide)) (Nat.le_trans dt (by decide))
    rw [decide_eq_true rfl] at pe
    show _ = (if true = true then _ else _)
    simp only [k_v1', k_v2', k_c1', k_c2', k_vN', k_not', k_no, k_ys, k_o', k_s1', k_s2', k_s3', k_ch1', k_ch2', k_isi', k_ret', k_retE', k_exp', k_set', k_setE', k_eV', k_lst0, k_lst1, k_lst2, k_call', k_for', k_seqL, k_seqT, look_f, look_l, look_0, moveB_s, x_rNil, k_r1', k_r2', x_rV, k_rL', lookL_s, x_rL, k_ld', x_eCallL, lendB_ok, ld0_0, ld0_1, ld0_2, ld2_0, ld2_1, ld2_2, bd_ok, bd_no, bd_ex, of_some, x_vC, x_vVar, x_v1, x_v2, x_aNil, x_aCons, x_vN, andB_t, andB_f, orB_t, orB_f, ifB_t, ifB_f, x_vAnd, x_vOr, x_bIf, asBk_b, x_bV, x_bNot, x_bAnd, x_bOr, x_oNone, x_oSome, x_asI, x_vSl, chB_t, chB_f, x_vChain, x_vIsi, x_sNx, x_sSeq, th_nx, th_rt, x_sIf, x_sRet, x_sRetE, x_sExpr, x_sSet, x_sSetE, x_eV, fzB_f, x_vFz, x_eMove, x_eLst, callB_ok, callB_ex, x_eCall, x_sFor, x_iSeq, x_end_rt, x_end_nx, x_end_ex, gt_0, gt_s, st_0, st_s, bk_n, bk_y, bk_0, List.map_cons, List.map_nil, List.cons_append, List.nil_append, List.append_nil, List.length_cons, List.length_nil, if_true, if_false, Bool.not_true, Bool.not_false, q_tup1, q_tup2, q_lt, q_gt, q_le, q_ge, q_eq, q_add, q_sub, decide_true, decide_false, lendC_ok, ld11, ld22, keyD_i, dInB_s, k_dIn', x_vDIn, dgC_s, k_dg', dgB_s, x_vDGet, d2C_s, k_d22', k_d21', d2B_s, x_vDGet2, k_dp2', dpB_s, k_dp1', x_sDPut, dsV_s, dsV_n, k_ds2', k_ds1', dsB_s, x_vDSetd, dlB_s, x_vDLen, x_eD0, k_rE1', k_rE2', x_rE, odr_kv, od_kv, odr_dk, od_dk, val_kv, Option.map_some, Option.map_none, Option.isSome_some, Option.isSome_none, Option.getD_some, Option.getD_none, Bool.false_xor, Bool.true_xor, q_ix10, e, dsC_s hs, put_new e, pe]
    rfl
theorem it_pr {a b c d : Tm} (hl : rest.length ≤ 1000) : itP (itE w0 t0 f rest (some (.f (Tm.pr a b).d)) (some (.f (Tm.pr c d).d))) = .ok .nx (itE w0 t0 f (rest ++ [(b, d)] ++ [(a, c)]) (some (.f (Tm.pr a b).d)) (some (.f (Tm.pr c d).d))) := by
  show itP [some (.f w0), some (.f t0), some (T.dk (kv f)), some (tl (rest.map pd)), some (.f (.tuple [a.d, b.d])), some (.f (.tuple [c.d, d.d]))] = _
  have e : vExt 3 (aCons (vN pTup (aCons (v2 pIx (vVar 4) (vC (PyData.int 1))) (aCons (v2 pIx (vVar 5) (vC (PyData.int 1))) aNil))) (aCons (vN pTup (aCons (v2 pIx (vVar 4) (vC (PyData.int 0))) (aCons (v2 pIx (vVar 5) (vC (PyData.int 0))) aNil))) aNil)) [some (.f w0), some (.f t0), some (T.dk (kv f)), some (tl (rest.map pd)), some (.f (.tuple [a.d, b.d])), some (.f (.tuple [c.d, d.d]))] = .ok .none [some (.f w0), some (.f t0), some (T.dk (kv f)), some (tl (rest.map pd ++ [.tuple [b.d, d.d], .tuple [a.d, c.d]])), some (.f (.tuple [a.d, b.d])), some (.f (.tuple [c.d, d.d]))] := by
    have e2 : ∀ (x0 x1 x2 x3 : Option T), aCons (vN pTup (aCons (v2 pIx (vVar 4) (vC (PyData.int 1))) (aCons (v2 pIx (vVar 5) (vC (PyData.int 1))) aNil))) (aCons (vN pTup (aCons (v2 pIx (vVar 4) (vC (PyData.int 0))) (aCons (v2 pIx (vVar 5) (vC (PyData.int 0))) aNil))) aNil) [x0, x1, x2, x3, some (.f (.tuple [a.d, b.d])), some (.f (.tuple [c.d, d.d]))] = .ok [.tuple [b.d, d.d], .tuple [a.d, c.d]] [x0, x1, x2, x3, some (.f (.tuple [a.d, b.d])), some (.f (.tuple [c.d, d.d]))] := fun x0 x1 x2 x3 => by
      simp only [k_v1', k_v2', k_c1', k_c2', k_vN', k_not', k_no, k_ys, k_o', k_s1', k_s2', k_s3', k_ch1', k_ch2', k_isi', k_ret', k_retE', k_exp', k_set', k_setE', k_eV', k_lst0, k_lst1, k_lst2, k_call', k_for', k_seqL, k_seqT, look_f, look_l, look_0, moveB_s, x_rNil, k_r1', k_r2', x_rV, k_rL', lookL_s, x_rL, k_ld', x_eCallL, lendB_ok, ld0_0, ld0_1, ld0_2, ld2_0, ld2_1, ld2_2, bd_ok, bd_no, bd_ex, of_some, x_vC, x_vVar, x_v1, x_v2, x_aNil, x_aCons, x_vN, andB_t, andB_f, orB_t, orB_f, ifB_t, ifB_f, x_vAnd, x_vOr, x_bIf, asBk_b, x_bV, x_bNot, x_bAnd, x_bOr, x_oNone, x_oSome, x_asI, x_vSl, chB_t, chB_f, x_vChain, x_vIsi, x_sNx, x_sSeq, th_nx, th_rt, x_sIf, x_sRet, x_sRetE, x_sExpr, x_sSet, x_sSetE, x_eV, fzB_f, x_vFz, x_eMove, x_eLst, callB_ok, callB_ex, x_eCall, x_sFor, x_iSeq, x_end_rt, x_end_nx, x_end_ex, gt_0, gt_s, st_0, st_s, bk_n, bk_y, bk_0, List.map_cons, List.map_nil, List.cons_append, List.nil_append, List.append_nil, List.length_cons, List.length_nil, if_true, if_false, Bool.not_true, Bool.not_false, q_tup1, q_tup2, q_lt, q_gt, q_le, q_ge, q_eq, q_add, q_sub, decide_true, decide_false, lendC_ok, ld11, ld22, keyD_i, dInB_s, k_dIn', x_vDIn, dgC_s, k_dg', dgB_s, x_vDGet, d2C_s, k_d22', k_d21', d2B_s, x_vDGet2, k_dp2', dpB_s, k_dp1', x_sDPut, dsV_s, dsV_n, k_ds2', k_ds1', dsB_s, x_vDSetd, dlB_s, x_vDLen, x_eD0, k_rE1', k_rE2', x_rE, odr_kv, od_kv, odr_dk, od_dk, val_kv, Option.map_some, Option.map_none, Option.isSome_some, Option.isSome_none, Option.getD_some, Option.getD_none, Bool.false_xor, Bool.true_xor, q_ix20, q_ix21]
    unfold vExt
    rw [show gt [some (.f w0), some (.f t0), some (T.dk (kv f)), some (tl (rest.map pd)), some (.f (.tuple [a.d, b.d])), some (.f (.tuple [c.d, d.d]))] 3 = some (tl (rest.map pd)) from rfl, ol_tl]
    show Ou.bd (aCons _ _ _) _ = _
    rw [e2, bd_ok]
    simp only [gt_s, gt_0, ol_tl]
    rw [if_pos ⟨by show 2 ≤ sizeLine; decide, by rw [List.length_map]; exact Nat.le_trans (show rest.length + 2 ≤ 1002 by omega) (by decide)⟩]
    rfl
  unfold itP
  rw [x_sExpr, e, bd_ok, k_exp']
  simp only [itE, List.map_append, List.map_cons, List.map_nil, List.append_assoc, List.cons_append, List.nil_append]
  rfl
theorem it_no {w t : Tm} (hw : w.ok) (ht : t.ok) (dw : w.deep ≤ 6) (dt : t.deep ≤ 6) : itN (itE w0 t0 f rest (some (.f w.d)) (some (.f t.d))) = (if decide (w = t) = true then .ok .nx (itE w0 t0 f rest (some (.f w.d)) (some (.f t.d))) else .ok (.rt (.f .none)) (itE w0 t0 f rest (some (.f w.d)) (some (.f t.d)))) := by
  have pe : pNe w.d t.d = _ := Tm.pNe hw ht (Nat.le_trans dw (by decide)) (Nat.le_trans dt (by decide))
  unfold itN
  generalize T.dk (kv f) = dd
  generalize tl (rest.map pd) = ll
  cases c : decide (w = t) with
  | true =>
    rw [c] at pe
    simp only [k_v1', k_v2', k_c1', k_c2', k_vN', k_not', k_no, k_ys, k_o', k_s1', k_s2', k_s3', k_ch1', k_ch2', k_isi', k_ret', k_retE', k_exp', k_set', k_setE', k_eV', k_lst0, k_lst1, k_lst2, k_call', k_for', k_seqL, k_seqT, look_f, look_l, look_0, moveB_s, x_rNil, k_r1', k_r2', x_rV, k_rL', lookL_s, x_rL, k_ld', x_eCallL, lendB_ok, ld0_0, ld0_1, ld0_2, ld2_0, ld2_1, ld2_2, bd_ok, bd_no, bd_ex, of_some, x_vC, x_vVar, x_v1, x_v2, x_aNil, x_aCons, x_vN, andB_t, andB_f, orB_t, orB_f, ifB_t, ifB_f, x_vAnd, x_vOr, x_bIf, asBk_b, x_bV, x_bNot, x_bAnd, x_bOr, x_oNone, x_oSome, x_asI, x_vSl, chB_t, chB_f, x_vChain, x_vIsi, x_sNx, x_sSeq, th_nx, th_rt, x_sIf, x_sRet, x_sRetE, x_sExpr, x_sSet, x_sSetE, x_eV, fzB_f, x_vFz, x_eMove, x_eLst, callB_ok, callB_ex, x_eCall, x_sFor, x_iSeq, x_end_rt, x_end_nx, x_end_ex, gt_0, gt_s, st_0, st_s, bk_n, bk_y, bk_0, List.map_cons, List.map_nil, List.cons_append, List.nil_append, List.append_nil, List.length_cons, List.length_nil, if_true, if_false, Bool.not_true, Bool.not_false, q_tup1, q_tup2, q_lt, q_gt, q_le, q_ge, q_eq, q_add, q_sub, decide_true, decide_false, lendC_ok, ld11, ld22, keyD_i, dInB_s, k_dIn', x_vDIn, dgC_s, k_dg', dgB_s, x_vDGet, d2C_s, k_d22', k_d21', d2B_s, x_vDGet2, k_dp2', dpB_s, k_dp1', x_sDPut, dsV_s, dsV_n, k_ds2', k_ds1', dsB_s, x_vDSetd, dlB_s, x_vDLen, x_eD0, k_rE1', k_rE2', x_rE, odr_kv, od_kv, odr_dk, od_dk, val_kv, Option.map_some, Option.map_none, Option.isSome_some, Option.isSome_none, Option.getD_some, Option.getD_none, Bool.false_xor, Bool.true_xor, pe]
  | false =>
    rw [c] at pe
    simp only [k_v1', k_v2', k_c1', k_c2', k_vN', k_not', k_no, k_ys, k_o', k_s1', k_s2', k_s3', k_ch1', k_ch2', k_isi', k_ret', k_retE', k_exp', k_set', k_setE', k_eV', k_lst0, k_lst1, k_lst2, k_call', k_for', k_seqL, k_seqT, look_f, look_l, look_0, moveB_s, x_rNil, k_r1', k_r2', x_rV, k_rL', lookL_s, x_rL, k_ld', x_eCallL, lendB_ok, ld0_0, ld0_1, ld0_2, ld2_0, ld2_1, ld2_2, bd_ok, bd_no, bd_ex, of_some, x_vC, x_vVar, x_v1, x_v2, x_aNil, x_aCons, x_vN, andB_t, andB_f, orB_t, orB_f, ifB_t, ifB_f, x_vAnd, x_vOr, x_bIf, asBk_b, x_bV, x_bNot, x_bAnd, x_bOr, x_oNone, x_oSome, x_asI, x_vSl, chB_t, chB_f, x_vChain, x_vIsi, x_sNx, x_sSeq, th_nx, th_rt, x_sIf, x_sRet, x_sRetE, x_sExpr, x_sSet, x_sSetE, x_eV, fzB_f, x_vFz, x_eMove, x_eLst, callB_ok, callB_ex, x_eCall, x_sFor, x_iSeq, x_end_rt, x_end_nx, x_end_ex, gt_0, gt_s, st_0, st_s, bk_n, bk_y, bk_0, List.map_cons, List.map_nil, List.cons_append, List.nil_append, List.append_nil, List.length_cons, List.length_nil, if_true, if_false, Bool.not_true, Bool.not_false, q_tup1, q_tup2, q_lt, q_gt, q_le, q_ge, q_eq, q_add, q_sub, decide_true, decide_false, lendC_ok, ld11, ld22, keyD_i, dInB_s, k_dIn', x_vDIn, dgC_s, k_dg', dgB_s, x_vDGet, d2C_s, k_d22', k_d21', d2B_s, x_vDGet2, k_dp2', dpB_s, k_dp1', x_sDPut, dsV_s, dsV_n, k_ds2', k_ds1', dsB_s, x_vDSetd, dlB_s, x_vDLen, x_eD0, k_rE1', k_rE2', x_rE, odr_kv, od_kv, odr_dk, od_dk, val_kv, Option.map_some, Option.map_none, Option.isSome_some, Option.isSome_none, Option.getD_some, Option.getD_none, Bool.false_xor, Bool.true_xor, pe, Bool.false_eq_true]
end
def ItR2 (w0 t0 : PyData) (w t : Tm) (f : Fd) (rest : List (Tm × Tm)) (n : Nat) (x4 x5 : Option T) : Prop :=
  ((mt w t f).1 = true → ∃ x4' x5', whileS itC itB n (itE w0 t0 f (rest ++ [(w, t)]) x4 x5) = whileS itC itB (n - w.parts) (itE w0 t0 (mt w t f).2 rest x4' x5')) ∧
  ((mt w t f).1 = false → ∃ x2 x3 x4' x5', whileS itC itB n (itE w0 t0 f (rest ++ [(w, t)]) x4 x5) = .ok (.rt (.f .none)) [some (.f w0), some (.f t0), x2, x3, x4', x5'])
theorem it_leaf {w0 t0 : PyData} {w t : Tm} {f : Fd} {rest : List (Tm × Tm)} {n : Nat} {x4 x5 : Option T} (e : itB (itE w0 t0 f (rest ++ [(w, t)]) x4 x5) = (if (mt w t f).1 = true then .ok .nx (itE w0 t0 (mt w t f).2 rest (some (.f w.d)) (some (.f t.d))) else .ok (.rt (.f .none)) (itE w0 t0 f rest (some (.f w.d)) (some (.f t.d))))) (hp : w.parts = 1) : ItR2 w0 t0 w t f rest (n + 1) x4 x5 := by
  refine ⟨fun h => ?_, fun h => ?_⟩
  · rw [if_pos h] at e
    refine ⟨some (.f w.d), some (.f t.d), (wh_go (it_cond _) e).trans ?_⟩
    rw [hp]
    rfl
  · rw [if_neg (by rw [h]; decide)] at e
    exact ⟨some (T.dk (kv f)), some (tl (rest.map pd)), some (.f w.d), some (.f t.d), wh_rt (it_cond _) e⟩
theorem it_run {w0 t0 : PyData} : ∀ (w t : Tm) (f : Fd) (rest : List (Tm × Tm)) (n : Nat) (x4 x5 : Option T), w.ok → t.ok → w.deep ≤ 6 → t.deep ≤ 6 → FdOk f → f.length + w.parts ≤ 1000 → rest.length + w.parts ≤ 1000 → w.parts ≤ n → ItR2 w0 t0 w t f rest n x4 x5
  | w, t, f, rest, 0, x4, x5, _, _, _, _, _, _, _, h => absurd h (by have := w.parts_pos; omega)
  | .un i, t, f, rest, n + 1, x4, x5, hw, ht, dw, dt, hf, hl, hr, hn => by
    have hl : f.length + 1 ≤ 1000 := hl
    refine it_leaf ?_ rfl
    rw [it_body hw, if_pos (show (Tm.un i).isU = true from rfl)]
    exact it_un ht dt hf (by omega)
  | .pr a b, .pr c d, f, rest, n + 1, x4, x5, hw, ht, dw, dt, hf, hl, hr, hn => by
    have dw : 1 + max a.deep b.deep ≤ 6 := dw
    have dt : 1 + max c.deep d.deep ≤ 6 := dt
    have hl : f.length + (1 + a.parts + b.parts) ≤ 1000 := hl
    have hr : rest.length + (1 + a.parts + b.parts) ≤ 1000 := hr
    have hn : 1 + a.parts + b.parts ≤ n + 1 := hn
    have e0 : itB (itE w0 t0 f (rest ++ [(.pr a b, .pr c d)]) x4 x5) = _ := it_body hw
    rw [if_neg (by intro z; cases z), if_pos ⟨rfl, rfl⟩, it_pr (by omega)] at e0
    have g0 := wh_go (n := n) (it_cond _) e0
    obtain ⟨p1, p2⟩ := it_run a c f (rest ++ [(b, d)]) n (some (.f (Tm.pr a b).d)) (some (.f (Tm.pr c d).d)) hw.1 ht.1 (by omega) (by omega) hf (by omega) (by rw [List.length_append, List.length_singleton]; omega) (by omega)
    have em : mt (.pr a b) (.pr c d) f = mtS (mt a c f) (mt b d) := mt_pr ..
    cases c1 : (mt a c f).1 with
    | false =>
      rw [mtS_f c1] at em
      refine ⟨fun h => ?_, fun _ => ?_⟩
      · rw [em] at h
        cases h
      · obtain ⟨x2, x3, y4, y5, q⟩ := p2 c1
        exact ⟨x2, x3, y4, y5, g0.trans q⟩
    | true =>
      rw [mtS_t c1] at em
      obtain ⟨y4, y5, q⟩ := p1 c1
      have l1 := mt_len a c f
      obtain ⟨q1, q2⟩ := it_run b d (mt a c f).2 rest (n - a.parts) y4 y5 hw.2 ht.2 (by omega) (by omega) (mt_ok a c f hf ht.1 (by omega)) (by omega) (by omega) (by omega)
      unfold ItR2
      rw [em]
      refine ⟨fun h => ?_, fun h => ?_⟩
      · obtain ⟨z4, z5, r⟩ := q1 h
        refine ⟨z4, z5, (g0.trans q).trans (r.trans ?_)⟩
        rw [show n - a.parts - b.parts = n + 1 - (1 + a.parts + b.parts) by omega]
        rfl
      · obtain ⟨x2, x3, z4, z5, r⟩ := q2 h
        exact ⟨x2, x3, z4, z5, (g0.trans q).trans r⟩
  | .pr a b, .nm x, f, rest, n + 1, x4, x5, hw, ht, dw, dt, hf, hl, hr, hn => by
    have e0 : itB (itE w0 t0 f (rest ++ [(.pr a b, .nm x)]) x4 x5) = _ := it_body hw
    rw [if_neg (by intro z; cases z), if_neg (by intro z; cases z.2), it_no hw ht dw dt, if_neg (by intro z; cases of_decide_eq_true z)] at e0
    refine ⟨fun h => (by cases h), fun h => ?_⟩
    exact ⟨some (T.dk (kv f)), some (tl (rest.map pd)), some (.f (Tm.pr a b).d), some (.f (Tm.nm x).d), wh_rt (it_cond _) e0⟩
  | .pr a b, .nu x, f, rest, n + 1, x4, x5, hw, ht, dw, dt, hf, hl, hr, hn => by
    have e0 : itB (itE w0 t0 f (rest ++ [(.pr a b, .nu x)]) x4 x5) = _ := it_body hw
    rw [if_neg (by intro z; cases z), if_neg (by intro z; cases z.2), it_no hw ht dw dt, if_neg (by intro z; cases of_decide_eq_true z)] at e0
    refine ⟨fun h => (by cases h), fun h => ?_⟩
    exact ⟨some (T.dk (kv f)), some (tl (rest.map pd)), some (.f (Tm.pr a b).d), some (.f (Tm.nu x).d), wh_rt (it_cond _) e0⟩
  | .pr a b, .un x, f, rest, n + 1, x4, x5, hw, ht, dw, dt, hf, hl, hr, hn => by
    have e0 : itB (itE w0 t0 f (rest ++ [(.pr a b, .un x)]) x4 x5) = _ := it_body hw
    rw [if_neg (by intro z; cases z), if_neg (by intro z; cases z.2), it_no hw ht dw dt, if_neg (by intro z; cases of_decide_eq_true z)] at e0
    refine ⟨fun h => (by cases h), fun h => ?_⟩
    exact ⟨some (T.dk (kv f)), some (tl (rest.map pd)), some (.f (Tm.pr a b).d), some (.f (Tm.un x).d), wh_rt (it_cond _) e0⟩
  | .nm x, t, f, rest, n + 1, x4, x5, hw, ht, dw, dt, hf, hl, hr, hn => by
    refine it_leaf ?_ rfl
    rw [it_body hw, if_neg (by intro z; cases z), if_neg (by intro z; cases z.1), it_no hw ht dw dt, mt_nm]
  | .nu x, t, f, rest, n + 1, x4, x5, hw, ht, dw, dt, hf, hl, hr, hn => by
    refine it_leaf ?_ rfl
    rw [it_body hw, if_neg (by intro z; cases z), if_neg (by intro z; cases z.1), it_no hw ht dw dt, mt_nu]


/-! ### instance, _law_due, _law_right -/
def nmD (f : Fd) : List (Int × PyData) := f.map fun p => (p.1, p.2.d)
theorem nums_kv : ∀ f : Fd, numsK (kv f) = some (nmD f)
  | [] => rfl
  | p :: f => by
    show (numsK (kv f)).map ((p.1, p.2.d) :: ·) = _
    rw [nums_kv f]
    rfl
/-- what is told: the pairs by rising numbers -/
def itD (f : Fd) : List PyData := (sortN (nmD f)).map fun e => .tuple [.int e.1, e.2]
def FdS (f : Fd) : Prop := f.length < 64 ∧ KeyNd f ∧ FdOk f
theorem FdS.c {f : Fd} (h : FdS f) : (nmD f).length < 64 ∧ ((nmD f).map (·.1)).Nodup := by
  refine ⟨by unfold nmD; rw [List.length_map]; exact h.1, ?_⟩
  have : (nmD f).map (·.1) = f.map (·.1) := by
    unfold nmD
    rw [List.map_map]
    rfl
  rw [this]
  exact h.2.1
theorem sorted_kv {f : Fd} (h : FdS f) : sortedIt (kv f) = some (itD f) := by
  unfold sortedIt
  rw [nums_kv]
  exact if_pos h.c
theorem sortedK_kv {f : Fd} (h : FdS f) : sortedKs (kv f) = some ((sortN (nmD f)).map fun e => .int e.1) := by
  unfold sortedKs
  rw [nums_kv]
  exact if_pos h.c
theorem lk_mem : ∀ {f : Fd} {p : Int × Tm}, KeyNd f → p ∈ f → lk f p.1 = some p.2
  | q :: f, p, nd, hp => by
    have nd : q.1 ∉ f.map (·.1) ∧ (f.map (·.1)).Nodup := List.nodup_cons.mp nd
    unfold lk
    rw [List.find?_cons]
    by_cases c : q.1 = p.1
    · rw [decide_eq_true c]
      rcases List.mem_cons.mp hp with rfl | hp
      · rfl
      · exact absurd (List.mem_map.mpr ⟨p, hp, c.symm⟩) nd.1
    · rw [decide_eq_false c]
      rcases List.mem_cons.mp hp with rfl | hp
      · exact absurd rfl c
      · exact lk_mem nd.2 hp
theorem it_mem {f : Fd} {d : PyData} (h : d ∈ itD f) : ∃ p ∈ f, d = .tuple [.int p.1, p.2.d] := by
  obtain ⟨e, he, rfl⟩ := List.mem_map.mp h
  obtain ⟨p, hp, rfl⟩ := List.mem_map.mp ((sortN_perm _).mem_iff.mp he)
  exact ⟨p, hp, rfl⟩
theorem it_len (f : Fd) : (itD f).length = f.length := by
  unfold itD
  rw [List.length_map, (sortN_perm _).length_eq]
  exact List.length_map _
theorem e_sortIt {f : Fd} {ρ : MEnv} (h : FdS f) (e : gt ρ 2 = some (T.dk (kv f))) : eSortIt 2 ρ = .ok (tl (itD f)) ρ := by
  unfold eSortIt
  rw [e, odr_kv]
  simp only [sorted_kv h]
theorem mt_S {w t : Tm} (ht : t.ok) (dw : w.deep ≤ 6) (dt : t.deep ≤ 6) : FdS (mt w t []).2 := by
  have hp := w.parts_deep 6 dw
  have hl := mt_len w t []
  rw [List.length_nil] at hl
  exact ⟨by omega, mt_nd w t [] .nil, mt_ok w t [] (fun _ z => nomatch z) ht dt⟩
/-- what instance and _law_due tell -/
def told (w t : Tm) : T := if (mt w t []).1 = true then tl (itD (mt w t []).2) else .f .none
theorem e_instance {w t : Tm} (hw : w.ok) (ht : t.ok) (dw : w.deep ≤ 6) (dt : t.deep ≤ 6) : m_instance [.f w.d, .f t.d] = .ok (told w t) [none, none] := by
  have hp := w.parts_deep 6 dw
  rw [show m_instance [.f w.d, .f t.d] = endF [false, false] (b_instance [some (.f w.d), some (.f t.d), none, none, none, none]) from mFn2 rfl rfl, b_instance_eq]
  have e1 := e_need hw dw
  have e2 := e_need ht dt
  have s1 : (sExpr (vFz (eCall m_need_term [] (aCons (vVar 0) aNil))) : MS) [some (.f w.d), some (.f t.d), none, none, none, none] = .ok .nx [some (.f w.d), some (.f t.d), none, none, none, none] := by
    generalize m_need_term = m1 at e1
    simp only [k_v1', k_v2', k_c1', k_c2', k_vN', k_not', k_no, k_ys, k_o', k_s1', k_s2', k_s3', k_ch1', k_ch2', k_isi', k_ret', k_retE', k_exp', k_set', k_setE', k_eV', k_lst0, k_lst1, k_lst2, k_call', k_for', k_seqL, k_seqT, look_f, look_l, look_0, moveB_s, x_rNil, k_r1', k_r2', x_rV, k_rL', lookL_s, x_rL, k_ld', x_eCallL, lendB_ok, ld0_0, ld0_1, ld0_2, ld2_0, ld2_1, ld2_2, bd_ok, bd_no, bd_ex, of_some, x_vC, x_vVar, x_v1, x_v2, x_aNil, x_aCons, x_vN, andB_t, andB_f, orB_t, orB_f, ifB_t, ifB_f, x_vAnd, x_vOr, x_bIf, asBk_b, x_bV, x_bNot, x_bAnd, x_bOr, x_oNone, x_oSome, x_asI, x_vSl, chB_t, chB_f, x_vChain, x_vIsi, x_sNx, x_sSeq, th_nx, th_rt, x_sIf, x_sRet, x_sRetE, x_sExpr, x_sSet, x_sSetE, x_eV, fzB_f, x_vFz, x_eMove, x_eLst, callB_ok, callB_ex, x_eCall, x_sFor, x_iSeq, x_end_rt, x_end_nx, x_end_ex, gt_0, gt_s, st_0, st_s, bk_n, bk_y, bk_0, List.map_cons, List.map_nil, List.cons_append, List.nil_append, List.append_nil, List.length_cons, List.length_nil, if_true, if_false, Bool.not_true, Bool.not_false, q_tup1, q_tup2, q_lt, q_gt, q_le, q_ge, q_eq, q_add, q_sub, decide_true, decide_false, lendC_ok, ld11, ld22, keyD_i, dInB_s, k_dIn', x_vDIn, dgC_s, k_dg', dgB_s, x_vDGet, d2C_s, k_d22', k_d21', d2B_s, x_vDGet2, k_dp2', dpB_s, k_dp1', x_sDPut, dsV_s, dsV_n, k_ds2', k_ds1', dsB_s, x_vDSetd, dlB_s, x_vDLen, x_eD0, k_rE1', k_rE2', x_rE, odr_kv, od_kv, odr_dk, od_dk, val_kv, Option.map_some, Option.map_none, Option.isSome_some, Option.isSome_none, Option.getD_some, Option.getD_none, Bool.false_xor, Bool.true_xor, e1]
  have s2 : (sExpr (vFz (eCall m_need_term [] (aCons (vVar 1) aNil))) : MS) [some (.f w.d), some (.f t.d), none, none, none, none] = .ok .nx [some (.f w.d), some (.f t.d), none, none, none, none] := by
    generalize m_need_term = m1 at e2
    simp only [k_v1', k_v2', k_c1', k_c2', k_vN', k_not', k_no, k_ys, k_o', k_s1', k_s2', k_s3', k_ch1', k_ch2', k_isi', k_ret', k_retE', k_exp', k_set', k_setE', k_eV', k_lst0, k_lst1, k_lst2, k_call', k_for', k_seqL, k_seqT, look_f, look_l, look_0, moveB_s, x_rNil, k_r1', k_r2', x_rV, k_rL', lookL_s, x_rL, k_ld', x_eCallL, lendB_ok, ld0_0, ld0_1, ld0_2, ld2_0, ld2_1, ld2_2, bd_ok, bd_no, bd_ex, of_some, x_vC, x_vVar, x_v1, x_v2, x_aNil, x_aCons, x_vN, andB_t, andB_f, orB_t, orB_f, ifB_t, ifB_f, x_vAnd, x_vOr, x_bIf, asBk_b, x_bV, x_bNot, x_bAnd, x_bOr, x_oNone, x_oSome, x_asI, x_vSl, chB_t, chB_f, x_vChain, x_vIsi, x_sNx, x_sSeq, th_nx, th_rt, x_sIf, x_sRet, x_sRetE, x_sExpr, x_sSet, x_sSetE, x_eV, fzB_f, x_vFz, x_eMove, x_eLst, callB_ok, callB_ex, x_eCall, x_sFor, x_iSeq, x_end_rt, x_end_nx, x_end_ex, gt_0, gt_s, st_0, st_s, bk_n, bk_y, bk_0, List.map_cons, List.map_nil, List.cons_append, List.nil_append, List.append_nil, List.length_cons, List.length_nil, if_true, if_false, Bool.not_true, Bool.not_false, q_tup1, q_tup2, q_lt, q_gt, q_le, q_ge, q_eq, q_add, q_sub, decide_true, decide_false, lendC_ok, ld11, ld22, keyD_i, dInB_s, k_dIn', x_vDIn, dgC_s, k_dg', dgB_s, x_vDGet, d2C_s, k_d22', k_d21', d2B_s, x_vDGet2, k_dp2', dpB_s, k_dp1', x_sDPut, dsV_s, dsV_n, k_ds2', k_ds1', dsB_s, x_vDSetd, dlB_s, x_vDLen, x_eD0, k_rE1', k_rE2', x_rE, odr_kv, od_kv, odr_dk, od_dk, val_kv, Option.map_some, Option.map_none, Option.isSome_some, Option.isSome_none, Option.getD_some, Option.getD_none, Bool.false_xor, Bool.true_xor, e2]
  have s3 : (sSetE 2 eD0 : MS) [some (.f w.d), some (.f t.d), none, none, none, none] = .ok .nx [some (.f w.d), some (.f t.d), some (T.dk (kv [])), none, none, none] := rfl
  have s4 : (sSetE 3 (eLst (aCons (vN pTup (aCons (vVar 0) (aCons (vVar 1) aNil))) aNil)) : MS) [some (.f w.d), some (.f t.d), some (T.dk (kv [])), none, none, none] = .ok .nx (itE w.d t.d [] ([] ++ [(w, t)]) none none) := by
    simp only [k_v1', k_v2', k_c1', k_c2', k_vN', k_not', k_no, k_ys, k_o', k_s1', k_s2', k_s3', k_ch1', k_ch2', k_isi', k_ret', k_retE', k_exp', k_set', k_setE', k_eV', k_lst0, k_lst1, k_lst2, k_call', k_for', k_seqL, k_seqT, look_f, look_l, look_0, moveB_s, x_rNil, k_r1', k_r2', x_rV, k_rL', lookL_s, x_rL, k_ld', x_eCallL, lendB_ok, ld0_0, ld0_1, ld0_2, ld2_0, ld2_1, ld2_2, bd_ok, bd_no, bd_ex, of_some, x_vC, x_vVar, x_v1, x_v2, x_aNil, x_aCons, x_vN, andB_t, andB_f, orB_t, orB_f, ifB_t, ifB_f, x_vAnd, x_vOr, x_bIf, asBk_b, x_bV, x_bNot, x_bAnd, x_bOr, x_oNone, x_oSome, x_asI, x_vSl, chB_t, chB_f, x_vChain, x_vIsi, x_sNx, x_sSeq, th_nx, th_rt, x_sIf, x_sRet, x_sRetE, x_sExpr, x_sSet, x_sSetE, x_eV, fzB_f, x_vFz, x_eMove, x_eLst, callB_ok, callB_ex, x_eCall, x_sFor, x_iSeq, x_end_rt, x_end_nx, x_end_ex, gt_0, gt_s, st_0, st_s, bk_n, bk_y, bk_0, List.map_cons, List.map_nil, List.cons_append, List.nil_append, List.append_nil, List.length_cons, List.length_nil, if_true, if_false, Bool.not_true, Bool.not_false, q_tup1, q_tup2, q_lt, q_gt, q_le, q_ge, q_eq, q_add, q_sub, decide_true, decide_false, lendC_ok, ld11, ld22, keyD_i, dInB_s, k_dIn', x_vDIn, dgC_s, k_dg', dgB_s, x_vDGet, d2C_s, k_d22', k_d21', d2B_s, x_vDGet2, k_dp2', dpB_s, k_dp1', x_sDPut, dsV_s, dsV_n, k_ds2', k_ds1', dsB_s, x_vDSetd, dlB_s, x_vDLen, x_eD0, k_rE1', k_rE2', x_rE, odr_kv, od_kv, odr_dk, od_dk, val_kv, Option.map_some, Option.map_none, Option.isSome_some, Option.isSome_none, Option.getD_some, Option.getD_none, Bool.false_xor, Bool.true_xor]
    rfl
  obtain ⟨r1, r2⟩ := it_run (w0 := w.d) (t0 := t.d) w t [] [] 1000000 none none hw ht dw dt (fun _ z => nomatch z) (by rw [List.length_nil]; omega) (by rw [List.length_nil]; omega) (by omega)
  have s6 := fun (x4 x5 : Option T) => e_sortIt (ρ := itE w.d t.d (mt w t []).2 [] x4 x5) (mt_S ht dw dt) rfl
  rw [x_sSeq, s1, bd_ok, th_nx, x_sSeq, s2, bd_ok, th_nx, x_sSeq, s3, bd_ok, th_nx, x_sSeq, s4, bd_ok, th_nx, x_sSeq]
  show endF _ (Ou.bd (whileS itC itB 1000000 _) _) = _
  unfold told
  cases c : (mt w t []).1 with
  | true =>
    obtain ⟨x4, x5, e⟩ := r1 c
    rw [if_pos rfl, e, show 1000000 - w.parts = (999999 - w.parts) + 1 by omega, wh_end it_stop, bd_ok, th_nx, x_sRetE, s6, bd_ok, k_retE', x_end_rt]
    rfl
  | false =>
    obtain ⟨x2, x3, x4, x5, e⟩ := r2 c
    rw [if_neg (by decide), e, bd_ok, th_rt, x_end_rt]
    rfl
theorem shp_all : ∀ ds : List PyData, (∀ d ∈ ds, shapely d = true ∧ d.depth ≤ 60) → shapely (.list ds) = true := fun ds h => by
  have : noDictAll ds = true ∧ PyData.canLayAll0 ds = true ∧ PyData.depthAll ds ≤ 60 := by
    induction ds with
    | nil => exact ⟨rfl, rfl, Nat.zero_le _⟩
    | cons d ds ih =>
      obtain ⟨i1, i2, i3⟩ := ih fun x hx => h x (List.mem_cons_of_mem _ hx)
      obtain ⟨h1, h2⟩ := h d (List.mem_cons_self ..)
      obtain ⟨h3, h4⟩ := Bool.and_eq_true_iff.mp h1
      obtain ⟨h5, _⟩ := Bool.and_eq_true_iff.mp h4
      refine ⟨Bool.and_eq_true_iff.mpr ⟨h3, i1⟩, Bool.and_eq_true_iff.mpr ⟨h5, i2⟩, ?_⟩
      show max d.depth (PyData.depthAll ds) ≤ 60
      omega
  refine Bool.and_eq_true_iff.mpr ⟨this.1, Bool.and_eq_true_iff.mpr ⟨this.2.1, decide_eq_true ?_⟩⟩
  show PyData.depthAll ds + 1 ≤ 64
  omega
theorem it_shp {f : Fd} (h : FdOk f) : shapely (.list (itD f)) = true := shp_all _ fun d hd => by
  obtain ⟨p, hp, rfl⟩ := it_mem hd
  obtain ⟨h1, h2⟩ := h p hp
  have hd := p.2.depth
  refine ⟨Bool.and_eq_true_iff.mpr ⟨?_, Bool.and_eq_true_iff.mpr ⟨?_, decide_eq_true ?_⟩⟩, ?_⟩
  · show (noDict p.2.d && true) = true
    rw [p.2.noDict]
    rfl
  · show (PyData.canLay0 p.2.d && true) = true
    rw [Tm.lay h1]
    rfl
  · show max 0 (max p.2.d.depth 0) + 1 ≤ 64
    omega
  · show max 0 (max p.2.d.depth 0) + 1 ≤ 60
    omega
theorem it_eqD {f : Fd} (h : FdOk f) : eqD (.list (itD f)) (.list (itD f)) = some true := by
  have s := it_shp h
  rw [eqD_shp rfl s s, SeqAt.eqv_refl _ (SeqAt.canLay_of_shaped (Bool.and_eq_true_iff.mp s).2)]
theorem it_pEq {f : Fd} (h : FdOk f) : pEq (.list (itD f)) (.list (itD f)) = some (.bool true) := by
  unfold pEq
  rw [it_eqD h]
  rfl
theorem it_pNe {f : Fd} (h : FdOk f) : pNe (.list (itD f)) (.list (itD f)) = some (.bool false) := by
  unfold pNe
  rw [it_eqD h]
  rfl
theorem told_t {w t : Tm} (h : (mt w t []).1 = true) : told w t = tl (itD (mt w t []).2) := if_pos h
theorem told_f {w t : Tm} (h : (mt w t []).1 = false) : told w t = .f .none := if_neg (by rw [h]; decide)
theorem run_peek {m : MB} {ρ ρ' : MEnv} {b : Bool} (h : m (frzE ρ) = .ok b ρ') : bPeek m ρ = .ok b ρ := by
  unfold bPeek
  rw [h]
theorem isN_l (ds : List PyData) : pIsNone true (.list ds) .none = some (.bool true) := rfl
theorem isN_n : pIsNone true .none .none = some (.bool false) := rfl
theorem knB (b : Bool) : Kn.isBl (knD (.bool b)) = true := rfl
theorem q_eqB (a b : Bool) : pEq (.bool a) (.bool b) = some (.bool (decide (a = b))) := rfl


/-! ### what is drawn -/
abbrev bx (a b c : Int) : T := tl [.int a, .int b, .int c]
def Bx (k : Nat) (t : T) : Prop := ∃ a b c : Int, t = bx a b c ∧ 0 ≤ b ∧ b < 2147483629 ∧ 0 ≤ c ∧ c ≤ (k : Int)
theorem Bx.up {k k' : Nat} {t : T} (h : Bx k t) (hk : k ≤ k') : Bx k' t := by
  obtain ⟨a, b, c, e, h1, h2, h3, h4⟩ := h
  exact ⟨a, b, c, e, h1, h2, h3, by omega⟩
section
variable {x y z d : PyData} {r : MEnv}
theorem ixS0 : vIxS 0 (vC (.int 0)) (some (tl [x, y, z]) :: r) = .ok x (some (tl [x, y, z]) :: r) := rfl
theorem ixS1 : vIxS 0 (vC (.int 1)) (some (tl [x, y, z]) :: r) = .ok y (some (tl [x, y, z]) :: r) := rfl
theorem ixS2 : vIxS 0 (vC (.int 2)) (some (tl [x, y, z]) :: r) = .ok z (some (tl [x, y, z]) :: r) := rfl
def k_six (i : Nat) (j : MV) : PyData → MEnv → Ou Fl := fun d ρ => match ol (gt ρ i) with
  | none => .no
  | some _ => (j ρ).bd fun k ρ => match ol (gt ρ i) with
    | some ds => (match setD ds k d with
      | some es => .ok .nx (st ρ i (some (.lst (es.map T.f))))
      | none => .no)
    | none => .no
theorem x_sSetIx (i : Nat) (m j : MV) (ρ : MEnv) : sSetIx i m j ρ = (m ρ).bd (k_six i j) := rfl
theorem six0 : k_six 0 (vC (.int 0)) d (some (tl [x, y, z]) :: r) = .ok .nx (some (tl [d, y, z]) :: r) := rfl
theorem six2 : k_six 0 (vC (.int 2)) d (some (tl [x, y, z]) :: r) = .ok .nx (some (tl [x, y, d]) :: r) := rfl
end
theorem q_div {i j : Int} (h : 0 < j) (h2 : j ≤ 1000000) : pDiv (.int i) (.int j) = some (.int (i / j)) := if_pos ⟨h, by
  have := log_lt (i := j) (n := 20) (by omega)
  omega⟩
theorem e_take {k : Nat} {t : T} {n : Int} (h : Bx k t) (hk : k ≤ 1000000) (h0 : 0 < n) (h1 : n ≤ 1000000) : ∃ r t', m_l_take [t, .f (.int n)] = .ok (.f (.int r)) [some t', none] ∧ Bx (k + 1) t' ∧ 0 ≤ r ∧ r < n := by
  obtain ⟨a, b, c, rfl, b0, b1, c0, c1⟩ := h
  rw [show m_l_take [bx a b c, .f (.int n)] = endF [true, false] (b_l_take [some (tl [.int a, .int b, .int c]), some (.f (.int n)), none]) from mFn2 rfl rfl]
  unfold b_l_take
  have mn := fun i : Int => q_mod (i := i) (j := n) h0
  cases c2 : decide (0 < a) with
  | true =>
    refine ⟨a % n, bx (a / n) b c, ?_, ⟨_, _, _, rfl, b0, b1, c0, by omega⟩, Int.emod_nonneg _ (by omega), Int.emod_lt_of_pos _ h0⟩
    have dv := q_div (i := a) h0 h1
    simp only [k_v1', k_v2', k_c1', k_c2', k_vN', k_not', k_no, k_ys, k_o', k_s1', k_s2', k_s3', k_ch1', k_ch2', k_isi', k_ret', k_retE', k_exp', k_set', k_setE', k_eV', k_lst0, k_lst1, k_lst2, k_call', k_for', k_seqL, k_seqT, look_f, look_l, look_0, moveB_s, x_rNil, k_r1', k_r2', x_rV, k_rL', lookL_s, x_rL, k_ld', x_eCallL, lendB_ok, ld0_0, ld0_1, ld0_2, ld2_0, ld2_1, ld2_2, bd_ok, bd_no, bd_ex, of_some, x_vC, x_vVar, x_v1, x_v2, x_aNil, x_aCons, x_vN, andB_t, andB_f, orB_t, orB_f, ifB_t, ifB_f, x_vAnd, x_vOr, x_bIf, asBk_b, x_bV, x_bNot, x_bAnd, x_bOr, x_oNone, x_oSome, x_asI, x_vSl, chB_t, chB_f, x_vChain, x_vIsi, x_sNx, x_sSeq, th_nx, th_rt, x_sIf, x_sRet, x_sRetE, x_sExpr, x_sSet, x_sSetE, x_eV, fzB_f, x_vFz, x_eMove, x_eLst, callB_ok, callB_ex, x_eCall, x_sFor, x_iSeq, x_end_rt, x_end_nx, x_end_ex, gt_0, gt_s, st_0, st_s, bk_n, bk_y, bk_0, List.map_cons, List.map_nil, List.cons_append, List.nil_append, List.append_nil, List.length_cons, List.length_nil, if_true, if_false, Bool.not_true, Bool.not_false, q_tup1, q_tup2, q_lt, q_gt, q_le, q_ge, q_eq, q_add, q_sub, decide_true, decide_false, lendC_ok, ld11, ld22, keyD_i, dInB_s, k_dIn', x_vDIn, dgC_s, k_dg', dgB_s, x_vDGet, d2C_s, k_d22', k_d21', d2B_s, x_vDGet2, k_dp2', dpB_s, k_dp1', x_sDPut, dsV_s, dsV_n, k_ds2', k_ds1', dsB_s, x_vDSetd, dlB_s, x_vDLen, x_eD0, k_rE1', k_rE2', x_rE, odr_kv, od_kv, odr_dk, od_dk, val_kv, Option.map_some, Option.map_none, Option.isSome_some, Option.isSome_none, Option.getD_some, Option.getD_none, Bool.false_xor, Bool.true_xor, ixS0, c2, mn, x_sSetIx, dv, six0]
  | false =>
    have d1 := fun i : Int => q_mod (i := i) (j := 2147483647) (by decide)
    have d2 := fun i : Int => q_mod (i := i) (j := 2147483629) (by decide)
    have d3 := fun i : Int => q_mod (i := i) (j := 2147483587) (by decide)
    have m1 : pMul (.int b) (.int 48271) = some (.int (b * 48271)) := q_mul (n := 32) (by omega) (by decide) (by decide)
    have m2 : pMul (.int 7919) (.int (c + 1)) = some (.int (7919 * (c + 1))) := q_mul (n := 32) (by decide) (by omega) (by decide)
    have m3 : pMul (.int 104729) (.int (c + 1)) = some (.int (104729 * (c + 1))) := q_mul (n := 32) (by decide) (by omega) (by decide)
    generalize hx : (b * 48271 + 7919 * (c + 1) + 101) % 2147483647 = x
    have x0 : 0 ≤ x := by rw [← hx]; exact Int.emod_nonneg _ (by decide)
    have x1 : x < 2147483647 := by rw [← hx]; exact Int.emod_lt_of_pos _ (by decide)
    have m4 : pMul (.int x) (.int x) = some (.int (x * x)) := q_mul (n := 32) (by omega) (by omega) (by decide)
    generalize hy : (x * x + 104729 * (c + 1) + 7) % 2147483629 = y
    have y0 : 0 ≤ y := by rw [← hy]; exact Int.emod_nonneg _ (by decide)
    have y1 : y < 2147483629 := by rw [← hy]; exact Int.emod_lt_of_pos _ (by decide)
    have m5 : pMul (.int y) (.int (y + 3)) = some (.int (y * (y + 3))) := q_mul (n := 32) (by omega) (by omega) (by decide)
    refine ⟨y * (y + 3) % 2147483587 % n, bx a b (c + 1), ?_, ⟨_, _, _, rfl, b0, b1, by omega, by omega⟩, Int.emod_nonneg _ (by omega), Int.emod_lt_of_pos _ h0⟩
    simp only [k_v1', k_v2', k_c1', k_c2', k_vN', k_not', k_no, k_ys, k_o', k_s1', k_s2', k_s3', k_ch1', k_ch2', k_isi', k_ret', k_retE', k_exp', k_set', k_setE', k_eV', k_lst0, k_lst1, k_lst2, k_call', k_for', k_seqL, k_seqT, look_f, look_l, look_0, moveB_s, x_rNil, k_r1', k_r2', x_rV, k_rL', lookL_s, x_rL, k_ld', x_eCallL, lendB_ok, ld0_0, ld0_1, ld0_2, ld2_0, ld2_1, ld2_2, bd_ok, bd_no, bd_ex, of_some, x_vC, x_vVar, x_v1, x_v2, x_aNil, x_aCons, x_vN, andB_t, andB_f, orB_t, orB_f, ifB_t, ifB_f, x_vAnd, x_vOr, x_bIf, asBk_b, x_bV, x_bNot, x_bAnd, x_bOr, x_oNone, x_oSome, x_asI, x_vSl, chB_t, chB_f, x_vChain, x_vIsi, x_sNx, x_sSeq, th_nx, th_rt, x_sIf, x_sRet, x_sRetE, x_sExpr, x_sSet, x_sSetE, x_eV, fzB_f, x_vFz, x_eMove, x_eLst, callB_ok, callB_ex, x_eCall, x_sFor, x_iSeq, x_end_rt, x_end_nx, x_end_ex, gt_0, gt_s, st_0, st_s, bk_n, bk_y, bk_0, List.map_cons, List.map_nil, List.cons_append, List.nil_append, List.append_nil, List.length_cons, List.length_nil, if_true, if_false, Bool.not_true, Bool.not_false, q_tup1, q_tup2, q_lt, q_gt, q_le, q_ge, q_eq, q_add, q_sub, decide_true, decide_false, lendC_ok, ld11, ld22, keyD_i, dInB_s, k_dIn', x_vDIn, dgC_s, k_dg', dgB_s, x_vDGet, d2C_s, k_d22', k_d21', d2B_s, x_vDGet2, k_dp2', dpB_s, k_dp1', x_sDPut, dsV_s, dsV_n, k_ds2', k_ds1', dsB_s, x_vDSetd, dlB_s, x_vDLen, x_eD0, k_rE1', k_rE2', x_rE, odr_kv, od_kv, odr_dk, od_dk, val_kv, Option.map_some, Option.map_none, Option.isSome_some, Option.isSome_none, Option.getD_some, Option.getD_none, Bool.false_xor, Bool.true_xor, ixS0, ixS1, ixS2, c2, x_sSetIx, six2, m1, m2, d1, hx, m4, m3, d2, hy, m5, d3, mn]
theorem e_cell (ns : List Int) (k : Nat) (hk : k < 100) : ∃ c : Int, m_l_cell [.f (.list (ns.map PyData.int)), .f (.int (k : Int))] = .ok (.f (.int c)) [none, none] := by
  rw [show m_l_cell [.f (.list (ns.map PyData.int)), .f (.int (k : Int))] = endF [false, false] (b_l_cell [some (.f (.list (ns.map PyData.int))), some (.f (.int (k : Int)))]) from mFn2 rfl rfl]
  unfold b_l_cell
  by_cases h : k < ns.length
  · have h1 : decide ((k : Int) < ((ns.map PyData.int).length : Int)) = true := decide_eq_true (by rw [List.length_map]; omega)
    have h2 : pIx (.list (ns.map PyData.int)) (.int (k : Int)) = some (.int ns[k]) := atI_nat (by rw [List.getElem?_map, List.getElem?_eq_getElem h]; rfl)
    refine ⟨ns[k], ?_⟩
    simp only [k_v1', k_v2', k_c1', k_c2', k_vN', k_not', k_no, k_ys, k_o', k_s1', k_s2', k_s3', k_ch1', k_ch2', k_isi', k_ret', k_retE', k_exp', k_set', k_setE', k_eV', k_lst0, k_lst1, k_lst2, k_call', k_for', k_seqL, k_seqT, look_f, look_l, look_0, moveB_s, x_rNil, k_r1', k_r2', x_rV, k_rL', lookL_s, x_rL, k_ld', x_eCallL, lendB_ok, ld0_0, ld0_1, ld0_2, ld2_0, ld2_1, ld2_2, bd_ok, bd_no, bd_ex, of_some, x_vC, x_vVar, x_v1, x_v2, x_aNil, x_aCons, x_vN, andB_t, andB_f, orB_t, orB_f, ifB_t, ifB_f, x_vAnd, x_vOr, x_bIf, asBk_b, x_bV, x_bNot, x_bAnd, x_bOr, x_oNone, x_oSome, x_asI, x_vSl, chB_t, chB_f, x_vChain, x_vIsi, x_sNx, x_sSeq, th_nx, th_rt, x_sIf, x_sRet, x_sRetE, x_sExpr, x_sSet, x_sSetE, x_eV, fzB_f, x_vFz, x_eMove, x_eLst, callB_ok, callB_ex, x_eCall, x_sFor, x_iSeq, x_end_rt, x_end_nx, x_end_ex, gt_0, gt_s, st_0, st_s, bk_n, bk_y, bk_0, List.map_cons, List.map_nil, List.cons_append, List.nil_append, List.append_nil, List.length_cons, List.length_nil, if_true, if_false, Bool.not_true, Bool.not_false, q_tup1, q_tup2, q_lt, q_gt, q_le, q_ge, q_eq, q_add, q_sub, q_lenL, h1, h2]
  · have h1 : decide ((k : Int) < ((ns.map PyData.int).length : Int)) = false := decide_eq_false (by rw [List.length_map]; omega)
    have m1 : pMul (.int 7919) (.int (k : Int)) = some (.int (7919 * (k : Int))) := q_mul (n := 32) (by decide) (by omega) (by decide)
    refine ⟨7919 * (k : Int) + 13, ?_⟩
    simp only [k_v1', k_v2', k_c1', k_c2', k_vN', k_not', k_no, k_ys, k_o', k_s1', k_s2', k_s3', k_ch1', k_ch2', k_isi', k_ret', k_retE', k_exp', k_set', k_setE', k_eV', k_lst0, k_lst1, k_lst2, k_call', k_for', k_seqL, k_seqT, look_f, look_l, look_0, moveB_s, x_rNil, k_r1', k_r2', x_rV, k_rL', lookL_s, x_rL, k_ld', x_eCallL, lendB_ok, ld0_0, ld0_1, ld0_2, ld2_0, ld2_1, ld2_2, bd_ok, bd_no, bd_ex, of_some, x_vC, x_vVar, x_v1, x_v2, x_aNil, x_aCons, x_vN, andB_t, andB_f, orB_t, orB_f, ifB_t, ifB_f, x_vAnd, x_vOr, x_bIf, asBk_b, x_bV, x_bNot, x_bAnd, x_bOr, x_oNone, x_oSome, x_asI, x_vSl, chB_t, chB_f, x_vChain, x_vIsi, x_sNx, x_sSeq, th_nx, th_rt, x_sIf, x_sRet, x_sRetE, x_sExpr, x_sSet, x_sSetE, x_eV, fzB_f, x_vFz, x_eMove, x_eLst, callB_ok, callB_ex, x_eCall, x_sFor, x_iSeq, x_end_rt, x_end_nx, x_end_ex, gt_0, gt_s, st_0, st_s, bk_n, bk_y, bk_0, List.map_cons, List.map_nil, List.cons_append, List.nil_append, List.append_nil, List.length_cons, List.length_nil, if_true, if_false, Bool.not_true, Bool.not_false, q_tup1, q_tup2, q_lt, q_gt, q_le, q_ge, q_eq, q_add, q_sub, q_lenL, h1, m1]
theorem k_lst3 {a b c : PyData} {ρ : MEnv} : k_lst [a, b, c] ρ = .ok (tl [a, b, c]) ρ := if_pos (by show 3 ≤ sizeLine; decide)
theorem e_box (c : Int) : ∃ t, m_l_box [.f (.int c)] = .ok t [none] ∧ Bx 0 t := by
  rw [show m_l_box [.f (.int c)] = endF [false] (b_l_box [some (.f (.int c))]) from mFn2 rfl rfl]
  unfold b_l_box
  have d2 := fun i : Int => q_mod (i := i) (j := 2147483629) (by decide)
  have z0 : 0 ≤ c % 2147483629 := Int.emod_nonneg _ (by decide)
  have z1 : c % 2147483629 < 2147483629 := Int.emod_lt_of_pos _ (by decide)
  cases h : decide ((1000000000000000000 : Int) ≤ c) with
  | true =>
    refine ⟨bx c (c % 2147483629) 0, ?_, _, _, _, rfl, z0, z1, by decide, by decide⟩
    simp only [k_v1', k_v2', k_c1', k_c2', k_vN', k_not', k_no, k_ys, k_o', k_s1', k_s2', k_s3', k_ch1', k_ch2', k_isi', k_ret', k_retE', k_exp', k_set', k_setE', k_eV', k_lst0, k_lst1, k_lst2, k_call', k_for', k_seqL, k_seqT, look_f, look_l, look_0, moveB_s, x_rNil, k_r1', k_r2', x_rV, k_rL', lookL_s, x_rL, k_ld', x_eCallL, lendB_ok, ld0_0, ld0_1, ld0_2, ld2_0, ld2_1, ld2_2, bd_ok, bd_no, bd_ex, of_some, x_vC, x_vVar, x_v1, x_v2, x_aNil, x_aCons, x_vN, andB_t, andB_f, orB_t, orB_f, ifB_t, ifB_f, x_vAnd, x_vOr, x_bIf, asBk_b, x_bV, x_bNot, x_bAnd, x_bOr, x_oNone, x_oSome, x_asI, x_vSl, chB_t, chB_f, x_vChain, x_vIsi, x_sNx, x_sSeq, th_nx, th_rt, x_sIf, x_sRet, x_sRetE, x_sExpr, x_sSet, x_sSetE, x_eV, fzB_f, x_vFz, x_eMove, x_eLst, callB_ok, callB_ex, x_eCall, x_sFor, x_iSeq, x_end_rt, x_end_nx, x_end_ex, gt_0, gt_s, st_0, st_s, bk_n, bk_y, bk_0, List.map_cons, List.map_nil, List.cons_append, List.nil_append, List.append_nil, List.length_cons, List.length_nil, if_true, if_false, Bool.not_true, Bool.not_false, q_tup1, q_tup2, q_lt, q_gt, q_le, q_ge, q_eq, q_add, q_sub, decide_true, decide_false, lendC_ok, ld11, ld22, keyD_i, dInB_s, k_dIn', x_vDIn, dgC_s, k_dg', dgB_s, x_vDGet, d2C_s, k_d22', k_d21', d2B_s, x_vDGet2, k_dp2', dpB_s, k_dp1', x_sDPut, dsV_s, dsV_n, k_ds2', k_ds1', dsB_s, x_vDSetd, dlB_s, x_vDLen, x_eD0, k_rE1', k_rE2', x_rE, odr_kv, od_kv, odr_dk, od_dk, val_kv, Option.map_some, Option.map_none, Option.isSome_some, Option.isSome_none, Option.getD_some, Option.getD_none, Bool.false_xor, Bool.true_xor, pow10_18, h, d2, k_lst3]
  | false =>
    refine ⟨bx 0 (c % 2147483629) 0, ?_, _, _, _, rfl, z0, z1, by decide, by decide⟩
    simp only [k_v1', k_v2', k_c1', k_c2', k_vN', k_not', k_no, k_ys, k_o', k_s1', k_s2', k_s3', k_ch1', k_ch2', k_isi', k_ret', k_retE', k_exp', k_set', k_setE', k_eV', k_lst0, k_lst1, k_lst2, k_call', k_for', k_seqL, k_seqT, look_f, look_l, look_0, moveB_s, x_rNil, k_r1', k_r2', x_rV, k_rL', lookL_s, x_rL, k_ld', x_eCallL, lendB_ok, ld0_0, ld0_1, ld0_2, ld2_0, ld2_1, ld2_2, bd_ok, bd_no, bd_ex, of_some, x_vC, x_vVar, x_v1, x_v2, x_aNil, x_aCons, x_vN, andB_t, andB_f, orB_t, orB_f, ifB_t, ifB_f, x_vAnd, x_vOr, x_bIf, asBk_b, x_bV, x_bNot, x_bAnd, x_bOr, x_oNone, x_oSome, x_asI, x_vSl, chB_t, chB_f, x_vChain, x_vIsi, x_sNx, x_sSeq, th_nx, th_rt, x_sIf, x_sRet, x_sRetE, x_sExpr, x_sSet, x_sSetE, x_eV, fzB_f, x_vFz, x_eMove, x_eLst, callB_ok, callB_ex, x_eCall, x_sFor, x_iSeq, x_end_rt, x_end_nx, x_end_ex, gt_0, gt_s, st_0, st_s, bk_n, bk_y, bk_0, List.map_cons, List.map_nil, List.cons_append, List.nil_append, List.append_nil, List.length_cons, List.length_nil, if_true, if_false, Bool.not_true, Bool.not_false, q_tup1, q_tup2, q_lt, q_gt, q_le, q_ge, q_eq, q_add, q_sub, decide_true, decide_false, lendC_ok, ld11, ld22, keyD_i, dInB_s, k_dIn', x_vDIn, dgC_s, k_dg', dgB_s, x_vDGet, d2C_s, k_d22', k_d21', d2B_s, x_vDGet2, k_dp2', dpB_s, k_dp1', x_sDPut, dsV_s, dsV_n, k_ds2', k_ds1', dsB_s, x_vDSetd, dlB_s, x_vDLen, x_eD0, k_rE1', k_rE2', x_rE, odr_kv, od_kv, odr_dk, od_dk, val_kv, Option.map_some, Option.map_none, Option.isSome_some, Option.isSome_none, Option.getD_some, Option.getD_none, Bool.false_xor, Bool.true_xor, pow10_18, h, d2, k_lst3]
/-! ### names -/
def letters : Str := "abcdefghijklmnopqrstuvwxyz"
def LtD (d : PyData) : Prop := ∃ c, c ∈ letterL ∧ d = .str ⟨#[c]⟩
theorem letter_at {r : Int} (h0 : 0 ≤ r) (h1 : r < 26) : ∃ d, pIx (.str letters) (.int r) = some d ∧ LtD d := by
  obtain ⟨n, rfl⟩ := Int.eq_ofNat_of_zero_le h0
  have ll : letterL.length = 26 := by decide
  have hn : n < letterL.length := by omega
  refine ⟨.str ⟨#[letterL[n]]⟩, ?_, _, List.getElem_mem hn, rfl⟩
  show (if letters.length ≤ sizeLine then (atI letters.cps.toList (n : Int)).map fun c => PyData.str ⟨#[c]⟩ else none) = _
  rw [if_pos (show letters.length ≤ sizeLine from Nat.le_trans (show letters.length ≤ 26 by decide) (by decide)), show letters.cps.toList = letterL from rfl, atI_nat (List.getElem?_eq_getElem hn)]
  rfl
def nmE : MV := v2 pIx (vVar 1) (vFz (eCallL m_l_take [(0, 0)] (rL 0 (rV (vC (PyData.int 26)) rNil))))
theorem nm_comp {x2 : Option T} : ∀ (ds acc : List PyData) (t : T) (k : Nat), Bx k t → k + ds.length ≤ 1000000 → acc.length + ds.length ≤ 1000 → (∀ d ∈ acc, LtD d) → ∃ out t', compS [3] (.nm 3) bYes nmE ds acc [some t, some (.f (.str letters)), x2, none] = .ok out [some t', some (.f (.str letters)), x2, none] ∧ Bx (k + ds.length) t' ∧ out.length = acc.length + ds.length ∧ ∀ d ∈ out, LtD d
  | [], acc, t, k, h, _, _, ha => ⟨acc, t, rfl, h, rfl, ha⟩
  | d :: ds, acc, t, k, h, hk, hl, ha => by
    rw [List.length_cons] at hk hl
    obtain ⟨r, t1, e1, h1, r0, r1⟩ := e_take (n := 26) h (by omega) (by decide) (by decide)
    obtain ⟨l, el, hl2⟩ := letter_at r0 r1
    obtain ⟨out, t', e2, h2, hlen, hout⟩ := nm_comp (x2 := x2) ds (acc ++ [l]) t1 (k + 1) h1 (by omega) (by rw [List.length_append, List.length_singleton]; omega) (fun y hy => by
      rcases List.mem_append.mp hy with hy | hy
      · exact ha y hy
      · rw [List.mem_singleton.mp hy]
        exact hl2)
    refine ⟨out, t', ?_, h2.up (by rw [List.length_cons]; omega), ?_, hout⟩
    · have e3 : nmE [some t, some (.f (.str letters)), x2, some (.f d)] = .ok l [some t1, some (.f (.str letters)), x2, some (.f d)] := by
        unfold nmE
        generalize m_l_take = mm at e1
        generalize PyData.str letters = L at el
        simp only [k_v1', k_v2', k_c1', k_c2', k_vN', k_not', k_no, k_ys, k_o', k_s1', k_s2', k_s3', k_ch1', k_ch2', k_isi', k_ret', k_retE', k_exp', k_set', k_setE', k_eV', k_lst0, k_lst1, k_lst2, k_call', k_for', k_seqL, k_seqT, look_f, look_l, look_0, moveB_s, x_rNil, k_r1', k_r2', x_rV, k_rL', lookL_s, x_rL, k_ld', x_eCallL, lendB_ok, ld0_0, ld0_1, ld0_2, ld2_0, ld2_1, ld2_2, bd_ok, bd_no, bd_ex, of_some, x_vC, x_vVar, x_v1, x_v2, x_aNil, x_aCons, x_vN, andB_t, andB_f, orB_t, orB_f, ifB_t, ifB_f, x_vAnd, x_vOr, x_bIf, asBk_b, x_bV, x_bNot, x_bAnd, x_bOr, x_oNone, x_oSome, x_asI, x_vSl, chB_t, chB_f, x_vChain, x_vIsi, x_sNx, x_sSeq, th_nx, th_rt, x_sIf, x_sRet, x_sRetE, x_sExpr, x_sSet, x_sSetE, x_eV, fzB_f, x_vFz, x_eMove, x_eLst, callB_ok, callB_ex, x_eCall, x_sFor, x_iSeq, x_end_rt, x_end_nx, x_end_ex, gt_0, gt_s, st_0, st_s, bk_n, bk_y, bk_0, List.map_cons, List.map_nil, List.cons_append, List.nil_append, List.append_nil, List.length_cons, List.length_nil, if_true, if_false, Bool.not_true, Bool.not_false, q_tup1, q_tup2, q_lt, q_gt, q_le, q_ge, q_eq, q_add, q_sub, decide_true, decide_false, lendC_ok, ld11, ld22, keyD_i, dInB_s, k_dIn', x_vDIn, dgC_s, k_dg', dgB_s, x_vDGet, d2C_s, k_d22', k_d21', d2B_s, x_vDGet2, k_dp2', dpB_s, k_dp1', x_sDPut, dsV_s, dsV_n, k_ds2', k_ds1', dsB_s, x_vDSetd, dlB_s, x_vDLen, x_eD0, k_rE1', k_rE2', x_rE, odr_kv, od_kv, odr_dk, od_dk, val_kv, Option.map_some, Option.map_none, Option.isSome_some, Option.isSome_none, Option.getD_some, Option.getD_none, Bool.false_xor, Bool.true_xor, e1, el]
      unfold compS
      show (match bYes [some t, some (.f (.str letters)), x2, some (.f d)] with
        | .ok true ρ2 => (match nmE ρ2 with
          | .ok y ρ3 => if acc.length < sizeLine then compS [3] (.nm 3) bYes nmE ds (acc ++ [y]) (wipeM ρ3 [3]) else .no
          | _ => .no)
        | .ok false ρ2 => compS [3] (.nm 3) bYes nmE ds acc (wipeM ρ2 [3])
        | _ => .no) = _
      rw [show bYes [some t, some (.f (.str letters)), x2, some (.f d)] = .ok true [some t, some (.f (.str letters)), x2, some (.f d)] from rfl]
      simp only [e3]
      rw [if_pos (Nat.lt_of_le_of_lt (show acc.length ≤ 1000 by omega) (by decide))]
      exact e2
    · rw [hlen, List.length_append, List.length_singleton, List.length_cons]
      omega
theorem strs_lt : ∀ (ds : List PyData), (∀ d ∈ ds, LtD d) → ∃ cs : List Nat, strs? ds = some (cs.map fun c => (⟨#[c]⟩ : Str)) ∧ cs.length = ds.length ∧ ∀ c ∈ cs, c ∈ letterL
  | [], _ => ⟨[], rfl, rfl, fun _ z => nomatch z⟩
  | d :: ds, h => by
    obtain ⟨c, hc, rfl⟩ := h d (List.mem_cons_self ..)
    obtain ⟨cs, e, hl, hall⟩ := strs_lt ds fun x hx => h x (List.mem_cons_of_mem _ hx)
    refine ⟨c :: cs, ?_, by rw [List.length_cons, hl, List.length_cons], fun x hx => ?_⟩
    · show (strs? ds).map ((⟨#[c]⟩ : Str) :: ·) = _
      rw [e]
      rfl
    · rcases List.mem_cons.mp hx with rfl | hx
      · exact hc
      · exact hall x hx
theorem join_cps (cs : List Nat) : (Txt.join "" (cs.map fun c => (⟨#[c]⟩ : Str))).cps.toList = cs := by
  cases cs with
  | nil => rfl
  | cons c r =>
    have e : (Txt.join "" ((⟨#[c]⟩ : Str) :: r.map fun c => (⟨#[c]⟩ : Str))).cps.toList = [c] ++ ((r.map fun c => (⟨#[c]⟩ : Str)).map fun p => ("" : Str).cps.toList ++ p.cps.toList).flatten := cps_glued "" _ #[c]
    show (Txt.join "" ((⟨#[c]⟩ : Str) :: r.map fun c => (⟨#[c]⟩ : Str))).cps.toList = _
    rw [e, List.map_map]
    have : (r.map ((fun p : Str => ("" : Str).cps.toList ++ p.cps.toList) ∘ fun c => (⟨#[c]⟩ : Str))).flatten = r := by
      clear e
      induction r with
      | nil => rfl
      | cons x r ih =>
        rw [List.map_cons, List.flatten_cons, ih]
        rfl
    rw [this]
    rfl
def ownD : List PyData := [.str "rel", .str "same", .str "unlike", .str "one", .str "both", .str "fresh", .str "call", .str "not"]
theorem own_in (x : Str) : inD (.str x) (.list ownD) = some (inV (.str x) ownW) := rfl
theorem e_name {k : Nat} {t : T} (h : Bx k t) (hk : k ≤ 900000) : ∃ x t', m_l_name [t] = .ok (.f (.str x)) [some t'] ∧ Bx (k + 9) t' ∧ isName x = true := by
  rw [show m_l_name [t] = endF [true] (b_l_name [some t, none, none, none]) from mFn2 rfl rfl]
  obtain ⟨r, t1, e1, h1, r0, r1⟩ := e_take (n := 8) h (by omega) (by decide) (by decide)
  obtain ⟨m, rfl⟩ := Int.eq_ofNat_of_zero_le r0
  obtain ⟨out, t2, e2, h2, hlen, hout⟩ := nm_comp (x2 := none) (rangeD 0 (m + 1)) [] t1 (k + 1) h1 (by unfold rangeD; rw [List.length_map, List.length_range]; omega) (by unfold rangeD; rw [List.length_map, List.length_range, List.length_nil]; omega) (fun _ z => nomatch z)
  have hlen : out.length = m + 1 := by
    rw [hlen]
    unfold rangeD
    rw [List.length_map, List.length_range, List.length_nil, Nat.zero_add]
  have h2 : Bx (k + 9) t2 := h2.up (by unfold rangeD; rw [List.length_map, List.length_range]; omega)
  obtain ⟨cs, es, hl, hcs⟩ := strs_lt out hout
  have ej : pJoin (.str "") (.list out) = some (.str (Txt.join "" (cs.map fun c => (⟨#[c]⟩ : Str)))) := by
    have sl : ∀ l : List Nat, ((l.map fun c => (⟨#[c]⟩ : Str)).map (·.length)).sum = l.length := by
      intro l
      induction l with
      | nil => rfl
      | cons c l ih =>
        rw [List.map_cons, List.map_cons, List.sum_cons, ih, List.length_cons]
        show 1 + l.length = _
        omega
    unfold pJoin
    simp only [es]
    refine if_pos ?_
    rw [sl, List.length_map, hl, hlen]
    show m + 1 + (m + 1) * 0 ≤ _
    omega
  have jc := join_cps cs
  generalize Txt.join "" (cs.map fun c => (⟨#[c]⟩ : Str)) = nm at ej jc
  have s1 : (sSet 1 (vC (PyData.str "abcdefghijklmnopqrstuvwxyz")) : MS) [some t, none, none, none] = .ok .nx [some t, some (.f (.str letters)), none, none] := rfl
  have s2 : (vLc [3] (iRange1 (v2 pAdd (vC (PyData.int 1)) (vFz (eCallL m_l_take [(0, 0)] (rL 0 (rV (vC (PyData.int 8)) rNil)))))) (Tg.nm 3) bYes nmE : MV) [some t, some (.f (.str letters)), none, none] = .ok (.list out) [some t2, some (.f (.str letters)), none, none] := by
    have a1 : (v2 pAdd (vC (PyData.int 1)) (vFz (eCallL m_l_take [(0, 0)] (rL 0 (rV (vC (PyData.int 8)) rNil)))) : MV) [some t, some (.f (.str letters)), none, none] = .ok (.int (1 + (m : Int))) [some t1, some (.f (.str letters)), none, none] := by
      generalize m_l_take = mm at e1
      simp only [k_v1', k_v2', k_c1', k_c2', k_vN', k_not', k_no, k_ys, k_o', k_s1', k_s2', k_s3', k_ch1', k_ch2', k_isi', k_ret', k_retE', k_exp', k_set', k_setE', k_eV', k_lst0, k_lst1, k_lst2, k_call', k_for', k_seqL, k_seqT, look_f, look_l, look_0, moveB_s, x_rNil, k_r1', k_r2', x_rV, k_rL', lookL_s, x_rL, k_ld', x_eCallL, lendB_ok, ld0_0, ld0_1, ld0_2, ld2_0, ld2_1, ld2_2, bd_ok, bd_no, bd_ex, of_some, x_vC, x_vVar, x_v1, x_v2, x_aNil, x_aCons, x_vN, andB_t, andB_f, orB_t, orB_f, ifB_t, ifB_f, x_vAnd, x_vOr, x_bIf, asBk_b, x_bV, x_bNot, x_bAnd, x_bOr, x_oNone, x_oSome, x_asI, x_vSl, chB_t, chB_f, x_vChain, x_vIsi, x_sNx, x_sSeq, th_nx, th_rt, x_sIf, x_sRet, x_sRetE, x_sExpr, x_sSet, x_sSetE, x_eV, fzB_f, x_vFz, x_eMove, x_eLst, callB_ok, callB_ex, x_eCall, x_sFor, x_iSeq, x_end_rt, x_end_nx, x_end_ex, gt_0, gt_s, st_0, st_s, bk_n, bk_y, bk_0, List.map_cons, List.map_nil, List.cons_append, List.nil_append, List.append_nil, List.length_cons, List.length_nil, if_true, if_false, Bool.not_true, Bool.not_false, q_tup1, q_tup2, q_lt, q_gt, q_le, q_ge, q_eq, q_add, q_sub, decide_true, decide_false, lendC_ok, ld11, ld22, keyD_i, dInB_s, k_dIn', x_vDIn, dgC_s, k_dg', dgB_s, x_vDGet, d2C_s, k_d22', k_d21', d2B_s, x_vDGet2, k_dp2', dpB_s, k_dp1', x_sDPut, dsV_s, dsV_n, k_ds2', k_ds1', dsB_s, x_vDSetd, dlB_s, x_vDLen, x_eD0, k_rE1', k_rE2', x_rE, odr_kv, od_kv, odr_dk, od_dk, val_kv, Option.map_some, Option.map_none, Option.isSome_some, Option.isSome_none, Option.getD_some, Option.getD_none, Bool.false_xor, Bool.true_xor, e1]
    have a2 : iRange1 (v2 pAdd (vC (PyData.int 1)) (vFz (eCallL m_l_take [(0, 0)] (rL 0 (rV (vC (PyData.int 8)) rNil))))) [some t, some (.f (.str letters)), none, none] = .ok (rangeD 0 (m + 1)) [some t1, some (.f (.str letters)), none, none] := by
      unfold iRange1
      rw [a1, bd_ok]
      show (if _ then Ou.ok (rangeD 0 (1 + (m : Int)).toNat) _ else _) = _
      rw [if_pos (by omega), show (1 + (m : Int)).toNat = m + 1 by omega]
    unfold vLc
    rw [a2, bd_ok]
    show Ou.bd (compS [3] (Tg.nm 3) bYes nmE (rangeD 0 (m + 1)) [] [some t1, some (.f (.str letters)), none, none]) _ = _
    rw [e2, bd_ok]
  have s3 : (sSet 2 (vM1 pJoin (vC (PyData.str "")) (vLc [3] (iRange1 (v2 pAdd (vC (PyData.int 1)) (vFz (eCallL m_l_take [(0, 0)] (rL 0 (rV (vC (PyData.int 8)) rNil)))))) (Tg.nm 3) bYes nmE)) : MS) [some t, some (.f (.str letters)), none, none] = .ok .nx [some t2, some (.f (.str letters)), some (.f (.str nm)), none] := by
    rw [x_sSet]
    unfold vM1
    rw [x_vC, bd_ok]
    show Ou.bd (Ou.bd (vLc _ _ _ _ _ _) _) _ = _
    rw [s2, bd_ok, ej, of_some, bd_ok, k_set']
    rfl
  have pl : pLst ownD = some (.list ownD) := q_lst (by decide)
  have s4 : (v2 (pIn false) (vVar 2) (vN pLst (aCons (vC (PyData.str "rel")) (aCons (vC (PyData.str "same")) (aCons (vC (PyData.str "unlike")) (aCons (vC (PyData.str "one")) (aCons (vC (PyData.str "both")) (aCons (vC (PyData.str "fresh")) (aCons (vC (PyData.str "call")) (aCons (vC (PyData.str "not")) aNil))))))))) : MV) [some t2, some (.f (.str letters)), some (.f (.str nm)), none] = .ok (.bool (inV (.str nm) ownW)) [some t2, some (.f (.str letters)), some (.f (.str nm)), none] := by
    have pi : pIn false (.str nm) (.list ownD) = some (.bool (inV (.str nm) ownW)) := by
      unfold pIn
      rw [own_in]
      cases inV (.str nm) ownW <;> rfl
    unfold ownD at pl pi
    simp only [k_v1', k_v2', k_c1', k_c2', k_vN', k_not', k_no, k_ys, k_o', k_s1', k_s2', k_s3', k_ch1', k_ch2', k_isi', k_ret', k_retE', k_exp', k_set', k_setE', k_eV', k_lst0, k_lst1, k_lst2, k_call', k_for', k_seqL, k_seqT, look_f, look_l, look_0, moveB_s, x_rNil, k_r1', k_r2', x_rV, k_rL', lookL_s, x_rL, k_ld', x_eCallL, lendB_ok, ld0_0, ld0_1, ld0_2, ld2_0, ld2_1, ld2_2, bd_ok, bd_no, bd_ex, of_some, x_vC, x_vVar, x_v1, x_v2, x_aNil, x_aCons, x_vN, andB_t, andB_f, orB_t, orB_f, ifB_t, ifB_f, x_vAnd, x_vOr, x_bIf, asBk_b, x_bV, x_bNot, x_bAnd, x_bOr, x_oNone, x_oSome, x_asI, x_vSl, chB_t, chB_f, x_vChain, x_vIsi, x_sNx, x_sSeq, th_nx, th_rt, x_sIf, x_sRet, x_sRetE, x_sExpr, x_sSet, x_sSetE, x_eV, fzB_f, x_vFz, x_eMove, x_eLst, callB_ok, callB_ex, x_eCall, x_sFor, x_iSeq, x_end_rt, x_end_nx, x_end_ex, gt_0, gt_s, st_0, st_s, bk_n, bk_y, bk_0, List.map_cons, List.map_nil, List.cons_append, List.nil_append, List.append_nil, List.length_cons, List.length_nil, if_true, if_false, Bool.not_true, Bool.not_false, q_tup1, q_tup2, q_lt, q_gt, q_le, q_ge, q_eq, q_add, q_sub, decide_true, decide_false, lendC_ok, ld11, ld22, keyD_i, dInB_s, k_dIn', x_vDIn, dgC_s, k_dg', dgB_s, x_vDGet, d2C_s, k_d22', k_d21', d2B_s, x_vDGet2, k_dp2', dpB_s, k_dp1', x_sDPut, dsV_s, dsV_n, k_ds2', k_ds1', dsB_s, x_vDSetd, dlB_s, x_vDLen, x_eD0, k_rE1', k_rE2', x_rE, odr_kv, od_kv, odr_dk, od_dk, val_kv, Option.map_some, Option.map_none, Option.isSome_some, Option.isSome_none, Option.getD_some, Option.getD_none, Bool.false_xor, Bool.true_xor, pl, pi]
  unfold b_l_name
  rw [x_sSeq, s1, bd_ok, th_nx, x_sSeq]
  show ∃ x t', endF [true] (Ou.bd ((sSet 2 (vM1 pJoin (vC (PyData.str "")) (vLc [3] (iRange1 (v2 pAdd (vC (PyData.int 1)) (vFz (eCallL m_l_take [(0, 0)] (rL 0 (rV (vC (PyData.int 8)) rNil)))))) (Tg.nm 3) bYes nmE)) : MS) [some t, some (.f (.str letters)), none, none]) _) = _ ∧ _
  rw [s3, bd_ok, th_nx, x_sSeq, x_sIf, x_bV, s4, bd_ok, asBk_b, bd_ok]
  cases c : inV (.str nm) ownW with
  | true => exact ⟨"nil", t2, rfl, h2, by decide⟩
  | false =>
    refine ⟨nm, t2, rfl, h2, ?_⟩
    have ln : nm.length = m + 1 := by
      show nm.cps.size = _
      rw [← Array.length_toList, jc, hl, hlen]
    unfold isName
    rw [c, ln, decide_eq_true (show 1 ≤ ((m + 1 : Nat) : Int) by omega), decide_eq_true (show ((m + 1 : Nat) : Int) ≤ 8 by omega), jc]
    show (cs.all fun c => decide (c ∈ letterL)) = true
    exact List.all_eq_true.mpr fun c hc => decide_eq_true (hcs c hc)


/-! ### singles, terms, numbers -/
def NsOk (ns : List Int) : Prop := ns ≠ [] ∧ ns.length ≤ 5 ∧ ∀ n ∈ ns, 0 ≤ n ∧ n ≤ 999999998
def k_nilV (neg : Bool) : PyData → MEnv → Ou Bool := fun x ρ => .of (pNil neg x) ρ
theorem k_nilV' (neg : Bool) (x : PyData) (ρ : MEnv) : k_nilV neg x ρ = .of (pNil neg x) ρ := rfl
theorem x_bNilV (neg : Bool) (a : MV) (ρ : MEnv) : bNilV neg a ρ = (a ρ).bd (k_nilV neg) := rfl
theorem nil_ns {ns : List Int} (h : NsOk ns) : pNil true (.list (ns.map PyData.int)) = some true := by
  obtain ⟨h, _⟩ := h
  cases ns with
  | nil => exact absurd rfl h
  | cons a r => rfl
theorem pick_ns {ns : List Int} {r : Int} (h : NsOk ns) (h0 : 0 ≤ r) (h1 : r < (ns.length : Int)) : ∃ i, pIx (.list (ns.map PyData.int)) (.int r) = some (.int i) ∧ (Tm.un i).ok := by
  obtain ⟨d, hd, e⟩ := pick (L := ns.map PyData.int) h0 (by rw [List.length_map]; exact h1)
  obtain ⟨i, hi, rfl⟩ := List.mem_map.mp hd
  have := h.2.2 i hi
  exact ⟨i, e, this.1, by omega⟩
theorem ns_len {ns : List Int} (h : NsOk ns) : 0 < (ns.length : Int) ∧ (ns.length : Int) ≤ 1000000 := by
  obtain ⟨h, h2, _⟩ := h
  cases ns with
  | nil => exact absurd rfl h
  | cons a r =>
    rw [List.length_cons] at h2 ⊢
    omega
/-- one of a list of terms -/
theorem pick_tm {ts : List Tm} {r : Int} (h0 : 0 ≤ r) (h1 : r < (ts.length : Int)) : ∃ t ∈ ts, pIx (.list (ts.map Tm.d)) (.int r) = some t.d := by
  obtain ⟨d, hd, e⟩ := pick (L := ts.map Tm.d) h0 (by rw [List.length_map]; exact h1)
  obtain ⟨t, ht, rfl⟩ := List.mem_map.mp hd
  exact ⟨t, ht, e⟩
theorem q_lst4 (a b c d : PyData) : pLst [a, b, c, d] = some (.list [a, b, c, d]) := q_lst (by show 4 ≤ sizeLine; decide)
theorem q_lst2 (a b : PyData) : pLst [a, b] = some (.list [a, b]) := q_lst (by show 2 ≤ sizeLine; decide)
theorem pow10_29 : pPow (.int 10) (.int 29) = some (.int 100000000000000000000000000000) := by rfl
theorem e_single {k : Nat} {t : T} {ns : List Int} (h : Bx k t) (hk : k ≤ 800000) (hn : NsOk ns) : ∃ (u : Tm) (t' : T), m_l_single [t, .f (.list (ns.map PyData.int))] = .ok (.f u.d) [some t', none] ∧ Bx (k + 11) t' ∧ u.ok ∧ u.deep = 1 := by
  obtain ⟨r, t1, e1, h1, r0, r1⟩ := e_take (n := 6) h (by omega) (by decide) (by decide)
  have pn := nil_ns hn
  rw [show m_l_single [t, .f (.list (ns.map PyData.int))] = endF [true, false] (b_l_single [some t, some (.f (.list (ns.map PyData.int))), none]) from mFn2 rfl rfl]
  unfold b_l_single
  cases c1 : decide (r < 3) with
  | true =>
    obtain ⟨l0, l1⟩ := ns_len hn
    obtain ⟨s, t2, e2, h2, s0, s1⟩ := e_take (n := (ns.length : Int)) h1 (by omega) l0 l1
    obtain ⟨i, ei, oi⟩ := pick_ns hn s0 s1
    refine ⟨.un i, t2, ?_, h2.up (by omega), oi, rfl⟩
    have el : pLen [.list (ns.map PyData.int)] = some (.int (ns.length : Int)) := by rw [q_lenL, List.length_map]
    generalize PyData.list (ns.map PyData.int) = L at pn ei el
    generalize m_l_take = mm at e1 e2
    simp only [k_v1', k_v2', k_c1', k_c2', k_vN', k_not', k_no, k_ys, k_o', k_s1', k_s2', k_s3', k_ch1', k_ch2', k_isi', k_ret', k_retE', k_exp', k_set', k_setE', k_eV', k_lst0, k_lst1, k_lst2, k_call', k_for', k_seqL, k_seqT, look_f, look_l, look_0, moveB_s, x_rNil, k_r1', k_r2', x_rV, k_rL', lookL_s, x_rL, k_ld', x_eCallL, lendB_ok, ld0_0, ld0_1, ld0_2, ld2_0, ld2_1, ld2_2, bd_ok, bd_no, bd_ex, of_some, x_vC, x_vVar, x_v1, x_v2, x_aNil, x_aCons, x_vN, andB_t, andB_f, orB_t, orB_f, ifB_t, ifB_f, x_vAnd, x_vOr, x_bIf, asBk_b, x_bV, x_bNot, x_bAnd, x_bOr, x_oNone, x_oSome, x_asI, x_vSl, chB_t, chB_f, x_vChain, x_vIsi, x_sNx, x_sSeq, th_nx, th_rt, x_sIf, x_sRet, x_sRetE, x_sExpr, x_sSet, x_sSetE, x_eV, fzB_f, x_vFz, x_eMove, x_eLst, callB_ok, callB_ex, x_eCall, x_sFor, x_iSeq, x_end_rt, x_end_nx, x_end_ex, gt_0, gt_s, st_0, st_s, bk_n, bk_y, bk_0, List.map_cons, List.map_nil, List.cons_append, List.nil_append, List.append_nil, List.length_cons, List.length_nil, if_true, if_false, Bool.not_true, Bool.not_false, q_tup1, q_tup2, q_lt, q_gt, q_le, q_ge, q_eq, q_add, q_sub, decide_true, decide_false, lendC_ok, ld11, ld22, keyD_i, dInB_s, k_dIn', x_vDIn, dgC_s, k_dg', dgB_s, x_vDGet, d2C_s, k_d22', k_d21', d2B_s, x_vDGet2, k_dp2', dpB_s, k_dp1', x_sDPut, dsV_s, dsV_n, k_ds2', k_ds1', dsB_s, x_vDSetd, dlB_s, x_vDLen, x_eD0, k_rE1', k_rE2', x_rE, odr_kv, od_kv, odr_dk, od_dk, val_kv, Option.map_some, Option.map_none, Option.isSome_some, Option.isSome_none, Option.getD_some, Option.getD_none, Bool.false_xor, Bool.true_xor, e1, c1, x_bNilV, k_nilV', pn, el, e2, ei]
    rfl
  | false =>
    cases c2 : decide (r = 3) with
    | true =>
      obtain ⟨s, t2, e2, h2, s0, s1⟩ := e_take (n := 1000) h1 (by omega) (by decide) (by decide)
      obtain ⟨q, t3, e3, h3, q0, q1⟩ := e_take (n := 4) h2 (by omega) (by decide) (by decide)
      obtain ⟨u, hu, eu⟩ := pick_tm (ts := [.nu 0, .nu 1, .nu 7, .nu (100000000000000000000000000000 + s)]) q0 q1
      have ou : u.ok ∧ u.deep = 1 := by
        simp only [List.mem_cons, List.not_mem_nil, or_false] at hu
        rcases hu with rfl | rfl | rfl | rfl
        · exact ⟨⟨by decide, by decide⟩, rfl⟩
        · exact ⟨⟨by decide, by decide⟩, rfl⟩
        · exact ⟨⟨by decide, by decide⟩, rfl⟩
        · exact ⟨⟨by omega, by omega⟩, rfl⟩
      refine ⟨u, t3, ?_, h3.up (by omega), ou⟩
      have eu : pIx (.list [.int 0, .int 1, .int 7, .int (100000000000000000000000000000 + s)]) (.int q) = some u.d := eu
      generalize PyData.list (ns.map PyData.int) = L at pn
      generalize m_l_take = mm at e1 e2 e3
      simp only [k_v1', k_v2', k_c1', k_c2', k_vN', k_not', k_no, k_ys, k_o', k_s1', k_s2', k_s3', k_ch1', k_ch2', k_isi', k_ret', k_retE', k_exp', k_set', k_setE', k_eV', k_lst0, k_lst1, k_lst2, k_call', k_for', k_seqL, k_seqT, look_f, look_l, look_0, moveB_s, x_rNil, k_r1', k_r2', x_rV, k_rL', lookL_s, x_rL, k_ld', x_eCallL, lendB_ok, ld0_0, ld0_1, ld0_2, ld2_0, ld2_1, ld2_2, bd_ok, bd_no, bd_ex, of_some, x_vC, x_vVar, x_v1, x_v2, x_aNil, x_aCons, x_vN, andB_t, andB_f, orB_t, orB_f, ifB_t, ifB_f, x_vAnd, x_vOr, x_bIf, asBk_b, x_bV, x_bNot, x_bAnd, x_bOr, x_oNone, x_oSome, x_asI, x_vSl, chB_t, chB_f, x_vChain, x_vIsi, x_sNx, x_sSeq, th_nx, th_rt, x_sIf, x_sRet, x_sRetE, x_sExpr, x_sSet, x_sSetE, x_eV, fzB_f, x_vFz, x_eMove, x_eLst, callB_ok, callB_ex, x_eCall, x_sFor, x_iSeq, x_end_rt, x_end_nx, x_end_ex, gt_0, gt_s, st_0, st_s, bk_n, bk_y, bk_0, List.map_cons, List.map_nil, List.cons_append, List.nil_append, List.append_nil, List.length_cons, List.length_nil, if_true, if_false, Bool.not_true, Bool.not_false, q_tup1, q_tup2, q_lt, q_gt, q_le, q_ge, q_eq, q_add, q_sub, decide_true, decide_false, lendC_ok, ld11, ld22, keyD_i, dInB_s, k_dIn', x_vDIn, dgC_s, k_dg', dgB_s, x_vDGet, d2C_s, k_d22', k_d21', d2B_s, x_vDGet2, k_dp2', dpB_s, k_dp1', x_sDPut, dsV_s, dsV_n, k_ds2', k_ds1', dsB_s, x_vDSetd, dlB_s, x_vDLen, x_eD0, k_rE1', k_rE2', x_rE, odr_kv, od_kv, odr_dk, od_dk, val_kv, Option.map_some, Option.map_none, Option.isSome_some, Option.isSome_none, Option.getD_some, Option.getD_none, Bool.false_xor, Bool.true_xor, e1, c1, c2, pow10_29, e2, q_lst4, e3, eu]
    | false =>
      obtain ⟨x, t2, e2, h2, ox⟩ := e_name h1 (by omega)
      obtain ⟨q, t3, e3, h3, q0, q1⟩ := e_take (n := 4) h2 (by omega) (by decide) (by decide)
      obtain ⟨u, hu, eu⟩ := pick_tm (ts := [.nm "a", .nm "b", .nm "nil", .nm x]) q0 q1
      have ou : u.ok ∧ u.deep = 1 := by
        simp only [List.mem_cons, List.not_mem_nil, or_false] at hu
        rcases hu with rfl | rfl | rfl | rfl
        · exact ⟨(by decide : isName "a" = true), rfl⟩
        · exact ⟨(by decide : isName "b" = true), rfl⟩
        · exact ⟨(by decide : isName "nil" = true), rfl⟩
        · exact ⟨ox, rfl⟩
      refine ⟨u, t3, ?_, h3.up (by omega), ou⟩
      have eu : pIx (.list [.str "a", .str "b", .str "nil", .str x]) (.int q) = some u.d := eu
      generalize PyData.list (ns.map PyData.int) = L at pn
      generalize m_l_take = mm at e1 e3
      generalize m_l_name = m2 at e2
      simp only [k_v1', k_v2', k_c1', k_c2', k_vN', k_not', k_no, k_ys, k_o', k_s1', k_s2', k_s3', k_ch1', k_ch2', k_isi', k_ret', k_retE', k_exp', k_set', k_setE', k_eV', k_lst0, k_lst1, k_lst2, k_call', k_for', k_seqL, k_seqT, look_f, look_l, look_0, moveB_s, x_rNil, k_r1', k_r2', x_rV, k_rL', lookL_s, x_rL, k_ld', x_eCallL, lendB_ok, ld0_0, ld0_1, ld0_2, ld2_0, ld2_1, ld2_2, bd_ok, bd_no, bd_ex, of_some, x_vC, x_vVar, x_v1, x_v2, x_aNil, x_aCons, x_vN, andB_t, andB_f, orB_t, orB_f, ifB_t, ifB_f, x_vAnd, x_vOr, x_bIf, asBk_b, x_bV, x_bNot, x_bAnd, x_bOr, x_oNone, x_oSome, x_asI, x_vSl, chB_t, chB_f, x_vChain, x_vIsi, x_sNx, x_sSeq, th_nx, th_rt, x_sIf, x_sRet, x_sRetE, x_sExpr, x_sSet, x_sSetE, x_eV, fzB_f, x_vFz, x_eMove, x_eLst, callB_ok, callB_ex, x_eCall, x_sFor, x_iSeq, x_end_rt, x_end_nx, x_end_ex, gt_0, gt_s, st_0, st_s, bk_n, bk_y, bk_0, List.map_cons, List.map_nil, List.cons_append, List.nil_append, List.append_nil, List.length_cons, List.length_nil, if_true, if_false, Bool.not_true, Bool.not_false, q_tup1, q_tup2, q_lt, q_gt, q_le, q_ge, q_eq, q_add, q_sub, decide_true, decide_false, lendC_ok, ld11, ld22, keyD_i, dInB_s, k_dIn', x_vDIn, dgC_s, k_dg', dgB_s, x_vDGet, d2C_s, k_d22', k_d21', d2B_s, x_vDGet2, k_dp2', dpB_s, k_dp1', x_sDPut, dsV_s, dsV_n, k_ds2', k_ds1', dsB_s, x_vDSetd, dlB_s, x_vDLen, x_eD0, k_rE1', k_rE2', x_rE, odr_kv, od_kv, odr_dk, od_dk, val_kv, Option.map_some, Option.map_none, Option.isSome_some, Option.isSome_none, Option.getD_some, Option.getD_none, Bool.false_xor, Bool.true_xor, e1, c1, c2, e2, q_lst4, e3, eu]
theorem e_term {ns : List Int} (hn : NsOk ns) : ∀ (d n k : Nat) (t : T), d < n → d ≤ 6 → Bx k t → k + 12 * 2 ^ d ≤ 500000 → ∃ (u : Tm) (t' : T), m_l_term n [t, .f (.list (ns.map PyData.int)), .f (.int (d : Int))] = .ok (.f u.d) [some t', none, none] ∧ Bx (k + 12 * 2 ^ d - 1) t' ∧ u.ok ∧ u.deep ≤ d + 1
  | 0, 0, _, _, h, _, _, _ => absurd h (by omega)
  | 0, n + 1, k, t, _, _, hb, hk => by
    obtain ⟨u, t', e, h', ou, du⟩ := e_single hb (by omega) hn
    refine ⟨u, t', ?_, h'.up (by omega), ou, by omega⟩
    rw [show m_l_term (n + 1) [t, .f (.list (ns.map PyData.int)), .f (.int ((0 : Nat) : Int))] = endF [true, false, false] (b_l_term (m_l_term n) [some t, some (.f (.list (ns.map PyData.int))), some (.f (.int ((0 : Nat) : Int)))]) from mFn2 rfl rfl]
    unfold b_l_term
    generalize PyData.list (ns.map PyData.int) = L at e
    have h2 : decide (((0 : Nat) : Int) = 0) = true := rfl
    generalize ((0 : Nat) : Int) = z at h2
    generalize m_l_single = m1 at e
    generalize m_l_term n = m2
    simp only [k_v1', k_v2', k_c1', k_c2', k_vN', k_not', k_no, k_ys, k_o', k_s1', k_s2', k_s3', k_ch1', k_ch2', k_isi', k_ret', k_retE', k_exp', k_set', k_setE', k_eV', k_lst0, k_lst1, k_lst2, k_call', k_for', k_seqL, k_seqT, look_f, look_l, look_0, moveB_s, x_rNil, k_r1', k_r2', x_rV, k_rL', lookL_s, x_rL, k_ld', x_eCallL, lendB_ok, ld0_0, ld0_1, ld0_2, ld2_0, ld2_1, ld2_2, bd_ok, bd_no, bd_ex, of_some, x_vC, x_vVar, x_v1, x_v2, x_aNil, x_aCons, x_vN, andB_t, andB_f, orB_t, orB_f, ifB_t, ifB_f, x_vAnd, x_vOr, x_bIf, asBk_b, x_bV, x_bNot, x_bAnd, x_bOr, x_oNone, x_oSome, x_asI, x_vSl, chB_t, chB_f, x_vChain, x_vIsi, x_sNx, x_sSeq, th_nx, th_rt, x_sIf, x_sRet, x_sRetE, x_sExpr, x_sSet, x_sSetE, x_eV, fzB_f, x_vFz, x_eMove, x_eLst, callB_ok, callB_ex, x_eCall, x_sFor, x_iSeq, x_end_rt, x_end_nx, x_end_ex, gt_0, gt_s, st_0, st_s, bk_n, bk_y, bk_0, List.map_cons, List.map_nil, List.cons_append, List.nil_append, List.append_nil, List.length_cons, List.length_nil, if_true, if_false, Bool.not_true, Bool.not_false, q_tup1, q_tup2, q_lt, q_gt, q_le, q_ge, q_eq, q_add, q_sub, decide_true, decide_false, lendC_ok, ld11, ld22, keyD_i, dInB_s, k_dIn', x_vDIn, dgC_s, k_dg', dgB_s, x_vDGet, d2C_s, k_d22', k_d21', d2B_s, x_vDGet2, k_dp2', dpB_s, k_dp1', x_sDPut, dsV_s, dsV_n, k_ds2', k_ds1', dsB_s, x_vDSetd, dlB_s, x_vDLen, x_eD0, k_rE1', k_rE2', x_rE, odr_kv, od_kv, odr_dk, od_dk, val_kv, Option.map_some, Option.map_none, Option.isSome_some, Option.isSome_none, Option.getD_some, Option.getD_none, Bool.false_xor, Bool.true_xor, h2, e]
  | d + 1, 0, _, _, h, _, _, _ => absurd h (by omega)
  | d + 1, n + 1, k, t, h, h6, hb, hk => by
    have h2 : decide (((d + 1 : Nat) : Int) = 0) = false := decide_eq_false (by omega)
    have h3 : ((d + 1 : Nat) : Int) - 1 = (d : Int) := by omega
    obtain ⟨r, t1, e1, h1, r0, r1⟩ := e_take (n := 3) hb (by omega) (by decide) (by decide)
    have p1 : 1 ≤ 2 ^ d := Nat.one_le_two_pow
    have p6 : 2 ^ d ≤ 2 ^ 6 := Nat.pow_le_pow_right (by decide) (by omega)
    have ps : 2 ^ (d + 1) = 2 ^ d * 2 := Nat.pow_succ ..
    rw [show m_l_term (n + 1) [t, .f (.list (ns.map PyData.int)), .f (.int ((d + 1 : Nat) : Int))] = endF [true, false, false] (b_l_term (m_l_term n) [some t, some (.f (.list (ns.map PyData.int))), some (.f (.int ((d + 1 : Nat) : Int)))]) from mFn2 rfl rfl]
    unfold b_l_term
    cases c : decide (r = 0) with
    | true =>
      obtain ⟨u, t', e, h', ou, du⟩ := e_single h1 (by omega) hn
      refine ⟨u, t', ?_, h'.up (by omega), ou, by omega⟩
      generalize PyData.list (ns.map PyData.int) = L at e
      generalize ((d + 1 : Nat) : Int) = z at h2 h3
      generalize m_l_take = mm at e1
      generalize m_l_single = m1 at e
      generalize m_l_term n = m2
      simp only [k_v1', k_v2', k_c1', k_c2', k_vN', k_not', k_no, k_ys, k_o', k_s1', k_s2', k_s3', k_ch1', k_ch2', k_isi', k_ret', k_retE', k_exp', k_set', k_setE', k_eV', k_lst0, k_lst1, k_lst2, k_call', k_for', k_seqL, k_seqT, look_f, look_l, look_0, moveB_s, x_rNil, k_r1', k_r2', x_rV, k_rL', lookL_s, x_rL, k_ld', x_eCallL, lendB_ok, ld0_0, ld0_1, ld0_2, ld2_0, ld2_1, ld2_2, bd_ok, bd_no, bd_ex, of_some, x_vC, x_vVar, x_v1, x_v2, x_aNil, x_aCons, x_vN, andB_t, andB_f, orB_t, orB_f, ifB_t, ifB_f, x_vAnd, x_vOr, x_bIf, asBk_b, x_bV, x_bNot, x_bAnd, x_bOr, x_oNone, x_oSome, x_asI, x_vSl, chB_t, chB_f, x_vChain, x_vIsi, x_sNx, x_sSeq, th_nx, th_rt, x_sIf, x_sRet, x_sRetE, x_sExpr, x_sSet, x_sSetE, x_eV, fzB_f, x_vFz, x_eMove, x_eLst, callB_ok, callB_ex, x_eCall, x_sFor, x_iSeq, x_end_rt, x_end_nx, x_end_ex, gt_0, gt_s, st_0, st_s, bk_n, bk_y, bk_0, List.map_cons, List.map_nil, List.cons_append, List.nil_append, List.append_nil, List.length_cons, List.length_nil, if_true, if_false, Bool.not_true, Bool.not_false, q_tup1, q_tup2, q_lt, q_gt, q_le, q_ge, q_eq, q_add, q_sub, decide_true, decide_false, lendC_ok, ld11, ld22, keyD_i, dInB_s, k_dIn', x_vDIn, dgC_s, k_dg', dgB_s, x_vDGet, d2C_s, k_d22', k_d21', d2B_s, x_vDGet2, k_dp2', dpB_s, k_dp1', x_sDPut, dsV_s, dsV_n, k_ds2', k_ds1', dsB_s, x_vDSetd, dlB_s, x_vDLen, x_eD0, k_rE1', k_rE2', x_rE, odr_kv, od_kv, odr_dk, od_dk, val_kv, Option.map_some, Option.map_none, Option.isSome_some, Option.isSome_none, Option.getD_some, Option.getD_none, Bool.false_xor, Bool.true_xor, h2, e1, c, e]
    | false =>
      obtain ⟨u1, t2, e2, hb2, o1, d1⟩ := e_term hn d n (k + 1) t1 (by omega) (by omega) h1 (by omega)
      obtain ⟨u2, t3, e3, hb3, o2, d2⟩ := e_term hn d n (k + 1 + 12 * 2 ^ d - 1) t2 (by omega) (by omega) hb2 (by omega)
      refine ⟨.pr u1 u2, t3, ?_, hb3.up (by omega), ⟨o1, o2⟩, by show 1 + max u1.deep u2.deep ≤ _; omega⟩
      generalize PyData.list (ns.map PyData.int) = L at e2 e3
      generalize ((d + 1 : Nat) : Int) = z at h2 h3
      generalize m_l_take = mm at e1
      generalize m_l_term n = m2 at e2 e3
      simp only [k_v1', k_v2', k_c1', k_c2', k_vN', k_not', k_no, k_ys, k_o', k_s1', k_s2', k_s3', k_ch1', k_ch2', k_isi', k_ret', k_retE', k_exp', k_set', k_setE', k_eV', k_lst0, k_lst1, k_lst2, k_call', k_for', k_seqL, k_seqT, look_f, look_l, look_0, moveB_s, x_rNil, k_r1', k_r2', x_rV, k_rL', lookL_s, x_rL, k_ld', x_eCallL, lendB_ok, ld0_0, ld0_1, ld0_2, ld2_0, ld2_1, ld2_2, bd_ok, bd_no, bd_ex, of_some, x_vC, x_vVar, x_v1, x_v2, x_aNil, x_aCons, x_vN, andB_t, andB_f, orB_t, orB_f, ifB_t, ifB_f, x_vAnd, x_vOr, x_bIf, asBk_b, x_bV, x_bNot, x_bAnd, x_bOr, x_oNone, x_oSome, x_asI, x_vSl, chB_t, chB_f, x_vChain, x_vIsi, x_sNx, x_sSeq, th_nx, th_rt, x_sIf, x_sRet, x_sRetE, x_sExpr, x_sSet, x_sSetE, x_eV, fzB_f, x_vFz, x_eMove, x_eLst, callB_ok, callB_ex, x_eCall, x_sFor, x_iSeq, x_end_rt, x_end_nx, x_end_ex, gt_0, gt_s, st_0, st_s, bk_n, bk_y, bk_0, List.map_cons, List.map_nil, List.cons_append, List.nil_append, List.append_nil, List.length_cons, List.length_nil, if_true, if_false, Bool.not_true, Bool.not_false, q_tup1, q_tup2, q_lt, q_gt, q_le, q_ge, q_eq, q_add, q_sub, decide_true, decide_false, lendC_ok, ld11, ld22, keyD_i, dInB_s, k_dIn', x_vDIn, dgC_s, k_dg', dgB_s, x_vDGet, d2C_s, k_d22', k_d21', d2B_s, x_vDGet2, k_dp2', dpB_s, k_dp1', x_sDPut, dsV_s, dsV_n, k_ds2', k_ds1', dsB_s, x_vDSetd, dlB_s, x_vDLen, x_eD0, k_rE1', k_rE2', x_rE, odr_kv, od_kv, odr_dk, od_dk, val_kv, Option.map_some, Option.map_none, Option.isSome_some, Option.isSome_none, Option.getD_some, Option.getD_none, Bool.false_xor, Bool.true_xor, h2, e1, c, h3, e2, e3]
      rfl
/-! ### _law_numbers -/
theorem e_numbers {k : Nat} {t : T} (h : Bx k t) (hk : k ≤ 800000) : ∃ (ns : List Int) (t' : T), m_l_numbers [t] = .ok (.f (.list (ns.map PyData.int))) [some t'] ∧ Bx (k + 4) t' ∧ NsOk ns := by
  obtain ⟨r1, t1, e1, h1, a1, b1⟩ := e_take (n := 4) h (by omega) (by decide) (by decide)
  obtain ⟨r2, t2, e2, h2, a2, b2⟩ := e_take (n := 2) h1 (by omega) (by decide) (by decide)
  obtain ⟨r3, t3, e3, h3, a3, b3⟩ := e_take (n := 5) h2 (by omega) (by decide) (by decide)
  obtain ⟨r4, t4, e4, h4, a4, b4⟩ := e_take (n := 2) h3 (by omega) (by decide) (by decide)
  obtain ⟨d1, m1, p1⟩ := pick (L := [.int 0, .int 0, .int 5, .int 999999990]) a1 b1
  obtain ⟨d2, m2, p2⟩ := pick (L := [.int 1, .int 2]) a2 b2
  obtain ⟨d4, m4, p4⟩ := pick (L := [.int 1, .int (-1)]) a4 b4
  obtain ⟨b, rfl, hb0, hb1⟩ : ∃ b : Int, d1 = .int b ∧ 0 ≤ b ∧ b ≤ 999999990 := by
    simp only [List.mem_cons, List.not_mem_nil, or_false] at m1
    rcases m1 with rfl | rfl | rfl | rfl <;> exact ⟨_, rfl, by decide, by decide⟩
  obtain ⟨s, rfl, hs0, hs1⟩ : ∃ s : Int, d2 = .int s ∧ 1 ≤ s ∧ s ≤ 2 := by
    simp only [List.mem_cons, List.not_mem_nil, or_false] at m2
    rcases m2 with rfl | rfl <;> exact ⟨_, rfl, by decide, by decide⟩
  obtain ⟨m, rfl⟩ := Int.eq_ofNat_of_zero_le a3
  let ns : List Int := (List.range (m + 1)).map fun (j : Nat) => b + s * (0 + (j : Int))
  have okn : NsOk ns := by
    refine ⟨?_, ?_, fun n hn => ?_⟩
    · intro z
      have : ns.length = 0 := by rw [z]; rfl
      rw [show ns.length = m + 1 by show ((List.range (m + 1)).map _).length = _; rw [List.length_map, List.length_range]] at this
      cases this
    · show ((List.range (m + 1)).map _).length ≤ _
      rw [List.length_map, List.length_range]
      omega
    · obtain ⟨j, hj, rfl⟩ := List.mem_map.mp hn
      have hj := List.mem_range.mp hj
      have : s = 1 ∨ s = 2 := by omega
      rcases this with rfl | rfl <;> omega
  have okr : NsOk ns.reverse := by
    obtain ⟨n1, n2, n3⟩ := okn
    refine ⟨fun z => n1 (List.reverse_eq_nil_iff.mp z), by rw [List.length_reverse]; exact n2, fun n hn => n3 n (List.mem_reverse.mp hn)⟩
  have fin : ∃ ns' : List Int, NsOk ns' ∧ pStep (.list (ns.map PyData.int)) d4 = some (.list (ns'.map PyData.int)) := by
    simp only [List.mem_cons, List.not_mem_nil, or_false] at m4
    rcases m4 with rfl | rfl
    · exact ⟨ns, okn, rfl⟩
    · exact ⟨ns.reverse, okr, by rw [List.map_reverse]; rfl⟩
  obtain ⟨ns', ok', ps⟩ := fin
  refine ⟨ns', t4, ?_, h4, ok'⟩
  rw [show m_l_numbers [t] = endF [true] (b_l_numbers [some t, none, none, none, none]) from mFn2 rfl rfl]
  unfold b_l_numbers
  have s1 : (sSet 1 (v2 pIx (vN pLst (aCons (vC (PyData.int 0)) (aCons (vC (PyData.int 0)) (aCons (vC (PyData.int 5)) (aCons (vC (PyData.int 999999990)) aNil))))) (vFz (eCallL m_l_take [(0, 0)] (rL 0 (rV (vC (PyData.int 4)) rNil))))) : MS) [some t, none, none, none, none] = .ok .nx [some t1, some (.f (.int b)), none, none, none] := by
    generalize m_l_take = mm at e1
    simp only [k_v1', k_v2', k_c1', k_c2', k_vN', k_not', k_no, k_ys, k_o', k_s1', k_s2', k_s3', k_ch1', k_ch2', k_isi', k_ret', k_retE', k_exp', k_set', k_setE', k_eV', k_lst0, k_lst1, k_lst2, k_call', k_for', k_seqL, k_seqT, look_f, look_l, look_0, moveB_s, x_rNil, k_r1', k_r2', x_rV, k_rL', lookL_s, x_rL, k_ld', x_eCallL, lendB_ok, ld0_0, ld0_1, ld0_2, ld2_0, ld2_1, ld2_2, bd_ok, bd_no, bd_ex, of_some, x_vC, x_vVar, x_v1, x_v2, x_aNil, x_aCons, x_vN, andB_t, andB_f, orB_t, orB_f, ifB_t, ifB_f, x_vAnd, x_vOr, x_bIf, asBk_b, x_bV, x_bNot, x_bAnd, x_bOr, x_oNone, x_oSome, x_asI, x_vSl, chB_t, chB_f, x_vChain, x_vIsi, x_sNx, x_sSeq, th_nx, th_rt, x_sIf, x_sRet, x_sRetE, x_sExpr, x_sSet, x_sSetE, x_eV, fzB_f, x_vFz, x_eMove, x_eLst, callB_ok, callB_ex, x_eCall, x_sFor, x_iSeq, x_end_rt, x_end_nx, x_end_ex, gt_0, gt_s, st_0, st_s, bk_n, bk_y, bk_0, List.map_cons, List.map_nil, List.cons_append, List.nil_append, List.append_nil, List.length_cons, List.length_nil, if_true, if_false, Bool.not_true, Bool.not_false, q_tup1, q_tup2, q_lt, q_gt, q_le, q_ge, q_eq, q_add, q_sub, decide_true, decide_false, lendC_ok, ld11, ld22, keyD_i, dInB_s, k_dIn', x_vDIn, dgC_s, k_dg', dgB_s, x_vDGet, d2C_s, k_d22', k_d21', d2B_s, x_vDGet2, k_dp2', dpB_s, k_dp1', x_sDPut, dsV_s, dsV_n, k_ds2', k_ds1', dsB_s, x_vDSetd, dlB_s, x_vDLen, x_eD0, k_rE1', k_rE2', x_rE, odr_kv, od_kv, odr_dk, od_dk, val_kv, Option.map_some, Option.map_none, Option.isSome_some, Option.isSome_none, Option.getD_some, Option.getD_none, Bool.false_xor, Bool.true_xor, q_lst4, e1, p1]
  have s2 : (sSet 2 (v2 pIx (vN pLst (aCons (vC (PyData.int 1)) (aCons (vC (PyData.int 2)) aNil))) (vFz (eCallL m_l_take [(0, 0)] (rL 0 (rV (vC (PyData.int 2)) rNil))))) : MS) [some t1, some (.f (.int b)), none, none, none] = .ok .nx [some t2, some (.f (.int b)), some (.f (.int s)), none, none] := by
    generalize m_l_take = mm at e2
    simp only [k_v1', k_v2', k_c1', k_c2', k_vN', k_not', k_no, k_ys, k_o', k_s1', k_s2', k_s3', k_ch1', k_ch2', k_isi', k_ret', k_retE', k_exp', k_set', k_setE', k_eV', k_lst0, k_lst1, k_lst2, k_call', k_for', k_seqL, k_seqT, look_f, look_l, look_0, moveB_s, x_rNil, k_r1', k_r2', x_rV, k_rL', lookL_s, x_rL, k_ld', x_eCallL, lendB_ok, ld0_0, ld0_1, ld0_2, ld2_0, ld2_1, ld2_2, bd_ok, bd_no, bd_ex, of_some, x_vC, x_vVar, x_v1, x_v2, x_aNil, x_aCons, x_vN, andB_t, andB_f, orB_t, orB_f, ifB_t, ifB_f, x_vAnd, x_vOr, x_bIf, asBk_b, x_bV, x_bNot, x_bAnd, x_bOr, x_oNone, x_oSome, x_asI, x_vSl, chB_t, chB_f, x_vChain, x_vIsi, x_sNx, x_sSeq, th_nx, th_rt, x_sIf, x_sRet, x_sRetE, x_sExpr, x_sSet, x_sSetE, x_eV, fzB_f, x_vFz, x_eMove, x_eLst, callB_ok, callB_ex, x_eCall, x_sFor, x_iSeq, x_end_rt, x_end_nx, x_end_ex, gt_0, gt_s, st_0, st_s, bk_n, bk_y, bk_0, List.map_cons, List.map_nil, List.cons_append, List.nil_append, List.append_nil, List.length_cons, List.length_nil, if_true, if_false, Bool.not_true, Bool.not_false, q_tup1, q_tup2, q_lt, q_gt, q_le, q_ge, q_eq, q_add, q_sub, decide_true, decide_false, lendC_ok, ld11, ld22, keyD_i, dInB_s, k_dIn', x_vDIn, dgC_s, k_dg', dgB_s, x_vDGet, d2C_s, k_d22', k_d21', d2B_s, x_vDGet2, k_dp2', dpB_s, k_dp1', x_sDPut, dsV_s, dsV_n, k_ds2', k_ds1', dsB_s, x_vDSetd, dlB_s, x_vDLen, x_eD0, k_rE1', k_rE2', x_rE, odr_kv, od_kv, odr_dk, od_dk, val_kv, Option.map_some, Option.map_none, Option.isSome_some, Option.isSome_none, Option.getD_some, Option.getD_none, Bool.false_xor, Bool.true_xor, q_lst2, e2, p2]
  have s3 : (sSet 3 (vLc [4] (iRange1 (v2 pAdd (vC (PyData.int 1)) (vFz (eCallL m_l_take [(0, 0)] (rL 0 (rV (vC (PyData.int 5)) rNil)))))) (Tg.nm 4) bYes (v2 pAdd (vVar 1) (v2 pMul (vVar 2) (vVar 4)))) : MS) [some t2, some (.f (.int b)), some (.f (.int s)), none, none] = .ok .nx [some t3, some (.f (.int b)), some (.f (.int s)), some (.f (.list (ns.map PyData.int))), none] := by
    have q1 : (v2 pAdd (vC (PyData.int 1)) (vFz (eCallL m_l_take [(0, 0)] (rL 0 (rV (vC (PyData.int 5)) rNil)))) : MV) [some t2, some (.f (.int b)), some (.f (.int s)), none, none] = .ok (.int (1 + (m : Int))) [some t3, some (.f (.int b)), some (.f (.int s)), none, none] := by
      generalize m_l_take = mm at e3
      simp only [k_v1', k_v2', k_c1', k_c2', k_vN', k_not', k_no, k_ys, k_o', k_s1', k_s2', k_s3', k_ch1', k_ch2', k_isi', k_ret', k_retE', k_exp', k_set', k_setE', k_eV', k_lst0, k_lst1, k_lst2, k_call', k_for', k_seqL, k_seqT, look_f, look_l, look_0, moveB_s, x_rNil, k_r1', k_r2', x_rV, k_rL', lookL_s, x_rL, k_ld', x_eCallL, lendB_ok, ld0_0, ld0_1, ld0_2, ld2_0, ld2_1, ld2_2, bd_ok, bd_no, bd_ex, of_some, x_vC, x_vVar, x_v1, x_v2, x_aNil, x_aCons, x_vN, andB_t, andB_f, orB_t, orB_f, ifB_t, ifB_f, x_vAnd, x_vOr, x_bIf, asBk_b, x_bV, x_bNot, x_bAnd, x_bOr, x_oNone, x_oSome, x_asI, x_vSl, chB_t, chB_f, x_vChain, x_vIsi, x_sNx, x_sSeq, th_nx, th_rt, x_sIf, x_sRet, x_sRetE, x_sExpr, x_sSet, x_sSetE, x_eV, fzB_f, x_vFz, x_eMove, x_eLst, callB_ok, callB_ex, x_eCall, x_sFor, x_iSeq, x_end_rt, x_end_nx, x_end_ex, gt_0, gt_s, st_0, st_s, bk_n, bk_y, bk_0, List.map_cons, List.map_nil, List.cons_append, List.nil_append, List.append_nil, List.length_cons, List.length_nil, if_true, if_false, Bool.not_true, Bool.not_false, q_tup1, q_tup2, q_lt, q_gt, q_le, q_ge, q_eq, q_add, q_sub, decide_true, decide_false, lendC_ok, ld11, ld22, keyD_i, dInB_s, k_dIn', x_vDIn, dgC_s, k_dg', dgB_s, x_vDGet, d2C_s, k_d22', k_d21', d2B_s, x_vDGet2, k_dp2', dpB_s, k_dp1', x_sDPut, dsV_s, dsV_n, k_ds2', k_ds1', dsB_s, x_vDSetd, dlB_s, x_vDLen, x_eD0, k_rE1', k_rE2', x_rE, odr_kv, od_kv, odr_dk, od_dk, val_kv, Option.map_some, Option.map_none, Option.isSome_some, Option.isSome_none, Option.getD_some, Option.getD_none, Bool.false_xor, Bool.true_xor, e3]
    have q2 : iRange1 (v2 pAdd (vC (PyData.int 1)) (vFz (eCallL m_l_take [(0, 0)] (rL 0 (rV (vC (PyData.int 5)) rNil))))) [some t2, some (.f (.int b)), some (.f (.int s)), none, none] = .ok (rangeD 0 (m + 1)) [some t3, some (.f (.int b)), some (.f (.int s)), none, none] := by
      unfold iRange1
      rw [q1, bd_ok]
      show (if _ then Ou.ok (rangeD 0 (1 + (m : Int)).toNat) _ else _) = _
      rw [if_pos (by omega), show (1 + (m : Int)).toNat = m + 1 by omega]
    rw [x_sSet]
    unfold vLc
    rw [q2, bd_ok]
    show Ou.bd (Ou.bd (compS [4] (Tg.nm 4) bYes (v2 pAdd (vVar 1) (v2 pMul (vVar 2) (vVar 4))) (rangeD 0 (m + 1)) [] [some t3, some (.f (.int b)), some (.f (.int s)), none, none]) _) _ = _
    let g : PyData → PyData := fun d => match d with
      | .int i => .int (b + s * i)
      | d => d
    have eg : (rangeD 0 (m + 1)).map g = ns.map PyData.int := by
      unfold rangeD
      rw [List.map_map]
      show _ = ((List.range (m + 1)).map fun (j : Nat) => b + s * (0 + (j : Int))).map PyData.int
      rw [List.map_map]
      rfl
    rw [comp_map (f := g) _ (by unfold rangeD; rw [List.length_map, List.length_range]; exact Nat.le_trans (show m + 1 ≤ 1000 by omega) (by decide)) fun d hd => ?_, bd_ok, eg, bd_ok, k_set']
    · rfl
    · obtain ⟨j, hj, rfl⟩ := range_all hd
      refine ⟨_, [some t3, some (.f (.int b)), some (.f (.int s)), none, some (.f (.int (0 + (j : Int))))], rfl, ?_, rfl⟩
      show (v2 pAdd (vVar 1) (v2 pMul (vVar 2) (vVar 4)) : MV) [some t3, some (.f (.int b)), some (.f (.int s)), none, some (.f (.int (0 + (j : Int))))] = .ok (.int (b + s * (0 + (j : Int)))) _
      have mm : pMul (.int s) (.int (0 + (j : Int))) = some (.int (s * (0 + (j : Int)))) := q_mul (n := 32) (by omega) (by omega) (by decide)
      generalize (0 + (j : Int)) = w at mm
      simp only [k_v1', k_v2', k_c1', k_c2', k_vN', k_not', k_no, k_ys, k_o', k_s1', k_s2', k_s3', k_ch1', k_ch2', k_isi', k_ret', k_retE', k_exp', k_set', k_setE', k_eV', k_lst0, k_lst1, k_lst2, k_call', k_for', k_seqL, k_seqT, look_f, look_l, look_0, moveB_s, x_rNil, k_r1', k_r2', x_rV, k_rL', lookL_s, x_rL, k_ld', x_eCallL, lendB_ok, ld0_0, ld0_1, ld0_2, ld2_0, ld2_1, ld2_2, bd_ok, bd_no, bd_ex, of_some, x_vC, x_vVar, x_v1, x_v2, x_aNil, x_aCons, x_vN, andB_t, andB_f, orB_t, orB_f, ifB_t, ifB_f, x_vAnd, x_vOr, x_bIf, asBk_b, x_bV, x_bNot, x_bAnd, x_bOr, x_oNone, x_oSome, x_asI, x_vSl, chB_t, chB_f, x_vChain, x_vIsi, x_sNx, x_sSeq, th_nx, th_rt, x_sIf, x_sRet, x_sRetE, x_sExpr, x_sSet, x_sSetE, x_eV, fzB_f, x_vFz, x_eMove, x_eLst, callB_ok, callB_ex, x_eCall, x_sFor, x_iSeq, x_end_rt, x_end_nx, x_end_ex, gt_0, gt_s, st_0, st_s, bk_n, bk_y, bk_0, List.map_cons, List.map_nil, List.cons_append, List.nil_append, List.append_nil, List.length_cons, List.length_nil, if_true, if_false, Bool.not_true, Bool.not_false, q_tup1, q_tup2, q_lt, q_gt, q_le, q_ge, q_eq, q_add, q_sub, decide_true, decide_false, lendC_ok, ld11, ld22, keyD_i, dInB_s, k_dIn', x_vDIn, dgC_s, k_dg', dgB_s, x_vDGet, d2C_s, k_d22', k_d21', d2B_s, x_vDGet2, k_dp2', dpB_s, k_dp1', x_sDPut, dsV_s, dsV_n, k_ds2', k_ds1', dsB_s, x_vDSetd, dlB_s, x_vDLen, x_eD0, k_rE1', k_rE2', x_rE, odr_kv, od_kv, odr_dk, od_dk, val_kv, Option.map_some, Option.map_none, Option.isSome_some, Option.isSome_none, Option.getD_some, Option.getD_none, Bool.false_xor, Bool.true_xor, mm]
  have s4 : (sRet (v2 pStep (vVar 3) (v2 pIx (vN pLst (aCons (vC (PyData.int 1)) (aCons (v1 pNeg (vC (PyData.int 1))) aNil))) (vFz (eCallL m_l_take [(0, 0)] (rL 0 (rV (vC (PyData.int 2)) rNil)))))) : MS) [some t3, some (.f (.int b)), some (.f (.int s)), some (.f (.list (ns.map PyData.int))), none] = .ok (.rt (.f (.list (ns'.map PyData.int)))) [some t4, some (.f (.int b)), some (.f (.int s)), some (.f (.list (ns.map PyData.int))), none] := by
    have ng : pNeg (.int 1) = some (.int (-1)) := rfl
    generalize m_l_take = mm at e4
    generalize PyData.list (ns.map PyData.int) = L at ps
    generalize PyData.list (ns'.map PyData.int) = L' at ps
    simp only [k_v1', k_v2', k_c1', k_c2', k_vN', k_not', k_no, k_ys, k_o', k_s1', k_s2', k_s3', k_ch1', k_ch2', k_isi', k_ret', k_retE', k_exp', k_set', k_setE', k_eV', k_lst0, k_lst1, k_lst2, k_call', k_for', k_seqL, k_seqT, look_f, look_l, look_0, moveB_s, x_rNil, k_r1', k_r2', x_rV, k_rL', lookL_s, x_rL, k_ld', x_eCallL, lendB_ok, ld0_0, ld0_1, ld0_2, ld2_0, ld2_1, ld2_2, bd_ok, bd_no, bd_ex, of_some, x_vC, x_vVar, x_v1, x_v2, x_aNil, x_aCons, x_vN, andB_t, andB_f, orB_t, orB_f, ifB_t, ifB_f, x_vAnd, x_vOr, x_bIf, asBk_b, x_bV, x_bNot, x_bAnd, x_bOr, x_oNone, x_oSome, x_asI, x_vSl, chB_t, chB_f, x_vChain, x_vIsi, x_sNx, x_sSeq, th_nx, th_rt, x_sIf, x_sRet, x_sRetE, x_sExpr, x_sSet, x_sSetE, x_eV, fzB_f, x_vFz, x_eMove, x_eLst, callB_ok, callB_ex, x_eCall, x_sFor, x_iSeq, x_end_rt, x_end_nx, x_end_ex, gt_0, gt_s, st_0, st_s, bk_n, bk_y, bk_0, List.map_cons, List.map_nil, List.cons_append, List.nil_append, List.append_nil, List.length_cons, List.length_nil, if_true, if_false, Bool.not_true, Bool.not_false, q_tup1, q_tup2, q_lt, q_gt, q_le, q_ge, q_eq, q_add, q_sub, decide_true, decide_false, lendC_ok, ld11, ld22, keyD_i, dInB_s, k_dIn', x_vDIn, dgC_s, k_dg', dgB_s, x_vDGet, d2C_s, k_d22', k_d21', d2B_s, x_vDGet2, k_dp2', dpB_s, k_dp1', x_sDPut, dsV_s, dsV_n, k_ds2', k_ds1', dsB_s, x_vDSetd, dlB_s, x_vDLen, x_eD0, k_rE1', k_rE2', x_rE, odr_kv, od_kv, odr_dk, od_dk, val_kv, Option.map_some, Option.map_none, Option.isSome_some, Option.isSome_none, Option.getD_some, Option.getD_none, Bool.false_xor, Bool.true_xor, q_lst2, ng, e4, p4, ps]
  rw [x_sSeq, s1, bd_ok, th_nx, x_sSeq, s2, bd_ok, th_nx, x_sSeq, s3, bd_ok, th_nx, s4, x_end_rt]
  rfl
/-! ### _law_near -/
theorem e_near {ns : List Int} (hn : NsOk ns) : ∀ (u : Tm) (n k : Nat) (t : T), u.deep ≤ n → u.ok → Bx k t → k + 13 * u.parts ≤ 500000 → ∃ (v : Tm) (t' : T), m_l_near n [t, .f u.d, .f (.list (ns.map PyData.int))] = .ok (.f v.d) [some t', none, none] ∧ Bx (k + 13 * u.parts) t' ∧ v.ok ∧ v.deep ≤ u.deep
  | u, 0, _, _, h, _, _, _ => absurd h (by cases u <;> simp only [Tm.deep] <;> omega)
  | u, n + 1, k, t, hd, ou, hb, hk => by
    have pp := u.parts_pos
    have dp : 1 ≤ u.deep := by cases u <;> simp only [Tm.deep] <;> omega
    obtain ⟨r, t1, e1, h1, r0, r1⟩ := e_take (n := 5) hb (by omega) (by decide) (by decide)
    have pn := nil_ns hn
    cases c : decide (r = 0) with
    | true =>
      obtain ⟨l0, l1⟩ := ns_len hn
      obtain ⟨s, t2, e2, h2, s0, s1⟩ := e_take (n := (ns.length : Int)) h1 (by omega) l0 l1
      obtain ⟨i, ei, oi⟩ := pick_ns hn s0 s1
      refine ⟨.un i, t2, ?_, h2.up (by omega), oi, dp⟩
      rw [show m_l_near (n + 1) [t, .f u.d, .f (.list (ns.map PyData.int))] = endF [true, false, false] (b_l_near (m_l_near n) [some t, some (.f u.d), some (.f (.list (ns.map PyData.int)))]) from mFn2 rfl rfl]
      have el : pLen [.list (ns.map PyData.int)] = some (.int (ns.length : Int)) := by rw [q_lenL, List.length_map]
      unfold b_l_near
      generalize PyData.list (ns.map PyData.int) = L at pn ei el
      generalize m_l_take = mm at e1 e2
      generalize m_l_near n = m2
      simp only [k_v1', k_v2', k_c1', k_c2', k_vN', k_not', k_no, k_ys, k_o', k_s1', k_s2', k_s3', k_ch1', k_ch2', k_isi', k_ret', k_retE', k_exp', k_set', k_setE', k_eV', k_lst0, k_lst1, k_lst2, k_call', k_for', k_seqL, k_seqT, look_f, look_l, look_0, moveB_s, x_rNil, k_r1', k_r2', x_rV, k_rL', lookL_s, x_rL, k_ld', x_eCallL, lendB_ok, ld0_0, ld0_1, ld0_2, ld2_0, ld2_1, ld2_2, bd_ok, bd_no, bd_ex, of_some, x_vC, x_vVar, x_v1, x_v2, x_aNil, x_aCons, x_vN, andB_t, andB_f, orB_t, orB_f, ifB_t, ifB_f, x_vAnd, x_vOr, x_bIf, asBk_b, x_bV, x_bNot, x_bAnd, x_bOr, x_oNone, x_oSome, x_asI, x_vSl, chB_t, chB_f, x_vChain, x_vIsi, x_sNx, x_sSeq, th_nx, th_rt, x_sIf, x_sRet, x_sRetE, x_sExpr, x_sSet, x_sSetE, x_eV, fzB_f, x_vFz, x_eMove, x_eLst, callB_ok, callB_ex, x_eCall, x_sFor, x_iSeq, x_end_rt, x_end_nx, x_end_ex, gt_0, gt_s, st_0, st_s, bk_n, bk_y, bk_0, List.map_cons, List.map_nil, List.cons_append, List.nil_append, List.append_nil, List.length_cons, List.length_nil, if_true, if_false, Bool.not_true, Bool.not_false, q_tup1, q_tup2, q_lt, q_gt, q_le, q_ge, q_eq, q_add, q_sub, decide_true, decide_false, lendC_ok, ld11, ld22, keyD_i, dInB_s, k_dIn', x_vDIn, dgC_s, k_dg', dgB_s, x_vDGet, d2C_s, k_d22', k_d21', d2B_s, x_vDGet2, k_dp2', dpB_s, k_dp1', x_sDPut, dsV_s, dsV_n, k_ds2', k_ds1', dsB_s, x_vDSetd, dlB_s, x_vDLen, x_eD0, k_rE1', k_rE2', x_rE, odr_kv, od_kv, odr_dk, od_dk, val_kv, Option.map_some, Option.map_none, Option.isSome_some, Option.isSome_none, Option.getD_some, Option.getD_none, Bool.false_xor, Bool.true_xor, e1, c, x_bNilV, k_nilV', pn, el, e2, ei]
      rfl
    | false =>
      have leaf : u.isP = false → (vIsi Kn.isTup (vVar 1) : MV) [some t1, some (.f u.d), some (.f (.list (ns.map PyData.int)))] = .ok (.bool u.isU) [some t1, some (.f u.d), some (.f (.list (ns.map PyData.int)))] := fun hp => by
        cases u with
        | pr a b => cases hp
        | _ => rfl
      have rest : u.isP = false → ∃ (v : Tm) (t' : T), m_l_near (n + 1) [t, .f u.d, .f (.list (ns.map PyData.int))] = .ok (.f v.d) [some t', none, none] ∧ Bx (k + 13 * u.parts) t' ∧ v.ok ∧ v.deep ≤ u.deep := fun hp => by
        obtain ⟨s, t2, e2, h2, s0, s1⟩ := e_take (n := 12) h1 (by omega) (by decide) (by decide)
        have key : ∀ ρ' : Ou Fl, ((sSeq (sIf (bV (v2 pEq (vFz (eCallL m_l_take [(0, 0)] (rL 0 (rV (vC (PyData.int 12)) rNil)))) (vC (PyData.int 0)))) (sRetE (eCallL m_l_single [(0, 0)] (rL 0 (rV (vVar 2) rNil)))) sNx) (sRet (vVar 1)) : MS) [some t1, some (.f u.d), some (.f (.list (ns.map PyData.int)))] = ρ') → m_l_near (n + 1) [t, .f u.d, .f (.list (ns.map PyData.int))] = endF [true, false, false] ρ' := fun ρ' e => by
          rw [show m_l_near (n + 1) [t, .f u.d, .f (.list (ns.map PyData.int))] = endF [true, false, false] (b_l_near (m_l_near n) [some t, some (.f u.d), some (.f (.list (ns.map PyData.int)))]) from mFn2 rfl rfl, ← e]
          unfold b_l_near
          have lf := leaf hp
          have ln : u.isU = true → pLen [u.d] = some (.int 1) := fun hu => by
            cases u with
            | un i => rfl
            | _ => cases hu
          generalize (sSeq (sIf (bV (v2 pEq (vFz (eCallL m_l_take [(0, 0)] (rL 0 (rV (vC (PyData.int 12)) rNil)))) (vC (PyData.int 0)))) (sRetE (eCallL m_l_single [(0, 0)] (rL 0 (rV (vVar 2) rNil)))) sNx) (sRet (vVar 1)) : MS) = tail
          generalize m_l_near n = m2
          generalize PyData.list (ns.map PyData.int) = L at lf pn
          generalize vIsi Kn.isTup (vVar 1) = vi at lf
          generalize m_l_take = mm at e1
          cases hu : u.isU with
          | true =>
            have ln := ln hu
            rw [hu] at lf
            simp only [k_v1', k_v2', k_c1', k_c2', k_vN', k_not', k_no, k_ys, k_o', k_s1', k_s2', k_s3', k_ch1', k_ch2', k_isi', k_ret', k_retE', k_exp', k_set', k_setE', k_eV', k_lst0, k_lst1, k_lst2, k_call', k_for', k_seqL, k_seqT, look_f, look_l, look_0, moveB_s, x_rNil, k_r1', k_r2', x_rV, k_rL', lookL_s, x_rL, k_ld', x_eCallL, lendB_ok, ld0_0, ld0_1, ld0_2, ld2_0, ld2_1, ld2_2, bd_ok, bd_no, bd_ex, of_some, x_vC, x_vVar, x_v1, x_v2, x_aNil, x_aCons, x_vN, andB_t, andB_f, orB_t, orB_f, ifB_t, ifB_f, x_vAnd, x_vOr, x_bIf, asBk_b, x_bV, x_bNot, x_bAnd, x_bOr, x_oNone, x_oSome, x_asI, x_vSl, chB_t, chB_f, x_vChain, x_vIsi, x_sNx, x_sSeq, th_nx, th_rt, x_sIf, x_sRet, x_sRetE, x_sExpr, x_sSet, x_sSetE, x_eV, fzB_f, x_vFz, x_eMove, x_eLst, callB_ok, callB_ex, x_eCall, x_sFor, x_iSeq, x_end_rt, x_end_nx, x_end_ex, gt_0, gt_s, st_0, st_s, bk_n, bk_y, bk_0, List.map_cons, List.map_nil, List.cons_append, List.nil_append, List.append_nil, List.length_cons, List.length_nil, if_true, if_false, Bool.not_true, Bool.not_false, q_tup1, q_tup2, q_lt, q_gt, q_le, q_ge, q_eq, q_add, q_sub, decide_true, decide_false, lendC_ok, ld11, ld22, keyD_i, dInB_s, k_dIn', x_vDIn, dgC_s, k_dg', dgB_s, x_vDGet, d2C_s, k_d22', k_d21', d2B_s, x_vDGet2, k_dp2', dpB_s, k_dp1', x_sDPut, dsV_s, dsV_n, k_ds2', k_ds1', dsB_s, x_vDSetd, dlB_s, x_vDLen, x_eD0, k_rE1', k_rE2', x_rE, odr_kv, od_kv, odr_dk, od_dk, val_kv, Option.map_some, Option.map_none, Option.isSome_some, Option.isSome_none, Option.getD_some, Option.getD_none, Bool.false_xor, Bool.true_xor, e1, c, lf, ln, d12]
          | false =>
            rw [hu] at lf
            simp only [k_v1', k_v2', k_c1', k_c2', k_vN', k_not', k_no, k_ys, k_o', k_s1', k_s2', k_s3', k_ch1', k_ch2', k_isi', k_ret', k_retE', k_exp', k_set', k_setE', k_eV', k_lst0, k_lst1, k_lst2, k_call', k_for', k_seqL, k_seqT, look_f, look_l, look_0, moveB_s, x_rNil, k_r1', k_r2', x_rV, k_rL', lookL_s, x_rL, k_ld', x_eCallL, lendB_ok, ld0_0, ld0_1, ld0_2, ld2_0, ld2_1, ld2_2, bd_ok, bd_no, bd_ex, of_some, x_vC, x_vVar, x_v1, x_v2, x_aNil, x_aCons, x_vN, andB_t, andB_f, orB_t, orB_f, ifB_t, ifB_f, x_vAnd, x_vOr, x_bIf, asBk_b, x_bV, x_bNot, x_bAnd, x_bOr, x_oNone, x_oSome, x_asI, x_vSl, chB_t, chB_f, x_vChain, x_vIsi, x_sNx, x_sSeq, th_nx, th_rt, x_sIf, x_sRet, x_sRetE, x_sExpr, x_sSet, x_sSetE, x_eV, fzB_f, x_vFz, x_eMove, x_eLst, callB_ok, callB_ex, x_eCall, x_sFor, x_iSeq, x_end_rt, x_end_nx, x_end_ex, gt_0, gt_s, st_0, st_s, bk_n, bk_y, bk_0, List.map_cons, List.map_nil, List.cons_append, List.nil_append, List.append_nil, List.length_cons, List.length_nil, if_true, if_false, Bool.not_true, Bool.not_false, q_tup1, q_tup2, q_lt, q_gt, q_le, q_ge, q_eq, q_add, q_sub, decide_true, decide_false, lendC_ok, ld11, ld22, keyD_i, dInB_s, k_dIn', x_vDIn, dgC_s, k_dg', dgB_s, x_vDGet, d2C_s, k_d22', k_d21', d2B_s, x_vDGet2, k_dp2', dpB_s, k_dp1', x_sDPut, dsV_s, dsV_n, k_ds2', k_ds1', dsB_s, x_vDSetd, dlB_s, x_vDLen, x_eD0, k_rE1', k_rE2', x_rE, odr_kv, od_kv, odr_dk, od_dk, val_kv, Option.map_some, Option.map_none, Option.isSome_some, Option.isSome_none, Option.getD_some, Option.getD_none, Bool.false_xor, Bool.true_xor, e1, c, lf]
        cases c2 : decide (s = 0) with
        | true =>
          obtain ⟨v, t3, e3, h3, ov, dv⟩ := e_single h2 (by omega) hn
          refine ⟨v, t3, (key _ rfl).trans ?_, h3.up (by omega), ov, by omega⟩
          generalize PyData.list (ns.map PyData.int) = L at e3
          generalize m_l_take = mm at e2
          generalize m_l_single = m3 at e3
          simp only [k_v1', k_v2', k_c1', k_c2', k_vN', k_not', k_no, k_ys, k_o', k_s1', k_s2', k_s3', k_ch1', k_ch2', k_isi', k_ret', k_retE', k_exp', k_set', k_setE', k_eV', k_lst0, k_lst1, k_lst2, k_call', k_for', k_seqL, k_seqT, look_f, look_l, look_0, moveB_s, x_rNil, k_r1', k_r2', x_rV, k_rL', lookL_s, x_rL, k_ld', x_eCallL, lendB_ok, ld0_0, ld0_1, ld0_2, ld2_0, ld2_1, ld2_2, bd_ok, bd_no, bd_ex, of_some, x_vC, x_vVar, x_v1, x_v2, x_aNil, x_aCons, x_vN, andB_t, andB_f, orB_t, orB_f, ifB_t, ifB_f, x_vAnd, x_vOr, x_bIf, asBk_b, x_bV, x_bNot, x_bAnd, x_bOr, x_oNone, x_oSome, x_asI, x_vSl, chB_t, chB_f, x_vChain, x_vIsi, x_sNx, x_sSeq, th_nx, th_rt, x_sIf, x_sRet, x_sRetE, x_sExpr, x_sSet, x_sSetE, x_eV, fzB_f, x_vFz, x_eMove, x_eLst, callB_ok, callB_ex, x_eCall, x_sFor, x_iSeq, x_end_rt, x_end_nx, x_end_ex, gt_0, gt_s, st_0, st_s, bk_n, bk_y, bk_0, List.map_cons, List.map_nil, List.cons_append, List.nil_append, List.append_nil, List.length_cons, List.length_nil, if_true, if_false, Bool.not_true, Bool.not_false, q_tup1, q_tup2, q_lt, q_gt, q_le, q_ge, q_eq, q_add, q_sub, decide_true, decide_false, lendC_ok, ld11, ld22, keyD_i, dInB_s, k_dIn', x_vDIn, dgC_s, k_dg', dgB_s, x_vDGet, d2C_s, k_d22', k_d21', d2B_s, x_vDGet2, k_dp2', dpB_s, k_dp1', x_sDPut, dsV_s, dsV_n, k_ds2', k_ds1', dsB_s, x_vDSetd, dlB_s, x_vDLen, x_eD0, k_rE1', k_rE2', x_rE, odr_kv, od_kv, odr_dk, od_dk, val_kv, Option.map_some, Option.map_none, Option.isSome_some, Option.isSome_none, Option.getD_some, Option.getD_none, Bool.false_xor, Bool.true_xor, e2, c2, e3]
        | false =>
          refine ⟨u, t2, (key _ rfl).trans ?_, h2.up (by omega), ou, Nat.le_refl _⟩
          generalize PyData.list (ns.map PyData.int) = L
          generalize m_l_take = mm at e2
          simp only [k_v1', k_v2', k_c1', k_c2', k_vN', k_not', k_no, k_ys, k_o', k_s1', k_s2', k_s3', k_ch1', k_ch2', k_isi', k_ret', k_retE', k_exp', k_set', k_setE', k_eV', k_lst0, k_lst1, k_lst2, k_call', k_for', k_seqL, k_seqT, look_f, look_l, look_0, moveB_s, x_rNil, k_r1', k_r2', x_rV, k_rL', lookL_s, x_rL, k_ld', x_eCallL, lendB_ok, ld0_0, ld0_1, ld0_2, ld2_0, ld2_1, ld2_2, bd_ok, bd_no, bd_ex, of_some, x_vC, x_vVar, x_v1, x_v2, x_aNil, x_aCons, x_vN, andB_t, andB_f, orB_t, orB_f, ifB_t, ifB_f, x_vAnd, x_vOr, x_bIf, asBk_b, x_bV, x_bNot, x_bAnd, x_bOr, x_oNone, x_oSome, x_asI, x_vSl, chB_t, chB_f, x_vChain, x_vIsi, x_sNx, x_sSeq, th_nx, th_rt, x_sIf, x_sRet, x_sRetE, x_sExpr, x_sSet, x_sSetE, x_eV, fzB_f, x_vFz, x_eMove, x_eLst, callB_ok, callB_ex, x_eCall, x_sFor, x_iSeq, x_end_rt, x_end_nx, x_end_ex, gt_0, gt_s, st_0, st_s, bk_n, bk_y, bk_0, List.map_cons, List.map_nil, List.cons_append, List.nil_append, List.append_nil, List.length_cons, List.length_nil, if_true, if_false, Bool.not_true, Bool.not_false, q_tup1, q_tup2, q_lt, q_gt, q_le, q_ge, q_eq, q_add, q_sub, decide_true, decide_false, lendC_ok, ld11, ld22, keyD_i, dInB_s, k_dIn', x_vDIn, dgC_s, k_dg', dgB_s, x_vDGet, d2C_s, k_d22', k_d21', d2B_s, x_vDGet2, k_dp2', dpB_s, k_dp1', x_sDPut, dsV_s, dsV_n, k_ds2', k_ds1', dsB_s, x_vDSetd, dlB_s, x_vDLen, x_eD0, k_rE1', k_rE2', x_rE, odr_kv, od_kv, odr_dk, od_dk, val_kv, Option.map_some, Option.map_none, Option.isSome_some, Option.isSome_none, Option.getD_some, Option.getD_none, Bool.false_xor, Bool.true_xor, e2, c2]
      cases u with
      | nm x => exact rest rfl
      | nu x => exact rest rfl
      | un x => exact rest rfl
      | pr a b =>
        have hd : 1 + max a.deep b.deep ≤ n + 1 := hd
        have hk : k + 13 * (1 + a.parts + b.parts) ≤ 500000 := hk
        obtain ⟨v1, t2, e2, h2, o1, g1⟩ := e_near hn a n (k + 1) t1 (by omega) ou.1 h1 (by omega)
        obtain ⟨v2', t3, e3, h3, o2, g2⟩ := e_near hn b n (k + 1 + 13 * a.parts) t2 (by omega) ou.2 h2 (by omega)
        refine ⟨.pr v1 v2', t3, ?_, h3.up (by show _ ≤ k + 13 * (1 + a.parts + b.parts); omega), ⟨o1, o2⟩, by show 1 + max v1.deep v2'.deep ≤ 1 + max a.deep b.deep; omega⟩
        rw [show m_l_near (n + 1) [t, .f (Tm.pr a b).d, .f (.list (ns.map PyData.int))] = endF [true, false, false] (b_l_near (m_l_near n) [some t, some (.f (.tuple [a.d, b.d])), some (.f (.list (ns.map PyData.int)))]) from mFn2 rfl rfl]
        unfold b_l_near
        generalize PyData.list (ns.map PyData.int) = L at e2 e3
        generalize m_l_take = mm at e1
        generalize m_l_near n = m2 at e2 e3
        simp only [k_v1', k_v2', k_c1', k_c2', k_vN', k_not', k_no, k_ys, k_o', k_s1', k_s2', k_s3', k_ch1', k_ch2', k_isi', k_ret', k_retE', k_exp', k_set', k_setE', k_eV', k_lst0, k_lst1, k_lst2, k_call', k_for', k_seqL, k_seqT, look_f, look_l, look_0, moveB_s, x_rNil, k_r1', k_r2', x_rV, k_rL', lookL_s, x_rL, k_ld', x_eCallL, lendB_ok, ld0_0, ld0_1, ld0_2, ld2_0, ld2_1, ld2_2, bd_ok, bd_no, bd_ex, of_some, x_vC, x_vVar, x_v1, x_v2, x_aNil, x_aCons, x_vN, andB_t, andB_f, orB_t, orB_f, ifB_t, ifB_f, x_vAnd, x_vOr, x_bIf, asBk_b, x_bV, x_bNot, x_bAnd, x_bOr, x_oNone, x_oSome, x_asI, x_vSl, chB_t, chB_f, x_vChain, x_vIsi, x_sNx, x_sSeq, th_nx, th_rt, x_sIf, x_sRet, x_sRetE, x_sExpr, x_sSet, x_sSetE, x_eV, fzB_f, x_vFz, x_eMove, x_eLst, callB_ok, callB_ex, x_eCall, x_sFor, x_iSeq, x_end_rt, x_end_nx, x_end_ex, gt_0, gt_s, st_0, st_s, bk_n, bk_y, bk_0, List.map_cons, List.map_nil, List.cons_append, List.nil_append, List.append_nil, List.length_cons, List.length_nil, if_true, if_false, Bool.not_true, Bool.not_false, q_tup1, q_tup2, q_lt, q_gt, q_le, q_ge, q_eq, q_add, q_sub, decide_true, decide_false, lendC_ok, ld11, ld22, keyD_i, dInB_s, k_dIn', x_vDIn, dgC_s, k_dg', dgB_s, x_vDGet, d2C_s, k_d22', k_d21', d2B_s, x_vDGet2, k_dp2', dpB_s, k_dp1', x_sDPut, dsV_s, dsV_n, k_ds2', k_ds1', dsB_s, x_vDSetd, dlB_s, x_vDLen, x_eD0, k_rE1', k_rE2', x_rE, odr_kv, od_kv, odr_dk, od_dk, val_kv, Option.map_some, Option.map_none, Option.isSome_some, Option.isSome_none, Option.getD_some, Option.getD_none, Bool.false_xor, Bool.true_xor, e1, c, knT, q_len2, d22, q_ix20, q_ix21, e2, e3]
        rfl


/-! ### joined terms, told plainly -/
def ins (σ : Int → Tm) : Tm → Tm
  | .un i => σ i
  | .pr a b => .pr (ins σ a) (ins σ b)
  | .nm x => .nm x
  | .nu x => .nu x
theorem sub_ins (f : Fd) : ∀ t : Tm, sub f t = ins (fun i => (lk f i).getD (.un i)) t
  | .un _ => rfl
  | .nm _ => rfl
  | .nu _ => rfl
  | .pr a b => by
    show Tm.pr (sub f a) (sub f b) = Tm.pr _ _
    rw [sub_ins f a, sub_ins f b]
theorem ins_un : ∀ t : Tm, ins Tm.un t = t
  | .un _ => rfl
  | .nm _ => rfl
  | .nu _ => rfl
  | .pr a b => by
    show Tm.pr (ins Tm.un a) (ins Tm.un b) = Tm.pr _ _
    rw [ins_un a, ins_un b]
def Agr (σ : Int → Tm) (f : Fd) : Prop := ∀ i u, lk f i = some u → σ i = u
theorem lk_snoc (f : Fd) (i j : Int) (t : Tm) : lk (f ++ [(i, t)]) j = (lk f j).or (if i = j then some t else none) := by
  unfold lk
  rw [List.find?_append]
  cases f.find? fun p => decide (p.1 = j) with
  | some x => rfl
  | none =>
    by_cases h : i = j
    · rw [if_pos h]
      rw [Option.none_or, List.find?_cons, show decide ((i, t).1 = j) = true from decide_eq_true h]
      rfl
    · rw [if_neg h]
      rw [Option.none_or, List.find?_cons, show decide ((i, t).1 = j) = false from decide_eq_false h]
      rfl
theorem mt_ins (σ : Int → Tm) : ∀ (w : Tm) (f : Fd), Agr σ f → (mt w (ins σ w) f).1 = true ∧ Agr σ (mt w (ins σ w) f).2
  | .nm x, f, h => by
    rw [mt_nm]
    exact ⟨decide_eq_true rfl, h⟩
  | .nu x, f, h => by
    rw [mt_nu]
    exact ⟨decide_eq_true rfl, h⟩
  | .un i, f, h => by
    rw [mt_un]
    cases e : lk f i with
    | some u => exact ⟨decide_eq_true (h i u e).symm, h⟩
    | none =>
      refine ⟨rfl, fun j u z => ?_⟩
      have z : lk (f ++ [(i, σ i)]) j = some u := z
      rw [lk_snoc] at z
      cases e2 : lk f j with
      | some v =>
        rw [e2] at z
        exact (h j v e2).trans (Option.some.inj z)
      | none =>
        rw [e2] at z
        by_cases c : i = j
        · rw [if_pos c] at z
          rw [← c]
          exact Option.some.inj z
        · rw [if_neg c] at z
          cases z
  | .pr a b, f, h => by
    show (mt (.pr a b) (.pr (ins σ a) (ins σ b)) f).1 = true ∧ Agr σ (mt (.pr a b) (.pr (ins σ a) (ins σ b)) f).2
    obtain ⟨h1, h2⟩ := mt_ins σ a f h
    rw [mt_pr, mtS_t h1]
    exact mt_ins σ b _ h2
theorem mt_mono : ∀ (w t : Tm) (f : Fd) (i : Int) (u : Tm), lk f i = some u → lk (mt w t f).2 i = some u
  | .nm x, t, f, i, u, h => by
    rw [mt_nm]
    exact h
  | .nu x, t, f, i, u, h => by
    rw [mt_nu]
    exact h
  | .un j, t, f, i, u, h => by
    rw [mt_un]
    cases e : lk f j with
    | some v => exact h
    | none =>
      show lk (f ++ [(j, t)]) i = some u
      rw [lk_snoc, h]
      rfl
  | .pr a b, .pr c d, f, i, u, h => by
    rw [mt_pr]
    have h1 := mt_mono a c f i u h
    cases e : (mt a c f).1 with
    | true =>
      rw [mtS_t e]
      exact mt_mono b d _ i u h1
    | false =>
      rw [mtS_f e]
      exact h1
  | .pr a b, .nm x, f, i, u, h => by rw [mt_prn a b f rfl]; exact h
  | .pr a b, .nu x, f, i, u, h => by rw [mt_prn a b f rfl]; exact h
  | .pr a b, .un x, f, i, u, h => by rw [mt_prn a b f rfl]; exact h
theorem mt_sound : ∀ (w t : Tm) (f : Fd), (mt w t f).1 = true → ∀ σ, Agr σ (mt w t f).2 → ins σ w = t
  | .nm x, t, f, h, σ, _ => by
    rw [mt_nm] at h
    exact of_decide_eq_true h
  | .nu x, t, f, h, σ, _ => by
    rw [mt_nu] at h
    exact of_decide_eq_true h
  | .un i, t, f, h, σ, hs => by
    rw [mt_un] at h hs
    cases e : lk f i with
    | some u =>
      rw [e] at h hs
      have h : decide (u = t) = true := h
      exact (hs i u e).trans (of_decide_eq_true h)
    | none =>
      rw [e] at hs
      refine hs i t ?_
      show lk (f ++ [(i, t)]) i = some t
      rw [lk_snoc, e, if_pos rfl]
      rfl
  | .pr a b, .pr c d, f, h, σ, hs => by
    rw [mt_pr] at h hs
    cases e : (mt a c f).1 with
    | true =>
      rw [mtS_t e] at h hs
      have h2 := mt_sound b d _ h σ hs
      have h1 := mt_sound a c f e σ fun i u z => hs i u (mt_mono b d _ i u z)
      show Tm.pr (ins σ a) (ins σ b) = _
      rw [h1, h2]
    | false =>
      rw [mtS_f e] at h
      cases h
  | .pr a b, .nm x, f, h, _, _ => by rw [mt_prn a b f rfl] at h; cases h
  | .pr a b, .nu x, f, h, _, _ => by rw [mt_prn a b f rfl] at h; cases h
  | .pr a b, .un x, f, h, _, _ => by rw [mt_prn a b f rfl] at h; cases h
theorem mt_of {w t : Tm} {σ : Int → Tm} (h : ins σ w = t) : (mt w t []).1 = true := by
  rw [← h]
  exact (mt_ins σ w [] fun i u z => by cases z).1
theorem mt_get {w t : Tm} (h : (mt w t []).1 = true) : ∃ σ, ins σ w = t := by
  refine ⟨fun i => (lk (mt w t []).2 i).getD (.un i), mt_sound w t [] h _ fun i u z => ?_⟩
  show (lk (mt w t []).2 i).getD (.un i) = u
  rw [z]
  rfl
/-! the joined term by the row of pairs that came -/
theorem ixO_pre {p : Tm × Tm} {k : Nat} : ∀ {L M : List (Tm × Tm)}, L <+: M → ixO L p = some k → ixO M p = some k := by
  intro L M ⟨r, e⟩ h
  subst e
  induction L generalizing k with
  | nil => cases h
  | cons x L ih =>
    have h : (if x = p then some 0 else (ixO L p).map (· + 1)) = some k := h
    show (if x = p then some 0 else (ixO (L ++ r) p).map (· + 1)) = some k
    by_cases c : x = p
    · rw [if_pos c] at h ⊢
      exact h
    · rw [if_neg c] at h ⊢
      cases e : ixO L p with
      | none =>
        rw [e] at h
        cases h
      | some j =>
        rw [ih e]
        rw [e] at h
        exact h
theorem ixO_get {p : Tm × Tm} : ∀ {L : List (Tm × Tm)} {k : Nat}, ixO L p = some k → L[k]? = some p
  | [], _, h => by cases h
  | x :: L, k, h => by
    have h : (if x = p then some 0 else (ixO L p).map (· + 1)) = some k := h
    by_cases c : x = p
    · rw [if_pos c] at h
      cases h
      rw [c]
      rfl
    · rw [if_neg c] at h
      cases e : ixO L p with
      | none =>
        rw [e] at h
        cases h
      | some j =>
        rw [e] at h
        have e2 : k = j + 1 := (Option.some.inj h).symm
        subst e2
        exact ixO_get (L := L) e
theorem ixO_lt {p : Tm × Tm} {L : List (Tm × Tm)} {k : Nat} (h : ixO L p = some k) : k < L.length := by
  have := ixO_get h
  exact (List.getElem?_eq_some_iff.mp this).1
theorem jl_pre (a b : Tm) (L : List (Tm × Tm)) : L <+: (jl a b L).2 := by
  unfold jl
  split
  · exact List.prefix_refl _
  · split
    · exact List.prefix_refl _
    · exact List.prefix_append _ _
def JF (M : List (Tm × Tm)) : Tm → Tm → Tm
  | .pr a b, .pr c d => .pr (JF M a c) (JF M b d)
  | a, b => if a = b ∧ a.isU = false then a else .un ((ixO M (a, b)).getD 0 : Nat)
theorem JF_l {M : List (Tm × Tm)} {a b : Tm} (h : (a.isP && b.isP) = false) : JF M a b = if a = b ∧ a.isU = false then a else .un ((ixO M (a, b)).getD 0 : Nat) := by
  cases a <;> cases b <;> first | rfl | cases h
def piL (M : List (Tm × Tm)) (i : Int) : Tm := ((M[i.toNat]?).map (·.1)).getD (.un i)
def piR (M : List (Tm × Tm)) (i : Int) : Tm := ((M[i.toNat]?).map (·.2)).getD (.un i)
/-- what is known of the joined term r of a and b -/
structure JK (M : List (Tm × Tm)) (a b r : Tm) : Prop where
  f : r = JF M a b
  l : ins (piL M) r = a
  r : ins (piR M) r = b
theorem jl_K {a b : Tm} {L M : List (Tm × Tm)} (h : (a.isP && b.isP) = false) (hp : (jl a b L).2 <+: M) : JK M a b (jl a b L).1 := by
  have key : ∀ k : Nat, ixO M (a, b) = some k → ¬ (a = b ∧ a.isU = false) → JK M a b (.un (k : Int)) := fun k e c => by
    have g := ixO_get e
    have t : ((k : Int)).toNat = k := Int.toNat_natCast k
    refine ⟨?_, ?_, ?_⟩
    · rw [JF_l h, if_neg c, e]
      rfl
    · show ((M[((k : Int)).toNat]?).map (·.1)).getD (.un k) = a
      rw [t, g]
      rfl
    · show ((M[((k : Int)).toNat]?).map (·.2)).getD (.un k) = b
      rw [t, g]
      rfl
  unfold jl at hp ⊢
  by_cases c : a = b ∧ a.isU = false
  · rw [if_pos c] at hp ⊢
    have nu : ∀ σ, ins σ a = a := fun σ => by
      obtain ⟨c1, c2⟩ := c
      subst c1
      cases a with
      | nm x => rfl
      | nu x => rfl
      | un i => cases c2
      | pr x y => cases h
    refine ⟨?_, nu _, (nu _).trans c.1⟩
    rw [JF_l h, if_pos c]
  · rw [if_neg c] at hp ⊢
    cases e : ixO L (a, b) with
    | some k =>
      rw [e] at hp
      exact key k (ixO_pre hp e) c
    | none =>
      rw [e] at hp
      exact key _ (ixO_pre hp (ixO_last e)) c
theorem jn_pre : ∀ (a b : Tm) (L : List (Tm × Tm)), L <+: (jn a b L).2
  | .pr a b, .pr c d, L => (jn_pre a c L).trans (jn_pre b d _)
  | .nm _, _, L => by rw [jn_l rfl]; exact jl_pre _ _ _
  | .nu _, _, L => by rw [jn_l rfl]; exact jl_pre _ _ _
  | .un _, _, L => by rw [jn_l rfl]; exact jl_pre _ _ _
  | .pr a b, .nm _, L => by rw [jn_l rfl]; exact jl_pre _ _ _
  | .pr a b, .nu _, L => by rw [jn_l rfl]; exact jl_pre _ _ _
  | .pr a b, .un _, L => by rw [jn_l rfl]; exact jl_pre _ _ _
theorem jn_K : ∀ (a b : Tm) (L M : List (Tm × Tm)), (jn a b L).2 <+: M → JK M a b (jn a b L).1
  | .pr a b, .pr c d, L, M, h => by
    have h : (jn b d (jn a c L).2).2 <+: M := h
    have k1 := jn_K a c L M ((jn_pre b d _).trans h)
    have k2 := jn_K b d _ M h
    refine ⟨?_, ?_, ?_⟩
    · show Tm.pr (jn a c L).1 (jn b d (jn a c L).2).1 = Tm.pr (JF M a c) (JF M b d)
      rw [← k1.f, ← k2.f]
    · show Tm.pr (ins _ (jn a c L).1) (ins _ (jn b d (jn a c L).2).1) = _
      rw [k1.l, k2.l]
    · show Tm.pr (ins _ (jn a c L).1) (ins _ (jn b d (jn a c L).2).1) = _
      rw [k1.r, k2.r]
  | .nm _, _, L, M, h => by rw [jn_l rfl] at h ⊢; exact jl_K rfl h
  | .nu _, _, L, M, h => by rw [jn_l rfl] at h ⊢; exact jl_K rfl h
  | .un _, _, L, M, h => by rw [jn_l rfl] at h ⊢; exact jl_K rfl h
  | .pr a b, .nm _, L, M, h => by rw [jn_l rfl] at h ⊢; exact jl_K rfl h
  | .pr a b, .nu _, L, M, h => by rw [jn_l rfl] at h ⊢; exact jl_K rfl h
  | .pr a b, .un _, L, M, h => by rw [jn_l rfl] at h ⊢; exact jl_K rfl h
/-- the joined term of two -/
def jo (a b : Tm) : Tm := (jn a b []).1
theorem jo_K (a b : Tm) : JK (jn a b []).2 a b (jo a b) := jn_K a b [] _ (List.prefix_refl _)
theorem jo_left (a b : Tm) : (mt (jo a b) a []).1 = true := mt_of (jo_K a b).l
theorem jo_right (a b : Tm) : (mt (jo a b) b []).1 = true := mt_of (jo_K a b).r
theorem mt_self (a : Tm) : (mt a a []).1 = true := mt_of (ins_un a)
/-- turned about -/
def sw (p : Tm × Tm) : Tm × Tm := (p.2, p.1)
theorem ixO_sw (a b : Tm) : ∀ L : List (Tm × Tm), ixO (L.map sw) (b, a) = ixO L (a, b)
  | [] => rfl
  | x :: L => by
    show (if sw x = (b, a) then some 0 else (ixO (L.map sw) (b, a)).map (· + 1)) = (if x = (a, b) then some 0 else (ixO L (a, b)).map (· + 1))
    rw [ixO_sw a b L]
    have : sw x = (b, a) ↔ x = (a, b) := by
      obtain ⟨x1, x2⟩ := x
      constructor
      · intro h
        cases h
        rfl
      · intro h
        cases h
        rfl
    by_cases c : x = (a, b)
    · rw [if_pos c, if_pos (this.mpr c)]
    · rw [if_neg c, if_neg (fun z => c (this.mp z))]
theorem jl_sw (a b : Tm) (L : List (Tm × Tm)) : jl b a (L.map sw) = ((jl a b L).1, (jl a b L).2.map sw) := by
  unfold jl
  by_cases c : a = b ∧ a.isU = false
  · rw [if_pos c, if_pos ⟨c.1.symm, by rw [← c.1]; exact c.2⟩, ← c.1]
  · rw [if_neg c, if_neg (fun z => c ⟨z.1.symm, by rw [← z.1]; exact z.2⟩), ixO_sw]
    cases ixO L (a, b) with
    | some k => rfl
    | none =>
      show (Tm.un (((L.map sw).length : Nat) : Int), L.map sw ++ [(b, a)]) = (Tm.un ((L.length : Nat) : Int), (L ++ [(a, b)]).map sw)
      rw [List.length_map, List.map_append]
      rfl
theorem jn_sw : ∀ (a b : Tm) (L : List (Tm × Tm)), jn b a (L.map sw) = ((jn a b L).1, (jn a b L).2.map sw)
  | .pr a b, .pr c d, L => by
    show (Tm.pr (jn c a (L.map sw)).1 (jn d b (jn c a (L.map sw)).2).1, (jn d b (jn c a (L.map sw)).2).2) = _
    rw [jn_sw a c L, jn_sw b d (jn a c L).2]
    rfl
  | .nm _, b, L => by rw [jn_l (a := b) (by rw [Bool.and_comm]; rfl), jn_l rfl]; exact jl_sw _ _ _
  | .nu _, b, L => by rw [jn_l (a := b) (by rw [Bool.and_comm]; rfl), jn_l rfl]; exact jl_sw _ _ _
  | .un _, b, L => by rw [jn_l (a := b) (by rw [Bool.and_comm]; rfl), jn_l rfl]; exact jl_sw _ _ _
  | .pr _ _, .nm _, L => jl_sw _ _ _
  | .pr _ _, .nu _, L => jl_sw _ _ _
  | .pr _ _, .un _, L => jl_sw _ _ _
theorem jo_comm (a b : Tm) : jo b a = jo a b := by
  have h : jn b a [] = ((jn a b []).1, (jn a b []).2.map sw) := jn_sw a b []
  unfold jo
  rw [h]
/-- joined with an instance of it: a variant -/
theorem JF_ins (M : List (Tm × Tm)) (σ : Int → Tm) : ∀ a : Tm, JF M a (ins σ a) = ins (fun i => .un ((ixO M (.un i, σ i)).getD 0 : Nat)) a
  | .nm x => by
    rw [JF_l rfl]
    exact if_pos ⟨rfl, rfl⟩
  | .nu x => by
    rw [JF_l rfl]
    exact if_pos ⟨rfl, rfl⟩
  | .un i => by
    rw [JF_l rfl, if_neg (fun z => by cases z.2)]
    rfl
  | .pr a b => by
    show Tm.pr (JF M a (ins σ a)) (JF M b (ins σ b)) = Tm.pr _ _
    rw [JF_ins M σ a, JF_ins M σ b]
theorem jo_inst {a b : Tm} (h : (mt a b []).1 = true) : (mt a (jo a b) []).1 = true := by
  obtain ⟨σ, rfl⟩ := mt_get h
  refine mt_of (σ := fun i => .un ((ixO (jn a (ins σ a) []).2 (.un i, σ i)).getD 0 : Nat)) ?_
  rw [← JF_ins, ← (jo_K a (ins σ a)).f]
/-- joined terms of one wider one -/
theorem JF_two (M : List (Tm × Tm)) (σ τ : Int → Tm) : ∀ a : Tm, JF M (ins σ a) (ins τ a) = ins (fun i => JF M (σ i) (τ i)) a
  | .nm x => by
    rw [show ins σ (.nm x) = .nm x from rfl, show ins τ (.nm x) = .nm x from rfl, JF_l rfl]
    exact if_pos ⟨rfl, rfl⟩
  | .nu x => by
    rw [show ins σ (.nu x) = .nu x from rfl, show ins τ (.nu x) = .nu x from rfl, JF_l rfl]
    exact if_pos ⟨rfl, rfl⟩
  | .un i => rfl
  | .pr a b => by
    show Tm.pr (JF M (ins σ a) (ins τ a)) (JF M (ins σ b) (ins τ b)) = Tm.pr _ _
    rw [JF_two M σ τ a, JF_two M σ τ b]
theorem jo_wider (w : Tm) (f g : Fd) : (mt w (jo (sub f w) (sub g w)) []).1 = true := by
  rw [sub_ins, sub_ins, (jo_K _ _).f, JF_two]
  exact mt_of rfl
/-- what is joined is a term -/
theorem jl_ok {a b : Tm} {L : List (Tm × Tm)} (ha : a.ok) (hl : L.length ≤ 999999999) : (jl a b L).1.ok ∧ (jl a b L).1.deep ≤ a.deep := by
  have d1 : 1 ≤ a.deep := by cases a <;> simp only [Tm.deep] <;> omega
  unfold jl
  split
  · exact ⟨ha, Nat.le_refl _⟩
  · split
    · rename_i k e
      have := ixO_lt e
      exact ⟨⟨by omega, by omega⟩, d1⟩
    · exact ⟨⟨by omega, by omega⟩, d1⟩
theorem jn_ok : ∀ (a b : Tm) (L : List (Tm × Tm)), a.ok → L.length + a.parts ≤ 999999999 → (jn a b L).1.ok ∧ (jn a b L).1.deep ≤ a.deep
  | .pr a b, .pr c d, L, h, hl => by
    have hl : L.length + (1 + a.parts + b.parts) ≤ 999999999 := hl
    have h1 := jn_len a c L
    obtain ⟨o1, d1⟩ := jn_ok a c L h.1 (by omega)
    obtain ⟨o2, d2⟩ := jn_ok b d (jn a c L).2 h.2 (by omega)
    refine ⟨⟨o1, o2⟩, ?_⟩
    show 1 + max (jn a c L).1.deep (jn b d (jn a c L).2).1.deep ≤ 1 + max a.deep b.deep
    omega
  | .nm _, _, L, h, hl => by rw [jn_l rfl]; exact jl_ok h (by omega)
  | .nu _, _, L, h, hl => by rw [jn_l rfl]; exact jl_ok h (by omega)
  | .un _, _, L, h, hl => by rw [jn_l rfl]; exact jl_ok h (by omega)
  | .pr a b, .nm _, L, h, hl => by rw [jn_l rfl]; exact jl_ok h (by omega)
  | .pr a b, .nu _, L, h, hl => by rw [jn_l rfl]; exact jl_ok h (by omega)
  | .pr a b, .un _, L, h, hl => by rw [jn_l rfl]; exact jl_ok h (by omega)
theorem jo_ok {a : Tm} (b : Tm) (ha : a.ok) (da : a.deep ≤ 6) : (jo a b).ok ∧ (jo a b).deep ≤ 6 := by
  have p := a.parts_deep 6 da
  obtain ⟨h1, h2⟩ := jn_ok a b [] ha (by show 0 + a.parts ≤ _; omega)
  exact ⟨h1, Nat.le_trans h2 da⟩


/-! ### the law's own joining -/
/-- a term that the law asks about -/
def Gd6 (u : Tm) : Prop := u.ok ∧ u.deep ≤ 6
def LOk (L : List (Tm × Tm)) : Prop := ∀ p ∈ L, p.1.ok ∧ p.2.ok ∧ p.1.deep ≤ 6 ∧ p.2.deep ≤ 6
theorem LOk.snoc {L : List (Tm × Tm)} {a b : Tm} (h : LOk L) (oa : a.ok) (ob : b.ok) (da : a.deep ≤ 6) (db : b.deep ≤ 6) : LOk (L ++ [(a, b)]) := fun p hp => by
  rcases List.mem_append.mp hp with z | z
  · exact h p z
  · rw [List.mem_singleton.mp z]
    exact ⟨oa, ob, da, db⟩
theorem jl_LOk {a b : Tm} {L : List (Tm × Tm)} (h : LOk L) (oa : a.ok) (ob : b.ok) (da : a.deep ≤ 6) (db : b.deep ≤ 6) : LOk (jl a b L).2 := by
  unfold jl
  split
  · exact h
  · split
    · exact h
    · exact h.snoc oa ob da db
theorem jn_LOk : ∀ (a b : Tm) (L : List (Tm × Tm)), LOk L → a.ok → b.ok → a.deep ≤ 6 → b.deep ≤ 6 → LOk (jn a b L).2
  | .pr a b, .pr c d, L, h, oa, ob, da, db => by
    have da : 1 + max a.deep b.deep ≤ 6 := da
    have db : 1 + max c.deep d.deep ≤ 6 := db
    exact jn_LOk b d _ (jn_LOk a c L h oa.1 ob.1 (by omega) (by omega)) oa.2 ob.2 (by omega) (by omega)
  | .nm _, _, L, h, oa, ob, da, db => by rw [jn_l rfl]; exact jl_LOk h oa ob da db
  | .nu _, _, L, h, oa, ob, da, db => by rw [jn_l rfl]; exact jl_LOk h oa ob da db
  | .un _, _, L, h, oa, ob, da, db => by rw [jn_l rfl]; exact jl_LOk h oa ob da db
  | .pr a b, .nm _, L, h, oa, ob, da, db => by rw [jn_l rfl]; exact jl_LOk h oa ob da db
  | .pr a b, .nu _, L, h, oa, ob, da, db => by rw [jn_l rfl]; exact jl_LOk h oa ob da db
  | .pr a b, .un _, L, h, oa, ob, da, db => by rw [jn_l rfl]; exact jl_LOk h oa ob da db
def jS1 : MS := sSet 3 (vAnd (vIsi Kn.isTup (vVar 0)) (v2 pEq (vN pLen (aCons (vVar 0) aNil)) (vC (PyData.int 2))))
def jS2 (self : Mf) : MS := sIf (bAnd (bV (vVar 3)) (bAnd (bV (vIsi Kn.isTup (vVar 1))) (bV (v2 pEq (vN pLen (aCons (vVar 1) aNil)) (vC (PyData.int 2)))))) (sSeq (sSet 4 (vFz (eCallL self [(2, 2)] (rV (v2 pIx (vVar 0) (vC (PyData.int 0))) (rV (v2 pIx (vVar 1) (vC (PyData.int 0))) (rL 2 rNil))))))
  (sRet (vN pTup (aCons (vVar 4) (aCons (vFz (eCallL self [(2, 2)] (rV (v2 pIx (vVar 0) (vC (PyData.int 1))) (rV (v2 pIx (vVar 1) (vC (PyData.int 1))) (rL 2 rNil))))) aNil))))) sNx
def jS3 : MS := sIf (bAnd (bV (v2 pEq (vVar 0) (vVar 1))) (bNot (bV (vIsi Kn.isTup (vVar 0))))) (sRet (vVar 0)) sNx
def jB : MS := sIf (bV (v2 pEq (vIxS 2 (vVar 5)) (vN pTup (aCons (vVar 0) (aCons (vVar 1) aNil))))) (sRet (vN pTup (aCons (vVar 5) aNil))) sNx
def jS5 : MS := sExpr (vApp 2 (vN pTup (aCons (vVar 0) (aCons (vVar 1) aNil))))
def jS6 : MS := sRet (vN pTup (aCons (v2 pSub (vLenS 2) (vC (PyData.int 1))) aNil))
theorem b_l_joined_eq (self : Mf) : b_l_joined self = sSeq jS1 (sSeq (jS2 self) (sSeq jS3 (sSeq (sFor (iRange1 (vLenS 2)) (Tg.nm 5) jB) (sSeq jS5 jS6)))) := rfl
abbrev jE (a b : Tm) (L : List PyData) (x3 x4 x5 : Option T) : MEnv := [some (.f a.d), some (.f b.d), some (tl L), x3, x4, x5]
theorem j_s1 (a b : Tm) (L : List PyData) (x3 x4 x5 : Option T) : jS1 (jE a b L x3 x4 x5) = .ok .nx (jE a b L (some (.f (.bool a.isP))) x4 x5) := by
  cases a <;> rfl
theorem j_s2 {self : Mf} {a b : Tm} {L : List PyData} {x4 x5 : Option T} (h : (a.isP && b.isP) = false) : jS2 self (jE a b L (some (.f (.bool a.isP))) x4 x5) = .ok .nx (jE a b L (some (.f (.bool a.isP))) x4 x5) := by
  cases a <;> cases b <;> first | rfl | cases h
theorem j_s3 {a b : Tm} {L : List PyData} {x3 x4 x5 : Option T} (oa : a.ok) (ob : b.ok) (da : a.deep ≤ 6) (db : b.deep ≤ 6) (h : (a.isP && b.isP) = false) : jS3 (jE a b L x3 x4 x5) = if a = b ∧ a.isU = false then .ok (.rt (.f a.d)) (jE a b L x3 x4 x5) else .ok .nx (jE a b L x3 x4 x5) := by
  have pe := Tm.pEq oa ob (Nat.le_trans da (by decide)) (Nat.le_trans db (by decide))
  unfold jS3
  by_cases c : a = b
  · rw [decide_eq_true c] at pe
    cases eu : a.isU with
    | true =>
      rw [if_neg (fun z => by cases z.2)]
      cases a with
      | un i =>
        have kk : Kn.isTup (knD (Tm.un i).d) = true := rfl
        simp only [k_v1', k_v2', k_c1', k_c2', k_vN', k_not', k_no, k_ys, k_o', k_s1', k_s2', k_s3', k_ch1', k_ch2', k_isi', k_ret', k_retE', k_exp', k_set', k_setE', k_eV', k_lst0, k_lst1, k_lst2, k_call', k_for', k_seqL, k_seqT, look_f, look_l, look_0, moveB_s, x_rNil, k_r1', k_r2', x_rV, k_rL', lookL_s, x_rL, k_ld', x_eCallL, lendB_ok, ld0_0, ld0_1, ld0_2, ld2_0, ld2_1, ld2_2, bd_ok, bd_no, bd_ex, of_some, x_vC, x_vVar, x_v1, x_v2, x_aNil, x_aCons, x_vN, andB_t, andB_f, orB_t, orB_f, ifB_t, ifB_f, x_vAnd, x_vOr, x_bIf, asBk_b, x_bV, x_bNot, x_bAnd, x_bOr, x_oNone, x_oSome, x_asI, x_vSl, chB_t, chB_f, x_vChain, x_vIsi, x_sNx, x_sSeq, th_nx, th_rt, x_sIf, x_sRet, x_sRetE, x_sExpr, x_sSet, x_sSetE, x_eV, fzB_f, x_vFz, x_eMove, x_eLst, callB_ok, callB_ex, x_eCall, x_sFor, x_iSeq, x_end_rt, x_end_nx, x_end_ex, gt_0, gt_s, st_0, st_s, bk_n, bk_y, bk_0, List.map_cons, List.map_nil, List.cons_append, List.nil_append, List.append_nil, List.length_cons, List.length_nil, if_true, if_false, Bool.not_true, Bool.not_false, q_tup1, q_tup2, q_lt, q_gt, q_le, q_ge, q_eq, q_add, q_sub, decide_true, decide_false, lendC_ok, ld11, ld22, keyD_i, dInB_s, k_dIn', x_vDIn, dgC_s, k_dg', dgB_s, x_vDGet, d2C_s, k_d22', k_d21', d2B_s, x_vDGet2, k_dp2', dpB_s, k_dp1', x_sDPut, dsV_s, dsV_n, k_ds2', k_ds1', dsB_s, x_vDSetd, dlB_s, x_vDLen, x_eD0, k_rE1', k_rE2', x_rE, odr_kv, od_kv, odr_dk, od_dk, val_kv, Option.map_some, Option.map_none, Option.isSome_some, Option.isSome_none, Option.getD_some, Option.getD_none, Bool.false_xor, Bool.true_xor, pe, kk]
      | nm _ => cases eu
      | nu _ => cases eu
      | pr _ _ => cases eu
    | false =>
      rw [if_pos ⟨c, rfl⟩]
      cases a with
      | un i => cases eu
      | nm x =>
        have kk : Kn.isTup (knD (Tm.nm x).d) = false := rfl
        simp only [k_v1', k_v2', k_c1', k_c2', k_vN', k_not', k_no, k_ys, k_o', k_s1', k_s2', k_s3', k_ch1', k_ch2', k_isi', k_ret', k_retE', k_exp', k_set', k_setE', k_eV', k_lst0, k_lst1, k_lst2, k_call', k_for', k_seqL, k_seqT, look_f, look_l, look_0, moveB_s, x_rNil, k_r1', k_r2', x_rV, k_rL', lookL_s, x_rL, k_ld', x_eCallL, lendB_ok, ld0_0, ld0_1, ld0_2, ld2_0, ld2_1, ld2_2, bd_ok, bd_no, bd_ex, of_some, x_vC, x_vVar, x_v1, x_v2, x_aNil, x_aCons, x_vN, andB_t, andB_f, orB_t, orB_f, ifB_t, ifB_f, x_vAnd, x_vOr, x_bIf, asBk_b, x_bV, x_bNot, x_bAnd, x_bOr, x_oNone, x_oSome, x_asI, x_vSl, chB_t, chB_f, x_vChain, x_vIsi, x_sNx, x_sSeq, th_nx, th_rt, x_sIf, x_sRet, x_sRetE, x_sExpr, x_sSet, x_sSetE, x_eV, fzB_f, x_vFz, x_eMove, x_eLst, callB_ok, callB_ex, x_eCall, x_sFor, x_iSeq, x_end_rt, x_end_nx, x_end_ex, gt_0, gt_s, st_0, st_s, bk_n, bk_y, bk_0, List.map_cons, List.map_nil, List.cons_append, List.nil_append, List.append_nil, List.length_cons, List.length_nil, if_true, if_false, Bool.not_true, Bool.not_false, q_tup1, q_tup2, q_lt, q_gt, q_le, q_ge, q_eq, q_add, q_sub, decide_true, decide_false, lendC_ok, ld11, ld22, keyD_i, dInB_s, k_dIn', x_vDIn, dgC_s, k_dg', dgB_s, x_vDGet, d2C_s, k_d22', k_d21', d2B_s, x_vDGet2, k_dp2', dpB_s, k_dp1', x_sDPut, dsV_s, dsV_n, k_ds2', k_ds1', dsB_s, x_vDSetd, dlB_s, x_vDLen, x_eD0, k_rE1', k_rE2', x_rE, odr_kv, od_kv, odr_dk, od_dk, val_kv, Option.map_some, Option.map_none, Option.isSome_some, Option.isSome_none, Option.getD_some, Option.getD_none, Bool.false_xor, Bool.true_xor, pe, kk]
      | nu x =>
        have kk : Kn.isTup (knD (Tm.nu x).d) = false := rfl
        simp only [k_v1', k_v2', k_c1', k_c2', k_vN', k_not', k_no, k_ys, k_o', k_s1', k_s2', k_s3', k_ch1', k_ch2', k_isi', k_ret', k_retE', k_exp', k_set', k_setE', k_eV', k_lst0, k_lst1, k_lst2, k_call', k_for', k_seqL, k_seqT, look_f, look_l, look_0, moveB_s, x_rNil, k_r1', k_r2', x_rV, k_rL', lookL_s, x_rL, k_ld', x_eCallL, lendB_ok, ld0_0, ld0_1, ld0_2, ld2_0, ld2_1, ld2_2, bd_ok, bd_no, bd_ex, of_some, x_vC, x_vVar, x_v1, x_v2, x_aNil, x_aCons, x_vN, andB_t, andB_f, orB_t, orB_f, ifB_t, ifB_f, x_vAnd, x_vOr, x_bIf, asBk_b, x_bV, x_bNot, x_bAnd, x_bOr, x_oNone, x_oSome, x_asI, x_vSl, chB_t, chB_f, x_vChain, x_vIsi, x_sNx, x_sSeq, th_nx, th_rt, x_sIf, x_sRet, x_sRetE, x_sExpr, x_sSet, x_sSetE, x_eV, fzB_f, x_vFz, x_eMove, x_eLst, callB_ok, callB_ex, x_eCall, x_sFor, x_iSeq, x_end_rt, x_end_nx, x_end_ex, gt_0, gt_s, st_0, st_s, bk_n, bk_y, bk_0, List.map_cons, List.map_nil, List.cons_append, List.nil_append, List.append_nil, List.length_cons, List.length_nil, if_true, if_false, Bool.not_true, Bool.not_false, q_tup1, q_tup2, q_lt, q_gt, q_le, q_ge, q_eq, q_add, q_sub, decide_true, decide_false, lendC_ok, ld11, ld22, keyD_i, dInB_s, k_dIn', x_vDIn, dgC_s, k_dg', dgB_s, x_vDGet, d2C_s, k_d22', k_d21', d2B_s, x_vDGet2, k_dp2', dpB_s, k_dp1', x_sDPut, dsV_s, dsV_n, k_ds2', k_ds1', dsB_s, x_vDSetd, dlB_s, x_vDLen, x_eD0, k_rE1', k_rE2', x_rE, odr_kv, od_kv, odr_dk, od_dk, val_kv, Option.map_some, Option.map_none, Option.isSome_some, Option.isSome_none, Option.getD_some, Option.getD_none, Bool.false_xor, Bool.true_xor, pe, kk]
      | pr _ _ =>
        subst c
        cases h
  · rw [if_neg (fun z => c z.1)]
    rw [decide_eq_false c] at pe
    simp only [k_v1', k_v2', k_c1', k_c2', k_vN', k_not', k_no, k_ys, k_o', k_s1', k_s2', k_s3', k_ch1', k_ch2', k_isi', k_ret', k_retE', k_exp', k_set', k_setE', k_eV', k_lst0, k_lst1, k_lst2, k_call', k_for', k_seqL, k_seqT, look_f, look_l, look_0, moveB_s, x_rNil, k_r1', k_r2', x_rV, k_rL', lookL_s, x_rL, k_ld', x_eCallL, lendB_ok, ld0_0, ld0_1, ld0_2, ld2_0, ld2_1, ld2_2, bd_ok, bd_no, bd_ex, of_some, x_vC, x_vVar, x_v1, x_v2, x_aNil, x_aCons, x_vN, andB_t, andB_f, orB_t, orB_f, ifB_t, ifB_f, x_vAnd, x_vOr, x_bIf, asBk_b, x_bV, x_bNot, x_bAnd, x_bOr, x_oNone, x_oSome, x_asI, x_vSl, chB_t, chB_f, x_vChain, x_vIsi, x_sNx, x_sSeq, th_nx, th_rt, x_sIf, x_sRet, x_sRetE, x_sExpr, x_sSet, x_sSetE, x_eV, fzB_f, x_vFz, x_eMove, x_eLst, callB_ok, callB_ex, x_eCall, x_sFor, x_iSeq, x_end_rt, x_end_nx, x_end_ex, gt_0, gt_s, st_0, st_s, bk_n, bk_y, bk_0, List.map_cons, List.map_nil, List.cons_append, List.nil_append, List.append_nil, List.length_cons, List.length_nil, if_true, if_false, Bool.not_true, Bool.not_false, q_tup1, q_tup2, q_lt, q_gt, q_le, q_ge, q_eq, q_add, q_sub, decide_true, decide_false, lendC_ok, ld11, ld22, keyD_i, dInB_s, k_dIn', x_vDIn, dgC_s, k_dg', dgB_s, x_vDGet, d2C_s, k_d22', k_d21', d2B_s, x_vDGet2, k_dp2', dpB_s, k_dp1', x_sDPut, dsV_s, dsV_n, k_ds2', k_ds1', dsB_s, x_vDSetd, dlB_s, x_vDLen, x_eD0, k_rE1', k_rE2', x_rE, odr_kv, od_kv, odr_dk, od_dk, val_kv, Option.map_some, Option.map_none, Option.isSome_some, Option.isSome_none, Option.getD_some, Option.getD_none, Bool.false_xor, Bool.true_xor, pe]
theorem j_b {a b : Tm} {L : List (Tm × Tm)} {p : Tm × Tm} {k : Nat} {x3 x4 : Option T} (hk : L[k]? = some p) (hL : LOk L) (oa : a.ok) (ob : b.ok) (da : a.deep ≤ 6) (db : b.deep ≤ 6) : jB (jE a b (L.map pd) x3 x4 (some (.f (.int (k : Int))))) = if p = (a, b) then .ok (.rt (.f (.tuple [.int (k : Int)]))) (jE a b (L.map pd) x3 x4 (some (.f (.int (k : Int))))) else .ok .nx (jE a b (L.map pd) x3 x4 (some (.f (.int (k : Int))))) := by
  have hp := hL p (List.mem_of_getElem? hk)
  have dp : (Tm.pr p.1 p.2).deep ≤ 60 := by
    show 1 + max p.1.deep p.2.deep ≤ 60
    omega
  have dq : (Tm.pr a b).deep ≤ 60 := by
    show 1 + max a.deep b.deep ≤ 60
    omega
  have pe : pEq (pd p) (.tuple [a.d, b.d]) = _ := Tm.pEq (a := .pr p.1 p.2) (b := .pr a b) ⟨hp.1, hp.2.1⟩ ⟨oa, ob⟩ dp dq
  have hx : pIx (.list (L.map pd)) (.int (k : Int)) = some (pd p) := atI_nat (by rw [List.getElem?_map, hk]; rfl)
  have ex : vIxS 2 (vVar 5) (jE a b (L.map pd) x3 x4 (some (.f (.int (k : Int))))) = .ok (pd p) (jE a b (L.map pd) x3 x4 (some (.f (.int (k : Int))))) := run_ixS rfl rfl rfl hx
  unfold jB
  generalize L.map pd = D at ex
  generalize pd p = q at ex pe
  generalize PyData.int (k : Int) = kk at ex
  by_cases c : p = (a, b)
  · rw [if_pos c]
    rw [decide_eq_true (show Tm.pr p.1 p.2 = Tm.pr a b by rw [c])] at pe
    simp only [k_v1', k_v2', k_c1', k_c2', k_vN', k_not', k_no, k_ys, k_o', k_s1', k_s2', k_s3', k_ch1', k_ch2', k_isi', k_ret', k_retE', k_exp', k_set', k_setE', k_eV', k_lst0, k_lst1, k_lst2, k_call', k_for', k_seqL, k_seqT, look_f, look_l, look_0, moveB_s, x_rNil, k_r1', k_r2', x_rV, k_rL', lookL_s, x_rL, k_ld', x_eCallL, lendB_ok, ld0_0, ld0_1, ld0_2, ld2_0, ld2_1, ld2_2, bd_ok, bd_no, bd_ex, of_some, x_vC, x_vVar, x_v1, x_v2, x_aNil, x_aCons, x_vN, andB_t, andB_f, orB_t, orB_f, ifB_t, ifB_f, x_vAnd, x_vOr, x_bIf, asBk_b, x_bV, x_bNot, x_bAnd, x_bOr, x_oNone, x_oSome, x_asI, x_vSl, chB_t, chB_f, x_vChain, x_vIsi, x_sNx, x_sSeq, th_nx, th_rt, x_sIf, x_sRet, x_sRetE, x_sExpr, x_sSet, x_sSetE, x_eV, fzB_f, x_vFz, x_eMove, x_eLst, callB_ok, callB_ex, x_eCall, x_sFor, x_iSeq, x_end_rt, x_end_nx, x_end_ex, gt_0, gt_s, st_0, st_s, bk_n, bk_y, bk_0, List.map_cons, List.map_nil, List.cons_append, List.nil_append, List.append_nil, List.length_cons, List.length_nil, if_true, if_false, Bool.not_true, Bool.not_false, q_tup1, q_tup2, q_lt, q_gt, q_le, q_ge, q_eq, q_add, q_sub, decide_true, decide_false, lendC_ok, ld11, ld22, keyD_i, dInB_s, k_dIn', x_vDIn, dgC_s, k_dg', dgB_s, x_vDGet, d2C_s, k_d22', k_d21', d2B_s, x_vDGet2, k_dp2', dpB_s, k_dp1', x_sDPut, dsV_s, dsV_n, k_ds2', k_ds1', dsB_s, x_vDSetd, dlB_s, x_vDLen, x_eD0, k_rE1', k_rE2', x_rE, odr_kv, od_kv, odr_dk, od_dk, val_kv, Option.map_some, Option.map_none, Option.isSome_some, Option.isSome_none, Option.getD_some, Option.getD_none, Bool.false_xor, Bool.true_xor, ex, pe]
  · rw [if_neg c]
    rw [decide_eq_false (show ¬ Tm.pr p.1 p.2 = Tm.pr a b from fun z => c (by have := Tm.pr.inj z; exact Prod.ext this.1 this.2))] at pe
    simp only [k_v1', k_v2', k_c1', k_c2', k_vN', k_not', k_no, k_ys, k_o', k_s1', k_s2', k_s3', k_ch1', k_ch2', k_isi', k_ret', k_retE', k_exp', k_set', k_setE', k_eV', k_lst0, k_lst1, k_lst2, k_call', k_for', k_seqL, k_seqT, look_f, look_l, look_0, moveB_s, x_rNil, k_r1', k_r2', x_rV, k_rL', lookL_s, x_rL, k_ld', x_eCallL, lendB_ok, ld0_0, ld0_1, ld0_2, ld2_0, ld2_1, ld2_2, bd_ok, bd_no, bd_ex, of_some, x_vC, x_vVar, x_v1, x_v2, x_aNil, x_aCons, x_vN, andB_t, andB_f, orB_t, orB_f, ifB_t, ifB_f, x_vAnd, x_vOr, x_bIf, asBk_b, x_bV, x_bNot, x_bAnd, x_bOr, x_oNone, x_oSome, x_asI, x_vSl, chB_t, chB_f, x_vChain, x_vIsi, x_sNx, x_sSeq, th_nx, th_rt, x_sIf, x_sRet, x_sRetE, x_sExpr, x_sSet, x_sSetE, x_eV, fzB_f, x_vFz, x_eMove, x_eLst, callB_ok, callB_ex, x_eCall, x_sFor, x_iSeq, x_end_rt, x_end_nx, x_end_ex, gt_0, gt_s, st_0, st_s, bk_n, bk_y, bk_0, List.map_cons, List.map_nil, List.cons_append, List.nil_append, List.append_nil, List.length_cons, List.length_nil, if_true, if_false, Bool.not_true, Bool.not_false, q_tup1, q_tup2, q_lt, q_gt, q_le, q_ge, q_eq, q_add, q_sub, decide_true, decide_false, lendC_ok, ld11, ld22, keyD_i, dInB_s, k_dIn', x_vDIn, dgC_s, k_dg', dgB_s, x_vDGet, d2C_s, k_d22', k_d21', d2B_s, x_vDGet2, k_dp2', dpB_s, k_dp1', x_sDPut, dsV_s, dsV_n, k_ds2', k_ds1', dsB_s, x_vDSetd, dlB_s, x_vDLen, x_eD0, k_rE1', k_rE2', x_rE, odr_kv, od_kv, odr_dk, od_dk, val_kv, Option.map_some, Option.map_none, Option.isSome_some, Option.isSome_none, Option.getD_some, Option.getD_none, Bool.false_xor, Bool.true_xor, ex, pe]
theorem j_loop {a b : Tm} {L : List (Tm × Tm)} {x3 x4 : Option T} (hL : LOk L) (oa : a.ok) (ob : b.ok) (da : a.deep ≤ 6) (db : b.deep ≤ 6) : ∀ (R P : List (Tm × Tm)) (x5 : Option T), L = P ++ R →
    (∀ j, ixO R (a, b) = some j → ∃ y, forS (.nm 5) jB (rangeD (P.length : Int) R.length) (jE a b (L.map pd) x3 x4 x5) = .ok (.rt (.f (.tuple [.int ((P.length + j : Nat) : Int)]))) (jE a b (L.map pd) x3 x4 y)) ∧
    (ixO R (a, b) = none → ∃ y, forS (.nm 5) jB (rangeD (P.length : Int) R.length) (jE a b (L.map pd) x3 x4 x5) = .ok .nx (jE a b (L.map pd) x3 x4 y))
  | [], P, x5, _ => ⟨fun j h => (by cases h), fun _ => ⟨x5, rfl⟩⟩
  | p :: R, P, x5, e => by
    have hk : L[P.length]? = some p := by
      rw [e, List.getElem?_append_right (Nat.le_refl _), Nat.sub_self]
      rfl
    have eb := j_b (x3 := x3) (x4 := x4) hk hL oa ob da db
    obtain ⟨i1, i2⟩ := j_loop (x3 := x3) (x4 := x4) hL oa ob da db R (P ++ [p]) (some (.f (.int (P.length : Int)))) (by rw [e, List.append_assoc]; rfl)
    have el : (P ++ [p]).length = P.length + 1 := by rw [List.length_append]; rfl
    rw [el, show ((P.length + 1 : Nat) : Int) = (P.length : Int) + 1 by omega] at i1 i2
    have es : forS (.nm 5) jB (rangeD (P.length : Int) (p :: R).length) (jE a b (L.map pd) x3 x4 x5) = (jB (jE a b (L.map pd) x3 x4 (some (.f (.int (P.length : Int)))))).bd (k_fr (.nm 5) jB (rangeD ((P.length : Int) + 1) R.length)) := by
      rw [List.length_cons, range_cons, forS_nm]
      rfl
    rw [es, eb]
    have ei : ixO (p :: R) (a, b) = if p = (a, b) then some 0 else (ixO R (a, b)).map (· + 1) := rfl
    by_cases c : p = (a, b)
    · rw [if_pos c, ei, if_pos c]
      refine ⟨fun j h => ?_, fun h => by cases h⟩
      cases h
      exact ⟨_, rfl⟩
    · rw [if_neg c, ei, if_neg c, bd_ok, fr_nx]
      refine ⟨fun j h => ?_, fun h => ?_⟩
      · cases e2 : ixO R (a, b) with
        | none =>
          rw [e2] at h
          cases h
        | some i =>
          rw [e2] at h
          have h : i + 1 = j := Option.some.inj h
          obtain ⟨y, i1⟩ := i1 i e2
          refine ⟨y, ?_⟩
          rw [i1, ← h, show P.length + 1 + i = P.length + (i + 1) by omega]
      · cases e2 : ixO R (a, b) with
        | none => exact i2 e2
        | some i =>
          rw [e2] at h
          cases h
theorem j_range {a b : Tm} {D : List PyData} {x3 x4 x5 : Option T} (hl : D.length ≤ 1000) : iRange1 (vLenS 2) (jE a b D x3 x4 x5) = .ok (rangeD (0 : Int) D.length) (jE a b D x3 x4 x5) := by
  have e1 : vLenS 2 (jE a b D x3 x4 x5) = .ok (.int (D.length : Int)) (jE a b D x3 x4 x5) := by
    unfold vLenS
    show (match ol (some (tl D)) with | some _ => _ | none => _) = _
    rw [ol_tl]
  unfold iRange1
  rw [e1, bd_ok]
  show (if _ then _ else _) = _
  rw [if_pos ⟨by omega, by omega⟩]
  rfl
theorem j_s5 {a b : Tm} {L : List (Tm × Tm)} {x3 x4 x5 : Option T} (hl : L.length ≤ 1000) : jS5 (jE a b (L.map pd) x3 x4 x5) = .ok .nx (jE a b ((L ++ [(a, b)]).map pd) x3 x4 x5) := by
  have e1 : vN pTup (aCons (vVar 0) (aCons (vVar 1) aNil)) (jE a b (L.map pd) x3 x4 x5) = .ok (pd (a, b)) (jE a b (L.map pd) x3 x4 x5) := rfl
  have e2 := run_app (i := 2) (ds := L.map pd) rfl e1 rfl (Nat.lt_of_le_of_lt (by rw [List.length_map]; exact hl) (show 1000 < sizeLine by decide))
  unfold jS5
  show (vApp 2 _ _).bd _ = _
  rw [e2, bd_ok, List.map_append]
  rfl
theorem j_s6 {a b : Tm} {D : List PyData} {d : PyData} {x3 x4 x5 : Option T} (hl : D.length ≤ 1000) : jS6 (jE a b (D ++ [d]) x3 x4 x5) = .ok (.rt (.f (.tuple [.int (D.length : Int)]))) (jE a b (D ++ [d]) x3 x4 x5) := by
  have e1 : vLenS 2 (jE a b (D ++ [d]) x3 x4 x5) = .ok (.int ((D.length : Int) + 1)) (jE a b (D ++ [d]) x3 x4 x5) := by
    unfold vLenS
    show (match ol (some (tl (D ++ [d]))) with | some _ => _ | none => _) = _
    rw [ol_tl]
    show Ou.ok (PyData.int (((D ++ [d]).length : Nat) : Int)) _ = _
    rw [List.length_append]
    rfl
  have e2 : pSub (.int ((D.length : Int) + 1)) (.int 1) = some (.int (D.length : Int)) := by
    show some (PyData.int _) = _
    rw [show (D.length : Int) + 1 - 1 = (D.length : Int) by omega]
  unfold jS6
  generalize D ++ [d] = D' at e1
  generalize PyData.int ((D.length : Int) + 1) = q at e1 e2
  simp only [k_v1', k_v2', k_c1', k_c2', k_vN', k_not', k_no, k_ys, k_o', k_s1', k_s2', k_s3', k_ch1', k_ch2', k_isi', k_ret', k_retE', k_exp', k_set', k_setE', k_eV', k_lst0, k_lst1, k_lst2, k_call', k_for', k_seqL, k_seqT, look_f, look_l, look_0, moveB_s, x_rNil, k_r1', k_r2', x_rV, k_rL', lookL_s, x_rL, k_ld', x_eCallL, lendB_ok, ld0_0, ld0_1, ld0_2, ld2_0, ld2_1, ld2_2, bd_ok, bd_no, bd_ex, of_some, x_vC, x_vVar, x_v1, x_v2, x_aNil, x_aCons, x_vN, andB_t, andB_f, orB_t, orB_f, ifB_t, ifB_f, x_vAnd, x_vOr, x_bIf, asBk_b, x_bV, x_bNot, x_bAnd, x_bOr, x_oNone, x_oSome, x_asI, x_vSl, chB_t, chB_f, x_vChain, x_vIsi, x_sNx, x_sSeq, th_nx, th_rt, x_sIf, x_sRet, x_sRetE, x_sExpr, x_sSet, x_sSetE, x_eV, fzB_f, x_vFz, x_eMove, x_eLst, callB_ok, callB_ex, x_eCall, x_sFor, x_iSeq, x_end_rt, x_end_nx, x_end_ex, gt_0, gt_s, st_0, st_s, bk_n, bk_y, bk_0, List.map_cons, List.map_nil, List.cons_append, List.nil_append, List.append_nil, List.length_cons, List.length_nil, if_true, if_false, Bool.not_true, Bool.not_false, q_tup1, q_tup2, q_lt, q_gt, q_le, q_ge, q_eq, q_add, q_sub, decide_true, decide_false, lendC_ok, ld11, ld22, keyD_i, dInB_s, k_dIn', x_vDIn, dgC_s, k_dg', dgB_s, x_vDGet, d2C_s, k_d22', k_d21', d2B_s, x_vDGet2, k_dp2', dpB_s, k_dp1', x_sDPut, dsV_s, dsV_n, k_ds2', k_ds1', dsB_s, x_vDSetd, dlB_s, x_vDLen, x_eD0, k_rE1', k_rE2', x_rE, odr_kv, od_kv, odr_dk, od_dk, val_kv, Option.map_some, Option.map_none, Option.isSome_some, Option.isSome_none, Option.getD_some, Option.getD_none, Bool.false_xor, Bool.true_xor, e1, e2]
theorem e_l_joined : ∀ (a b : Tm) (L : List (Tm × Tm)) (n : Nat), a.deep ≤ n → LOk L → a.ok → b.ok → a.deep ≤ 6 → b.deep ≤ 6 → L.length + a.parts ≤ 1000 → m_l_joined n [.f a.d, .f b.d, tl (L.map pd)] = .ok (.f (jn a b L).1.d) [none, none, some (tl ((jn a b L).2.map pd))] := by
  have leaf : ∀ (a b : Tm) (L : List (Tm × Tm)) (n : Nat), (a.isP && b.isP) = false → LOk L → a.ok → b.ok → a.deep ≤ 6 → b.deep ≤ 6 → L.length + a.parts ≤ 1000 → m_l_joined (n + 1) [.f a.d, .f b.d, tl (L.map pd)] = .ok (.f (jn a b L).1.d) [none, none, some (tl ((jn a b L).2.map pd))] := by
    intro a b L n hP hL oa ob da db ll
    rw [show m_l_joined (n + 1) [.f a.d, .f b.d, tl (L.map pd)] = endF [false, false, true] (b_l_joined (m_l_joined n) (jE a b (L.map pd) none none none)) from mFn2 rfl rfl, b_l_joined_eq, x_sSeq, j_s1, bd_ok, th_nx, x_sSeq, j_s2 hP, bd_ok, th_nx, x_sSeq, j_s3 oa ob da db hP, jn_l hP]
    unfold jl
    by_cases c : a = b ∧ a.isU = false
    · rw [if_pos c, if_pos c]
      rfl
    · rw [if_neg c, if_neg c, bd_ok, th_nx, x_sSeq, x_sFor, j_range (by rw [List.length_map]; omega), bd_ok, k_for', List.length_map]
      obtain ⟨i1, i2⟩ := j_loop (x3 := some (.f (.bool a.isP))) (x4 := none) hL oa ob da db L [] none rfl
      cases e : ixO L (a, b) with
      | some k =>
        obtain ⟨y, i1⟩ := i1 k e
        rw [List.length_nil, Nat.zero_add] at i1
        rw [show (0 : Int) = ((0 : Nat) : Int) from rfl, i1]
        rfl
      | none =>
        obtain ⟨y, i2⟩ := i2 e
        rw [List.length_nil] at i2
        rw [show (0 : Int) = ((0 : Nat) : Int) from rfl, i2, bd_ok, th_nx, x_sSeq, j_s5 (by omega), bd_ok, th_nx, List.map_append]
        have e6 := j_s6 (a := a) (b := b) (D := L.map pd) (d := pd (a, b)) (x3 := some (.f (.bool a.isP))) (x4 := none) (x5 := y) (by rw [List.length_map]; omega)
        rw [List.length_map] at e6
        show endF [false, false, true] (jS6 (jE a b (L.map pd ++ [pd (a, b)]) _ _ _)) = _
        rw [e6]
        rfl
  intro a
  induction a with
  | pr a1 a2 ih1 ih2 =>
    intro b L n h hL oa ob da db ll
    have h : 1 + max a1.deep a2.deep ≤ n := h
    obtain ⟨m, rfl⟩ : ∃ m, n = m + 1 := ⟨n - 1, by omega⟩
    cases b with
    | pr b1 b2 =>
      have da' : 1 + max a1.deep a2.deep ≤ 6 := da
      have db' : 1 + max b1.deep b2.deep ≤ 6 := db
      have ll : L.length + (1 + a1.parts + a2.parts) ≤ 1000 := ll
      have i1 := ih1 b1 L m (by omega) hL oa.1 ob.1 (by omega) (by omega) (by omega)
      have l1 := jn_len a1 b1 L
      have i2 := ih2 b2 (jn a1 b1 L).2 m (by omega) (jn_LOk a1 b1 L hL oa.1 ob.1 (by omega) (by omega)) oa.2 ob.2 (by omega) (by omega) (by omega)
      rw [show m_l_joined (m + 1) [.f (Tm.pr a1 a2).d, .f (Tm.pr b1 b2).d, tl (L.map pd)] = endF [false, false, true] (b_l_joined (m_l_joined m) (jE (.pr a1 a2) (.pr b1 b2) (L.map pd) none none none)) from mFn2 rfl rfl, b_l_joined_eq, x_sSeq, j_s1, bd_ok, th_nx, x_sSeq]
      show endF [false, false, true] ((jS2 (m_l_joined m) [some (.f (.tuple [a1.d, a2.d])), some (.f (.tuple [b1.d, b2.d])), some (tl (L.map pd)), some (.f (.bool true)), none, none]).bd _) = .ok (.f (.tuple [(jn a1 b1 L).1.d, (jn a2 b2 (jn a1 b1 L).2).1.d])) [none, none, some (tl ((jn a2 b2 (jn a1 b1 L).2).2.map pd))]
      unfold jS2
      generalize m_l_joined m = self at i1 i2
      generalize (jn a2 b2 (jn a1 b1 L).2).1.d = r2 at i2
      generalize tl ((jn a2 b2 (jn a1 b1 L).2).2.map pd) = t2 at i2
      generalize (jn a1 b1 L).1.d = r1 at i1
      generalize tl ((jn a1 b1 L).2.map pd) = t1 at i1 i2
      generalize tl (L.map pd) = t0 at i1
      simp only [k_v1', k_v2', k_c1', k_c2', k_vN', k_not', k_no, k_ys, k_o', k_s1', k_s2', k_s3', k_ch1', k_ch2', k_isi', k_ret', k_retE', k_exp', k_set', k_setE', k_eV', k_lst0, k_lst1, k_lst2, k_call', k_for', k_seqL, k_seqT, look_f, look_l, look_0, moveB_s, x_rNil, k_r1', k_r2', x_rV, k_rL', lookL_s, x_rL, k_ld', x_eCallL, lendB_ok, ld0_0, ld0_1, ld0_2, ld2_0, ld2_1, ld2_2, bd_ok, bd_no, bd_ex, of_some, x_vC, x_vVar, x_v1, x_v2, x_aNil, x_aCons, x_vN, andB_t, andB_f, orB_t, orB_f, ifB_t, ifB_f, x_vAnd, x_vOr, x_bIf, asBk_b, x_bV, x_bNot, x_bAnd, x_bOr, x_oNone, x_oSome, x_asI, x_vSl, chB_t, chB_f, x_vChain, x_vIsi, x_sNx, x_sSeq, th_nx, th_rt, x_sIf, x_sRet, x_sRetE, x_sExpr, x_sSet, x_sSetE, x_eV, fzB_f, x_vFz, x_eMove, x_eLst, callB_ok, callB_ex, x_eCall, x_sFor, x_iSeq, x_end_rt, x_end_nx, x_end_ex, gt_0, gt_s, st_0, st_s, bk_n, bk_y, bk_0, List.map_cons, List.map_nil, List.cons_append, List.nil_append, List.append_nil, List.length_cons, List.length_nil, if_true, if_false, Bool.not_true, Bool.not_false, q_tup1, q_tup2, q_lt, q_gt, q_le, q_ge, q_eq, q_add, q_sub, decide_true, decide_false, lendC_ok, ld11, ld22, keyD_i, dInB_s, k_dIn', x_vDIn, dgC_s, k_dg', dgB_s, x_vDGet, d2C_s, k_d22', k_d21', d2B_s, x_vDGet2, k_dp2', dpB_s, k_dp1', x_sDPut, dsV_s, dsV_n, k_ds2', k_ds1', dsB_s, x_vDSetd, dlB_s, x_vDLen, x_eD0, k_rE1', k_rE2', x_rE, odr_kv, od_kv, odr_dk, od_dk, val_kv, Option.map_some, Option.map_none, Option.isSome_some, Option.isSome_none, Option.getD_some, Option.getD_none, Bool.false_xor, Bool.true_xor, knT, q_len2, d22, q_ix20, q_ix21, i1, i2]
    | nm _ => exact leaf _ _ L m rfl hL oa ob da db ll
    | nu _ => exact leaf _ _ L m rfl hL oa ob da db ll
    | un _ => exact leaf _ _ L m rfl hL oa ob da db ll
  | nm x =>
    intro b L n h hL oa ob da db ll
    obtain ⟨m, rfl⟩ : ∃ m, n = m + 1 := ⟨n - 1, by have h : 1 ≤ n := h; omega⟩
    exact leaf _ _ L m rfl hL oa ob da db ll
  | nu x =>
    intro b L n h hL oa ob da db ll
    obtain ⟨m, rfl⟩ : ∃ m, n = m + 1 := ⟨n - 1, by have h : 1 ≤ n := h; omega⟩
    exact leaf _ _ L m rfl hL oa ob da db ll
  | un x =>
    intro b L n h hL oa ob da db ll
    obtain ⟨m, rfl⟩ : ∃ m, n = m + 1 := ⟨n - 1, by have h : 1 ≤ n := h; omega⟩
    exact leaf _ _ L m rfl hL oa ob da db ll


/-! ### right joined -/
noncomputable def rS1 : MS := sSet 2 (vFz (eCall m_joined [] (aCons (vVar 0) (aCons (vVar 1) aNil))))
def rS2 : MS := sIf (bV (v2 pNe (vVar 2) (vFz (eCallL (m_l_joined 120) [] (rV (vVar 0) (rV (vVar 1) (rE (eLst aNil) rNil))))))) (sRet (vC (PyData.bool false))) sNx
def rS3 : MS := sIf (bOr (bV (v2 (pIsNone false) (vFz (eCall m_instance [] (aCons (vVar 2) (aCons (vVar 0) aNil)))) (vC PyData.none))) (bV (v2 (pIsNone false) (vFz (eCall m_instance [] (aCons (vVar 2) (aCons (vVar 1) aNil)))) (vC PyData.none)))) (sRet (vC (PyData.bool false))) sNx
noncomputable def rS4 : MS := sIf (bNot (bV (vFz (eCall m_are_variants [] (aCons (vFz (eCall m_joined [] (aCons (vVar 1) (aCons (vVar 0) aNil)))) (aCons (vVar 2) aNil)))))) (sRet (vC (PyData.bool false))) sNx
def rS5 : MS := sIf (bAnd (bV (v2 (pIsNone true) (vFz (eCall m_instance [] (aCons (vVar 0) (aCons (vVar 1) aNil)))) (vC PyData.none))) (bNot (bV (vFz (eCall m_are_variants [] (aCons (vVar 2) (aCons (vVar 0) aNil))))))) (sRet (vC (PyData.bool false))) sNx
noncomputable def rS6 : MS := sRet (vAnd (vFz (eCall m_are_variants [] (aCons (vFz (eCall m_joined [] (aCons (vVar 2) (aCons (vVar 0) aNil)))) (aCons (vVar 2) aNil)))) (vFz (eCall m_are_variants [] (aCons (vFz (eCall m_joined [] (aCons (vVar 0) (aCons (vVar 0) aNil)))) (aCons (vVar 0) aNil)))))
theorem b_l_right_eq : b_l_right = sSeq rS1 (sSeq rS2 (sSeq rS3 (sSeq rS4 (sSeq rS5 rS6)))) := rfl
theorem isNf_l (ds : List PyData) : pIsNone false (.list ds) .none = some (.bool false) := rfl
theorem isNt_l (ds : List PyData) : pIsNone true (.list ds) .none = some (.bool true) := rfl
theorem isNt_n : pIsNone true .none .none = some (.bool false) := rfl
theorem e_vars {a b : Tm} (ha : Gd6 a) (hb : Gd6 b) (h1 : (mt a b []).1 = true) (h2 : (mt b a []).1 = true) : m_are_variants [.f a.d, .f b.d] = .ok (.f (.bool true)) [none, none] := by
  rw [e_variants ha.1 hb.1 ha.2 hb.2, h1, h2]
  rfl
theorem e_inst {w t : Tm} (hw : Gd6 w) (ht : Gd6 t) (h : (mt w t []).1 = true) : m_instance [.f w.d, .f t.d] = .ok (tl (itD (mt w t []).2)) [none, none] := by
  rw [e_instance hw.1 ht.1 hw.2 ht.2, told_t h]
theorem e_jo {a b : Tm} (ha : Gd6 a) (hb : Gd6 b) : m_joined [.f a.d, .f b.d] = .ok (.f (jo a b).d) [none, none] := e_joined ha.1 hb.1 ha.2 hb.2
theorem e_ljo {a b : Tm} (ha : Gd6 a) (hb : Gd6 b) : ∃ t, m_l_joined 120 [.f a.d, .f b.d, tl []] = .ok (.f (jo a b).d) [none, none, some t] := by
  have p := a.parts_deep 6 ha.2
  exact ⟨_, e_l_joined a b [] 120 (by have := ha.2; omega) (fun _ z => nomatch z) ha.1 hb.1 ha.2 hb.2 (by show 0 + a.parts ≤ 1000; omega)⟩
theorem jo_G {a : Tm} (b : Tm) (ha : Gd6 a) : Gd6 (jo a b) := jo_ok b ha.1 ha.2
theorem ld003 {m : Mf} {a b c : T} {ρ : MEnv} : lendCall m [] [some a, some b, some c] ρ = callB ρ (m [a, b, c]) := lend0 rfl
theorem e_right12 {a b : Tm} (ha : Gd6 a) (hb : Gd6 b) : m_l_right [.f a.d, .f b.d] = .ok (.f (.bool true)) [none, none] := by
  rw [show m_l_right [.f a.d, .f b.d] = endF [false, false] (b_l_right [some (.f a.d), some (.f b.d), none]) from mFn2 rfl rfl, b_l_right_eq]
  have hj := jo_G b ha
  have s1 : rS1 [some (.f a.d), some (.f b.d), none] = .ok .nx [some (.f a.d), some (.f b.d), some (.f (jo a b).d)] := by
    have e := e_jo ha hb
    unfold rS1
    generalize m_joined = m at e
    simp only [k_v1', k_v2', k_c1', k_c2', k_vN', k_not', k_no, k_ys, k_o', k_s1', k_s2', k_s3', k_ch1', k_ch2', k_isi', k_ret', k_retE', k_exp', k_set', k_setE', k_eV', k_lst0, k_lst1, k_lst2, k_call', k_for', k_seqL, k_seqT, look_f, look_l, look_0, moveB_s, x_rNil, k_r1', k_r2', x_rV, k_rL', lookL_s, x_rL, k_ld', x_eCallL, lendB_ok, ld0_0, ld0_1, ld0_2, ld2_0, ld2_1, ld2_2, bd_ok, bd_no, bd_ex, of_some, x_vC, x_vVar, x_v1, x_v2, x_aNil, x_aCons, x_vN, andB_t, andB_f, orB_t, orB_f, ifB_t, ifB_f, x_vAnd, x_vOr, x_bIf, asBk_b, x_bV, x_bNot, x_bAnd, x_bOr, x_oNone, x_oSome, x_asI, x_vSl, chB_t, chB_f, x_vChain, x_vIsi, x_sNx, x_sSeq, th_nx, th_rt, x_sIf, x_sRet, x_sRetE, x_sExpr, x_sSet, x_sSetE, x_eV, fzB_f, x_vFz, x_eMove, x_eLst, callB_ok, callB_ex, x_eCall, x_sFor, x_iSeq, x_end_rt, x_end_nx, x_end_ex, gt_0, gt_s, st_0, st_s, bk_n, bk_y, bk_0, List.map_cons, List.map_nil, List.cons_append, List.nil_append, List.append_nil, List.length_cons, List.length_nil, if_true, if_false, Bool.not_true, Bool.not_false, q_tup1, q_tup2, q_lt, q_gt, q_le, q_ge, q_eq, q_add, q_sub, decide_true, decide_false, lendC_ok, ld11, ld22, keyD_i, dInB_s, k_dIn', x_vDIn, dgC_s, k_dg', dgB_s, x_vDGet, d2C_s, k_d22', k_d21', d2B_s, x_vDGet2, k_dp2', dpB_s, k_dp1', x_sDPut, dsV_s, dsV_n, k_ds2', k_ds1', dsB_s, x_vDSetd, dlB_s, x_vDLen, x_eD0, k_rE1', k_rE2', x_rE, odr_kv, od_kv, odr_dk, od_dk, val_kv, Option.map_some, Option.map_none, Option.isSome_some, Option.isSome_none, Option.getD_some, Option.getD_none, Bool.false_xor, Bool.true_xor, e]
  have s2 : rS2 [some (.f a.d), some (.f b.d), some (.f (jo a b).d)] = .ok .nx [some (.f a.d), some (.f b.d), some (.f (jo a b).d)] := by
    obtain ⟨t, e⟩ := e_ljo ha hb
    have pe := Tm.pNe hj.1 hj.1 (Nat.le_trans hj.2 (by decide)) (Nat.le_trans hj.2 (by decide))
    rw [decide_eq_true rfl] at pe
    have e : m_l_joined 120 [.f a.d, .f b.d, .lst []] = .ok (.f (jo a b).d) [none, none, some t] := e
    unfold rS2
    generalize m_l_joined 120 = m at e
    simp only [k_v1', k_v2', k_c1', k_c2', k_vN', k_not', k_no, k_ys, k_o', k_s1', k_s2', k_s3', k_ch1', k_ch2', k_isi', k_ret', k_retE', k_exp', k_set', k_setE', k_eV', k_lst0, k_lst1, k_lst2, k_call', k_for', k_seqL, k_seqT, look_f, look_l, look_0, moveB_s, x_rNil, k_r1', k_r2', x_rV, k_rL', lookL_s, x_rL, k_ld', x_eCallL, lendB_ok, ld0_0, ld0_1, ld0_2, ld2_0, ld2_1, ld2_2, bd_ok, bd_no, bd_ex, of_some, x_vC, x_vVar, x_v1, x_v2, x_aNil, x_aCons, x_vN, andB_t, andB_f, orB_t, orB_f, ifB_t, ifB_f, x_vAnd, x_vOr, x_bIf, asBk_b, x_bV, x_bNot, x_bAnd, x_bOr, x_oNone, x_oSome, x_asI, x_vSl, chB_t, chB_f, x_vChain, x_vIsi, x_sNx, x_sSeq, th_nx, th_rt, x_sIf, x_sRet, x_sRetE, x_sExpr, x_sSet, x_sSetE, x_eV, fzB_f, x_vFz, x_eMove, x_eLst, callB_ok, callB_ex, x_eCall, x_sFor, x_iSeq, x_end_rt, x_end_nx, x_end_ex, gt_0, gt_s, st_0, st_s, bk_n, bk_y, bk_0, List.map_cons, List.map_nil, List.cons_append, List.nil_append, List.append_nil, List.length_cons, List.length_nil, if_true, if_false, Bool.not_true, Bool.not_false, q_tup1, q_tup2, q_lt, q_gt, q_le, q_ge, q_eq, q_add, q_sub, decide_true, decide_false, lendC_ok, ld11, ld22, keyD_i, dInB_s, k_dIn', x_vDIn, dgC_s, k_dg', dgB_s, x_vDGet, d2C_s, k_d22', k_d21', d2B_s, x_vDGet2, k_dp2', dpB_s, k_dp1', x_sDPut, dsV_s, dsV_n, k_ds2', k_ds1', dsB_s, x_vDSetd, dlB_s, x_vDLen, x_eD0, k_rE1', k_rE2', x_rE, odr_kv, od_kv, odr_dk, od_dk, val_kv, Option.map_some, Option.map_none, Option.isSome_some, Option.isSome_none, Option.getD_some, Option.getD_none, Bool.false_xor, Bool.true_xor, ld003, e, pe]
  have s3 : rS3 [some (.f a.d), some (.f b.d), some (.f (jo a b).d)] = .ok .nx [some (.f a.d), some (.f b.d), some (.f (jo a b).d)] := by
    have e1 := e_inst hj ha (jo_left a b)
    have e2 := e_inst hj hb (jo_right a b)
    generalize itD (mt (jo a b) a []).2 = D1 at e1
    generalize itD (mt (jo a b) b []).2 = D2 at e2
    have f1 : ∀ (ρ : MEnv), fzB (tl D1) ρ = .ok (.list D1) ρ := fun ρ => fzB_l _
    have f2 : ∀ (ρ : MEnv), fzB (tl D2) ρ = .ok (.list D2) ρ := fun ρ => fzB_l _
    unfold rS3
    generalize m_instance = m at e1 e2
    generalize tl D1 = t1 at e1 f1
    generalize tl D2 = t2 at e2 f2
    simp only [k_v1', k_v2', k_c1', k_c2', k_vN', k_not', k_no, k_ys, k_o', k_s1', k_s2', k_s3', k_ch1', k_ch2', k_isi', k_ret', k_retE', k_exp', k_set', k_setE', k_eV', k_lst0, k_lst1, k_lst2, k_call', k_for', k_seqL, k_seqT, look_f, look_l, look_0, moveB_s, x_rNil, k_r1', k_r2', x_rV, k_rL', lookL_s, x_rL, k_ld', x_eCallL, lendB_ok, ld0_0, ld0_1, ld0_2, ld2_0, ld2_1, ld2_2, bd_ok, bd_no, bd_ex, of_some, x_vC, x_vVar, x_v1, x_v2, x_aNil, x_aCons, x_vN, andB_t, andB_f, orB_t, orB_f, ifB_t, ifB_f, x_vAnd, x_vOr, x_bIf, asBk_b, x_bV, x_bNot, x_bAnd, x_bOr, x_oNone, x_oSome, x_asI, x_vSl, chB_t, chB_f, x_vChain, x_vIsi, x_sNx, x_sSeq, th_nx, th_rt, x_sIf, x_sRet, x_sRetE, x_sExpr, x_sSet, x_sSetE, x_eV, fzB_f, x_vFz, x_eMove, x_eLst, callB_ok, callB_ex, x_eCall, x_sFor, x_iSeq, x_end_rt, x_end_nx, x_end_ex, gt_0, gt_s, st_0, st_s, bk_n, bk_y, bk_0, List.map_cons, List.map_nil, List.cons_append, List.nil_append, List.append_nil, List.length_cons, List.length_nil, if_true, if_false, Bool.not_true, Bool.not_false, q_tup1, q_tup2, q_lt, q_gt, q_le, q_ge, q_eq, q_add, q_sub, decide_true, decide_false, lendC_ok, ld11, ld22, keyD_i, dInB_s, k_dIn', x_vDIn, dgC_s, k_dg', dgB_s, x_vDGet, d2C_s, k_d22', k_d21', d2B_s, x_vDGet2, k_dp2', dpB_s, k_dp1', x_sDPut, dsV_s, dsV_n, k_ds2', k_ds1', dsB_s, x_vDSetd, dlB_s, x_vDLen, x_eD0, k_rE1', k_rE2', x_rE, odr_kv, od_kv, odr_dk, od_dk, val_kv, Option.map_some, Option.map_none, Option.isSome_some, Option.isSome_none, Option.getD_some, Option.getD_none, Bool.false_xor, Bool.true_xor, e1, e2, f1, f2, isNf_l]
  have s4 : rS4 [some (.f a.d), some (.f b.d), some (.f (jo a b).d)] = .ok .nx [some (.f a.d), some (.f b.d), some (.f (jo a b).d)] := by
    have e1 := e_jo hb ha
    rw [jo_comm] at e1
    have e2 := e_vars hj hj (mt_self _) (mt_self _)
    unfold rS4
    generalize m_joined = m1 at e1
    generalize m_are_variants = m2 at e2
    simp only [k_v1', k_v2', k_c1', k_c2', k_vN', k_not', k_no, k_ys, k_o', k_s1', k_s2', k_s3', k_ch1', k_ch2', k_isi', k_ret', k_retE', k_exp', k_set', k_setE', k_eV', k_lst0, k_lst1, k_lst2, k_call', k_for', k_seqL, k_seqT, look_f, look_l, look_0, moveB_s, x_rNil, k_r1', k_r2', x_rV, k_rL', lookL_s, x_rL, k_ld', x_eCallL, lendB_ok, ld0_0, ld0_1, ld0_2, ld2_0, ld2_1, ld2_2, bd_ok, bd_no, bd_ex, of_some, x_vC, x_vVar, x_v1, x_v2, x_aNil, x_aCons, x_vN, andB_t, andB_f, orB_t, orB_f, ifB_t, ifB_f, x_vAnd, x_vOr, x_bIf, asBk_b, x_bV, x_bNot, x_bAnd, x_bOr, x_oNone, x_oSome, x_asI, x_vSl, chB_t, chB_f, x_vChain, x_vIsi, x_sNx, x_sSeq, th_nx, th_rt, x_sIf, x_sRet, x_sRetE, x_sExpr, x_sSet, x_sSetE, x_eV, fzB_f, x_vFz, x_eMove, x_eLst, callB_ok, callB_ex, x_eCall, x_sFor, x_iSeq, x_end_rt, x_end_nx, x_end_ex, gt_0, gt_s, st_0, st_s, bk_n, bk_y, bk_0, List.map_cons, List.map_nil, List.cons_append, List.nil_append, List.append_nil, List.length_cons, List.length_nil, if_true, if_false, Bool.not_true, Bool.not_false, q_tup1, q_tup2, q_lt, q_gt, q_le, q_ge, q_eq, q_add, q_sub, decide_true, decide_false, lendC_ok, ld11, ld22, keyD_i, dInB_s, k_dIn', x_vDIn, dgC_s, k_dg', dgB_s, x_vDGet, d2C_s, k_d22', k_d21', d2B_s, x_vDGet2, k_dp2', dpB_s, k_dp1', x_sDPut, dsV_s, dsV_n, k_ds2', k_ds1', dsB_s, x_vDSetd, dlB_s, x_vDLen, x_eD0, k_rE1', k_rE2', x_rE, odr_kv, od_kv, odr_dk, od_dk, val_kv, Option.map_some, Option.map_none, Option.isSome_some, Option.isSome_none, Option.getD_some, Option.getD_none, Bool.false_xor, Bool.true_xor, e1, e2]
  have s5 : rS5 [some (.f a.d), some (.f b.d), some (.f (jo a b).d)] = .ok .nx [some (.f a.d), some (.f b.d), some (.f (jo a b).d)] := by
    cases h : (mt a b []).1 with
    | true =>
      have e1 := e_inst ha hb h
      have e2 := e_vars hj ha (jo_left a b) (jo_inst h)
      generalize itD (mt a b []).2 = D1 at e1
      have f1 : ∀ (ρ : MEnv), fzB (tl D1) ρ = .ok (.list D1) ρ := fun ρ => fzB_l _
      unfold rS5
      generalize m_instance = m1 at e1
      generalize m_are_variants = m2 at e2
      generalize tl D1 = t1 at e1 f1
      simp only [k_v1', k_v2', k_c1', k_c2', k_vN', k_not', k_no, k_ys, k_o', k_s1', k_s2', k_s3', k_ch1', k_ch2', k_isi', k_ret', k_retE', k_exp', k_set', k_setE', k_eV', k_lst0, k_lst1, k_lst2, k_call', k_for', k_seqL, k_seqT, look_f, look_l, look_0, moveB_s, x_rNil, k_r1', k_r2', x_rV, k_rL', lookL_s, x_rL, k_ld', x_eCallL, lendB_ok, ld0_0, ld0_1, ld0_2, ld2_0, ld2_1, ld2_2, bd_ok, bd_no, bd_ex, of_some, x_vC, x_vVar, x_v1, x_v2, x_aNil, x_aCons, x_vN, andB_t, andB_f, orB_t, orB_f, ifB_t, ifB_f, x_vAnd, x_vOr, x_bIf, asBk_b, x_bV, x_bNot, x_bAnd, x_bOr, x_oNone, x_oSome, x_asI, x_vSl, chB_t, chB_f, x_vChain, x_vIsi, x_sNx, x_sSeq, th_nx, th_rt, x_sIf, x_sRet, x_sRetE, x_sExpr, x_sSet, x_sSetE, x_eV, fzB_f, x_vFz, x_eMove, x_eLst, callB_ok, callB_ex, x_eCall, x_sFor, x_iSeq, x_end_rt, x_end_nx, x_end_ex, gt_0, gt_s, st_0, st_s, bk_n, bk_y, bk_0, List.map_cons, List.map_nil, List.cons_append, List.nil_append, List.append_nil, List.length_cons, List.length_nil, if_true, if_false, Bool.not_true, Bool.not_false, q_tup1, q_tup2, q_lt, q_gt, q_le, q_ge, q_eq, q_add, q_sub, decide_true, decide_false, lendC_ok, ld11, ld22, keyD_i, dInB_s, k_dIn', x_vDIn, dgC_s, k_dg', dgB_s, x_vDGet, d2C_s, k_d22', k_d21', d2B_s, x_vDGet2, k_dp2', dpB_s, k_dp1', x_sDPut, dsV_s, dsV_n, k_ds2', k_ds1', dsB_s, x_vDSetd, dlB_s, x_vDLen, x_eD0, k_rE1', k_rE2', x_rE, odr_kv, od_kv, odr_dk, od_dk, val_kv, Option.map_some, Option.map_none, Option.isSome_some, Option.isSome_none, Option.getD_some, Option.getD_none, Bool.false_xor, Bool.true_xor, e1, f1, isNt_l, e2]
    | false =>
      have e1 := e_instance ha.1 hb.1 ha.2 hb.2
      rw [told_f h] at e1
      unfold rS5
      generalize m_instance = m1 at e1
      simp only [k_v1', k_v2', k_c1', k_c2', k_vN', k_not', k_no, k_ys, k_o', k_s1', k_s2', k_s3', k_ch1', k_ch2', k_isi', k_ret', k_retE', k_exp', k_set', k_setE', k_eV', k_lst0, k_lst1, k_lst2, k_call', k_for', k_seqL, k_seqT, look_f, look_l, look_0, moveB_s, x_rNil, k_r1', k_r2', x_rV, k_rL', lookL_s, x_rL, k_ld', x_eCallL, lendB_ok, ld0_0, ld0_1, ld0_2, ld2_0, ld2_1, ld2_2, bd_ok, bd_no, bd_ex, of_some, x_vC, x_vVar, x_v1, x_v2, x_aNil, x_aCons, x_vN, andB_t, andB_f, orB_t, orB_f, ifB_t, ifB_f, x_vAnd, x_vOr, x_bIf, asBk_b, x_bV, x_bNot, x_bAnd, x_bOr, x_oNone, x_oSome, x_asI, x_vSl, chB_t, chB_f, x_vChain, x_vIsi, x_sNx, x_sSeq, th_nx, th_rt, x_sIf, x_sRet, x_sRetE, x_sExpr, x_sSet, x_sSetE, x_eV, fzB_f, x_vFz, x_eMove, x_eLst, callB_ok, callB_ex, x_eCall, x_sFor, x_iSeq, x_end_rt, x_end_nx, x_end_ex, gt_0, gt_s, st_0, st_s, bk_n, bk_y, bk_0, List.map_cons, List.map_nil, List.cons_append, List.nil_append, List.append_nil, List.length_cons, List.length_nil, if_true, if_false, Bool.not_true, Bool.not_false, q_tup1, q_tup2, q_lt, q_gt, q_le, q_ge, q_eq, q_add, q_sub, decide_true, decide_false, lendC_ok, ld11, ld22, keyD_i, dInB_s, k_dIn', x_vDIn, dgC_s, k_dg', dgB_s, x_vDGet, d2C_s, k_d22', k_d21', d2B_s, x_vDGet2, k_dp2', dpB_s, k_dp1', x_sDPut, dsV_s, dsV_n, k_ds2', k_ds1', dsB_s, x_vDSetd, dlB_s, x_vDLen, x_eD0, k_rE1', k_rE2', x_rE, odr_kv, od_kv, odr_dk, od_dk, val_kv, Option.map_some, Option.map_none, Option.isSome_some, Option.isSome_none, Option.getD_some, Option.getD_none, Bool.false_xor, Bool.true_xor, e1, isNt_n]
  have s6 : rS6 [some (.f a.d), some (.f b.d), some (.f (jo a b).d)] = .ok (.rt (.f (.bool true))) [some (.f a.d), some (.f b.d), some (.f (jo a b).d)] := by
    have e1 := e_jo hj ha
    have hk := jo_G a hj
    have e2 := e_vars hk hj (jo_left (jo a b) a) (jo_inst (jo_left a b))
    have e3 := e_jo ha ha
    have hl := jo_G a ha
    have e4 := e_vars hl ha (jo_left a a) (jo_inst (mt_self a))
    unfold rS6
    generalize m_joined = m1 at e1 e3
    generalize m_are_variants = m2 at e2 e4
    simp only [k_v1', k_v2', k_c1', k_c2', k_vN', k_not', k_no, k_ys, k_o', k_s1', k_s2', k_s3', k_ch1', k_ch2', k_isi', k_ret', k_retE', k_exp', k_set', k_setE', k_eV', k_lst0, k_lst1, k_lst2, k_call', k_for', k_seqL, k_seqT, look_f, look_l, look_0, moveB_s, x_rNil, k_r1', k_r2', x_rV, k_rL', lookL_s, x_rL, k_ld', x_eCallL, lendB_ok, ld0_0, ld0_1, ld0_2, ld2_0, ld2_1, ld2_2, bd_ok, bd_no, bd_ex, of_some, x_vC, x_vVar, x_v1, x_v2, x_aNil, x_aCons, x_vN, andB_t, andB_f, orB_t, orB_f, ifB_t, ifB_f, x_vAnd, x_vOr, x_bIf, asBk_b, x_bV, x_bNot, x_bAnd, x_bOr, x_oNone, x_oSome, x_asI, x_vSl, chB_t, chB_f, x_vChain, x_vIsi, x_sNx, x_sSeq, th_nx, th_rt, x_sIf, x_sRet, x_sRetE, x_sExpr, x_sSet, x_sSetE, x_eV, fzB_f, x_vFz, x_eMove, x_eLst, callB_ok, callB_ex, x_eCall, x_sFor, x_iSeq, x_end_rt, x_end_nx, x_end_ex, gt_0, gt_s, st_0, st_s, bk_n, bk_y, bk_0, List.map_cons, List.map_nil, List.cons_append, List.nil_append, List.append_nil, List.length_cons, List.length_nil, if_true, if_false, Bool.not_true, Bool.not_false, q_tup1, q_tup2, q_lt, q_gt, q_le, q_ge, q_eq, q_add, q_sub, decide_true, decide_false, lendC_ok, ld11, ld22, keyD_i, dInB_s, k_dIn', x_vDIn, dgC_s, k_dg', dgB_s, x_vDGet, d2C_s, k_d22', k_d21', d2B_s, x_vDGet2, k_dp2', dpB_s, k_dp1', x_sDPut, dsV_s, dsV_n, k_ds2', k_ds1', dsB_s, x_vDSetd, dlB_s, x_vDLen, x_eD0, k_rE1', k_rE2', x_rE, odr_kv, od_kv, odr_dk, od_dk, val_kv, Option.map_some, Option.map_none, Option.isSome_some, Option.isSome_none, Option.getD_some, Option.getD_none, Bool.false_xor, Bool.true_xor, e1, e2, e3, e4]
  rw [x_sSeq, s1, bd_ok, th_nx, x_sSeq, s2, bd_ok, th_nx, x_sSeq, s3, bd_ok, th_nx, x_sSeq, s4, bd_ok, th_nx, x_sSeq, s5, bd_ok, th_nx, s6]
  rfl


/-! ### the law -/
def lwBox : MS := sSetE 2 (eCall m_l_box [] (aCons (vFz (eCall m_l_cell [] (aCons (vVar 0) (aCons (vVar 1) aNil)))) aNil))
def lwNum : MS := sSet 3 (vFz (eCallL m_l_numbers [(2, 0)] (rL 2 rNil)))
def lwWid : MS := sSet 4 (vFz (eCallL (m_l_term 6) [(2, 0)] (rL 2 (rV (vVar 3) (rV (vC (PyData.int 3)) rNil)))))
def lwVal : MS := sDPut 7 (vVar 8) (vFz (eCallL (m_l_term 6) [(2, 0)] (rL 2 (rV (vVar 3) (rV (vC (PyData.int 2)) rNil)))))
def lwApp : MS := sExpr (vApp 5 (vFz (eCallL (m_l_put 120) [(7, 1)] (rV (vVar 4) (rL 7 rNil)))))
def lwFill : MS := sSeq (sSetE 7 eD0) (sSeq (sFor (iSeq (vVar 3)) (Tg.nm 8) lwVal) lwApp)
noncomputable def lwFnd : MS := sSet 9 (vFz (eCall m_joined [] (aCons (vIxS 5 (vC (PyData.int 0))) (aCons (vIxS 5 (vC (PyData.int 1))) aNil))))
def lwInst : MS := sIf (bV (v2 (pIsNone false) (vFz (eCall m_instance [] (aCons (vVar 4) (aCons (vVar 9) aNil)))) (vC PyData.none))) (sRet (vC (PyData.bool false))) sNx
def lwOth : MS := sSet 10 (vFz (eCallL (m_l_term 6) [(2, 0)] (rL 2 (rV (vVar 3) (rV (vC (PyData.int 4)) rNil)))))
def lwNear : MS := sSet 11 (vFz (eCallL (m_l_near 120) [(2, 0)] (rL 2 (rV (vIxS 5 (vC (PyData.int 0))) (rV (vVar 3) rNil)))))
def lwPairs : MS := sSet 12 (vN pLst (aCons (vN pTup (aCons (vIxS 5 (vC (PyData.int 0))) (aCons (vIxS 5 (vC (PyData.int 1))) aNil))) (aCons (vN pTup (aCons (vIxS 5 (vC (PyData.int 0))) (aCons (vVar 11) aNil))) (aCons (vN pTup (aCons (vIxS 5 (vC (PyData.int 1))) (aCons (vVar 10) aNil))) (aCons (vN pTup (aCons (vVar 4) (aCons (vIxS 5 (vC (PyData.int 0))) aNil))) aNil)))))
noncomputable def lwOne : MS := sIf (bOr (bNot (bV (vFz (eCall m_l_right [] (aCons (vVar 13) (aCons (vVar 14) aNil)))))) (bNot (bV (vFz (eCall m_l_right [] (aCons (vVar 14) (aCons (vVar 13) aNil))))))) (sRet (vC (PyData.bool false))) sNx
noncomputable def lwTurn : MS := sSeq lwBox (sSeq lwNum (sSeq lwWid (sSeq (sSetE 5 (eLst aNil)) (sSeq (sFor (iRange1 (vC (PyData.int 2))) (Tg.nm 6) lwFill) (sSeq lwFnd (sSeq lwInst (sSeq lwOth (sSeq lwNear (sSeq lwPairs (sFor (iSeq (vVar 12)) (Tg.tp [(Tg.nm 13), (Tg.nm 14)]) lwOne))))))))))
noncomputable def lwEnd : MS := sRet (vAnd (v2 pEq (vFz (eCall m_joined [] (aCons (vN pTup (aCons (vC (PyData.str "a")) (aCons (vC (PyData.int 7)) aNil))) (aCons (vN pTup (aCons (vC (PyData.str "a")) (aCons (vC (PyData.int 7)) aNil))) aNil)))) (vN pTup (aCons (vC (PyData.str "a")) (aCons (vC (PyData.int 7)) aNil)))) (vAnd (v2 pEq (vFz (eCall m_joined [] (aCons (vN pTup (aCons (vC (PyData.int 5)) aNil)) (aCons (vN pTup (aCons (vC (PyData.int 5)) aNil)) aNil)))) (vN pTup (aCons (vC (PyData.int 0)) aNil))) (v2 pEq (vFz (eCall m_joined [] (aCons (vC (PyData.int 1)) (aCons (vC (PyData.str "a")) aNil)))) (vN pTup (aCons (vC (PyData.int 0)) aNil)))))
theorem b_law_eq : b_law = sSeq (sFor (iRange1 (vN pMax2 (aCons (vC (PyData.int 4)) (aCons (vN pMin2 (aCons (vC (PyData.int 10)) (aCons (vN pLen (aCons (vVar 0) aNil)) aNil))) aNil)))) (Tg.nm 1) lwTurn) lwEnd := rfl
section
variable {m : Mf} {t a b : T} {x0 x1 x2 x3 x4 x5 x6 : Option T} {r ρ : MEnv} {x y : PyData}
theorem ld71 : lendCall m [(7, 1)] [some a, none] (x0 :: x1 :: x2 :: x3 :: x4 :: x5 :: x6 :: some t :: r) = lendC 7 1 (x0 :: x1 :: x2 :: x3 :: x4 :: x5 :: x6 :: some t :: r) (m [a, t]) := lendG rfl rfl
theorem ix50 : vIxS 5 (vC (.int 0)) (x0 :: x1 :: x2 :: x3 :: x4 :: some (tl [x, y]) :: r) = .ok x (x0 :: x1 :: x2 :: x3 :: x4 :: some (tl [x, y]) :: r) := rfl
theorem ix51 : vIxS 5 (vC (.int 1)) (x0 :: x1 :: x2 :: x3 :: x4 :: some (tl [x, y]) :: r) = .ok y (x0 :: x1 :: x2 :: x3 :: x4 :: some (tl [x, y]) :: r) := rfl
end
/-- a turn's slots -/
abbrev lwE (s0 s1 s2 s3 s4 s5 s6 s7 s8 s9 s10 s11 s12 s13 s14 : Option T) : MEnv := [s0, s1, s2, s3, s4, s5, s6, s7, s8, s9, s10, s11, s12, s13, s14]
theorem lw_vals {ns : List Int} (hn : NsOk ns) {s0 s1 s4 s5 s6 s9 s10 s11 s12 s13 s14 : Option T} : ∀ (ms : List Int) (k : Nat) (t : T) (f : Fd) (s8 : Option T), Bx k t → k + 48 * ms.length ≤ 400000 → f.length + ms.length ≤ 1000 → (∀ p ∈ f, p.2.ok ∧ p.2.deep ≤ 3) →
    ∃ t' f' s8', forS (.nm 8) lwVal (ms.map PyData.int) (lwE s0 s1 (some t) (some (.f (.list (ns.map PyData.int)))) s4 s5 s6 (some (T.dk (kv f))) s8 s9 s10 s11 s12 s13 s14) = .ok .nx (lwE s0 s1 (some t') (some (.f (.list (ns.map PyData.int)))) s4 s5 s6 (some (T.dk (kv f'))) s8' s9 s10 s11 s12 s13 s14) ∧ Bx (k + 48 * ms.length) t' ∧ (∀ p ∈ f', p.2.ok ∧ p.2.deep ≤ 3)
  | [], k, t, f, s8, hb, _, _, hf => ⟨t, f, s8, rfl, hb, hf⟩
  | m :: ms, k, t, f, s8, hb, hk, lf, hf => by
    rw [List.length_cons] at hk lf
    obtain ⟨u, t1, e1, h1, ou, du⟩ := e_term hn 2 6 k t (by decide) (by decide) hb (by omega)
    have fl := putF_len f m u
    obtain ⟨t', f', s8', e2, h2, hf'⟩ := lw_vals hn (s0 := s0) (s1 := s1) (s4 := s4) (s5 := s5) (s6 := s6) (s9 := s9) (s10 := s10) (s11 := s11) (s12 := s12) (s13 := s13) (s14 := s14) ms (k + 48) t1 (putF f m u) (some (.f (.int m))) (h1.up (by omega)) (by omega) (by omega) (putF_all (p := fun u => u.ok ∧ u.deep ≤ 3) hf ⟨ou, by omega⟩)
    refine ⟨t', f', s8', ?_, h2.up (by rw [List.length_cons]; omega), hf'⟩
    rw [List.map_cons, forS_nm]
    have hs5 : (kv f).length < sizeLine := by
      rw [kv_len]
      exact Nat.lt_of_le_of_lt (show f.length ≤ 1000 by omega) (by decide)
    have pf := put_kv f m u
    have b1 : lwVal (lwE s0 s1 (some t) (some (.f (.list (ns.map PyData.int)))) s4 s5 s6 (some (T.dk (kv f))) (some (.f (.int m))) s9 s10 s11 s12 s13 s14) = .ok .nx (lwE s0 s1 (some t1) (some (.f (.list (ns.map PyData.int)))) s4 s5 s6 (some (T.dk (kv (putF f m u)))) (some (.f (.int m))) s9 s10 s11 s12 s13 s14) := by
      have e1 : m_l_term 6 [t, .f (.list (ns.map PyData.int)), .f (.int 2)] = .ok (.f u.d) [some t1, none, none] := e1
      unfold lwVal
      generalize PyData.list (ns.map PyData.int) = L at e1
      generalize m_l_term 6 = mm at e1
      simp only [k_v1', k_v2', k_c1', k_c2', k_vN', k_not', k_no, k_ys, k_o', k_s1', k_s2', k_s3', k_ch1', k_ch2', k_isi', k_ret', k_retE', k_exp', k_set', k_setE', k_eV', k_lst0, k_lst1, k_lst2, k_call', k_for', k_seqL, k_seqT, look_f, look_l, look_0, moveB_s, x_rNil, k_r1', k_r2', x_rV, k_rL', lookL_s, x_rL, k_ld', x_eCallL, lendB_ok, ld0_0, ld0_1, ld0_2, ld2_0, ld2_1, ld2_2, bd_ok, bd_no, bd_ex, of_some, x_vC, x_vVar, x_v1, x_v2, x_aNil, x_aCons, x_vN, andB_t, andB_f, orB_t, orB_f, ifB_t, ifB_f, x_vAnd, x_vOr, x_bIf, asBk_b, x_bV, x_bNot, x_bAnd, x_bOr, x_oNone, x_oSome, x_asI, x_vSl, chB_t, chB_f, x_vChain, x_vIsi, x_sNx, x_sSeq, th_nx, th_rt, x_sIf, x_sRet, x_sRetE, x_sExpr, x_sSet, x_sSetE, x_eV, fzB_f, x_vFz, x_eMove, x_eLst, callB_ok, callB_ex, x_eCall, x_sFor, x_iSeq, x_end_rt, x_end_nx, x_end_ex, gt_0, gt_s, st_0, st_s, bk_n, bk_y, bk_0, List.map_cons, List.map_nil, List.cons_append, List.nil_append, List.append_nil, List.length_cons, List.length_nil, if_true, if_false, Bool.not_true, Bool.not_false, q_tup1, q_tup2, q_lt, q_gt, q_le, q_ge, q_eq, q_add, q_sub, decide_true, decide_false, lendC_ok, ld11, ld22, keyD_i, dInB_s, k_dIn', x_vDIn, dgC_s, k_dg', dgB_s, x_vDGet, d2C_s, k_d22', k_d21', d2B_s, x_vDGet2, k_dp2', dpB_s, k_dp1', x_sDPut, dsV_s, dsV_n, k_ds2', k_ds1', dsB_s, x_vDSetd, dlB_s, x_vDLen, x_eD0, k_rE1', k_rE2', x_rE, odr_kv, od_kv, odr_dk, od_dk, val_kv, Option.map_some, Option.map_none, Option.isSome_some, Option.isSome_none, Option.getD_some, Option.getD_none, Bool.false_xor, Bool.true_xor, e1, dpC_s hs5, pf]
    show Ou.bd (lwVal (lwE s0 s1 (some t) (some (.f (.list (ns.map PyData.int)))) s4 s5 s6 (some (T.dk (kv f))) (some (.f (.int m))) s9 s10 s11 s12 s13 s14)) _ = _
    rw [b1, bd_ok, fr_nx]
    exact e2
theorem lw_fill {ns : List Int} (hn : NsOk ns) {w : Tm} (ow : w.ok) (dw : w.deep ≤ 4) {s0 s1 s6 s9 s10 s11 s12 s13 s14 : Option T} (k : Nat) (t : T) (ds : List PyData) (s7 s8 : Option T) (hb : Bx k t) (hk : k ≤ 300000) (hd : ds.length ≤ 10) :
    ∃ t' f s7' s8', lwFill (lwE s0 s1 (some t) (some (.f (.list (ns.map PyData.int)))) (some (.f w.d)) (some (tl ds)) s6 s7 s8 s9 s10 s11 s12 s13 s14) = .ok .nx (lwE s0 s1 (some t') (some (.f (.list (ns.map PyData.int)))) (some (.f w.d)) (some (tl (ds ++ [(sub f w).d]))) s6 s7' s8' s9 s10 s11 s12 s13 s14) ∧ Bx (k + 240) t' ∧ Gd6 (sub f w) := by
  have hn5 := hn.2.1
  obtain ⟨t1, f, r8, e1, h1, hf⟩ := lw_vals hn (s0 := s0) (s1 := s1) (s4 := some (.f w.d)) (s5 := some (tl ds)) (s6 := s6) (s9 := s9) (s10 := s10) (s11 := s11) (s12 := s12) (s13 := s13) (s14 := s14) ns k t [] s8 hb (by omega) (by rw [List.length_nil]; omega) (fun _ z => nomatch z)
  have p := e_put f w 120 (by omega)
  refine ⟨t1, f, some (T.dk (kv f)), r8, ?_, h1.up (by omega), sub_ok (fun p hp => (hf p hp).1) w ow, by have := sub_deep (f := f) (k := 3) (fun p hp => (hf p hp).2) (by decide) w; omega⟩
  unfold lwFill
  have a1 : (sSetE 7 eD0 : MS) (lwE s0 s1 (some t) (some (.f (.list (ns.map PyData.int)))) (some (.f w.d)) (some (tl ds)) s6 s7 s8 s9 s10 s11 s12 s13 s14) = .ok .nx (lwE s0 s1 (some t) (some (.f (.list (ns.map PyData.int)))) (some (.f w.d)) (some (tl ds)) s6 (some (T.dk (kv []))) s8 s9 s10 s11 s12 s13 s14) := rfl
  have a2 : (sFor (iSeq (vVar 3)) (Tg.nm 8) lwVal : MS) (lwE s0 s1 (some t) (some (.f (.list (ns.map PyData.int)))) (some (.f w.d)) (some (tl ds)) s6 (some (T.dk (kv []))) s8 s9 s10 s11 s12 s13 s14) = .ok .nx (lwE s0 s1 (some t1) (some (.f (.list (ns.map PyData.int)))) (some (.f w.d)) (some (tl ds)) s6 (some (T.dk (kv f))) r8 s9 s10 s11 s12 s13 s14) := by
    rw [x_sFor, x_iSeq]
    exact e1
  have a3 : lwApp (lwE s0 s1 (some t1) (some (.f (.list (ns.map PyData.int)))) (some (.f w.d)) (some (tl ds)) s6 (some (T.dk (kv f))) r8 s9 s10 s11 s12 s13 s14) = .ok .nx (lwE s0 s1 (some t1) (some (.f (.list (ns.map PyData.int)))) (some (.f w.d)) (some (tl (ds ++ [(sub f w).d]))) s6 (some (T.dk (kv f))) r8 s9 s10 s11 s12 s13 s14) := by
    have q : vFz (eCallL (m_l_put 120) [(7, 1)] (rV (vVar 4) (rL 7 rNil))) (lwE s0 s1 (some t1) (some (.f (.list (ns.map PyData.int)))) (some (.f w.d)) (some (tl ds)) s6 (some (T.dk (kv f))) r8 s9 s10 s11 s12 s13 s14) = .ok (sub f w).d (lwE s0 s1 (some t1) (some (.f (.list (ns.map PyData.int)))) (some (.f w.d)) (some (tl ds)) s6 (some (T.dk (kv f))) r8 s9 s10 s11 s12 s13 s14) := by
      generalize PyData.list (ns.map PyData.int) = L
      generalize T.dk (kv f) = D at p
      generalize m_l_put 120 = m1 at p
      generalize tl ds = tt
      simp only [k_v1', k_v2', k_c1', k_c2', k_vN', k_not', k_no, k_ys, k_o', k_s1', k_s2', k_s3', k_ch1', k_ch2', k_isi', k_ret', k_retE', k_exp', k_set', k_setE', k_eV', k_lst0, k_lst1, k_lst2, k_call', k_for', k_seqL, k_seqT, look_f, look_l, look_0, moveB_s, x_rNil, k_r1', k_r2', x_rV, k_rL', lookL_s, x_rL, k_ld', x_eCallL, lendB_ok, ld0_0, ld0_1, ld0_2, ld2_0, ld2_1, ld2_2, bd_ok, bd_no, bd_ex, of_some, x_vC, x_vVar, x_v1, x_v2, x_aNil, x_aCons, x_vN, andB_t, andB_f, orB_t, orB_f, ifB_t, ifB_f, x_vAnd, x_vOr, x_bIf, asBk_b, x_bV, x_bNot, x_bAnd, x_bOr, x_oNone, x_oSome, x_asI, x_vSl, chB_t, chB_f, x_vChain, x_vIsi, x_sNx, x_sSeq, th_nx, th_rt, x_sIf, x_sRet, x_sRetE, x_sExpr, x_sSet, x_sSetE, x_eV, fzB_f, x_vFz, x_eMove, x_eLst, callB_ok, callB_ex, x_eCall, x_sFor, x_iSeq, x_end_rt, x_end_nx, x_end_ex, gt_0, gt_s, st_0, st_s, bk_n, bk_y, bk_0, List.map_cons, List.map_nil, List.cons_append, List.nil_append, List.append_nil, List.length_cons, List.length_nil, if_true, if_false, Bool.not_true, Bool.not_false, q_tup1, q_tup2, q_lt, q_gt, q_le, q_ge, q_eq, q_add, q_sub, decide_true, decide_false, lendC_ok, ld11, ld22, keyD_i, dInB_s, k_dIn', x_vDIn, dgC_s, k_dg', dgB_s, x_vDGet, d2C_s, k_d22', k_d21', d2B_s, x_vDGet2, k_dp2', dpB_s, k_dp1', x_sDPut, dsV_s, dsV_n, k_ds2', k_ds1', dsB_s, x_vDSetd, dlB_s, x_vDLen, x_eD0, k_rE1', k_rE2', x_rE, odr_kv, od_kv, odr_dk, od_dk, val_kv, Option.map_some, Option.map_none, Option.isSome_some, Option.isSome_none, Option.getD_some, Option.getD_none, Bool.false_xor, Bool.true_xor, ld71, p]
    have e := run_app (i := 5) (ds := ds) rfl q rfl (Nat.lt_of_le_of_lt hd (by decide))
    unfold lwApp
    show (vApp 5 _ _).bd _ = _
    rw [e, bd_ok]
    rfl
  rw [x_sSeq, a1, bd_ok, th_nx, x_sSeq, a2, bd_ok, th_nx, a3]
theorem lw_one {s0 s1 s2 s3 s4 s5 s6 s7 s8 s9 s10 s11 s12 : Option T} {u v : Tm} (hu : Gd6 u) (hv : Gd6 v) : lwOne (lwE s0 s1 s2 s3 s4 s5 s6 s7 s8 s9 s10 s11 s12 (some (.f u.d)) (some (.f v.d))) = .ok .nx (lwE s0 s1 s2 s3 s4 s5 s6 s7 s8 s9 s10 s11 s12 (some (.f u.d)) (some (.f v.d))) := by
  have e1 := e_right12 hu hv
  have e2 := e_right12 hv hu
  unfold lwOne
  generalize m_l_right = mm at e1 e2
  simp only [k_v1', k_v2', k_c1', k_c2', k_vN', k_not', k_no, k_ys, k_o', k_s1', k_s2', k_s3', k_ch1', k_ch2', k_isi', k_ret', k_retE', k_exp', k_set', k_setE', k_eV', k_lst0, k_lst1, k_lst2, k_call', k_for', k_seqL, k_seqT, look_f, look_l, look_0, moveB_s, x_rNil, k_r1', k_r2', x_rV, k_rL', lookL_s, x_rL, k_ld', x_eCallL, lendB_ok, ld0_0, ld0_1, ld0_2, ld2_0, ld2_1, ld2_2, bd_ok, bd_no, bd_ex, of_some, x_vC, x_vVar, x_v1, x_v2, x_aNil, x_aCons, x_vN, andB_t, andB_f, orB_t, orB_f, ifB_t, ifB_f, x_vAnd, x_vOr, x_bIf, asBk_b, x_bV, x_bNot, x_bAnd, x_bOr, x_oNone, x_oSome, x_asI, x_vSl, chB_t, chB_f, x_vChain, x_vIsi, x_sNx, x_sSeq, th_nx, th_rt, x_sIf, x_sRet, x_sRetE, x_sExpr, x_sSet, x_sSetE, x_eV, fzB_f, x_vFz, x_eMove, x_eLst, callB_ok, callB_ex, x_eCall, x_sFor, x_iSeq, x_end_rt, x_end_nx, x_end_ex, gt_0, gt_s, st_0, st_s, bk_n, bk_y, bk_0, List.map_cons, List.map_nil, List.cons_append, List.nil_append, List.append_nil, List.length_cons, List.length_nil, if_true, if_false, Bool.not_true, Bool.not_false, q_tup1, q_tup2, q_lt, q_gt, q_le, q_ge, q_eq, q_add, q_sub, decide_true, decide_false, lendC_ok, ld11, ld22, keyD_i, dInB_s, k_dIn', x_vDIn, dgC_s, k_dg', dgB_s, x_vDGet, d2C_s, k_d22', k_d21', d2B_s, x_vDGet2, k_dp2', dpB_s, k_dp1', x_sDPut, dsV_s, dsV_n, k_ds2', k_ds1', dsB_s, x_vDSetd, dlB_s, x_vDLen, x_eD0, k_rE1', k_rE2', x_rE, odr_kv, od_kv, odr_dk, od_dk, val_kv, Option.map_some, Option.map_none, Option.isSome_some, Option.isSome_none, Option.getD_some, Option.getD_none, Bool.false_xor, Bool.true_xor, e1, e2]
theorem lw_ones {s0 s1 s2 s3 s4 s5 s6 s7 s8 s9 s10 s11 s12 : Option T} : ∀ (us : List (Tm × Tm)) (s13 s14 : Option T), (∀ u ∈ us, Gd6 u.1 ∧ Gd6 u.2) → ∃ r13 r14, forS (.tp [.nm 13, .nm 14]) lwOne (us.map pd) (lwE s0 s1 s2 s3 s4 s5 s6 s7 s8 s9 s10 s11 s12 s13 s14) = .ok .nx (lwE s0 s1 s2 s3 s4 s5 s6 s7 s8 s9 s10 s11 s12 r13 r14)
  | [], s13, s14, _ => ⟨s13, s14, rfl⟩
  | u :: us, s13, s14, h => by
    obtain ⟨y, z, e⟩ := lw_ones (s0 := s0) (s1 := s1) (s2 := s2) (s3 := s3) (s4 := s4) (s5 := s5) (s6 := s6) (s7 := s7) (s8 := s8) (s9 := s9) (s10 := s10) (s11 := s11) (s12 := s12) us (some (.f u.1.d)) (some (.f u.2.d)) fun x hx => h x (List.mem_cons_of_mem _ hx)
    refine ⟨y, z, ?_⟩
    have hu := h u (List.mem_cons_self ..)
    rw [List.map_cons, show pd u = .tuple [u.1.d, u.2.d] from rfl, forS_2]
    show Ou.bd (lwOne (lwE s0 s1 s2 s3 s4 s5 s6 s7 s8 s9 s10 s11 s12 (some (.f u.1.d)) (some (.f u.2.d)))) _ = _
    rw [lw_one hu.1 hu.2, bd_ok, fr_nx]
    exact e


theorem lw_turn (cs : List Int) (k : Nat) (hk : k < 100) (s2 s3 s4 s5 s6 s7 s8 s9 s10 s11 s12 s13 s14 : Option T) : ∃ r2 r3 r4 r5 r6 r7 r8 r9 r10 r11 r12 r13 r14 : Option T, lwTurn (lwE (some (.f (.list (cs.map PyData.int)))) (some (.f (.int (k : Int)))) s2 s3 s4 s5 s6 s7 s8 s9 s10 s11 s12 s13 s14) = .ok .nx (lwE (some (.f (.list (cs.map PyData.int)))) (some (.f (.int (k : Int)))) r2 r3 r4 r5 r6 r7 r8 r9 r10 r11 r12 r13 r14) := by
  obtain ⟨c, e0⟩ := e_cell cs k hk
  generalize PyData.list (cs.map PyData.int) = C at e0
  generalize PyData.int (k : Int) = kk at e0
  obtain ⟨t0, eb, h0⟩ := e_box c
  have a1 : lwBox (lwE (some (.f C)) (some (.f kk)) s2 s3 s4 s5 s6 s7 s8 s9 s10 s11 s12 s13 s14) = .ok .nx (lwE (some (.f C)) (some (.f kk)) (some t0) s3 s4 s5 s6 s7 s8 s9 s10 s11 s12 s13 s14) := by
    unfold lwBox
    generalize m_l_box = m1 at eb
    generalize m_l_cell = m2 at e0
    simp only [k_v1', k_v2', k_c1', k_c2', k_vN', k_not', k_no, k_ys, k_o', k_s1', k_s2', k_s3', k_ch1', k_ch2', k_isi', k_ret', k_retE', k_exp', k_set', k_setE', k_eV', k_lst0, k_lst1, k_lst2, k_call', k_for', k_seqL, k_seqT, look_f, look_l, look_0, moveB_s, x_rNil, k_r1', k_r2', x_rV, k_rL', lookL_s, x_rL, k_ld', x_eCallL, lendB_ok, ld0_0, ld0_1, ld0_2, ld2_0, ld2_1, ld2_2, bd_ok, bd_no, bd_ex, of_some, x_vC, x_vVar, x_v1, x_v2, x_aNil, x_aCons, x_vN, andB_t, andB_f, orB_t, orB_f, ifB_t, ifB_f, x_vAnd, x_vOr, x_bIf, asBk_b, x_bV, x_bNot, x_bAnd, x_bOr, x_oNone, x_oSome, x_asI, x_vSl, chB_t, chB_f, x_vChain, x_vIsi, x_sNx, x_sSeq, th_nx, th_rt, x_sIf, x_sRet, x_sRetE, x_sExpr, x_sSet, x_sSetE, x_eV, fzB_f, x_vFz, x_eMove, x_eLst, callB_ok, callB_ex, x_eCall, x_sFor, x_iSeq, x_end_rt, x_end_nx, x_end_ex, gt_0, gt_s, st_0, st_s, bk_n, bk_y, bk_0, List.map_cons, List.map_nil, List.cons_append, List.nil_append, List.append_nil, List.length_cons, List.length_nil, if_true, if_false, Bool.not_true, Bool.not_false, q_tup1, q_tup2, q_lt, q_gt, q_le, q_ge, q_eq, q_add, q_sub, decide_true, decide_false, lendC_ok, ld11, ld22, keyD_i, dInB_s, k_dIn', x_vDIn, dgC_s, k_dg', dgB_s, x_vDGet, d2C_s, k_d22', k_d21', d2B_s, x_vDGet2, k_dp2', dpB_s, k_dp1', x_sDPut, dsV_s, dsV_n, k_ds2', k_ds1', dsB_s, x_vDSetd, dlB_s, x_vDLen, x_eD0, k_rE1', k_rE2', x_rE, odr_kv, od_kv, odr_dk, od_dk, val_kv, Option.map_some, Option.map_none, Option.isSome_some, Option.isSome_none, Option.getD_some, Option.getD_none, Bool.false_xor, Bool.true_xor, e0, eb]
  obtain ⟨ns, t1, e1, h1, hn⟩ := e_numbers h0 (by decide)
  have a2 : lwNum (lwE (some (.f C)) (some (.f kk)) (some t0) s3 s4 s5 s6 s7 s8 s9 s10 s11 s12 s13 s14) = .ok .nx (lwE (some (.f C)) (some (.f kk)) (some t1) (some (.f (.list (ns.map PyData.int)))) s4 s5 s6 s7 s8 s9 s10 s11 s12 s13 s14) := by
    unfold lwNum
    generalize PyData.list (ns.map PyData.int) = L at e1
    generalize m_l_numbers = m1 at e1
    simp only [k_v1', k_v2', k_c1', k_c2', k_vN', k_not', k_no, k_ys, k_o', k_s1', k_s2', k_s3', k_ch1', k_ch2', k_isi', k_ret', k_retE', k_exp', k_set', k_setE', k_eV', k_lst0, k_lst1, k_lst2, k_call', k_for', k_seqL, k_seqT, look_f, look_l, look_0, moveB_s, x_rNil, k_r1', k_r2', x_rV, k_rL', lookL_s, x_rL, k_ld', x_eCallL, lendB_ok, ld0_0, ld0_1, ld0_2, ld2_0, ld2_1, ld2_2, bd_ok, bd_no, bd_ex, of_some, x_vC, x_vVar, x_v1, x_v2, x_aNil, x_aCons, x_vN, andB_t, andB_f, orB_t, orB_f, ifB_t, ifB_f, x_vAnd, x_vOr, x_bIf, asBk_b, x_bV, x_bNot, x_bAnd, x_bOr, x_oNone, x_oSome, x_asI, x_vSl, chB_t, chB_f, x_vChain, x_vIsi, x_sNx, x_sSeq, th_nx, th_rt, x_sIf, x_sRet, x_sRetE, x_sExpr, x_sSet, x_sSetE, x_eV, fzB_f, x_vFz, x_eMove, x_eLst, callB_ok, callB_ex, x_eCall, x_sFor, x_iSeq, x_end_rt, x_end_nx, x_end_ex, gt_0, gt_s, st_0, st_s, bk_n, bk_y, bk_0, List.map_cons, List.map_nil, List.cons_append, List.nil_append, List.append_nil, List.length_cons, List.length_nil, if_true, if_false, Bool.not_true, Bool.not_false, q_tup1, q_tup2, q_lt, q_gt, q_le, q_ge, q_eq, q_add, q_sub, decide_true, decide_false, lendC_ok, ld11, ld22, keyD_i, dInB_s, k_dIn', x_vDIn, dgC_s, k_dg', dgB_s, x_vDGet, d2C_s, k_d22', k_d21', d2B_s, x_vDGet2, k_dp2', dpB_s, k_dp1', x_sDPut, dsV_s, dsV_n, k_ds2', k_ds1', dsB_s, x_vDSetd, dlB_s, x_vDLen, x_eD0, k_rE1', k_rE2', x_rE, odr_kv, od_kv, odr_dk, od_dk, val_kv, Option.map_some, Option.map_none, Option.isSome_some, Option.isSome_none, Option.getD_some, Option.getD_none, Bool.false_xor, Bool.true_xor, e1]
  obtain ⟨w, t2, e2, h2, ow, dw⟩ := e_term hn 3 6 _ t1 (by decide) (by decide) h1 (by decide)
  have a3 : lwWid (lwE (some (.f C)) (some (.f kk)) (some t1) (some (.f (.list (ns.map PyData.int)))) s4 s5 s6 s7 s8 s9 s10 s11 s12 s13 s14) = .ok .nx (lwE (some (.f C)) (some (.f kk)) (some t2) (some (.f (.list (ns.map PyData.int)))) (some (.f w.d)) s5 s6 s7 s8 s9 s10 s11 s12 s13 s14) := by
    have e2 : m_l_term 6 [t1, .f (.list (ns.map PyData.int)), .f (.int 3)] = .ok (.f w.d) [some t2, none, none] := e2
    unfold lwWid
    generalize PyData.list (ns.map PyData.int) = L at e2
    generalize m_l_term 6 = m1 at e2
    simp only [k_v1', k_v2', k_c1', k_c2', k_vN', k_not', k_no, k_ys, k_o', k_s1', k_s2', k_s3', k_ch1', k_ch2', k_isi', k_ret', k_retE', k_exp', k_set', k_setE', k_eV', k_lst0, k_lst1, k_lst2, k_call', k_for', k_seqL, k_seqT, look_f, look_l, look_0, moveB_s, x_rNil, k_r1', k_r2', x_rV, k_rL', lookL_s, x_rL, k_ld', x_eCallL, lendB_ok, ld0_0, ld0_1, ld0_2, ld2_0, ld2_1, ld2_2, bd_ok, bd_no, bd_ex, of_some, x_vC, x_vVar, x_v1, x_v2, x_aNil, x_aCons, x_vN, andB_t, andB_f, orB_t, orB_f, ifB_t, ifB_f, x_vAnd, x_vOr, x_bIf, asBk_b, x_bV, x_bNot, x_bAnd, x_bOr, x_oNone, x_oSome, x_asI, x_vSl, chB_t, chB_f, x_vChain, x_vIsi, x_sNx, x_sSeq, th_nx, th_rt, x_sIf, x_sRet, x_sRetE, x_sExpr, x_sSet, x_sSetE, x_eV, fzB_f, x_vFz, x_eMove, x_eLst, callB_ok, callB_ex, x_eCall, x_sFor, x_iSeq, x_end_rt, x_end_nx, x_end_ex, gt_0, gt_s, st_0, st_s, bk_n, bk_y, bk_0, List.map_cons, List.map_nil, List.cons_append, List.nil_append, List.append_nil, List.length_cons, List.length_nil, if_true, if_false, Bool.not_true, Bool.not_false, q_tup1, q_tup2, q_lt, q_gt, q_le, q_ge, q_eq, q_add, q_sub, decide_true, decide_false, lendC_ok, ld11, ld22, keyD_i, dInB_s, k_dIn', x_vDIn, dgC_s, k_dg', dgB_s, x_vDGet, d2C_s, k_d22', k_d21', d2B_s, x_vDGet2, k_dp2', dpB_s, k_dp1', x_sDPut, dsV_s, dsV_n, k_ds2', k_ds1', dsB_s, x_vDSetd, dlB_s, x_vDLen, x_eD0, k_rE1', k_rE2', x_rE, odr_kv, od_kv, odr_dk, od_dk, val_kv, Option.map_some, Option.map_none, Option.isSome_some, Option.isSome_none, Option.getD_some, Option.getD_none, Bool.false_xor, Bool.true_xor, e2]
  have a4 : (sSetE 5 (eLst aNil) : MS) (lwE (some (.f C)) (some (.f kk)) (some t2) (some (.f (.list (ns.map PyData.int)))) (some (.f w.d)) s5 s6 s7 s8 s9 s10 s11 s12 s13 s14) = .ok .nx (lwE (some (.f C)) (some (.f kk)) (some t2) (some (.f (.list (ns.map PyData.int)))) (some (.f w.d)) (some (tl [])) s6 s7 s8 s9 s10 s11 s12 s13 s14) := rfl
  obtain ⟨t3, f, p7, p8, e3, h3, g3⟩ := lw_fill hn ow dw (s0 := some (.f C)) (s1 := some (.f kk)) (s6 := some (.f (.int 0))) (s9 := s9) (s10 := s10) (s11 := s11) (s12 := s12) (s13 := s13) (s14 := s14) _ t2 [] s7 s8 h2 (by decide) (by decide)
  obtain ⟨t4, g, q7, q8, e4, h4, g4⟩ := lw_fill hn ow dw (s0 := some (.f C)) (s1 := some (.f kk)) (s6 := some (.f (.int 1))) (s9 := s9) (s10 := s10) (s11 := s11) (s12 := s12) (s13 := s13) (s14 := s14) _ t3 [(sub f w).d] p7 p8 h3 (by decide) (by show 1 ≤ 10; decide)
  have a5 : (sFor (iRange1 (vC (PyData.int 2))) (Tg.nm 6) lwFill : MS) (lwE (some (.f C)) (some (.f kk)) (some t2) (some (.f (.list (ns.map PyData.int)))) (some (.f w.d)) (some (tl [])) s6 s7 s8 s9 s10 s11 s12 s13 s14) = .ok .nx (lwE (some (.f C)) (some (.f kk)) (some t4) (some (.f (.list (ns.map PyData.int)))) (some (.f w.d)) (some (tl [(sub f w).d, (sub g w).d])) (some (.f (.int 1))) q7 q8 s9 s10 s11 s12 s13 s14) := by
    have hr : iRange1 (vC (PyData.int 2)) (lwE (some (.f C)) (some (.f kk)) (some t2) (some (.f (.list (ns.map PyData.int)))) (some (.f w.d)) (some (tl [])) s6 s7 s8 s9 s10 s11 s12 s13 s14) = .ok [.int 0, .int 1] (lwE (some (.f C)) (some (.f kk)) (some t2) (some (.f (.list (ns.map PyData.int)))) (some (.f w.d)) (some (tl [])) s6 s7 s8 s9 s10 s11 s12 s13 s14) := rfl
    rw [x_sFor, hr, bd_ok, k_for', forS_nm]
    show Ou.bd (lwFill (lwE (some (.f C)) (some (.f kk)) (some t2) (some (.f (.list (ns.map PyData.int)))) (some (.f w.d)) (some (tl [])) (some (.f (.int 0))) s7 s8 s9 s10 s11 s12 s13 s14)) _ = _
    rw [e3, bd_ok, fr_nx, forS_nm]
    show Ou.bd (lwFill (lwE (some (.f C)) (some (.f kk)) (some t3) (some (.f (.list (ns.map PyData.int)))) (some (.f w.d)) (some (tl [(sub f w).d])) (some (.f (.int 1))) p7 p8 s9 s10 s11 s12 s13 s14)) _ = _
    have e4 : lwFill (lwE (some (.f C)) (some (.f kk)) (some t3) (some (.f (.list (ns.map PyData.int)))) (some (.f w.d)) (some (tl [(sub f w).d])) (some (.f (.int 1))) p7 p8 s9 s10 s11 s12 s13 s14) = .ok .nx (lwE (some (.f C)) (some (.f kk)) (some t4) (some (.f (.list (ns.map PyData.int)))) (some (.f w.d)) (some (tl [(sub f w).d, (sub g w).d])) (some (.f (.int 1))) q7 q8 s9 s10 s11 s12 s13 s14) := e4
    rw [e4, bd_ok, fr_nx, forS_nil]
  have jw := jo_wider w f g
  generalize sub f w = u at a5 g3 jw
  generalize sub g w = v at a5 g4 jw
  have gw : Gd6 w := ⟨ow, by omega⟩
  have gj := jo_G v g3
  have a6 : lwFnd (lwE (some (.f C)) (some (.f kk)) (some t4) (some (.f (.list (ns.map PyData.int)))) (some (.f w.d)) (some (tl [u.d, v.d])) (some (.f (.int 1))) q7 q8 s9 s10 s11 s12 s13 s14) = .ok .nx (lwE (some (.f C)) (some (.f kk)) (some t4) (some (.f (.list (ns.map PyData.int)))) (some (.f w.d)) (some (tl [u.d, v.d])) (some (.f (.int 1))) q7 q8 (some (.f (jo u v).d)) s10 s11 s12 s13 s14) := by
    have e := e_jo g3 g4
    unfold lwFnd
    generalize PyData.list (ns.map PyData.int) = L
    generalize m_joined = m1 at e
    simp only [k_v1', k_v2', k_c1', k_c2', k_vN', k_not', k_no, k_ys, k_o', k_s1', k_s2', k_s3', k_ch1', k_ch2', k_isi', k_ret', k_retE', k_exp', k_set', k_setE', k_eV', k_lst0, k_lst1, k_lst2, k_call', k_for', k_seqL, k_seqT, look_f, look_l, look_0, moveB_s, x_rNil, k_r1', k_r2', x_rV, k_rL', lookL_s, x_rL, k_ld', x_eCallL, lendB_ok, ld0_0, ld0_1, ld0_2, ld2_0, ld2_1, ld2_2, bd_ok, bd_no, bd_ex, of_some, x_vC, x_vVar, x_v1, x_v2, x_aNil, x_aCons, x_vN, andB_t, andB_f, orB_t, orB_f, ifB_t, ifB_f, x_vAnd, x_vOr, x_bIf, asBk_b, x_bV, x_bNot, x_bAnd, x_bOr, x_oNone, x_oSome, x_asI, x_vSl, chB_t, chB_f, x_vChain, x_vIsi, x_sNx, x_sSeq, th_nx, th_rt, x_sIf, x_sRet, x_sRetE, x_sExpr, x_sSet, x_sSetE, x_eV, fzB_f, x_vFz, x_eMove, x_eLst, callB_ok, callB_ex, x_eCall, x_sFor, x_iSeq, x_end_rt, x_end_nx, x_end_ex, gt_0, gt_s, st_0, st_s, bk_n, bk_y, bk_0, List.map_cons, List.map_nil, List.cons_append, List.nil_append, List.append_nil, List.length_cons, List.length_nil, if_true, if_false, Bool.not_true, Bool.not_false, q_tup1, q_tup2, q_lt, q_gt, q_le, q_ge, q_eq, q_add, q_sub, decide_true, decide_false, lendC_ok, ld11, ld22, keyD_i, dInB_s, k_dIn', x_vDIn, dgC_s, k_dg', dgB_s, x_vDGet, d2C_s, k_d22', k_d21', d2B_s, x_vDGet2, k_dp2', dpB_s, k_dp1', x_sDPut, dsV_s, dsV_n, k_ds2', k_ds1', dsB_s, x_vDSetd, dlB_s, x_vDLen, x_eD0, k_rE1', k_rE2', x_rE, odr_kv, od_kv, odr_dk, od_dk, val_kv, Option.map_some, Option.map_none, Option.isSome_some, Option.isSome_none, Option.getD_some, Option.getD_none, Bool.false_xor, Bool.true_xor, ix50, ix51, e]
  have a7 : lwInst (lwE (some (.f C)) (some (.f kk)) (some t4) (some (.f (.list (ns.map PyData.int)))) (some (.f w.d)) (some (tl [u.d, v.d])) (some (.f (.int 1))) q7 q8 (some (.f (jo u v).d)) s10 s11 s12 s13 s14) = .ok .nx (lwE (some (.f C)) (some (.f kk)) (some t4) (some (.f (.list (ns.map PyData.int)))) (some (.f w.d)) (some (tl [u.d, v.d])) (some (.f (.int 1))) q7 q8 (some (.f (jo u v).d)) s10 s11 s12 s13 s14) := by
    have e := e_inst gw gj jw
    generalize itD (mt w (jo u v) []).2 = D1 at e
    have f1 : ∀ (ρ : MEnv), fzB (tl D1) ρ = .ok (.list D1) ρ := fun ρ => fzB_l _
    unfold lwInst
    generalize PyData.list (ns.map PyData.int) = L
    generalize m_instance = m1 at e
    generalize tl D1 = tt at e f1
    simp only [k_v1', k_v2', k_c1', k_c2', k_vN', k_not', k_no, k_ys, k_o', k_s1', k_s2', k_s3', k_ch1', k_ch2', k_isi', k_ret', k_retE', k_exp', k_set', k_setE', k_eV', k_lst0, k_lst1, k_lst2, k_call', k_for', k_seqL, k_seqT, look_f, look_l, look_0, moveB_s, x_rNil, k_r1', k_r2', x_rV, k_rL', lookL_s, x_rL, k_ld', x_eCallL, lendB_ok, ld0_0, ld0_1, ld0_2, ld2_0, ld2_1, ld2_2, bd_ok, bd_no, bd_ex, of_some, x_vC, x_vVar, x_v1, x_v2, x_aNil, x_aCons, x_vN, andB_t, andB_f, orB_t, orB_f, ifB_t, ifB_f, x_vAnd, x_vOr, x_bIf, asBk_b, x_bV, x_bNot, x_bAnd, x_bOr, x_oNone, x_oSome, x_asI, x_vSl, chB_t, chB_f, x_vChain, x_vIsi, x_sNx, x_sSeq, th_nx, th_rt, x_sIf, x_sRet, x_sRetE, x_sExpr, x_sSet, x_sSetE, x_eV, fzB_f, x_vFz, x_eMove, x_eLst, callB_ok, callB_ex, x_eCall, x_sFor, x_iSeq, x_end_rt, x_end_nx, x_end_ex, gt_0, gt_s, st_0, st_s, bk_n, bk_y, bk_0, List.map_cons, List.map_nil, List.cons_append, List.nil_append, List.append_nil, List.length_cons, List.length_nil, if_true, if_false, Bool.not_true, Bool.not_false, q_tup1, q_tup2, q_lt, q_gt, q_le, q_ge, q_eq, q_add, q_sub, decide_true, decide_false, lendC_ok, ld11, ld22, keyD_i, dInB_s, k_dIn', x_vDIn, dgC_s, k_dg', dgB_s, x_vDGet, d2C_s, k_d22', k_d21', d2B_s, x_vDGet2, k_dp2', dpB_s, k_dp1', x_sDPut, dsV_s, dsV_n, k_ds2', k_ds1', dsB_s, x_vDSetd, dlB_s, x_vDLen, x_eD0, k_rE1', k_rE2', x_rE, odr_kv, od_kv, odr_dk, od_dk, val_kv, Option.map_some, Option.map_none, Option.isSome_some, Option.isSome_none, Option.getD_some, Option.getD_none, Bool.false_xor, Bool.true_xor, e, f1, isNf_l]
  obtain ⟨x, t5, e5, h5, ox, dx⟩ := e_term hn 4 6 _ t4 (by decide) (by decide) h4 (by decide)
  have a8 : lwOth (lwE (some (.f C)) (some (.f kk)) (some t4) (some (.f (.list (ns.map PyData.int)))) (some (.f w.d)) (some (tl [u.d, v.d])) (some (.f (.int 1))) q7 q8 (some (.f (jo u v).d)) s10 s11 s12 s13 s14) = .ok .nx (lwE (some (.f C)) (some (.f kk)) (some t5) (some (.f (.list (ns.map PyData.int)))) (some (.f w.d)) (some (tl [u.d, v.d])) (some (.f (.int 1))) q7 q8 (some (.f (jo u v).d)) (some (.f x.d)) s11 s12 s13 s14) := by
    have e5 : m_l_term 6 [t4, .f (.list (ns.map PyData.int)), .f (.int 4)] = .ok (.f x.d) [some t5, none, none] := e5
    unfold lwOth
    generalize PyData.list (ns.map PyData.int) = L at e5
    generalize m_l_term 6 = m1 at e5
    generalize tl [u.d, v.d] = tt
    simp only [k_v1', k_v2', k_c1', k_c2', k_vN', k_not', k_no, k_ys, k_o', k_s1', k_s2', k_s3', k_ch1', k_ch2', k_isi', k_ret', k_retE', k_exp', k_set', k_setE', k_eV', k_lst0, k_lst1, k_lst2, k_call', k_for', k_seqL, k_seqT, look_f, look_l, look_0, moveB_s, x_rNil, k_r1', k_r2', x_rV, k_rL', lookL_s, x_rL, k_ld', x_eCallL, lendB_ok, ld0_0, ld0_1, ld0_2, ld2_0, ld2_1, ld2_2, bd_ok, bd_no, bd_ex, of_some, x_vC, x_vVar, x_v1, x_v2, x_aNil, x_aCons, x_vN, andB_t, andB_f, orB_t, orB_f, ifB_t, ifB_f, x_vAnd, x_vOr, x_bIf, asBk_b, x_bV, x_bNot, x_bAnd, x_bOr, x_oNone, x_oSome, x_asI, x_vSl, chB_t, chB_f, x_vChain, x_vIsi, x_sNx, x_sSeq, th_nx, th_rt, x_sIf, x_sRet, x_sRetE, x_sExpr, x_sSet, x_sSetE, x_eV, fzB_f, x_vFz, x_eMove, x_eLst, callB_ok, callB_ex, x_eCall, x_sFor, x_iSeq, x_end_rt, x_end_nx, x_end_ex, gt_0, gt_s, st_0, st_s, bk_n, bk_y, bk_0, List.map_cons, List.map_nil, List.cons_append, List.nil_append, List.append_nil, List.length_cons, List.length_nil, if_true, if_false, Bool.not_true, Bool.not_false, q_tup1, q_tup2, q_lt, q_gt, q_le, q_ge, q_eq, q_add, q_sub, decide_true, decide_false, lendC_ok, ld11, ld22, keyD_i, dInB_s, k_dIn', x_vDIn, dgC_s, k_dg', dgB_s, x_vDGet, d2C_s, k_d22', k_d21', d2B_s, x_vDGet2, k_dp2', dpB_s, k_dp1', x_sDPut, dsV_s, dsV_n, k_ds2', k_ds1', dsB_s, x_vDSetd, dlB_s, x_vDLen, x_eD0, k_rE1', k_rE2', x_rE, odr_kv, od_kv, odr_dk, od_dk, val_kv, Option.map_some, Option.map_none, Option.isSome_some, Option.isSome_none, Option.getD_some, Option.getD_none, Bool.false_xor, Bool.true_xor, e5]
  have up := u.parts_deep 6 g3.2
  obtain ⟨y, t6, e6, h6, oy, dy⟩ := e_near hn u 120 _ t5 (by have := g3.2; omega) g3.1 h5 (by omega)
  have gx : Gd6 x := ⟨ox, by omega⟩
  have gy : Gd6 y := ⟨oy, Nat.le_trans dy g3.2⟩
  have a9 : lwNear (lwE (some (.f C)) (some (.f kk)) (some t5) (some (.f (.list (ns.map PyData.int)))) (some (.f w.d)) (some (tl [u.d, v.d])) (some (.f (.int 1))) q7 q8 (some (.f (jo u v).d)) (some (.f x.d)) s11 s12 s13 s14) = .ok .nx (lwE (some (.f C)) (some (.f kk)) (some t6) (some (.f (.list (ns.map PyData.int)))) (some (.f w.d)) (some (tl [u.d, v.d])) (some (.f (.int 1))) q7 q8 (some (.f (jo u v).d)) (some (.f x.d)) (some (.f y.d)) s12 s13 s14) := by
    unfold lwNear
    generalize PyData.list (ns.map PyData.int) = L at e6
    generalize m_l_near 120 = m1 at e6
    simp only [k_v1', k_v2', k_c1', k_c2', k_vN', k_not', k_no, k_ys, k_o', k_s1', k_s2', k_s3', k_ch1', k_ch2', k_isi', k_ret', k_retE', k_exp', k_set', k_setE', k_eV', k_lst0, k_lst1, k_lst2, k_call', k_for', k_seqL, k_seqT, look_f, look_l, look_0, moveB_s, x_rNil, k_r1', k_r2', x_rV, k_rL', lookL_s, x_rL, k_ld', x_eCallL, lendB_ok, ld0_0, ld0_1, ld0_2, ld2_0, ld2_1, ld2_2, bd_ok, bd_no, bd_ex, of_some, x_vC, x_vVar, x_v1, x_v2, x_aNil, x_aCons, x_vN, andB_t, andB_f, orB_t, orB_f, ifB_t, ifB_f, x_vAnd, x_vOr, x_bIf, asBk_b, x_bV, x_bNot, x_bAnd, x_bOr, x_oNone, x_oSome, x_asI, x_vSl, chB_t, chB_f, x_vChain, x_vIsi, x_sNx, x_sSeq, th_nx, th_rt, x_sIf, x_sRet, x_sRetE, x_sExpr, x_sSet, x_sSetE, x_eV, fzB_f, x_vFz, x_eMove, x_eLst, callB_ok, callB_ex, x_eCall, x_sFor, x_iSeq, x_end_rt, x_end_nx, x_end_ex, gt_0, gt_s, st_0, st_s, bk_n, bk_y, bk_0, List.map_cons, List.map_nil, List.cons_append, List.nil_append, List.append_nil, List.length_cons, List.length_nil, if_true, if_false, Bool.not_true, Bool.not_false, q_tup1, q_tup2, q_lt, q_gt, q_le, q_ge, q_eq, q_add, q_sub, decide_true, decide_false, lendC_ok, ld11, ld22, keyD_i, dInB_s, k_dIn', x_vDIn, dgC_s, k_dg', dgB_s, x_vDGet, d2C_s, k_d22', k_d21', d2B_s, x_vDGet2, k_dp2', dpB_s, k_dp1', x_sDPut, dsV_s, dsV_n, k_ds2', k_ds1', dsB_s, x_vDSetd, dlB_s, x_vDLen, x_eD0, k_rE1', k_rE2', x_rE, odr_kv, od_kv, odr_dk, od_dk, val_kv, Option.map_some, Option.map_none, Option.isSome_some, Option.isSome_none, Option.getD_some, Option.getD_none, Bool.false_xor, Bool.true_xor, ix50, e6]
  have a10 : lwPairs (lwE (some (.f C)) (some (.f kk)) (some t6) (some (.f (.list (ns.map PyData.int)))) (some (.f w.d)) (some (tl [u.d, v.d])) (some (.f (.int 1))) q7 q8 (some (.f (jo u v).d)) (some (.f x.d)) (some (.f y.d)) s12 s13 s14) = .ok .nx (lwE (some (.f C)) (some (.f kk)) (some t6) (some (.f (.list (ns.map PyData.int)))) (some (.f w.d)) (some (tl [u.d, v.d])) (some (.f (.int 1))) q7 q8 (some (.f (jo u v).d)) (some (.f x.d)) (some (.f y.d)) (some (.f (.list ([(u, v), (u, y), (v, x), (w, u)].map pd)))) s13 s14) := by
    have pl : ∀ a b c d : PyData, pLst [a, b, c, d] = some (.list [a, b, c, d]) := fun a b c d => q_lst (by show 4 ≤ sizeLine; decide)
    unfold lwPairs
    generalize PyData.list (ns.map PyData.int) = L
    simp only [k_v1', k_v2', k_c1', k_c2', k_vN', k_not', k_no, k_ys, k_o', k_s1', k_s2', k_s3', k_ch1', k_ch2', k_isi', k_ret', k_retE', k_exp', k_set', k_setE', k_eV', k_lst0, k_lst1, k_lst2, k_call', k_for', k_seqL, k_seqT, look_f, look_l, look_0, moveB_s, x_rNil, k_r1', k_r2', x_rV, k_rL', lookL_s, x_rL, k_ld', x_eCallL, lendB_ok, ld0_0, ld0_1, ld0_2, ld2_0, ld2_1, ld2_2, bd_ok, bd_no, bd_ex, of_some, x_vC, x_vVar, x_v1, x_v2, x_aNil, x_aCons, x_vN, andB_t, andB_f, orB_t, orB_f, ifB_t, ifB_f, x_vAnd, x_vOr, x_bIf, asBk_b, x_bV, x_bNot, x_bAnd, x_bOr, x_oNone, x_oSome, x_asI, x_vSl, chB_t, chB_f, x_vChain, x_vIsi, x_sNx, x_sSeq, th_nx, th_rt, x_sIf, x_sRet, x_sRetE, x_sExpr, x_sSet, x_sSetE, x_eV, fzB_f, x_vFz, x_eMove, x_eLst, callB_ok, callB_ex, x_eCall, x_sFor, x_iSeq, x_end_rt, x_end_nx, x_end_ex, gt_0, gt_s, st_0, st_s, bk_n, bk_y, bk_0, List.map_cons, List.map_nil, List.cons_append, List.nil_append, List.append_nil, List.length_cons, List.length_nil, if_true, if_false, Bool.not_true, Bool.not_false, q_tup1, q_tup2, q_lt, q_gt, q_le, q_ge, q_eq, q_add, q_sub, decide_true, decide_false, lendC_ok, ld11, ld22, keyD_i, dInB_s, k_dIn', x_vDIn, dgC_s, k_dg', dgB_s, x_vDGet, d2C_s, k_d22', k_d21', d2B_s, x_vDGet2, k_dp2', dpB_s, k_dp1', x_sDPut, dsV_s, dsV_n, k_ds2', k_ds1', dsB_s, x_vDSetd, dlB_s, x_vDLen, x_eD0, k_rE1', k_rE2', x_rE, odr_kv, od_kv, odr_dk, od_dk, val_kv, Option.map_some, Option.map_none, Option.isSome_some, Option.isSome_none, Option.getD_some, Option.getD_none, Bool.false_xor, Bool.true_xor, ix50, ix51, pl]
    rfl
  obtain ⟨r13, r14, e7⟩ := lw_ones (s0 := (some (.f C))) (s1 := (some (.f kk))) (s2 := (some t6)) (s3 := (some (.f (.list (ns.map PyData.int))))) (s4 := (some (.f w.d))) (s5 := (some (tl [u.d, v.d]))) (s6 := (some (.f (.int 1)))) (s7 := q7) (s8 := q8) (s9 := (some (.f (jo u v).d))) (s10 := (some (.f x.d))) (s11 := (some (.f y.d))) (s12 := (some (.f (.list ([(u, v), (u, y), (v, x), (w, u)].map pd))))) [(u, v), (u, y), (v, x), (w, u)] s13 s14 (by
    simp only [List.mem_cons, List.not_mem_nil, or_false, forall_eq_or_imp, forall_eq]
    exact ⟨⟨g3, g4⟩, ⟨g3, gy⟩, ⟨g4, gx⟩, gw, g3⟩)
  have a11 : (sFor (iSeq (vVar 12)) (Tg.tp [(Tg.nm 13), (Tg.nm 14)]) lwOne : MS) (lwE (some (.f C)) (some (.f kk)) (some t6) (some (.f (.list (ns.map PyData.int)))) (some (.f w.d)) (some (tl [u.d, v.d])) (some (.f (.int 1))) q7 q8 (some (.f (jo u v).d)) (some (.f x.d)) (some (.f y.d)) (some (.f (.list ([(u, v), (u, y), (v, x), (w, u)].map pd)))) s13 s14) = .ok .nx (lwE (some (.f C)) (some (.f kk)) (some t6) (some (.f (.list (ns.map PyData.int)))) (some (.f w.d)) (some (tl [u.d, v.d])) (some (.f (.int 1))) q7 q8 (some (.f (jo u v).d)) (some (.f x.d)) (some (.f y.d)) (some (.f (.list ([(u, v), (u, y), (v, x), (w, u)].map pd)))) r13 r14) := by
    rw [x_sFor, x_iSeq]
    exact e7
  refine ⟨(some t6), (some (.f (.list (ns.map PyData.int)))), (some (.f w.d)), (some (tl [u.d, v.d])), (some (.f (.int 1))), q7, q8, (some (.f (jo u v).d)), (some (.f x.d)), (some (.f y.d)), (some (.f (.list ([(u, v), (u, y), (v, x), (w, u)].map pd)))), r13, r14, ?_⟩
  unfold lwTurn
  rw [x_sSeq, a1, bd_ok, th_nx, x_sSeq, a2, bd_ok, th_nx, x_sSeq, a3, bd_ok, th_nx, x_sSeq, a4, bd_ok, th_nx, x_sSeq, a5, bd_ok, th_nx, x_sSeq, a6, bd_ok, th_nx, x_sSeq, a7, bd_ok, th_nx, x_sSeq, a8, bd_ok, th_nx, x_sSeq, a9, bd_ok, th_nx, x_sSeq, a10, bd_ok, th_nx, a11]
theorem lw_turns (cs : List Int) : ∀ (m k : Nat), k + m ≤ 100 → ∀ (s1 s2 s3 s4 s5 s6 s7 s8 s9 s10 s11 s12 s13 s14 : Option T), ∃ r1 r2 r3 r4 r5 r6 r7 r8 r9 r10 r11 r12 r13 r14 : Option T, forS (.nm 1) lwTurn (rangeD (k : Int) m) (lwE (some (.f (.list (cs.map PyData.int)))) s1 s2 s3 s4 s5 s6 s7 s8 s9 s10 s11 s12 s13 s14) = .ok .nx (lwE (some (.f (.list (cs.map PyData.int)))) r1 r2 r3 r4 r5 r6 r7 r8 r9 r10 r11 r12 r13 r14)
  | 0, k, _, s1, s2, s3, s4, s5, s6, s7, s8, s9, s10, s11, s12, s13, s14 => ⟨s1, s2, s3, s4, s5, s6, s7, s8, s9, s10, s11, s12, s13, s14, rfl⟩
  | m + 1, k, h, s1, s2, s3, s4, s5, s6, s7, s8, s9, s10, s11, s12, s13, s14 => by
    obtain ⟨r2, r3, r4, r5, r6, r7, r8, r9, r10, r11, r12, r13, r14, e⟩ := lw_turn cs k (by omega) s2 s3 s4 s5 s6 s7 s8 s9 s10 s11 s12 s13 s14
    obtain ⟨q1, q2, q3, q4, q5, q6, q7, q8, q9, q10, q11, q12, q13, q14, e'⟩ := lw_turns cs m (k + 1) (by omega) (some (.f (.int (k : Int)))) r2 r3 r4 r5 r6 r7 r8 r9 r10 r11 r12 r13 r14
    refine ⟨q1, q2, q3, q4, q5, q6, q7, q8, q9, q10, q11, q12, q13, q14, ?_⟩
    rw [range_cons, forS_nm]
    show Ou.bd (lwTurn (lwE (some (.f (.list (cs.map PyData.int)))) (some (.f (.int (k : Int)))) s2 s3 s4 s5 s6 s7 s8 s9 s10 s11 s12 s13 s14)) _ = _
    rw [e, bd_ok, fr_nx, show (k : Int) + 1 = ((k + 1 : Nat) : Int) by omega]
    exact e'
theorem lw_end (ρ : MEnv) : lwEnd ρ = .ok (.rt (.f (.bool true))) ρ := by
  have i1 : m_joined [.f (.tuple [.str "a", .int 7]), .f (.tuple [.str "a", .int 7])] = .ok (.f (.tuple [.str "a", .int 7])) [none, none] := by
    have h : Gd6 (.pr (.nm "a") (.nu 7)) := ⟨⟨(by decide : isName "a" = true), by decide, by decide⟩, by decide⟩
    have e : jo (.pr (.nm "a") (.nu 7)) (.pr (.nm "a") (.nu 7)) = .pr (.nm "a") (.nu 7) := by
      show Tm.pr (jl (.nm "a") (.nm "a") []).1 (jl (.nu 7) (.nu 7) (jl (.nm "a") (.nm "a") []).2).1 = _
      unfold jl
      rw [if_pos ⟨rfl, rfl⟩, if_pos ⟨rfl, rfl⟩]
    have q := e_jo h h
    rw [e] at q
    exact q
  have i2 : m_joined [.f (.tuple [.int 5]), .f (.tuple [.int 5])] = .ok (.f (.tuple [.int 0])) [none, none] := by
    have h : Gd6 (.un 5) := ⟨⟨by decide, by decide⟩, by decide⟩
    have e : jo (.un 5) (.un 5) = .un 0 := by
      show (jl (.un 5) (.un 5) []).1 = _
      unfold jl
      rw [if_neg (fun z => by cases z.2)]
      rfl
    have q := e_jo h h
    rw [e] at q
    exact q
  have i3 : m_joined [.f (.int 1), .f (.str "a")] = .ok (.f (.tuple [.int 0])) [none, none] := by
    have h : Gd6 (.nu 1) := ⟨⟨by decide, by decide⟩, by decide⟩
    have h' : Gd6 (.nm "a") := ⟨(by decide : isName "a" = true), by decide⟩
    have e : jo (.nu 1) (.nm "a") = .un 0 := by
      show (jl (.nu 1) (.nm "a") []).1 = _
      unfold jl
      rw [if_neg (fun z => by cases z.1)]
      rfl
    have q := e_jo h h'
    rw [e] at q
    exact q
  have p1 : pEq (.tuple [.str "a", .int 7]) (.tuple [.str "a", .int 7]) = some (.bool true) := by
    have h : (Tm.pr (.nm "a") (.nu 7)).ok := ⟨(by decide : isName "a" = true), by decide, by decide⟩
    have q := Tm.pEq (a := .pr (.nm "a") (.nu 7)) (b := .pr (.nm "a") (.nu 7)) h h (by decide) (by decide)
    rw [decide_eq_true rfl] at q
    exact q
  have p2 : pEq (.tuple [.int 0]) (.tuple [.int 0]) = some (.bool true) := by rfl
  unfold lwEnd
  generalize m_joined = mm at i1 i2 i3
  simp only [k_v1', k_v2', k_c1', k_c2', k_vN', k_not', k_no, k_ys, k_o', k_s1', k_s2', k_s3', k_ch1', k_ch2', k_isi', k_ret', k_retE', k_exp', k_set', k_setE', k_eV', k_lst0, k_lst1, k_lst2, k_call', k_for', k_seqL, k_seqT, look_f, look_l, look_0, moveB_s, x_rNil, k_r1', k_r2', x_rV, k_rL', lookL_s, x_rL, k_ld', x_eCallL, lendB_ok, ld0_0, ld0_1, ld0_2, ld2_0, ld2_1, ld2_2, bd_ok, bd_no, bd_ex, of_some, x_vC, x_vVar, x_v1, x_v2, x_aNil, x_aCons, x_vN, andB_t, andB_f, orB_t, orB_f, ifB_t, ifB_f, x_vAnd, x_vOr, x_bIf, asBk_b, x_bV, x_bNot, x_bAnd, x_bOr, x_oNone, x_oSome, x_asI, x_vSl, chB_t, chB_f, x_vChain, x_vIsi, x_sNx, x_sSeq, th_nx, th_rt, x_sIf, x_sRet, x_sRetE, x_sExpr, x_sSet, x_sSetE, x_eV, fzB_f, x_vFz, x_eMove, x_eLst, callB_ok, callB_ex, x_eCall, x_sFor, x_iSeq, x_end_rt, x_end_nx, x_end_ex, gt_0, gt_s, st_0, st_s, bk_n, bk_y, bk_0, List.map_cons, List.map_nil, List.cons_append, List.nil_append, List.append_nil, List.length_cons, List.length_nil, if_true, if_false, Bool.not_true, Bool.not_false, q_tup1, q_tup2, q_lt, q_gt, q_le, q_ge, q_eq, q_add, q_sub, decide_true, decide_false, lendC_ok, ld11, ld22, keyD_i, dInB_s, k_dIn', x_vDIn, dgC_s, k_dg', dgB_s, x_vDGet, d2C_s, k_d22', k_d21', d2B_s, x_vDGet2, k_dp2', dpB_s, k_dp1', x_sDPut, dsV_s, dsV_n, k_ds2', k_ds1', dsB_s, x_vDSetd, dlB_s, x_vDLen, x_eD0, k_rE1', k_rE2', x_rE, odr_kv, od_kv, odr_dk, od_dk, val_kv, Option.map_some, Option.map_none, Option.isSome_some, Option.isSome_none, Option.getD_some, Option.getD_none, Bool.false_xor, Bool.true_xor, i1, p1, i2, p2, i3]
theorem m_law_true (ns : List Int) (h : ns.length ≤ 63) : ∃ back, m_law [.f (.list (ns.map PyData.int))] = .ok (.f (.bool true)) back := by
  refine ⟨[none], ?_⟩
  rw [show m_law [.f (.list (ns.map PyData.int))] = endF [false] (b_law (lwE (some (.f (.list (ns.map PyData.int)))) none none none none none none none none none none none none none none)) from mFn2 rfl rfl, b_law_eq]
  obtain ⟨M, hM, hle⟩ : ∃ M : Nat, iRange1 (vN pMax2 (aCons (vC (PyData.int 4)) (aCons (vN pMin2 (aCons (vC (PyData.int 10)) (aCons (vN pLen (aCons (vVar 0) aNil)) aNil))) aNil))) (lwE (some (.f (.list (ns.map PyData.int)))) none none none none none none none none none none none none none none) = .ok (rangeD ((0 : Nat) : Int) M) (lwE (some (.f (.list (ns.map PyData.int)))) none none none none none none none none none none none none none none) ∧ M ≤ 100 := by
    have hlen : ((ns.map PyData.int).length : Int) ≤ 63 := by rw [List.length_map]; omega
    have e1 : vN pMax2 (aCons (vC (PyData.int 4)) (aCons (vN pMin2 (aCons (vC (PyData.int 10)) (aCons (vN pLen (aCons (vVar 0) aNil)) aNil))) aNil)) (lwE (some (.f (.list (ns.map PyData.int)))) none none none none none none none none none none none none none none) = .ok (.int (if (if ((ns.map PyData.int).length : Int) < 10 then ((ns.map PyData.int).length : Int) else 10) > 4 then (if ((ns.map PyData.int).length : Int) < 10 then ((ns.map PyData.int).length : Int) else 10) else 4)) (lwE (some (.f (.list (ns.map PyData.int)))) none none none none none none none none none none none none none none) := rfl
    generalize ((ns.map PyData.int).length : Int) = z at e1 hlen
    refine ⟨(if (if z < 10 then z else 10) > 4 then (if z < 10 then z else 10) else 4).toNat, ?_, by split <;> (try split) <;> omega⟩
    unfold iRange1
    rw [e1, bd_ok]
    show (if _ then _ else _) = _
    rw [if_pos ⟨by split <;> (try split) <;> omega, by split <;> (try split) <;> omega⟩]
    rfl
  obtain ⟨r1, r2, r3, r4, r5, r6, r7, r8, r9, r10, r11, r12, r13, r14, e⟩ := lw_turns ns M 0 (by omega) none none none none none none none none none none none none none none
  rw [x_sSeq, x_sFor, hM, bd_ok, k_for', e, bd_ok, th_nx, lw_end, x_end_rt, bk_n, bk_0]
section
variable {P : Program} {w : World} {K : PySem.W.Frag} {mg : Str → Option Value} {base : Heap}
theorem ok_law (T : Env K mg) : FnG P w K mg base CX0 125 T.a_law T.d_law ["_law_script"] (sp_law K) := law_of (okm_law T) m_law_true
end


set_option maxHeartbeats 0 in
theorem all_mk {l : PySem.W.OpenLaw} {w : World} {K : PySem.W.Frag} {h : Heap} {mg : Str → Option Value} {fa f_is_whole f_is_within f_is_name f_is_unknown f_is_pair f_is_single f_is_term f_need_term f_parts_within f_numbers_in f_turned_into f_by_coming f_instance f_are_variants f_joined_within f_joined f_l_cell f_l_box f_l_take f_l_name f_l_single f_l_term f_l_numbers f_l_near f_l_put f_l_joined f_l_right f_law : Addr} (X : K.In h) (G : h.Ns mainGlobals mg) (hfa : mg "law" = some (.ref fa))
    {oc_is_whole kV_is_whole dc_is_whole pm_is_whole cd_is_whole ct_is_whole : Value} {od_is_whole an_is_whole : Option Addr} {sl_is_whole : Array (Option Value)}
    {oc_is_within kV_is_within dc_is_within pm_is_within cd_is_within ct_is_within : Value} {od_is_within an_is_within : Option Addr} {sl_is_within : Array (Option Value)}
    {oc_is_name kV_is_name dc_is_name pm_is_name cd_is_name ct_is_name : Value} {od_is_name an_is_name : Option Addr} {sl_is_name : Array (Option Value)}
    {oc_is_unknown kV_is_unknown dc_is_unknown pm_is_unknown cd_is_unknown ct_is_unknown : Value} {od_is_unknown an_is_unknown : Option Addr} {sl_is_unknown : Array (Option Value)}
    {oc_is_pair kV_is_pair dc_is_pair pm_is_pair cd_is_pair ct_is_pair : Value} {od_is_pair an_is_pair : Option Addr} {sl_is_pair : Array (Option Value)}
    {oc_is_single kV_is_single dc_is_single pm_is_single cd_is_single ct_is_single : Value} {od_is_single an_is_single : Option Addr} {sl_is_single : Array (Option Value)}
    {oc_is_term kV_is_term dc_is_term pm_is_term cd_is_term ct_is_term : Value} {od_is_term an_is_term : Option Addr} {sl_is_term : Array (Option Value)}
    {oc_need_term kV_need_term dc_need_term pm_need_term cd_need_term ct_need_term : Value} {od_need_term an_need_term : Option Addr} {sl_need_term : Array (Option Value)}
    {oc_parts_within kV_parts_within dc_parts_within pm_parts_within cd_parts_within ct_parts_within : Value} {od_parts_within an_parts_within : Option Addr} {sl_parts_within : Array (Option Value)}
    {oc_numbers_in kV_numbers_in dc_numbers_in pm_numbers_in cd_numbers_in ct_numbers_in : Value} {od_numbers_in an_numbers_in : Option Addr} {sl_numbers_in : Array (Option Value)}
    {oc_turned_into kV_turned_into dc_turned_into pm_turned_into cd_turned_into ct_turned_into : Value} {od_turned_into an_turned_into : Option Addr} {sl_turned_into : Array (Option Value)}
    {oc_by_coming kV_by_coming dc_by_coming pm_by_coming cd_by_coming ct_by_coming : Value} {od_by_coming an_by_coming : Option Addr} {sl_by_coming : Array (Option Value)}
    {oc_instance kV_instance dc_instance pm_instance cd_instance ct_instance : Value} {od_instance an_instance : Option Addr} {sl_instance : Array (Option Value)}
    {oc_are_variants kV_are_variants dc_are_variants pm_are_variants cd_are_variants ct_are_variants : Value} {od_are_variants an_are_variants : Option Addr} {sl_are_variants : Array (Option Value)}
    {oc_joined_within kV_joined_within dc_joined_within pm_joined_within cd_joined_within ct_joined_within : Value} {od_joined_within an_joined_within : Option Addr} {sl_joined_within : Array (Option Value)}
    {oc_joined kV_joined dc_joined pm_joined cd_joined ct_joined : Value} {od_joined an_joined : Option Addr} {sl_joined : Array (Option Value)}
    {oc_l_cell kV_l_cell dc_l_cell pm_l_cell cd_l_cell ct_l_cell : Value} {od_l_cell an_l_cell : Option Addr} {sl_l_cell : Array (Option Value)}
    {oc_l_box kV_l_box dc_l_box pm_l_box cd_l_box ct_l_box : Value} {od_l_box an_l_box : Option Addr} {sl_l_box : Array (Option Value)}
    {oc_l_take kV_l_take dc_l_take pm_l_take cd_l_take ct_l_take : Value} {od_l_take an_l_take : Option Addr} {sl_l_take : Array (Option Value)}
    {oc_l_name kV_l_name dc_l_name pm_l_name cd_l_name ct_l_name : Value} {od_l_name an_l_name : Option Addr} {sl_l_name : Array (Option Value)}
    {oc_l_single kV_l_single dc_l_single pm_l_single cd_l_single ct_l_single : Value} {od_l_single an_l_single : Option Addr} {sl_l_single : Array (Option Value)}
    {oc_l_term kV_l_term dc_l_term pm_l_term cd_l_term ct_l_term : Value} {od_l_term an_l_term : Option Addr} {sl_l_term : Array (Option Value)}
    {oc_l_numbers kV_l_numbers dc_l_numbers pm_l_numbers cd_l_numbers ct_l_numbers : Value} {od_l_numbers an_l_numbers : Option Addr} {sl_l_numbers : Array (Option Value)}
    {oc_l_near kV_l_near dc_l_near pm_l_near cd_l_near ct_l_near : Value} {od_l_near an_l_near : Option Addr} {sl_l_near : Array (Option Value)}
    {oc_l_put kV_l_put dc_l_put pm_l_put cd_l_put ct_l_put : Value} {od_l_put an_l_put : Option Addr} {sl_l_put : Array (Option Value)}
    {oc_l_joined kV_l_joined dc_l_joined pm_l_joined cd_l_joined ct_l_joined : Value} {od_l_joined an_l_joined : Option Addr} {sl_l_joined : Array (Option Value)}
    {oc_l_right kV_l_right dc_l_right pm_l_right cd_l_right ct_l_right : Value} {od_l_right an_l_right : Option Addr} {sl_l_right : Array (Option Value)}
    {oc_law kV_law dc_law pm_law cd_law ct_law : Value} {od_law an_law : Option Addr} {sl_law : Array (Option Value)}
    (a_is_whole : PySem.W.nsIn K mainGlobals "is_whole" = some (some (.ref f_is_whole)))
    (l_is_whole : K.lookup f_is_whole = some ⟨oc_is_whole, od_is_whole, .func (PySem.W.fnOf "is_whole" "is_whole" (defArgs s_is_whole) (defBody s_is_whole) (defScope s_is_whole) .none kV_is_whole dc_is_whole pm_is_whole an_is_whole cd_is_whole ct_is_whole), sl_is_whole⟩)
    (c_is_whole : PySem.W.codeIn K cd_is_whole "is_whole" = true)
    (k_is_whole : PySem.W.keepIn K (.ref f_is_whole) = true)
    (a_is_within : PySem.W.nsIn K mainGlobals "is_within" = some (some (.ref f_is_within)))
    (l_is_within : K.lookup f_is_within = some ⟨oc_is_within, od_is_within, .func (PySem.W.fnOf "is_within" "is_within" (defArgs s_is_within) (defBody s_is_within) (defScope s_is_within) .none kV_is_within dc_is_within pm_is_within an_is_within cd_is_within ct_is_within), sl_is_within⟩)
    (c_is_within : PySem.W.codeIn K cd_is_within "is_within" = true)
    (k_is_within : PySem.W.keepIn K (.ref f_is_within) = true)
    (a_is_name : PySem.W.nsIn K mainGlobals "is_name" = some (some (.ref f_is_name)))
    (l_is_name : K.lookup f_is_name = some ⟨oc_is_name, od_is_name, .func (PySem.W.fnOf "is_name" "is_name" (defArgs s_is_name) (defBody s_is_name) (defScope s_is_name) .none kV_is_name dc_is_name pm_is_name an_is_name cd_is_name ct_is_name), sl_is_name⟩)
    (c_is_name : PySem.W.codeIn K cd_is_name "is_name" = true)
    (k_is_name : PySem.W.keepIn K (.ref f_is_name) = true)
    (a_is_unknown : PySem.W.nsIn K mainGlobals "is_unknown" = some (some (.ref f_is_unknown)))
    (l_is_unknown : K.lookup f_is_unknown = some ⟨oc_is_unknown, od_is_unknown, .func (PySem.W.fnOf "is_unknown" "is_unknown" (defArgs s_is_unknown) (defBody s_is_unknown) (defScope s_is_unknown) .none kV_is_unknown dc_is_unknown pm_is_unknown an_is_unknown cd_is_unknown ct_is_unknown), sl_is_unknown⟩)
    (c_is_unknown : PySem.W.codeIn K cd_is_unknown "is_unknown" = true)
    (k_is_unknown : PySem.W.keepIn K (.ref f_is_unknown) = true)
    (a_is_pair : PySem.W.nsIn K mainGlobals "is_pair" = some (some (.ref f_is_pair)))
    (l_is_pair : K.lookup f_is_pair = some ⟨oc_is_pair, od_is_pair, .func (PySem.W.fnOf "is_pair" "is_pair" (defArgs s_is_pair) (defBody s_is_pair) (defScope s_is_pair) .none kV_is_pair dc_is_pair pm_is_pair an_is_pair cd_is_pair ct_is_pair), sl_is_pair⟩)
    (c_is_pair : PySem.W.codeIn K cd_is_pair "is_pair" = true)
    (k_is_pair : PySem.W.keepIn K (.ref f_is_pair) = true)
    (a_is_single : PySem.W.nsIn K mainGlobals "is_single" = some (some (.ref f_is_single)))
    (l_is_single : K.lookup f_is_single = some ⟨oc_is_single, od_is_single, .func (PySem.W.fnOf "is_single" "is_single" (defArgs s_is_single) (defBody s_is_single) (defScope s_is_single) .none kV_is_single dc_is_single pm_is_single an_is_single cd_is_single ct_is_single), sl_is_single⟩)
    (c_is_single : PySem.W.codeIn K cd_is_single "is_single" = true)
    (k_is_single : PySem.W.keepIn K (.ref f_is_single) = true)
    (a_is_term : PySem.W.nsIn K mainGlobals "is_term" = some (some (.ref f_is_term)))
    (l_is_term : K.lookup f_is_term = some ⟨oc_is_term, od_is_term, .func (PySem.W.fnOf "is_term" "is_term" (defArgs s_is_term) (defBody s_is_term) (defScope s_is_term) .none kV_is_term dc_is_term pm_is_term an_is_term cd_is_term ct_is_term), sl_is_term⟩)
    (c_is_term : PySem.W.codeIn K cd_is_term "is_term" = true)
    (k_is_term : PySem.W.keepIn K (.ref f_is_term) = true)
    (a_need_term : PySem.W.nsIn K mainGlobals "need_term" = some (some (.ref f_need_term)))
    (l_need_term : K.lookup f_need_term = some ⟨oc_need_term, od_need_term, .func (PySem.W.fnOf "need_term" "need_term" (defArgs s_need_term) (defBody s_need_term) (defScope s_need_term) .none kV_need_term dc_need_term pm_need_term an_need_term cd_need_term ct_need_term), sl_need_term⟩)
    (c_need_term : PySem.W.codeIn K cd_need_term "need_term" = true)
    (k_need_term : PySem.W.keepIn K (.ref f_need_term) = true)
    (a_parts_within : PySem.W.nsIn K mainGlobals "parts_within" = some (some (.ref f_parts_within)))
    (l_parts_within : K.lookup f_parts_within = some ⟨oc_parts_within, od_parts_within, .func (PySem.W.fnOf "parts_within" "parts_within" (defArgs s_parts_within) (defBody s_parts_within) (defScope s_parts_within) .none kV_parts_within dc_parts_within pm_parts_within an_parts_within cd_parts_within ct_parts_within), sl_parts_within⟩)
    (c_parts_within : PySem.W.codeIn K cd_parts_within "parts_within" = true)
    (k_parts_within : PySem.W.keepIn K (.ref f_parts_within) = true)
    (a_numbers_in : PySem.W.nsIn K mainGlobals "numbers_in" = some (some (.ref f_numbers_in)))
    (l_numbers_in : K.lookup f_numbers_in = some ⟨oc_numbers_in, od_numbers_in, .func (PySem.W.fnOf "numbers_in" "numbers_in" (defArgs s_numbers_in) (defBody s_numbers_in) (defScope s_numbers_in) .none kV_numbers_in dc_numbers_in pm_numbers_in an_numbers_in cd_numbers_in ct_numbers_in), sl_numbers_in⟩)
    (c_numbers_in : PySem.W.codeIn K cd_numbers_in "numbers_in" = true)
    (k_numbers_in : PySem.W.keepIn K (.ref f_numbers_in) = true)
    (a_turned_into : PySem.W.nsIn K mainGlobals "turned_into" = some (some (.ref f_turned_into)))
    (l_turned_into : K.lookup f_turned_into = some ⟨oc_turned_into, od_turned_into, .func (PySem.W.fnOf "turned_into" "turned_into" (defArgs s_turned_into) (defBody s_turned_into) (defScope s_turned_into) .none kV_turned_into dc_turned_into pm_turned_into an_turned_into cd_turned_into ct_turned_into), sl_turned_into⟩)
    (c_turned_into : PySem.W.codeIn K cd_turned_into "turned_into" = true)
    (k_turned_into : PySem.W.keepIn K (.ref f_turned_into) = true)
    (a_by_coming : PySem.W.nsIn K mainGlobals "by_coming" = some (some (.ref f_by_coming)))
    (l_by_coming : K.lookup f_by_coming = some ⟨oc_by_coming, od_by_coming, .func (PySem.W.fnOf "by_coming" "by_coming" (defArgs s_by_coming) (defBody s_by_coming) (defScope s_by_coming) .none kV_by_coming dc_by_coming pm_by_coming an_by_coming cd_by_coming ct_by_coming), sl_by_coming⟩)
    (c_by_coming : PySem.W.codeIn K cd_by_coming "by_coming" = true)
    (k_by_coming : PySem.W.keepIn K (.ref f_by_coming) = true)
    (a_instance : PySem.W.nsIn K mainGlobals "instance" = some (some (.ref f_instance)))
    (l_instance : K.lookup f_instance = some ⟨oc_instance, od_instance, .func (PySem.W.fnOf "instance" "instance" (defArgs s_instance) (defBody s_instance) (defScope s_instance) .none kV_instance dc_instance pm_instance an_instance cd_instance ct_instance), sl_instance⟩)
    (c_instance : PySem.W.codeIn K cd_instance "instance" = true)
    (k_instance : PySem.W.keepIn K (.ref f_instance) = true)
    (a_are_variants : PySem.W.nsIn K mainGlobals "are_variants" = some (some (.ref f_are_variants)))
    (l_are_variants : K.lookup f_are_variants = some ⟨oc_are_variants, od_are_variants, .func (PySem.W.fnOf "are_variants" "are_variants" (defArgs s_are_variants) (defBody s_are_variants) (defScope s_are_variants) .none kV_are_variants dc_are_variants pm_are_variants an_are_variants cd_are_variants ct_are_variants), sl_are_variants⟩)
    (c_are_variants : PySem.W.codeIn K cd_are_variants "are_variants" = true)
    (k_are_variants : PySem.W.keepIn K (.ref f_are_variants) = true)
    (a_joined_within : PySem.W.nsIn K mainGlobals "joined_within" = some (some (.ref f_joined_within)))
    (l_joined_within : K.lookup f_joined_within = some ⟨oc_joined_within, od_joined_within, .func (PySem.W.fnOf "joined_within" "joined_within" (defArgs s_joined_within) (defBody s_joined_within) (defScope s_joined_within) .none kV_joined_within dc_joined_within pm_joined_within an_joined_within cd_joined_within ct_joined_within), sl_joined_within⟩)
    (c_joined_within : PySem.W.codeIn K cd_joined_within "joined_within" = true)
    (k_joined_within : PySem.W.keepIn K (.ref f_joined_within) = true)
    (a_joined : PySem.W.nsIn K mainGlobals "joined" = some (some (.ref f_joined)))
    (l_joined : K.lookup f_joined = some ⟨oc_joined, od_joined, .func (PySem.W.fnOf "joined" "joined" (defArgs s_joined) (defBody s_joined) (defScope s_joined) .none kV_joined dc_joined pm_joined an_joined cd_joined ct_joined), sl_joined⟩)
    (c_joined : PySem.W.codeIn K cd_joined "joined" = true)
    (k_joined : PySem.W.keepIn K (.ref f_joined) = true)
    (a_l_cell : PySem.W.nsIn K mainGlobals "_law_cell" = some (some (.ref f_l_cell)))
    (l_l_cell : K.lookup f_l_cell = some ⟨oc_l_cell, od_l_cell, .func (PySem.W.fnOf "_law_cell" "_law_cell" (defArgs s_l_cell) (defBody s_l_cell) (defScope s_l_cell) .none kV_l_cell dc_l_cell pm_l_cell an_l_cell cd_l_cell ct_l_cell), sl_l_cell⟩)
    (c_l_cell : PySem.W.codeIn K cd_l_cell "_law_cell" = true)
    (k_l_cell : PySem.W.keepIn K (.ref f_l_cell) = true)
    (a_l_box : PySem.W.nsIn K mainGlobals "_law_box" = some (some (.ref f_l_box)))
    (l_l_box : K.lookup f_l_box = some ⟨oc_l_box, od_l_box, .func (PySem.W.fnOf "_law_box" "_law_box" (defArgs s_l_box) (defBody s_l_box) (defScope s_l_box) .none kV_l_box dc_l_box pm_l_box an_l_box cd_l_box ct_l_box), sl_l_box⟩)
    (c_l_box : PySem.W.codeIn K cd_l_box "_law_box" = true)
    (k_l_box : PySem.W.keepIn K (.ref f_l_box) = true)
    (a_l_take : PySem.W.nsIn K mainGlobals "_law_take" = some (some (.ref f_l_take)))
    (l_l_take : K.lookup f_l_take = some ⟨oc_l_take, od_l_take, .func (PySem.W.fnOf "_law_take" "_law_take" (defArgs s_l_take) (defBody s_l_take) (defScope s_l_take) .none kV_l_take dc_l_take pm_l_take an_l_take cd_l_take ct_l_take), sl_l_take⟩)
    (c_l_take : PySem.W.codeIn K cd_l_take "_law_take" = true)
    (k_l_take : PySem.W.keepIn K (.ref f_l_take) = true)
    (a_l_name : PySem.W.nsIn K mainGlobals "_law_name" = some (some (.ref f_l_name)))
    (l_l_name : K.lookup f_l_name = some ⟨oc_l_name, od_l_name, .func (PySem.W.fnOf "_law_name" "_law_name" (defArgs s_l_name) (defBody s_l_name) (defScope s_l_name) .none kV_l_name dc_l_name pm_l_name an_l_name cd_l_name ct_l_name), sl_l_name⟩)
    (c_l_name : PySem.W.codeIn K cd_l_name "_law_name" = true)
    (k_l_name : PySem.W.keepIn K (.ref f_l_name) = true)
    (a_l_single : PySem.W.nsIn K mainGlobals "_law_single" = some (some (.ref f_l_single)))
    (l_l_single : K.lookup f_l_single = some ⟨oc_l_single, od_l_single, .func (PySem.W.fnOf "_law_single" "_law_single" (defArgs s_l_single) (defBody s_l_single) (defScope s_l_single) .none kV_l_single dc_l_single pm_l_single an_l_single cd_l_single ct_l_single), sl_l_single⟩)
    (c_l_single : PySem.W.codeIn K cd_l_single "_law_single" = true)
    (k_l_single : PySem.W.keepIn K (.ref f_l_single) = true)
    (a_l_term : PySem.W.nsIn K mainGlobals "_law_term" = some (some (.ref f_l_term)))
    (l_l_term : K.lookup f_l_term = some ⟨oc_l_term, od_l_term, .func (PySem.W.fnOf "_law_term" "_law_term" (defArgs s_l_term) (defBody s_l_term) (defScope s_l_term) .none kV_l_term dc_l_term pm_l_term an_l_term cd_l_term ct_l_term), sl_l_term⟩)
    (c_l_term : PySem.W.codeIn K cd_l_term "_law_term" = true)
    (k_l_term : PySem.W.keepIn K (.ref f_l_term) = true)
    (a_l_numbers : PySem.W.nsIn K mainGlobals "_law_numbers" = some (some (.ref f_l_numbers)))
    (l_l_numbers : K.lookup f_l_numbers = some ⟨oc_l_numbers, od_l_numbers, .func (PySem.W.fnOf "_law_numbers" "_law_numbers" (defArgs s_l_numbers) (defBody s_l_numbers) (defScope s_l_numbers) .none kV_l_numbers dc_l_numbers pm_l_numbers an_l_numbers cd_l_numbers ct_l_numbers), sl_l_numbers⟩)
    (c_l_numbers : PySem.W.codeIn K cd_l_numbers "_law_numbers" = true)
    (k_l_numbers : PySem.W.keepIn K (.ref f_l_numbers) = true)
    (a_l_near : PySem.W.nsIn K mainGlobals "_law_near" = some (some (.ref f_l_near)))
    (l_l_near : K.lookup f_l_near = some ⟨oc_l_near, od_l_near, .func (PySem.W.fnOf "_law_near" "_law_near" (defArgs s_l_near) (defBody s_l_near) (defScope s_l_near) .none kV_l_near dc_l_near pm_l_near an_l_near cd_l_near ct_l_near), sl_l_near⟩)
    (c_l_near : PySem.W.codeIn K cd_l_near "_law_near" = true)
    (k_l_near : PySem.W.keepIn K (.ref f_l_near) = true)
    (a_l_put : PySem.W.nsIn K mainGlobals "_law_put" = some (some (.ref f_l_put)))
    (l_l_put : K.lookup f_l_put = some ⟨oc_l_put, od_l_put, .func (PySem.W.fnOf "_law_put" "_law_put" (defArgs s_l_put) (defBody s_l_put) (defScope s_l_put) .none kV_l_put dc_l_put pm_l_put an_l_put cd_l_put ct_l_put), sl_l_put⟩)
    (c_l_put : PySem.W.codeIn K cd_l_put "_law_put" = true)
    (k_l_put : PySem.W.keepIn K (.ref f_l_put) = true)
    (a_l_joined : PySem.W.nsIn K mainGlobals "_law_joined" = some (some (.ref f_l_joined)))
    (l_l_joined : K.lookup f_l_joined = some ⟨oc_l_joined, od_l_joined, .func (PySem.W.fnOf "_law_joined" "_law_joined" (defArgs s_l_joined) (defBody s_l_joined) (defScope s_l_joined) .none kV_l_joined dc_l_joined pm_l_joined an_l_joined cd_l_joined ct_l_joined), sl_l_joined⟩)
    (c_l_joined : PySem.W.codeIn K cd_l_joined "_law_joined" = true)
    (k_l_joined : PySem.W.keepIn K (.ref f_l_joined) = true)
    (a_l_right : PySem.W.nsIn K mainGlobals "_law_right" = some (some (.ref f_l_right)))
    (l_l_right : K.lookup f_l_right = some ⟨oc_l_right, od_l_right, .func (PySem.W.fnOf "_law_right" "_law_right" (defArgs s_l_right) (defBody s_l_right) (defScope s_l_right) .none kV_l_right dc_l_right pm_l_right an_l_right cd_l_right ct_l_right), sl_l_right⟩)
    (c_l_right : PySem.W.codeIn K cd_l_right "_law_right" = true)
    (k_l_right : PySem.W.keepIn K (.ref f_l_right) = true)
    (a_law : PySem.W.nsIn K mainGlobals "law" = some (some (.ref f_law)))
    (l_law : K.lookup f_law = some ⟨oc_law, od_law, .func (PySem.W.fnOf "law" "law" (defArgs s_law) (defBody s_law) (defScope s_law) .none kV_law dc_law pm_law an_law cd_law ct_law), sl_law⟩)
    (c_law : PySem.W.codeIn K cd_law "law" = true)
    (k_law : PySem.W.keepIn K (.ref f_law) = true)
    {ac_NoTerm ai_NoTerm N_NoTerm : Addr} {nm_NoTerm q_NoTerm : Str} {bs_NoTerm bm_NoTerm : List Value} {sn_NoTerm : List Str} {sub_NoTerm : List Value} {ab_NoTerm : Bool} {col_NoTerm : Option Bool} {dd_NoTerm : Option Addr} {k0_NoTerm k1_NoTerm k2_NoTerm k3_NoTerm k5_NoTerm : Option Value}
    {oc_NoTerm_i kV_NoTerm_i dc_NoTerm_i pm_NoTerm_i cd_NoTerm_i ct_NoTerm_i : Value} {od_NoTerm_i an_NoTerm_i : Option Addr} {sl_NoTerm_i : Array (Option Value)}
    (v_NoTerm : PySem.W.nsIn K mainGlobals "NoTerm" = some (some (.ref ac_NoTerm)))
    (xl_NoTerm : K.lookup ac_NoTerm = some (excClassObj nm_NoTerm q_NoTerm ac_NoTerm N_NoTerm bs_NoTerm bm_NoTerm true sn_NoTerm sub_NoTerm ab_NoTerm col_NoTerm dd_NoTerm k0_NoTerm k1_NoTerm k2_NoTerm k3_NoTerm k5_NoTerm "ValueError.__new__"))
    (xr_NoTerm : PySem.HandSPX.refsVE bm_NoTerm = true)
    (xsa_NoTerm : PySem.W.findIn K (.ref ac_NoTerm) "__setattr__" = some (some (.builtin "object.__setattr__")))
    (xhg_NoTerm : PySem.W.findIn K (.ref ac_NoTerm) "__getattribute__" = some (some (.builtin "BaseException.__getattribute__")))
    (xhk_NoTerm : PySem.W.findIn K (.ref ac_NoTerm) "__getattr__" = some none)
    (xha_NoTerm : PySem.W.findIn K (.ref ac_NoTerm) "__class__" = some (some (.builtin "object.__class__")))
    (xii_NoTerm : PySem.W.findIn K (.ref ac_NoTerm) "__init__" = some (some (.ref ai_NoTerm)))
    (xex_NoTerm : PySem.W.subIn K (.ref ac_NoTerm) (.type "BaseException") = some true)
    (xty_NoTerm : PySem.W.typeIn K (.ref ac_NoTerm) = some (.type "type"))
    (xk_NoTerm : PySem.W.keepIn K (.ref ac_NoTerm) = true)
    (xhd_NoTerm : PySem.W.hasDictIn K ac_NoTerm = true)
    (xhm_NoTerm : PySem.W.mroIn K ac_NoTerm (.type "object") = some true)
    (xti_NoTerm : PySem.W.typeIn K (.ref ai_NoTerm) = some (.type "function"))
    (xkv_NoTerm : PySem.W.subIn K (.ref ac_NoTerm) (.type "ValueError") = some true)
    (xn_NoTerm_found : PySem.W.findIn K (.ref ac_NoTerm) "found" = some none)
    (xil_NoTerm : K.lookup ai_NoTerm = some ⟨oc_NoTerm_i, od_NoTerm_i, .func (PySem.W.fnOf "__init__" "NoTerm.__init__" (defArgs s_NoTerm_init) (defBody s_NoTerm_init) (defScope s_NoTerm_init) .none kV_NoTerm_i dc_NoTerm_i pm_NoTerm_i an_NoTerm_i cd_NoTerm_i ct_NoTerm_i), sl_NoTerm_i⟩)
    (xic_NoTerm : PySem.W.codeIn K cd_NoTerm_i "NoTerm.__init__" = true)
    (xik_NoTerm : PySem.W.keepIn K (.ref ai_NoTerm) = true)
    (xhn : PySem.W.specialIn K (.builtin "object.__class__") "__get__" = some (some (.builtin "getset_descriptor.__get__")))
    (xht : PySem.W.takesIn K (.builtin "object.__class__") = some true)
    {ac_SeekError : Addr}
    (v_SeekError : PySem.W.nsIn K mainGlobals "SeekError" = some (some (.ref ac_SeekError)))
    (sga : PySem.W.specialIn K (.ref ac_SeekError) "__getattribute__" = some (some (.builtin "type.__getattribute__")))
    (srd : PySem.W.readsIn K ac_SeekError (.type "type") = true)
    (svi : PySem.W.findCls K (.ref ac_SeekError) (.type "type") "__init__" = some (.val (.builtin "ValueError.__init__")))
    (xex_SeekError : PySem.W.subIn K (.ref ac_SeekError) (.type "BaseException") = some true)
    (xty_SeekError : PySem.W.typeIn K (.ref ac_SeekError) = some (.type "type"))
    (xhd_SeekError : PySem.W.hasDictIn K ac_SeekError = true)
    (ks_NoTerm_NoTerm : PySem.W.subIn K (.ref ac_NoTerm) (.ref ac_NoTerm) = some true)
    (ks_NoTerm_SeekError : PySem.W.subIn K (.ref ac_NoTerm) (.ref ac_SeekError) = some true)
    (z_ValueError : PySem.W.nsIn K mainGlobals "ValueError" = some none)
    (z_all : PySem.W.nsIn K mainGlobals "all" = some none)
    (z_list : PySem.W.nsIn K mainGlobals "list" = some none)
    (z_sorted : PySem.W.nsIn K mainGlobals "sorted" = some none)
    (z_isinstance : PySem.W.nsIn K mainGlobals "isinstance" = some none)
    (z_tuple : PySem.W.nsIn K mainGlobals "tuple" = some none)
    (z_range : PySem.W.nsIn K mainGlobals "range" = some none)
    (z_int : PySem.W.nsIn K mainGlobals "int" = some none)
    (z_len : PySem.W.nsIn K mainGlobals "len" = some none)
    (z_max : PySem.W.nsIn K mainGlobals "max" = some none)
    (z_bool : PySem.W.nsIn K mainGlobals "bool" = some none)
    (z_str : PySem.W.nsIn K mainGlobals "str" = some none)
    (z_min : PySem.W.nsIn K mainGlobals "min" = some none)
    {tt_LETTERS : Tok}
    (v_LETTERS : PySem.W.nsIn K mainGlobals "LETTERS" = some (some (Value.str "abcdefghijklmnopqrstuvwxyz" tt_LETTERS)))
    {tt_LONGEST : Tok}
    (v_LONGEST : PySem.W.nsIn K mainGlobals "LONGEST" = some (some (Value.int 8 tt_LONGEST)))
    {ac_OWN_WORDS : Addr} {dd_OWN_WORDS : Option Addr} {nn_OWN_WORDS : Nat} {ss_OWN_WORDS : Array (Option Value)} {u_OWN_WORDS_0 u_OWN_WORDS_1 u_OWN_WORDS_2 u_OWN_WORDS_3 u_OWN_WORDS_4 u_OWN_WORDS_5 u_OWN_WORDS_6 u_OWN_WORDS_7 : Tok}
    (v_OWN_WORDS : PySem.W.nsIn K mainGlobals "OWN_WORDS" = some (some (.ref ac_OWN_WORDS)))
    (y_OWN_WORDS : K.lookup ac_OWN_WORDS = some ⟨.type "tuple", dd_OWN_WORDS, .seq #[Value.str "rel" u_OWN_WORDS_0, Value.str "same" u_OWN_WORDS_1, Value.str "unlike" u_OWN_WORDS_2, Value.str "one" u_OWN_WORDS_3, Value.str "both" u_OWN_WORDS_4, Value.str "fresh" u_OWN_WORDS_5, Value.str "call" u_OWN_WORDS_6, Value.str "not" u_OWN_WORDS_7] nn_OWN_WORDS, ss_OWN_WORDS⟩)
    {tt_MOST_PARTS : Tok}
    (v_MOST_PARTS : PySem.W.nsIn K mainGlobals "MOST_PARTS" = some (some (Value.int 100 tt_MOST_PARTS)))
    {tt_MOST_UNKNOWN : Tok}
    (v_MOST_UNKNOWN : PySem.W.nsIn K mainGlobals "MOST_UNKNOWN" = some (some (Value.int 999999999 tt_MOST_UNKNOWN)))
    {tt_GREATEST : Tok}
    (v_GREATEST : PySem.W.nsIn K mainGlobals "GREATEST" = some (some (Value.int 999999999999999999999999999999 tt_GREATEST)))
    : ∃ fd : FuncData, (∀ (s : Shared) (v : Value), BindsTo s fd ⟨[v], []⟩ [("_law_script", v)]) ∧ ∀ base : Heap, K.In base → base.Ns mainGlobals mg → FnG l.prog w K mg base CX0 125 fa fd ["_law_script"] (sp_law K) := by
  have e : f_law = fa := (Value.ref.inj (Option.some.inj (hfa.symm.trans (PySem.W.mg_of X G a_law)))).symm
  subst e
  have F_is_whole := fun_mk (st := s_is_whole) l_is_whole c_is_whole k_is_whole
  have b_is_whole := F_is_whole.binds (ps := ["thing"]) fun _ _ _ _ _ _ us hl => match us, hl with | [_], _ => rfl
  have F_is_within := fun_mk (st := s_is_within) l_is_within c_is_within k_is_within
  have b_is_within := F_is_within.binds (ps := ["thing", "low", "high"]) fun _ _ _ _ _ _ us hl => match us, hl with | [_, _, _], _ => rfl
  have F_is_name := fun_mk (st := s_is_name) l_is_name c_is_name k_is_name
  have b_is_name := F_is_name.binds (ps := ["thing"]) fun _ _ _ _ _ _ us hl => match us, hl with | [_], _ => rfl
  have F_is_unknown := fun_mk (st := s_is_unknown) l_is_unknown c_is_unknown k_is_unknown
  have b_is_unknown := F_is_unknown.binds (ps := ["thing"]) fun _ _ _ _ _ _ us hl => match us, hl with | [_], _ => rfl
  have F_is_pair := fun_mk (st := s_is_pair) l_is_pair c_is_pair k_is_pair
  have b_is_pair := F_is_pair.binds (ps := ["term"]) fun _ _ _ _ _ _ us hl => match us, hl with | [_], _ => rfl
  have F_is_single := fun_mk (st := s_is_single) l_is_single c_is_single k_is_single
  have b_is_single := F_is_single.binds (ps := ["thing"]) fun _ _ _ _ _ _ us hl => match us, hl with | [_], _ => rfl
  have F_is_term := fun_mk (st := s_is_term) l_is_term c_is_term k_is_term
  have b_is_term := F_is_term.binds (ps := ["thing"]) fun _ _ _ _ _ _ us hl => match us, hl with | [_], _ => rfl
  have F_need_term := fun_mk (st := s_need_term) l_need_term c_need_term k_need_term
  have b_need_term := F_need_term.binds (ps := ["thing"]) fun _ _ _ _ _ _ us hl => match us, hl with | [_], _ => rfl
  have F_parts_within := fun_mk (st := s_parts_within) l_parts_within c_parts_within k_parts_within
  have b_parts_within := F_parts_within.binds (ps := ["term"]) fun _ _ _ _ _ _ us hl => match us, hl with | [_], _ => rfl
  have F_numbers_in := fun_mk (st := s_numbers_in) l_numbers_in c_numbers_in k_numbers_in
  have b_numbers_in := F_numbers_in.binds (ps := ["term"]) fun _ _ _ _ _ _ us hl => match us, hl with | [_], _ => rfl
  have F_turned_into := fun_mk (st := s_turned_into) l_turned_into c_turned_into k_turned_into
  have b_turned_into := F_turned_into.binds (ps := ["term", "values"]) fun _ _ _ _ _ _ us hl => match us, hl with | [_, _], _ => rfl
  have F_by_coming := fun_mk (st := s_by_coming) l_by_coming c_by_coming k_by_coming
  have b_by_coming := F_by_coming.binds (ps := ["terms"]) fun _ _ _ _ _ _ us hl => match us, hl with | [_], _ => rfl
  have F_instance := fun_mk (st := s_instance) l_instance c_instance k_instance
  have b_instance := F_instance.binds (ps := ["wider", "term"]) fun _ _ _ _ _ _ us hl => match us, hl with | [_, _], _ => rfl
  have F_are_variants := fun_mk (st := s_are_variants) l_are_variants c_are_variants k_are_variants
  have b_are_variants := F_are_variants.binds (ps := ["one", "other"]) fun _ _ _ _ _ _ us hl => match us, hl with | [_, _], _ => rfl
  have F_joined_within := fun_mk (st := s_joined_within) l_joined_within c_joined_within k_joined_within
  have b_joined_within := F_joined_within.binds (ps := ["one", "other", "found"]) fun _ _ _ _ _ _ us hl => match us, hl with | [_, _, _], _ => rfl
  have F_joined := fun_mk (st := s_joined) l_joined c_joined k_joined
  have b_joined := F_joined.binds (ps := ["one", "other"]) fun _ _ _ _ _ _ us hl => match us, hl with | [_, _], _ => rfl
  have F_l_cell := fun_mk (st := s_l_cell) l_l_cell c_l_cell k_l_cell
  have b_l_cell := F_l_cell.binds (ps := ["_law_script", "_law_k"]) fun _ _ _ _ _ _ us hl => match us, hl with | [_, _], _ => rfl
  have F_l_box := fun_mk (st := s_l_box) l_l_box c_l_box k_l_box
  have b_l_box := F_l_box.binds (ps := ["_law_cell_here"]) fun _ _ _ _ _ _ us hl => match us, hl with | [_], _ => rfl
  have F_l_take := fun_mk (st := s_l_take) l_l_take c_l_take k_l_take
  have b_l_take := F_l_take.binds (ps := ["_law_box_here", "_law_many"]) fun _ _ _ _ _ _ us hl => match us, hl with | [_, _], _ => rfl
  have F_l_name := fun_mk (st := s_l_name) l_l_name c_l_name k_l_name
  have b_l_name := F_l_name.binds (ps := ["_law_box_here"]) fun _ _ _ _ _ _ us hl => match us, hl with | [_], _ => rfl
  have F_l_single := fun_mk (st := s_l_single) l_l_single c_l_single k_l_single
  have b_l_single := F_l_single.binds (ps := ["_law_box_here", "_law_numbers_here"]) fun _ _ _ _ _ _ us hl => match us, hl with | [_, _], _ => rfl
  have F_l_term := fun_mk (st := s_l_term) l_l_term c_l_term k_l_term
  have b_l_term := F_l_term.binds (ps := ["_law_box_here", "_law_numbers_here", "_law_deep"]) fun _ _ _ _ _ _ us hl => match us, hl with | [_, _, _], _ => rfl
  have F_l_numbers := fun_mk (st := s_l_numbers) l_l_numbers c_l_numbers k_l_numbers
  have b_l_numbers := F_l_numbers.binds (ps := ["_law_box_here"]) fun _ _ _ _ _ _ us hl => match us, hl with | [_], _ => rfl
  have F_l_near := fun_mk (st := s_l_near) l_l_near c_l_near k_l_near
  have b_l_near := F_l_near.binds (ps := ["_law_box_here", "_law_term_here", "_law_numbers_here"]) fun _ _ _ _ _ _ us hl => match us, hl with | [_, _, _], _ => rfl
  have F_l_put := fun_mk (st := s_l_put) l_l_put c_l_put k_l_put
  have b_l_put := F_l_put.binds (ps := ["_law_term_here", "_law_values"]) fun _ _ _ _ _ _ us hl => match us, hl with | [_, _], _ => rfl
  have F_l_joined := fun_mk (st := s_l_joined) l_l_joined c_l_joined k_l_joined
  have b_l_joined := F_l_joined.binds (ps := ["_law_one", "_law_other", "_law_found"]) fun _ _ _ _ _ _ us hl => match us, hl with | [_, _, _], _ => rfl
  have F_l_right := fun_mk (st := s_l_right) l_l_right c_l_right k_l_right
  have b_l_right := F_l_right.binds (ps := ["_law_one", "_law_other"]) fun _ _ _ _ _ _ us hl => match us, hl with | [_, _], _ => rfl
  have F_law := fun_mk (st := s_law) l_law c_law k_law
  have b_law := F_law.binds (ps := ["_law_script"]) fun _ _ _ _ _ _ us hl => match us, hl with | [_], _ => rfl
  have Fi_NoTerm := fun_mk (st := s_NoTerm_init) xil_NoTerm xic_NoTerm xik_NoTerm
  have bi_NoTerm := Fi_NoTerm.binds (ps := ["self", "found"]) fun _ _ _ _ _ _ us hl => match us, hl with | [_, _], _ => rfl
  refine ⟨PySem.W.fnOf "law" "law" (defArgs s_law) (defBody s_law) (defScope s_law) .none kV_law dc_law pm_law an_law cd_law ct_law, fun s v => .of_eq rfl, fun base _ _ => ok_law (P := l.prog) (w := w) (base := base) (K := K) (mg := mg) {
    a_is_whole := f_is_whole, d_is_whole := _, F_is_whole := F_is_whole, b_is_whole := b_is_whole, g_is_whole := PySem.W.mg_of X G a_is_whole,
    a_is_within := f_is_within, d_is_within := _, F_is_within := F_is_within, b_is_within := b_is_within, g_is_within := PySem.W.mg_of X G a_is_within,
    a_is_name := f_is_name, d_is_name := _, F_is_name := F_is_name, b_is_name := b_is_name, g_is_name := PySem.W.mg_of X G a_is_name,
    a_is_unknown := f_is_unknown, d_is_unknown := _, F_is_unknown := F_is_unknown, b_is_unknown := b_is_unknown, g_is_unknown := PySem.W.mg_of X G a_is_unknown,
    a_is_pair := f_is_pair, d_is_pair := _, F_is_pair := F_is_pair, b_is_pair := b_is_pair, g_is_pair := PySem.W.mg_of X G a_is_pair,
    a_is_single := f_is_single, d_is_single := _, F_is_single := F_is_single, b_is_single := b_is_single, g_is_single := PySem.W.mg_of X G a_is_single,
    a_is_term := f_is_term, d_is_term := _, F_is_term := F_is_term, b_is_term := b_is_term, g_is_term := PySem.W.mg_of X G a_is_term,
    a_need_term := f_need_term, d_need_term := _, F_need_term := F_need_term, b_need_term := b_need_term, g_need_term := PySem.W.mg_of X G a_need_term,
    a_parts_within := f_parts_within, d_parts_within := _, F_parts_within := F_parts_within, b_parts_within := b_parts_within, g_parts_within := PySem.W.mg_of X G a_parts_within,
    a_numbers_in := f_numbers_in, d_numbers_in := _, F_numbers_in := F_numbers_in, b_numbers_in := b_numbers_in, g_numbers_in := PySem.W.mg_of X G a_numbers_in,
    a_turned_into := f_turned_into, d_turned_into := _, F_turned_into := F_turned_into, b_turned_into := b_turned_into, g_turned_into := PySem.W.mg_of X G a_turned_into,
    a_by_coming := f_by_coming, d_by_coming := _, F_by_coming := F_by_coming, b_by_coming := b_by_coming, g_by_coming := PySem.W.mg_of X G a_by_coming,
    a_instance := f_instance, d_instance := _, F_instance := F_instance, b_instance := b_instance, g_instance := PySem.W.mg_of X G a_instance,
    a_are_variants := f_are_variants, d_are_variants := _, F_are_variants := F_are_variants, b_are_variants := b_are_variants, g_are_variants := PySem.W.mg_of X G a_are_variants,
    a_joined_within := f_joined_within, d_joined_within := _, F_joined_within := F_joined_within, b_joined_within := b_joined_within, g_joined_within := PySem.W.mg_of X G a_joined_within,
    a_joined := f_joined, d_joined := _, F_joined := F_joined, b_joined := b_joined, g_joined := PySem.W.mg_of X G a_joined,
    a_l_cell := f_l_cell, d_l_cell := _, F_l_cell := F_l_cell, b_l_cell := b_l_cell, g_l_cell := PySem.W.mg_of X G a_l_cell,
    a_l_box := f_l_box, d_l_box := _, F_l_box := F_l_box, b_l_box := b_l_box, g_l_box := PySem.W.mg_of X G a_l_box,
    a_l_take := f_l_take, d_l_take := _, F_l_take := F_l_take, b_l_take := b_l_take, g_l_take := PySem.W.mg_of X G a_l_take,
    a_l_name := f_l_name, d_l_name := _, F_l_name := F_l_name, b_l_name := b_l_name, g_l_name := PySem.W.mg_of X G a_l_name,
    a_l_single := f_l_single, d_l_single := _, F_l_single := F_l_single, b_l_single := b_l_single, g_l_single := PySem.W.mg_of X G a_l_single,
    a_l_term := f_l_term, d_l_term := _, F_l_term := F_l_term, b_l_term := b_l_term, g_l_term := PySem.W.mg_of X G a_l_term,
    a_l_numbers := f_l_numbers, d_l_numbers := _, F_l_numbers := F_l_numbers, b_l_numbers := b_l_numbers, g_l_numbers := PySem.W.mg_of X G a_l_numbers,
    a_l_near := f_l_near, d_l_near := _, F_l_near := F_l_near, b_l_near := b_l_near, g_l_near := PySem.W.mg_of X G a_l_near,
    a_l_put := f_l_put, d_l_put := _, F_l_put := F_l_put, b_l_put := b_l_put, g_l_put := PySem.W.mg_of X G a_l_put,
    a_l_joined := f_l_joined, d_l_joined := _, F_l_joined := F_l_joined, b_l_joined := b_l_joined, g_l_joined := PySem.W.mg_of X G a_l_joined,
    a_l_right := f_l_right, d_l_right := _, F_l_right := F_l_right, b_l_right := b_l_right, g_l_right := PySem.W.mg_of X G a_l_right,
    a_law := f_law, d_law := _, F_law := F_law, b_law := b_law, g_law := PySem.W.mg_of X G a_law,
    a_NoTerm := ac_NoTerm, g_NoTerm := PySem.W.mg_of X G v_NoTerm, x_NoTerm := ⟨⟨_, _, _, _, _, _, _, _, _, _, _, _, _, _, _, xl_NoTerm, xr_NoTerm⟩, xsa_NoTerm, xex_NoTerm, xty_NoTerm, xk_NoTerm⟩,
    y_NoTerm := ⟨xhg_NoTerm, xhk_NoTerm, xex_NoTerm, xhd_NoTerm, xha_NoTerm, xhn, xht, xhm_NoTerm⟩, f_NoTerm := ⟨xhg_NoTerm, xhk_NoTerm, xex_NoTerm, xhd_NoTerm⟩,
    i_NoTerm := ai_NoTerm, di_NoTerm := _, Fi_NoTerm := Fi_NoTerm, bi_NoTerm := bi_NoTerm, ii_NoTerm := xii_NoTerm, ti_NoTerm := xti_NoTerm, kv_NoTerm := kit_tyE xkv_NoTerm (by decide +kernel),
    n_NoTerm_found := xn_NoTerm_found,
    a_SeekError := ac_SeekError, g_SeekError := PySem.W.mg_of X G v_SeekError, sga := sga, srd := srd, svi := svi,
    km_NoTerm_NoTerm := kit_refE xhd_NoTerm xty_NoTerm ks_NoTerm_NoTerm (fun e => rfl), em_NoTerm_NoTerm := PySem.W.exm_ref xex_NoTerm xhd_NoTerm xty_NoTerm ks_NoTerm_NoTerm,
    km_NoTerm_SeekError := kit_refE xhd_SeekError xty_SeekError ks_NoTerm_SeekError (fun e => rfl), em_NoTerm_SeekError := PySem.W.exm_ref xex_SeekError xhd_SeekError xty_SeekError ks_NoTerm_SeekError,
    m_ValueError := PySem.W.mg_none_of X G z_ValueError,
    m_all := PySem.W.mg_none_of X G z_all,
    m_list := PySem.W.mg_none_of X G z_list,
    m_sorted := PySem.W.mg_none_of X G z_sorted,
    m_isinstance := PySem.W.mg_none_of X G z_isinstance,
    m_tuple := PySem.W.mg_none_of X G z_tuple,
    m_range := PySem.W.mg_none_of X G z_range,
    m_int := PySem.W.mg_none_of X G z_int,
    m_len := PySem.W.mg_none_of X G z_len,
    m_max := PySem.W.mg_none_of X G z_max,
    m_bool := PySem.W.mg_none_of X G z_bool,
    m_str := PySem.W.mg_none_of X G z_str,
    m_min := PySem.W.mg_none_of X G z_min,
    t_LETTERS := tt_LETTERS, g_LETTERS := PySem.W.mg_of X G v_LETTERS,
    t_LONGEST := tt_LONGEST, g_LONGEST := PySem.W.mg_of X G v_LONGEST,
    a_OWN_WORDS := ac_OWN_WORDS, g_OWN_WORDS := PySem.W.mg_of X G v_OWN_WORDS, q_OWN_WORDS := fun _ => .inr ⟨_, _, _, y_OWN_WORDS, rfl, rfl, (by show 8 ≤ sizeLine; decide), (.cons ⟨_, rfl⟩ (.cons ⟨_, rfl⟩ (.cons ⟨_, rfl⟩ (.cons ⟨_, rfl⟩ (.cons ⟨_, rfl⟩ (.cons ⟨_, rfl⟩ (.cons ⟨_, rfl⟩ (.cons ⟨_, rfl⟩ .nil))))))))⟩,
    t_MOST_PARTS := tt_MOST_PARTS, g_MOST_PARTS := PySem.W.mg_of X G v_MOST_PARTS,
    t_MOST_UNKNOWN := tt_MOST_UNKNOWN, g_MOST_UNKNOWN := PySem.W.mg_of X G v_MOST_UNKNOWN,
    t_GREATEST := tt_GREATEST, g_GREATEST := PySem.W.mg_of X G v_GREATEST }⟩
end Fs
open PySem PySem.W PyProof.Rows
set_option maxRecDepth 100000 in
set_option maxHeartbeats 0 in
theorem PySem.Challenge.cw_fairseek_k12_joined_terms_holds : PySem.Challenge.rw_fairseek_k12_joined_terms.Holds := by
  w_on; o_law; k_head; (case hw => w_witness2)
  k_fill
  refine Fs.walkG (l := PySem.Challenge.rw_fairseek_k12_joined_terms) (n := 63) (k := 125) (x := "_law_script") (sp := Fs.sp_law) rfl (by decide) rfl ⟨rfl, by decide, by decide⟩ (fun w h Y => PySem.W.kIn_of Y) ?F (fun _ _ a ns hl hS => ⟨a, ns, rfl, hS, hl, fun _ => rfl⟩)
  case F =>
    intro w mg fa h KX G hmg
    refine' Fs.all_mk KX G hmg ?a_is_whole ?l_is_whole ?c_is_whole ?k_is_whole ?a_is_within ?l_is_within ?c_is_within ?k_is_within ?a_is_name ?l_is_name ?c_is_name ?k_is_name ?a_is_unknown ?l_is_unknown ?c_is_unknown ?k_is_unknown ?a_is_pair ?l_is_pair ?c_is_pair ?k_is_pair ?a_is_single ?l_is_single ?c_is_single ?k_is_single ?a_is_term ?l_is_term ?c_is_term ?k_is_term ?a_need_term ?l_need_term ?c_need_term ?k_need_term ?a_parts_within ?l_parts_within ?c_parts_within ?k_parts_within ?a_numbers_in ?l_numbers_in ?c_numbers_in ?k_numbers_in ?a_turned_into ?l_turned_into ?c_turned_into ?k_turned_into ?a_by_coming ?l_by_coming ?c_by_coming ?k_by_coming ?a_instance ?l_instance ?c_instance ?k_instance ?a_are_variants ?l_are_variants ?c_are_variants ?k_are_variants ?a_joined_within ?l_joined_within ?c_joined_within ?k_joined_within ?a_joined ?l_joined ?c_joined ?k_joined ?a_l_cell ?l_l_cell ?c_l_cell ?k_l_cell ?a_l_box ?l_l_box ?c_l_box ?k_l_box ?a_l_take ?l_l_take ?c_l_take ?k_l_take ?a_l_name ?l_l_name ?c_l_name ?k_l_name ?a_l_single ?l_l_single ?c_l_single ?k_l_single ?a_l_term ?l_l_term ?c_l_term ?k_l_term ?a_l_numbers ?l_l_numbers ?c_l_numbers ?k_l_numbers ?a_l_near ?l_l_near ?c_l_near ?k_l_near ?a_l_put ?l_l_put ?c_l_put ?k_l_put ?a_l_joined ?l_l_joined ?c_l_joined ?k_l_joined ?a_l_right ?l_l_right ?c_l_right ?k_l_right ?a_law ?l_law ?c_law ?k_law ?v_NoTerm ?xl_NoTerm ?xr_NoTerm ?xsa_NoTerm ?xhg_NoTerm ?xhk_NoTerm ?xha_NoTerm ?xii_NoTerm ?xex_NoTerm ?xty_NoTerm ?xk_NoTerm ?xhd_NoTerm ?xhm_NoTerm ?xti_NoTerm ?xkv_NoTerm ?xn_NoTerm_found ?xil_NoTerm ?xic_NoTerm ?xik_NoTerm ?xhn ?xht ?v_SeekError ?sga ?srd ?svi ?xex_SeekError ?xty_SeekError ?xhd_SeekError ?ks_NoTerm_NoTerm ?ks_NoTerm_SeekError ?z_ValueError ?z_all ?z_list ?z_sorted ?z_isinstance ?z_tuple ?z_range ?z_int ?z_len ?z_max ?z_bool ?z_str ?z_min ?v_LETTERS ?v_LONGEST ?v_OWN_WORDS ?y_OWN_WORDS ?v_MOST_PARTS ?v_MOST_UNKNOWN ?v_GREATEST
    (case a_is_whole => k_is)
    (case l_is_whole => k_is)
    (case c_is_whole => k_is)
    (case k_is_whole => k_is)
    (case a_is_within => k_is)
    (case l_is_within => k_is)
    (case c_is_within => k_is)
    (case k_is_within => k_is)
    (case a_is_name => k_is)
    (case l_is_name => k_is)
    (case c_is_name => k_is)
    (case k_is_name => k_is)
    (case a_is_unknown => k_is)
    (case l_is_unknown => k_is)
    (case c_is_unknown => k_is)
    (case k_is_unknown => k_is)
    (case a_is_pair => k_is)
    (case l_is_pair => k_is)
    (case c_is_pair => k_is)
    (case k_is_pair => k_is)
    (case a_is_single => k_is)
    (case l_is_single => k_is)
    (case c_is_single => k_is)
    (case k_is_single => k_is)
    (case a_is_term => k_is)
    (case l_is_term => k_is)
    (case c_is_term => k_is)
    (case k_is_term => k_is)
    (case a_need_term => k_is)
    (case l_need_term => k_is)
    (case c_need_term => k_is)
    (case k_need_term => k_is)
    (case a_parts_within => k_is)
    (case l_parts_within => k_is)
    (case c_parts_within => k_is)
    (case k_parts_within => k_is)
    (case a_numbers_in => k_is)
    (case l_numbers_in => k_is)
    (case c_numbers_in => k_is)
    (case k_numbers_in => k_is)
    (case a_turned_into => k_is)
    (case l_turned_into => k_is)
    (case c_turned_into => k_is)
    (case k_turned_into => k_is)
    (case a_by_coming => k_is)
    (case l_by_coming => k_is)
    (case c_by_coming => k_is)
    (case k_by_coming => k_is)
    (case a_instance => k_is)
    (case l_instance => k_is)
    (case c_instance => k_is)
    (case k_instance => k_is)
    (case a_are_variants => k_is)
    (case l_are_variants => k_is)
    (case c_are_variants => k_is)
    (case k_are_variants => k_is)
    (case a_joined_within => k_is)
    (case l_joined_within => k_is)
    (case c_joined_within => k_is)
    (case k_joined_within => k_is)
    (case a_joined => k_is)
    (case l_joined => k_is)
    (case c_joined => k_is)
    (case k_joined => k_is)
    (case a_l_cell => k_is)
    (case l_l_cell => k_is)
    (case c_l_cell => k_is)
    (case k_l_cell => k_is)
    (case a_l_box => k_is)
    (case l_l_box => k_is)
    (case c_l_box => k_is)
    (case k_l_box => k_is)
    (case a_l_take => k_is)
    (case l_l_take => k_is)
    (case c_l_take => k_is)
    (case k_l_take => k_is)
    (case a_l_name => k_is)
    (case l_l_name => k_is)
    (case c_l_name => k_is)
    (case k_l_name => k_is)
    (case a_l_single => k_is)
    (case l_l_single => k_is)
    (case c_l_single => k_is)
    (case k_l_single => k_is)
    (case a_l_term => k_is)
    (case l_l_term => k_is)
    (case c_l_term => k_is)
    (case k_l_term => k_is)
    (case a_l_numbers => k_is)
    (case l_l_numbers => k_is)
    (case c_l_numbers => k_is)
    (case k_l_numbers => k_is)
    (case a_l_near => k_is)
    (case l_l_near => k_is)
    (case c_l_near => k_is)
    (case k_l_near => k_is)
    (case a_l_put => k_is)
    (case l_l_put => k_is)
    (case c_l_put => k_is)
    (case k_l_put => k_is)
    (case a_l_joined => k_is)
    (case l_l_joined => k_is)
    (case c_l_joined => k_is)
    (case k_l_joined => k_is)
    (case a_l_right => k_is)
    (case l_l_right => k_is)
    (case c_l_right => k_is)
    (case k_l_right => k_is)
    (case a_law => k_is)
    (case l_law => k_is)
    (case c_law => k_is)
    (case k_law => k_is)
    (case v_NoTerm => k_is)
    (case xl_NoTerm => k_is)
    (case xr_NoTerm => decide +kernel)
    (case xsa_NoTerm => k_is)
    (case xhg_NoTerm => k_is)
    (case xhk_NoTerm => k_is)
    (case xha_NoTerm => k_is)
    (case xii_NoTerm => k_is)
    (case xex_NoTerm => k_is)
    (case xty_NoTerm => k_is)
    (case xk_NoTerm => k_is)
    (case xhd_NoTerm => k_is)
    (case xhm_NoTerm => k_is)
    (case xti_NoTerm => k_is)
    (case xkv_NoTerm => k_is)
    (case xn_NoTerm_found => k_is)
    (case xil_NoTerm => k_is)
    (case xic_NoTerm => k_is)
    (case xik_NoTerm => k_is)
    (case xhn => k_is)
    (case xht => k_is)
    (case v_SeekError => k_is)
    (case sga => k_is)
    (case srd => k_is)
    (case svi => k_is)
    (case xex_SeekError => k_is)
    (case xty_SeekError => k_is)
    (case xhd_SeekError => k_is)
    (case ks_NoTerm_NoTerm => k_is)
    (case ks_NoTerm_SeekError => k_is)
    (case z_ValueError => k_is)
    (case z_all => k_is)
    (case z_list => k_is)
    (case z_sorted => k_is)
    (case z_isinstance => k_is)
    (case z_tuple => k_is)
    (case z_range => k_is)
    (case z_int => k_is)
    (case z_len => k_is)
    (case z_max => k_is)
    (case z_bool => k_is)
    (case z_str => k_is)
    (case z_min => k_is)
    (case v_LETTERS => k_is)
    (case v_LONGEST => k_is)
    (case v_OWN_WORDS => k_is)
    (case y_OWN_WORDS => k_is)
    (case v_MOST_PARTS => k_is)
    (case v_MOST_UNKNOWN => k_is)
    (case v_GREATEST => k_is)
#print axioms PySem.Challenge.cw_fairseek_k12_joined_terms_holds
