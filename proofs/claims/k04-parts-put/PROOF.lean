import PyProof.Rows.All
import Wide.All
import OpenK.AllK
import Wide.FinOn
import HandS.ForMost
import HandS.IsInst
import HandS.Style
import HandS.Wide
import HandS.Walk
import HandS.ForExc
import HandS.ExcInit
import HandS.ExcField
import HandS.ExcIs
import HandS.TupAny
import HandS.Conv
import PyProof.ReprRoads
import PyProof.ReprBulk
import HandS.ExcBuiltin
import PySem.Challenge.RW_fairseek_k04_parts_put
set_option Elab.async false
set_option linter.all false
set_option maxRecDepth 100000
namespace Fs
open PySem PySem.Spec PyProof.Rows L2
/-! ### heaps -/
theorem same_upd {H : Hp} {p : Addr} {o : HO} (h : H p = none) : Same H (upd H p o) := fun b x e => by
  rw [upd_ne (ne_of_none e h)]
  exact e
/-- all but what stands at p is as it was -/
def Off (p : Addr) (H H' : Hp) : Prop := ∀ b o, b ≠ p → H b = some o → H' b = some o
theorem Off.refl (p : Addr) (H : Hp) : Off p H H := fun _ _ _ h => h
theorem Off.trans {p : Addr} {H H1 H2 : Hp} (a : Off p H H1) (b : Off p H1 H2) : Off p H H2 := fun c o n h => b c o n (a c o n h)
theorem Off.of {p : Addr} {H H' : Hp} (a : Same H H') : Off p H H' := fun c o _ h => a c o h
theorem Off.put {p : Addr} {H : Hp} {o : HO} : Off p H (upd H p o) := fun c u n h => by
  rw [upd_ne n]
  exact h
theorem Off.new {p q : Addr} {H H' : Hp} {o : HO} (a : Off p H H') (h : H' q = none) : Off p H (upd H' q o) := fun c u n e => by
  have e' := a c u n e
  rw [upd_ne (ne_of_none e' h)]
  exact e'
theorem Off.free {p q : Addr} {H H' : Hp} (a : Off p H H') (h : H' q = none) (n : q ≠ p) : H q = none := by
  cases e : H q with
  | none => rfl
  | some o =>
    rw [a q o n e] at h
    cases h
theorem Off.mut {p q : Addr} {H H' : Hp} {o : HO} (a : Off p H H') (h : H q = none) : Off p H (upd H' q o) := fun c u n e => by
  rw [upd_ne (ne_of_none e h)]
  exact a c u n e
/-- p is new: nothing of old is touched -/
theorem Off.same {p : Addr} {H0 H H' : Hp} (s : Same H0 H) (n : H0 p = none) (a : Off p H H') : Same H0 H' := fun c o e =>
  a c o (ne_of_none e n) (s c o e)
theorem same_mut {H H' : Hp} {p : Addr} {o : HO} (e : Same H H') (h : H p = none) : Same H (upd H' p o) := fun b x q => by
  rw [upd_ne (ne_of_none q h)]
  exact e b x q
theorem sz_le {n : Nat} (h : n ≤ 1000000) : n ≤ sizeLine := Nat.le_trans h (by decide)
theorem sz_lt {n : Nat} (h : n < 1000000) : n < sizeLine := Nat.lt_of_lt_of_le h (by decide)
/-! ### kinds of things -/
inductive Kn where
  | non | bl | int | str | lst | tup | dct
def Kn.name : Kn → String
  | .non => "NoneType" | .bl => "bool" | .int => "int" | .str => "str" | .lst => "list" | .tup => "tuple" | .dct => "dict"
def Kn.isBl : Kn → Bool
  | .bl => true | _ => false
def Kn.isInt : Kn → Bool
  | .bl => true | .int => true | _ => false
def Kn.isWhole : Kn → Bool
  | .int => true | _ => false
def Kn.isStr : Kn → Bool
  | .str => true | _ => false
def Kn.isTup : Kn → Bool
  | .tup => true | _ => false
def Kn.isLst : Kn → Bool
  | .lst => true | _ => false
abbrev Knd (K : PySem.W.Frag) (H : Hp) (x : V) (k : Kn) : Prop := TyX K H x (.type k.name)
theorem kit_bl {K : PySem.W.Frag} (k : Kn) : PySem.W.kitOne K (.type k.name) (.type "bool") = some k.isBl := kit_ty (by cases k <;> decide +kernel)
theorem kit_int {K : PySem.W.Frag} (k : Kn) : PySem.W.kitOne K (.type k.name) (.type "int") = some k.isInt := kit_ty (by cases k <;> decide +kernel)
theorem kit_str {K : PySem.W.Frag} (k : Kn) : PySem.W.kitOne K (.type k.name) (.type "str") = some k.isStr := kit_ty (by cases k <;> decide +kernel)
theorem kit_tup {K : PySem.W.Frag} (k : Kn) : PySem.W.kitOne K (.type k.name) (.type "tuple") = some k.isTup := kit_ty (by cases k <;> decide +kernel)
theorem kit_lst {K : PySem.W.Frag} (k : Kn) : PySem.W.kitOne K (.type k.name) (.type "list") = some k.isLst := kit_ty (by cases k <;> decide +kernel)
section
variable {K : PySem.W.Frag} {H : Hp}
theorem kn_non : Knd K H .non .non := .base .non
theorem kn_bl (b : Bool) : Knd K H (.bl b) .bl := .base (.bl b)
theorem kn_int (i : Int) : Knd K H (.int i) .int := .base (.int i)
theorem kn_str (x : Str) : Knd K H (.str x) .str := .base (.str x)
theorem kn_lst {a : Addr} {xs : List V} (e : H a = some (.lst xs)) : Knd K H (.ref a) .lst := .base (.lst e)
theorem kn_tup {a : Addr} {xs : List V} (e : H a = some (.tup xs)) : Knd K H (.ref a) .tup := .base (.tup e)
theorem kn_dct {a : Addr} {xs : List (Key × V)} (e : H a = some (.dK xs)) : Knd K H (.ref a) .dct := .base (.dK e)
end
theorem Knd.same {K : PySem.W.Frag} {H H' : Hp} {x : V} {k : Kn} (h : Knd K H x k) (s : Same H H') : Knd K H' x k := by
  revert h
  show TyX K H x (.type k.name) → TyX K H' x (.type k.name)
  generalize Value.type k.name = t
  intro h
  cases h with
  | base b =>
    cases b with
    | non => exact .base .non
    | bl x => exact .base (.bl x)
    | int i => exact .base (.int i)
    | str x => exact .base (.str x)
    | flt x => exact .base (.flt x)
    | lst e => exact .base (.lst (s _ _ e))
    | frz e => exact .base (.frz (s _ _ e))
    | tup e => exact .base (.tup (s _ _ e))
    | dK e => exact .base (.dK (s _ _ e))
    | dT e => exact .base (.dT (s _ _ e))
    | ins e cl ha hn htk hm => exact .base (.ins (s _ _ e) cl ha hn htk hm)
  | byt b => exact .byt b
  | set e => exact .set (s _ _ e)
  | kList e c => exact .kList e c
  | kTuple e c => exact .kTuple e c
  | kDict e c => exact .kDict e c
  | fTuple e => exact .fTuple (s _ _ e)
  | fDict e => exact .fDict (s _ _ e)
/-! ### indices -/
theorem atI_of {α : Type} {xs : List α} {i : Int} {x : α} (h0 : 0 ≤ i) (h : xs[i.toNat]? = some x) : atI xs i = some x := by
  have e : i = ((i.toNat : Nat) : Int) := by omega
  rw [e]
  exact atI_nat h
theorem atI_in {α : Type} {xs : List α} {i : Int} (h0 : 0 ≤ i) (h1 : i < (xs.length : Int)) : ∃ x, atI xs i = some x ∧ x ∈ xs := by
  have hl : i.toNat < xs.length := by omega
  exact ⟨xs[i.toNat], atI_of h0 (List.getElem?_eq_getElem hl), List.getElem_mem hl⟩
theorem lst_at {H : Hp} {l : Addr} {xs : List V} {i : Int} (h : H l = some (.lst xs)) (h0 : 0 ≤ i) (h1 : i < (xs.length : Int)) : ∃ x, H l = some (.lst xs) ∧ atI xs i = some x ∧ x ∈ xs := by
  obtain ⟨x, a, b⟩ := atI_in h0 h1
  exact ⟨x, h, a, b⟩
/-! ### texts -/
def OkS (z : Str) : Prop := ∀ c ∈ z.cps.toList, c < 1114112
theorem OkS.dec {z : Str} (h : z.cps.toList.all (fun c => decide (c < 1114112)) = true) : OkS z := fun c hc => of_decide_eq_true (List.all_eq_true.mp h c hc)
theorem OkS.strOk {z : Str} (h : OkS z) : PyData.strOk z = true := by
  unfold PyData.strOk
  rw [← Array.all_toList, List.all_eq_true]
  exact fun c hc => decide_eq_true (h c hc)
theorem cps_app (a b : Str) : (a ++ b).cps.toList = a.cps.toList ++ b.cps.toList := by
  show (a.cps ++ b.cps).toList = _
  simp
theorem OkS.app {a b : Str} (ha : OkS a) (hb : OkS b) : OkS (a ++ b) := fun c hc => by
  rw [cps_app] at hc
  rcases List.mem_append.mp hc with h | h
  · exact ha c h
  · exact hb c h
theorem OkS.cut {a : Str} (ha : OkS a) (lo hi : Option Int) : OkS (cutS a lo hi) := fun c hc => by
  unfold cutS at hc
  rw [List.toList_toArray] at hc
  exact ha c (List.mem_of_mem_drop (List.mem_of_mem_take hc))
theorem OkS.one {c : Nat} (h : c < 1114112) : OkS ⟨#[c]⟩ := fun d hd => by
  have e : d = c := by simpa using hd
  rw [e]
  exact h
theorem cps_glued (sep : Str) : ∀ (rest : List Str) (acc : Array Nat), (rest.foldl (fun acc p => acc ++ sep.cps ++ p.cps) acc).toList = acc.toList ++ (rest.map fun p => sep.cps.toList ++ p.cps.toList).flatten
  | [], acc => by simp
  | p :: r, acc => by
    rw [List.foldl_cons, cps_glued sep r]
    simp
theorem OkS.join {sep : Str} (hs : OkS sep) : ∀ {ys : List Str}, (∀ y ∈ ys, OkS y) → OkS (Txt.join sep ys)
  | [], _ => fun c hc => by
    have e : (Txt.join sep []).cps.toList = [] := rfl
    rw [e] at hc
    cases hc
  | y :: r, h => fun c hc => by
    have e : (Txt.join sep (y :: r)).cps.toList = y.cps.toList ++ (r.map fun p => sep.cps.toList ++ p.cps.toList).flatten := cps_glued sep r y.cps
    rw [e] at hc
    rcases List.mem_append.mp hc with hc | hc
    · exact h y List.mem_cons_self c hc
    · obtain ⟨l, hl, hc⟩ := List.mem_flatten.mp hc
      obtain ⟨p, hp, rfl⟩ := List.mem_map.mp hl
      rcases List.mem_append.mp hc with hc | hc
      · exact hs c hc
      · exact h p (List.mem_cons_of_mem _ hp) c hc
/-- a ≤ b ≤ c, c a name's value -/
theorem chain_var {a b c : Int} {R : VK} {H : Hp} {σ : L2.St} {i : Nat} (hi : σ[i]? = some (some (.int c))) (h : R (.bl (decide (a ≤ b) && decide (b ≤ c))) H) :
    ∃ k, V.bl (decide (a ≤ b)) = .bl k ∧ (if k = true then tVar i σ H (fun w' H4 => rI0 (fun i j => .bl (decide (i ≤ j))) (.int b) w' H4 R) else R (.bl false) H) := by
  refine ⟨_, rfl, ?_⟩
  by_cases c1 : a ≤ b
  · rw [decide_eq_true c1] at h ⊢
    exact ⟨_, hi, _, _, rfl, rfl, h⟩
  · rw [decide_eq_false c1] at h ⊢
    exact h

/-! ### a def whose promise may lean on this: nothing is being shown around (repr's own guard is empty) -/
structure FnG (P : Program) (w : World) (K : PySem.W.Frag) (mg : Str → Option Value) (base : Heap) (CX : CXT) (k : Nat) (f : Addr) (fd : FuncData) (ps : List Str) (sp : Sp) : Prop where
  len : ∀ vs H Q E, sp vs H Q E → vs.length = ps.length
  go : ∀ (A : Around) (outer : List PySem.Env) (s : Shared) (H : Hp) (args : Args) (us : List Value) (vs : List V) (Q : VK) (E : XK), Room k A → A.guards = some [] → Env0 P w K mg base A outer s H → BindsTo s fd args (ps.zip us) → Vals vs us → sp vs H Q E →
    codeAny (model P w) A (.call (.ref f) args) (CR CX outer P w H s Q E) s
theorem FnG.of {P : Program} {w : World} {K : PySem.W.Frag} {mg : Str → Option Value} {base : Heap} {CX : CXT} {k : Nat} {f : Addr} {fd : FuncData} {ps : List Str} {sp : Sp} (F : FnOk P w K mg base CX k f fd ps sp) : FnG P w K mg base CX k f fd ps sp :=
  ⟨F.len, fun A outer s H args us vs Q E hr _ => F.run A outer s H args us vs Q E hr⟩
theorem FnG.mono {P : Program} {w : World} {K : PySem.W.Frag} {mg : Str → Option Value} {base : Heap} {CX : CXT} {j k : Nat} {f : Addr} {fd : FuncData} {ps : List Str} {sp : Sp} (F : FnG P w K mg base CX j f fd ps sp) (h : j ≤ k) : FnG P w K mg base CX k f fd ps sp :=
  ⟨F.len, fun A outer s H args us vs Q E hr => F.go A outer s H args us vs Q E (hr.mono h)⟩
section
variable {P : Program} {w : World} {K : PySem.W.Frag} {mg : Str → Option Value} {base : Heap}
theorem fnG_of {CX : CXT} {x qual : Str} {st : Stmt} {f : Addr} {fd : FuncData} {N ps : List Str} {k : Nat} {sp : Sp} (F : Fun K x qual st f fd) (S : FnScope N ps (defScope st)) (len : ∀ vs H Q E, sp vs H Q E → vs.length = ps.length)
    (hbody : ∀ (cdv : Value) (A : Around) (outer : List PySem.Env) (s : Shared) (H : Hp) (vs : List V) (Q : VK) (E : XK), Room k (A.deeper (envOfC qual (defScope st) s.heap.objs.size f cdv)) → A.guards = some [] → sp vs H Q E →
      ∃ t, PSs (cxOf CX P w K mg base N qual (defScope st) f cdv A outer s H E) (defBody st) t ∧ t { nx := fun _ H' => Q .non H', rt := Q } (L2.start N vs) H) : FnG P w K mg base CX (k + 1) f fd ps sp := by
  obtain ⟨oc, od, kV, doc, pm, an, cdv, ct, osl, rfl, lk, hcd⟩ := F.ex
  refine ⟨len, fun A outer s H args us vs Q E hr hg e0 hb r hsp => ?_⟩
  have kept : ∀ b o, base.get? b = some o → s.heap.get? b = some o := fun b o e => (e0.bs b o e).1
  have KX := e0.mod.kin.keeps kept
  have lim := e0.mod.nolimit.keeps kept
  refine codeAny_call_function hr.depth (KX _ _ lk) rfl S.co S.gen rfl (PySem.W.codeRec_of KX hcd) (hb _ _ _ _ (wpAny_newFunctionEnv_cells S.kind (fun y hy => ?_) fun env he s1 x => ?_))
  · rcases S.par y.1 (List.of_mem_zip hy).1 with q | q
    · exact .inl q
    · exact .inr ⟨q, PySem.W.cellsFrom_some _ _ _ (.inl q)⟩
  · subst he
    obtain ⟨t, ht, hq⟩ := hbody cdv A outer s H vs Q E (hr.deeper _) hg hsp
    refine ⟨lim.keeps x.toInCall.keep, codeAny_func (wpAny_mono (ht.run [] s1 (L2.start N vs) H _ (inv_start S hr.hd e0 (len _ _ _ _ hsp) r x) hq) (fun fl s' hs => ?_) fun e s' hs => hs)⟩
    cases fl with
    | ret u =>
      obtain ⟨v, _, H', J, rv, q⟩ := hs
      exact ⟨v, H', J.os, J.bare, J.base, J.hok, rv, q⟩
    | next =>
      obtain ⟨_, H', J, q⟩ := hs
      exact ⟨.non, H', J.os, J.bare, J.base, J.hok, rfl, q⟩
    | brk => exact hs.choose_spec.choose_spec.2.elim
    | cont => exact hs.choose_spec.choose_spec.2.elim
/-- a def that lets nothing out -/
theorem okG {x qual : Str} {st : Stmt} {f : Addr} {fd : FuncData} {N ps : List Str} {k : Nat} {sp : Sp} (F : Fun K x qual st f fd) (S : FnScope N ps (defScope st)) (len : ∀ vs H Q E, sp vs H Q E → vs.length = ps.length)
    (hbody : ∀ (cdv : Value) (A : Around) (outer : List PySem.Env) (s : Shared) (H : Hp) (vs : List V) (Q : VK) (E : XK), Room k (A.deeper (envOfC qual (defScope st) s.heap.objs.size f cdv)) → A.guards = some [] → sp vs H Q E →
      ∃ t, PSs (cxOf CX0 P w K mg base N qual (defScope st) f cdv A outer s H E).nox (defBody st) t ∧ t { nx := fun _ H' => Q .non H', rt := Q } (L2.start N vs) H) : FnG P w K mg base CX0 (k + 1) f fd ps sp :=
  fnG_of F S len fun cdv A outer s H vs Q E hr hg h => by
    obtain ⟨t, ht, q⟩ := hbody cdv A outer s H vs Q E hr hg h
    exact ⟨t, ht.nox, q⟩
end
section
variable {X : Cx} {CX : CXT} {k : Nat} {f : Addr} {fd : FuncData} {ps : List Str} {sp : Sp} {E : XK} {x : Str} {p pos : Pos} {e : Expr} {es : List Expr} {t : TA}
theorem runG {pins : List (Addr × Obj)} {σ : L2.St} {H : Hp} {s : Shared} {Q : VK} {us : List Value} {vs : List V} (F : FnG X.prog X.w X.K X.mg X.base CX k f fd ps sp) (hr : Room k X.A) (hgd : X.A.guards = some []) (hb : Binds X.K fd ps []) (hx : Passes CX X E)
    (I : Inv X pins σ H s) (r : Vals vs us) (h : sp (vs ++ []) H Q E) : wpAny (model X.prog X.w) X.A (call (.ref f) us) (EP X pins σ Q) X.xe s := by
  have r2 : Vals (vs ++ []) (us ++ []) := r.append .nil
  have hl : (us ++ []).length = ps.length := r2.length.symm.trans (F.len _ _ _ _ h)
  refine wpAny_call (codeAny_mono (F.go X.A X.stack s H ⟨us, []⟩ (us ++ []) (vs ++ []) Q E hr hgd I.env0 (hb s us I.kIn hl) r2 h) fun r s' hq => ?_)
  match r, hq with
  | .error e, hq => exact hx pins σ H s e s' I hq
  | .ok (.ret u), hq => exact I.after hq
theorem pe_callG (F : FnG X.prog X.w X.K X.mg X.base CX k f fd ps sp) (hr : Room k X.A) (hgd : X.A.guards = some []) (hg : Gl X x) (hm : X.mg x = some (.ref f)) (hk : PySem.W.keepIn X.K (.ref f) = true) (hb : Binds X.K fd ps []) (hx : Passes CX X E)
    (ha : PA X (e :: es) t) (hdb : (x == ("__debug__" : Str)) = false := by decide) (he : starEach (e :: es) X.env = (false, eval e X.env) :: starEach es X.env := by rfl) (hpl : (backTo pos (starEach es X.env)).any (·.1) = false := by rfl) :
    PE X (.Call (.Name x p) (e :: es) [] pos) (tCall sp [] E t) :=
  ⟨fun pins s σ H Q I h => wpAny_Call_Name_kw (ld_glob I hg hm (PySem.W.callWith_K (h₀ := X.base) I.ok.mod.kin hk
    (thn (ha.run pos pins s σ H _ I h) fun us s1 ⟨vs, H1, I1, r, q⟩ => ⟨I1.kIn, runG F hr hgd hb hx I1 r q⟩) he hpl) hdb)⟩
end
/-! ### the end of a law whose def is such a one -/
theorem lawG {P : Program} {w : World} {K : PySem.W.Frag} {mg mb : Str → Option Value} {k : Nat} {fa a : Addr} {fd : FuncData} {x : Str} {sp : Sp} {s1 : Shared} {vs : List Value} {ns : List Int}
    (KX : K.In s1.heap) (hns : s1.heap.Ns mainGlobals mg) (hb : s1.heap.Ns builtinsNs mb) (hbb : ∀ x : Str, x ≠ "__name__" → mb x = bootBuiltins x) (hlim : s1.heap.NoLimit) (hg : s1.gens = #[])
    (ha : s1.heap.get? a = some { cls := .type "list", data := .seq vs.toArray }) (hi : IntsAre vs ns) (hl : ns.length ≤ sizeLine) (hr : Room k callerA)
    (F : ∀ base : Heap, K.In base → base.Ns mainGlobals mg → FnG P w K mg base CX0 k fa fd [x] sp) (hbind : ∀ (s : Shared) (u : Value), BindsTo s fd ⟨[u], []⟩ [(x, u)])
    (hsp : ∀ H : Hp, SqL K H a (ns.map V.int) → sp [.ref a] H (fun v _ => v = .bl true) fun _ _ _ => False) :
    codeAny (model P w) callerA (.call (.ref fa) ⟨[.ref a], []⟩) (fun r s' => r = .ok (.ret (.bool true)) ∧ OldK s1.heap s'.heap ∧ s'.os = s1.os ∧ AllBare s'.gens) s1 := by
  have rv := vals_ints hi
  have key : ∀ H : Hp, SqL K H a (ns.map V.int) → HOk P w H s1.heap → (∀ b u, H b = some u → b = a ∧ (∃ o xs, u = .frz o (.lst xs)) ∧ K.lookup a = none) →
      codeAny (model P w) callerA (.call (.ref fa) ⟨[.ref a], []⟩) (fun r s' => r = .ok (.ret (.bool true)) ∧ OldK s1.heap s'.heap ∧ s'.os = s1.os ∧ AllBare s'.gens) s1 := by
    intro H hS hok hA
    have free : ∀ {b : Addr}, (∀ o, s1.heap.get? b = some o → ¬ (b = a ∧ K.lookup a = none)) → ∀ o, s1.heap.get? b = some o → H b = none := fun {b} n o e => by
      cases q : H b with
      | none => rfl
      | some u => exact absurd ⟨(hA b u q).1, (hA b u q).2.2⟩ (n o e)
    have nsK : ∀ {b : Addr} {m : Str → Option Value}, s1.heap.Ns b m → (hidT s1.heap H).Ns b m := fun {b m} ⟨o, es, ep, e, d, r⟩ =>
      ⟨o, es, ep, hidT_get e (free (fun o2 e2 z => by
        rw [z.1, ha] at e
        cases e
        cases d) o e), d, r⟩
    have hKb : K.In (hidT s1.heap H) := fun b o e => hidT_get (KX b o e) (free (fun o2 e2 z => by
      rw [z.1, z.2] at e
      cases e) o (KX b o e))
    have hM : Mod K mg (hidT s1.heap H) := ⟨hKb, nsK hns, ⟨mb, nsK hb, hbb⟩, let ⟨mc, h1, h2⟩ := hlim; ⟨mc, nsK h1, h2⟩⟩
    have no : ∀ b : Addr, b ∉ ([] : List Addr) := fun b => by simp
    have e0 : Env0 P w K mg (hidT s1.heap H) callerA [] s1 H := ⟨rfl, hM, fun b o e => of_hidT e, Nat.le_of_eq (hidT_size _ _), trivial, fun b hb => absurd hb (no b), hok, .of_eq hg⟩
    refine codeAny_mono ((F _ hKb (nsK hns)).go callerA [] s1 H ⟨[.ref a], []⟩ [.ref a] [.ref a] _ _ hr rfl e0 (hbind s1 (.ref a)) (.cons rfl .nil) (hsp H hS)) fun r s' h => ?_
    match r, h with
    | .error e, h => exact h.elim
    | .ok (.ret u), h =>
      obtain ⟨v, H', os, bare, un, hok', r', q⟩ := h
      cases (show v = .bl true from q)
      cases (show u = Value.bool true from r')
      refine ⟨rfl, OldK.of_keep fun b o e => ?_, os, bare⟩
      cases q : H b with
      | none => exact un.keep b o e q (no b) (no b)
      | some u =>
        obtain ⟨_, ⟨ob, xs, rfl⟩, _⟩ := hA b u q
        have e1 := (hok b _ q).1
        rw [e] at e1
        cases e1
        exact (hok' b _ (un.frzs b _ _ q)).1
  cases hk : K.lookup a with
  | some o =>
    have e := KX a o hk
    rw [ha] at e
    cases e
    exact key (fun _ => none) (.inr ⟨_, vs.toArray, _, hk, rfl, rfl, rfl, by rw [List.size_toArray, hi.length]; exact hl, by simpa using rv⟩) (fun b u z => nomatch z) fun b u z => nomatch z
  | none =>
    let ob : Obj := { cls := .type "list", data := .seq vs.toArray }
    have at_ : ∀ b u, (fun c : Addr => if c = a then some (HO.frz ob (.lst (ns.map V.int))) else none) b = some u → b = a ∧ u = .frz ob (.lst (ns.map V.int)) := fun b u z => by
      by_cases hb : b = a
      · exact ⟨hb, (Option.some.inj ((if_pos hb).symm.trans z)).symm⟩
      · have z' := (if_neg hb).symm.trans z
        cases z'
    refine key (fun c => if c = a then some (.frz ob (.lst (ns.map V.int))) else none) (.inl (.inr ⟨ob, if_pos rfl⟩)) (fun b u z => ?_) fun b u z => ?_
    · obtain ⟨rfl, rfl⟩ := at_ b u z
      exact ⟨ha, by rw [List.length_map]; exact hl, vs, _, rv, ha⟩
    · obtain ⟨rfl, rfl⟩ := at_ b u z
      exact ⟨rfl, ⟨_, _, rfl⟩, hk⟩
theorem walkG {l : PySem.W.OpenLaw} {n k : Nat} {q : Program} {loose : List Str} {XP : (Str → Option Value) → Heap → Prop} {YP : World → Heap → Prop} {d : DefRec} {K : Params → PySem.W.Frag} {sp : PySem.W.Frag → Sp} {x : Str}
    (hn : l.most = some n) (hn2 : n ≤ sizeLine) (hdf : d.params.defaults = []) (hr : Room k callerA) (hY : ∀ (w : World) (h : Heap), YP w h → (K w.params).In h)
    (F : ∀ (w : World) (mg : Str → Option Value) (fa : Addr) (h : Heap), (K w.params).In h → h.Ns mainGlobals mg → mg d.name = some (.ref fa) →
      ∃ fd : FuncData, (∀ (s : Shared) (u : Value), BindsTo s fd ⟨[u], []⟩ [(x, u)]) ∧ ∀ base : Heap, (K w.params).In base → base.Ns mainGlobals mg → FnG l.prog w (K w.params) mg base CX0 k fa fd [x] (sp (K w.params)))
    (hsp : ∀ (K : PySem.W.Frag) (H : Hp) (a : Addr) (ns : List Int), ns.length ≤ n → SqL K H a (ns.map V.int) → sp K [.ref a] H (fun v _ => v = .bl true) fun _ _ _ => False) :
    PySem.W.WalkO q loose XP YP l.row.toRowW d [] (fun f vs => PySem.call f vs) := by
  refine Att.attach_call hn hdf fun w s0 s1 mg mb fa o pm cd doc a vs ns G Y ho hd hcd hmg hobj hints hlen hg => ?_
  obtain ⟨fd, hb, hF⟩ := F w mg fa _ (hY w _ Y) G.T.g hmg
  exact lawG (hY w _ Y) G.T.g G.T.b G.T.builtins G.T.nolimit hg hobj hints (Nat.le_trans hlen hn2) hr hF hb fun H hS => hsp _ H a ns hlen hS


/-! ### a list held against the empty list, whatever stands in it -/
def rNilL (K : PySem.W.Frag) (neg : Bool) : R2 := fun x y H Q => ∃ a b xs, x = .ref a ∧ y = .ref b ∧ SqL K H a xs ∧ SqL K H b [] ∧ Q (.bl (if neg then !xs.isEmpty else xs.isEmpty)) H
section
variable {X : Cx}
theorem op_neNil (hu : X.A.units + 64 < cLine) : OpR X (compareOp .NotEq) (rNilL X.K true) := by
  intro pins s σ H x y v u Q I rx ry h
  obtain ⟨a, b, xs, rfl, rfl, hx, hy, q⟩ := h
  cases rx
  cases ry
  obtain ⟨its, r, pl, _⟩ := I.list hx
  obtain ⟨its2, r2, pl2, _⟩ := I.list hy
  cases r2
  have hu' : X.A.units < cLine := Nat.lt_of_le_of_lt (Nat.le_add_right _ _) hu
  cases r with
  | nil =>
    exact SeqAt.RcNeAt.lists (e := fun _ => true) pl.isList pl2.isList rfl hu' (fun j h1 => absurd h1 (by simp)) X.prog X.w X.xe _ ⟨.bl false, H, I, rfl, q⟩
  | cons r1 r2 =>
    exact SeqAt.RcNeAt.lists_lengths pl.isList pl2.isList (by simp) hu' X.prog X.w X.xe _ ⟨.bl true, H, I, rfl, q⟩
theorem op_eqNil (hu : X.A.units + 64 < cLine) : OpR X (compareOp .Eq) (rNilL X.K false) := by
  intro pins s σ H x y v u Q I rx ry h
  obtain ⟨a, b, xs, rfl, rfl, hx, hy, q⟩ := h
  cases rx
  cases ry
  obtain ⟨its, r, pl, _⟩ := I.list hx
  obtain ⟨its2, r2, pl2, _⟩ := I.list hy
  cases r2
  have hu' : X.A.units < cLine := Nat.lt_of_le_of_lt (Nat.le_add_right _ _) hu
  cases r with
  | nil => exact SeqAt.eq_listAt (e := fun _ => true) pl.isList pl2.isList rfl hu' (fun j h1 => absurd h1 (by simp)) ⟨.bl true, H, I, rfl, q⟩
  | cons r1 r2 => exact SeqAt.eq_list_lengthsAt pl.isList pl2.isList (by simp) hu' ⟨.bl false, H, I, rfl, q⟩
end
/-! ### data, empty dicts too -/
mutual
inductive Dq (K : PySem.W.Frag) (H : Hp) : V → PyData → Prop
  | non : Dq K H .non .none
  | bl (b : Bool) : Dq K H (.bl b) (.bool b)
  | int (i : Int) : Dq K H (.int i) (.int i)
  | str (x : Str) : Dq K H (.str x) (.str x)
  | lst {a : Addr} {xs : List V} {ds : List PyData} : SqL K H a xs → DqAll K H xs ds → Dq K H (.ref a) (.list ds)
  | tup {a : Addr} {xs : List V} {ds : List PyData} : SqT K H a xs → DqAll K H xs ds → Dq K H (.ref a) (.tuple ds)
  | dct {a : Addr} : H a = some (.dK []) → Dq K H (.ref a) (.dict [])
inductive DqAll (K : PySem.W.Frag) (H : Hp) : List V → List PyData → Prop
  | nil : DqAll K H [] []
  | cons {v : V} {vs : List V} {d : PyData} {ds : List PyData} : Dq K H v d → DqAll K H vs ds → DqAll K H (v :: vs) (d :: ds)
end
section
variable {K : PySem.W.Frag} {H H' : Hp}
theorem seqT {a : Addr} {xs : List V} (e : Same H H') (h : SqT K H a xs) : SqT K H' a xs := by
  rcases h with (h | ⟨o, h⟩) | h
  · exact .inl (.inl (e _ _ h))
  · exact .inl (.inr ⟨o, e _ _ h⟩)
  · exact .inr h
mutual
theorem Dq.same (s : Same H H') : ∀ {v : V} {d : PyData}, Dq K H v d → Dq K H' v d
  | _, _, .non => .non
  | _, _, .bl b => .bl b
  | _, _, .int i => .int i
  | _, _, .str x => .str x
  | _, _, .lst h r => .lst (s.seq h) (DqAll.same s r)
  | _, _, .tup h r => .tup (seqT s h) (DqAll.same s r)
  | _, _, .dct h => .dct (s _ _ h)
theorem DqAll.same (s : Same H H') : ∀ {vs : List V} {ds : List PyData}, DqAll K H vs ds → DqAll K H' vs ds
  | _, _, .nil => .nil
  | _, _, .cons h r => .cons (Dq.same s h) (DqAll.same s r)
end
theorem DqAll.length : ∀ {vs : List V} {ds : List PyData}, DqAll K H vs ds → vs.length = ds.length
  | _, _, .nil => rfl
  | _, _, .cons _ r => congrArg Nat.succ r.length
end
section
variable {X : Cx} {pins : List (Addr × Obj)} {σ : L2.St} {H : Hp} {s : Shared}
/-- how a value is read and shown -/
def Rk (X : Cx) (h : Heap) (u : Value) (d : PyData) : Prop := (∃ as, Reads h u d as) ∧ ∃ bs, ReadAtMost h d.depth bs ∧ ReprK X.prog X.w bs h d.depth u d.shown
def RkAll (X : Cx) (h : Heap) (us : List Value) (ds : List PyData) : Prop := (∃ as, ReadsAll h us ds as) ∧ ∃ bs, ReadAtMost h (PyData.depthAll ds) bs ∧ ReprAllK X.prog X.w bs h (PyData.depthAll ds) us (PyData.shownAll ds)
theorem rk_leaf {h : Heap} {u : Value} {d : PyData} (r : Reads h u d []) (i : ReprIs X.prog X.w u d.shown) : Rk X h u d := ⟨⟨_, r⟩, [], (fun _ z => nomatch z), .of_is i _ _ _⟩
mutual
theorem Dq.rk (I : Inv X pins σ H s) : ∀ (d : PyData) (v : V) (u : Value), Dq X.K H v d → RelV v u → d.showable = true → d.shown.length ≤ sizeLine → Rk X s.heap u d
  | .none, _, _, h, r, _, _ => by
    cases h
    cases r
    exact rk_leaf .none ReprIs.none
  | .bool b, _, _, h, r, _, _ => by
    cases h
    cases r
    exact rk_leaf (.bool b) (ReprIs.bool b)
  | .int i, _, _, h, r, hs, _ => by
    cases h
    obtain ⟨t, rfl⟩ := r
    exact rk_leaf (.int i t) (ReprIs.int t (of_decide_eq_true hs))
  | .str x, _, _, h, r, _, hz => by
    cases h
    obtain ⟨t, rfl⟩ := r
    exact rk_leaf (.str x t) (ReprIs.str x t hz)
  | .list ds, _, _, h, r, hs, hz => by
    cases h with
    | @lst a xs _ hq ha =>
      cases r
      obtain ⟨its, rv, ⟨o, n, ho, hc, _, hd⟩, _⟩ := I.list hq
      obtain ⟨⟨as, hr⟩, bs, hb, hk⟩ := DqAll.rk I ds _ its ha rv hs fun t ht => Nat.le_trans (listText_mem_le ht) hz
      have rd : Reads s.heap (.ref a) (.list ds) _ := Reads.list ho hc hd hr
      refine ⟨⟨_, rd⟩, a :: bs, ReadAtMost.cons rd (Nat.le_succ _) hb, ?_⟩
      cases its with
      | nil =>
        cases hr
        exact ReprK.listEmpty ho hc hd
      | cons x l => exact ReprK.list ho hc hd (not_mem_of_deeper rd (Nat.lt_succ_self _) hb) (by simpa using hk.length_eq) fun i y e => hk.item i y (by simpa using e)
  | .tuple ds, _, _, h, r, hs, hz => by
    cases h with
    | @tup a xs _ hq ha =>
      cases r
      obtain ⟨its, rv, ⟨o, ho, hc, n, hd⟩, _⟩ := I.tuple hq
      obtain ⟨⟨as, hr⟩, bs, hb, hk⟩ := DqAll.rk I ds _ its ha rv hs fun t ht => Nat.le_trans (tupleText_mem_le ht) hz
      have rd : Reads s.heap (.ref a) (.tuple ds) _ := Reads.tuple ho hc hd hr
      exact ⟨⟨_, rd⟩, a :: bs, ReadAtMost.cons rd (Nat.le_succ _) hb, ReprK.tuple ho hc hd (not_mem_of_deeper rd (Nat.lt_succ_self _) hb) hk⟩
  | .dict kvs, _, _, h, r, hs, hz => by
    cases h with
    | @dct a ha =>
      cases r
      obtain ⟨_, hsys, vs, hv, o, es, ep, ho, hc, hd, _, he, _⟩ := (show ObjOk X.prog X.w H s.heap a (.dK []) from I.hok a _ ha)
      cases hv
      have he' : es.toList = [] := by
        cases hp : es.toList with
        | nil => rfl
        | cons x l =>
          rw [hp] at he
          cases he
      have e : es = #[] := by
        cases es
        cases he'
        rfl
      subst e
      have rd : Reads s.heap (.ref a) (.dict []) _ := Reads.dict ho hc.1 hd ReadsAll.nil ReadsAll.nil
      exact ⟨⟨_, rd⟩, [a], ReadAtMost.cons rd (Nat.zero_le _) (fun _ z => nomatch z), ReprK.dict ho hc.1 hd hsys (fun z => nomatch z) .nil⟩
theorem DqAll.rk (I : Inv X pins σ H s) : ∀ (ds : List PyData) (vs : List V) (us : List Value), DqAll X.K H vs ds → Vals vs us → PyData.showableAll ds = true → (∀ t ∈ PyData.shownAll ds, t.length ≤ sizeLine) → RkAll X s.heap us ds
  | [], _, _, h, r, _, _ => by
    cases h
    cases r
    exact ⟨⟨_, .nil⟩, [], (fun _ z => nomatch z), .nil⟩
  | d :: ds, _, _, h, r, hs, hz => by
    cases h with
    | cons h1 h2 =>
      cases r with
      | cons r1 r2 =>
        obtain ⟨s1, s2⟩ := Bool.and_eq_true_iff.mp hs
        obtain ⟨⟨_, q1⟩, b1, m1, k1⟩ := Dq.rk I d _ _ h1 r1 s1 (hz _ List.mem_cons_self)
        obtain ⟨⟨_, q2⟩, b2, m2, k2⟩ := DqAll.rk I ds _ _ h2 r2 s2 fun t ht => hz t (List.mem_cons_of_mem _ ht)
        exact ⟨⟨_, .cons q1 q2⟩, b1 ++ b2, (m1.mono (Nat.le_max_left _ _)).append (m2.mono (Nat.le_max_right _ _)),
          .cons ((k1.more fun _ z => List.mem_append_left _ z).level_le (Nat.le_max_left _ _)) (k2.more_le (fun _ z => List.mem_append_right _ z) (Nat.le_max_right _ _))⟩
end
/-- repr of a list -/
def rReprL (K : PySem.W.Frag) : List V → Hp → VK → Prop := fun xs H Q => ∃ (a : Addr) (d : PyData) (ds : List PyData), xs = [.ref a] ∧ Dq K H (.ref a) (.list (d :: ds)) ∧ PyData.showable (.list (d :: ds)) = true ∧ (PyData.shown (.list (d :: ds))).length ≤ sizeLine ∧
  PyData.depth (.list (d :: ds)) ≤ 190 ∧ Q (.str (PyData.shown (.list (d :: ds)))) H
theorem call_reprL (hgd : X.A.guards = some []) (hu : X.A.units + 200 < cLine) : CallR X (.builtin "repr") (rReprL X.K) := by
  intro pins s σ H xs us Q I r h
  obtain ⟨a, d, ds, rfl, hq, hs, hz, hd, q⟩ := h
  obtain ⟨u, rfl, rx⟩ := vals1 r
  cases rx
  cases hq with
  | @lst _ ys _ hl ha =>
    obtain ⟨its, rv, ⟨o, n, ho, hc, _, hda⟩, _⟩ := I.list hl
    obtain ⟨⟨as, hr⟩, bs, hb, hk⟩ := DqAll.rk I (d :: ds) _ its ha rv hs fun t ht => Nat.le_trans (listText_mem_le ht) hz
    have rd : Reads s.heap (.ref a) (.list (d :: ds)) _ := Reads.list ho hc hda hr
    cases its with
    | nil =>
      have hr' : ReadsAll s.heap [] (d :: ds) as := hr
      cases hr'
    | cons x l =>
      have hd' : PyData.depthAll (d :: ds) + 1 ≤ 190 := hd
      refine call_repr_slot (by omega) ⟨o, ho, hc⟩ F.slot_list_repr.toG (call_list_reprK ho hc hda (not_mem_of_deeper rd (Nat.lt_succ_self _) hb) (by simpa using hk.length_eq) (fun i y e => hk.item i y (by simpa using e)) hgd (fun b _ => Clear.nil b)
        (by show X.A.units + 1 + (PyData.depthAll (d :: ds) + 1) < cLine; omega) (fun _ _ e => e) (fun h' u tk k => ⟨_, _, rfl, .str (PyData.shown (.list (d :: ds))), H, I.kept k, ⟨_, rfl⟩, q⟩) hz)
end
/-! ### len, its deed by a name -/
def rLenS (K : PySem.W.Frag) : List V → Hp → VK → Prop := fun xs H Q => ∃ p ys, xs = [.ref p] ∧ (SqL K H p ys ∨ SqT K H p ys) ∧ Q (.int ys.length) H
theorem call_lenS {X : Cx} : CallR X (.builtin "len") (rLenS X.K) := call_len_seq


/-! ### SeekError.__init__(self, ..): the class's own name, the built-in's deed -/
section
variable {X : Cx} {e : Expr} {es : List Expr} {ta : TA} {p1 p2 pos : Pos} {S : Addr} {mc : Value}
theorem pe_seinit {x : Str} {pl : Sem Bool} (hg : Gl X x) (hm : X.mg x = some (.ref S)) (hga : PySem.W.specialIn X.K (.ref S) "__getattribute__" = some (some (.builtin "type.__getattribute__"))) (hrd : PySem.W.readsIn X.K S mc = true)
    (vV : PySem.W.findCls X.K (.ref S) mc "__init__" = some (.val (.builtin "ValueError.__init__"))) (ha : PA X (e :: es) ta) (hdb : (x == ("__debug__" : Str)) = false := by decide)
    (hc : eval (.Call (.Attribute (.Name x p1) "__init__" p2) (e :: es) [] pos) X.env = (do
      let ov ← eval (.Name x p1) X.env
      standAt p2.atName
      let (f, first) ← holding [ov] (getMethod ov "__init__" pl)
      callWith pos f first (backTo pos (starEach (e :: es) X.env)) (backToKw pos (keywordEach [] X.env))) := by rfl)
    (he : starEach (e :: es) X.env = (false, eval e X.env) :: starEach es X.env := by rfl) (hpl : (backTo pos (starEach es X.env)).any (·.1) = false := by rfl) :
    PE X (.Call (.Attribute (.Name x p1) "__init__" p2) (e :: es) [] pos) (tVeI X.K ta) := by
  refine ⟨fun pins s σ H Q I h => PySem.W.methodCall_KW (ld_glob I hg hm (PySem.W.method_cls I.kIn hga (PySem.W.cls_value I.kIn hrd vV (by decide +kernel) ?_)) hdb) hc⟩
  show wpAny _ _ (callWith pos (Value.builtin "ValueError.__init__") [] (backTo pos (starEach (e :: es) X.env)) []) _ _ _
  refine PyProof.Rows.callWith_method1 (thn (ha.run pos pins _ σ H _ (I.tok _) h) fun us s1 ⟨vs, H1, I1, r1, a, C, ws, ev, hl, T, ea, q⟩ => ?_) he hpl
  subst ev
  match us, r1 with
  | u0 :: ur, .cons ra rr =>
    cases (show u0 = Value.ref a from ra)
    exact oinit_ok T I1 ea (by rw [← Paired.length rr, sizeLine_eq]; omega) fun s' J => ⟨.non, H1, J, rfl, q⟩
end
/-! ### isinstance(e, C), isinstance(e, (C, D)), e the caught exception with its dict -/
section
open PySem.W
variable {prog : Program} {w : World} {A : Around} {E : Value → Shared → Prop} {s : Shared} {K : Frag} {x D : Addr} {ox : Obj} {od : Option Obj}
theorem class_of_exc (C : ExcC K D) {Q : Option Value → Shared → Prop} (X : K.In s.heap) (I : InstAt s.heap x ox D od) (h : Q (some (.ref D)) { s with toks := s.toks + 1 }) : wpAny (model prog w) A (getAttr? (.ref x) "__class__") Q E s := by
  have hf : findObj K D od "__class__" = some (.bind (.builtin "getset_descriptor.__get__") (.builtin "object.__class__")) := by
    obtain ⟨cd, hc, _⟩ := any_some C.hd
    unfold findObj
    rw [hc, Option.bind_some, C.ha, Option.bind_some]
    simp [C.hn, C.ht]
  obtain ⟨hp, g, d, t, os⟩ := s
  have L0 := I.type (M := model prog w)
  have no : (onTheHeap (Value.ref D) && Value.builtin "BaseException.__getattribute__" == Value.builtin "object.__getattribute__") = false := by
    rw [show (Value.builtin "BaseException.__getattribute__" == Value.builtin "object.__getattribute__") = false by decide +kernel]
    rfl
  unfold getAttr? getAttrBy? getAttrBy
  refine wpAny_bind (wpAny_mkText (wpAny_bind (wpAny_attempt (wpAny_holding (wpAny_bind (L0.at (wpAny_bind ((looks_findIn X C.hg).at ?_))))))))
  dsimp only
  rw [no, if_neg Bool.false_ne_true]
  unfold getAttrByItsOwn hookBefore
  refine wpAny_bind ?_
  rw [if_pos (show onTheHeap (Value.ref D) = true from rfl)]
  refine (looks_findIn X C.hk).at (wpAny_bind (wpAny_attempt (wpAny_holding ?_)))
  unfold callGetattribute
  rw [if_neg (show ¬ (false && onTheHeap (Value.builtin "BaseException.__getattribute__")) = true from Bool.false_ne_true)]
  unfold boundAndCalled
  rw [PySem.F.excAttr_ValueError.ga.bind (.ref x)]
  refine wpAny_bind (wpAny_pure (wpAny_call (codeAny_call_builtin PySem.F.excAttr_ValueError.ga.plain PySem.F.entry_bexc_ga ?_)))
  refine @check_slot (model prog w) _ _ ⟨hp, g, d, t + 1, os⟩ "BaseException.__getattribute__" "BaseException" "__getattribute__" (.ref x) [.str "__class__" t] [] _ (by decide +kernel) (by decide +kernel) (L0.andThen (looks_subIn X C.hs)) (PySem.F.args_bexc_ga (.ref x) (.str "__class__" t)) ?_
  unfold Builtin.«object.__getattribute__»
  refine wpAny_bind (wpAny_of_eq (a := ((Value.ref x : Value), [Value.str "__class__" t])) (by first | rfl | (simp only [slotArgs]; rfl)) ?_)
  refine wpAny_bind (wpAny_pure (wpAny_bind (L0.at (wpAny_bind ((looks_find (M := model prog w) X I hf).at ?_)))))
  show wpAny _ _ (holding [Value.builtin "object.__class__"] (call (.builtin "getset_descriptor.__get__") [.builtin "object.__class__", .ref x, .ref D]) >>= ret) _ _ _
  refine wpAny_bind (wpAny_holding (wpAny_call (class_get (s := ⟨hp, g, d, t + 1, os⟩) (ox := ox) (od := od) X I C.hm (wpAny_pure ?_))))
  show wpAny _ _ (handedOut (.ref D)) _ _ _
  rw [handedOut_of (v := .ref D) rfl]
  first
    | exact wpAny_pure (wpAny_pure h)
    | exact wpAny_pure h
    | exact wpAny_pure (wpAny_bind (wpAny_pure (wpAny_pure h)))
theorem kit_exc (C : ExcC K D) (hd : ∃ cd, clsIn K D = some cd) : KitX K (.ref x) (.ref D) (fun h => InstAt h x ox D od) where
  ty := fun _ _ _ I => I.type
  it := fun _ _ X _ => by
    obtain ⟨cdD, hcD⟩ := hd
    unfold clsIn at hcD
    split at hcD
    · rename_i c' d' cd' sl' ho
      intro A' Q' E' s' k q
      unfold isType loadHead
      exact wpAny_bind (wpAny_loadPart (k _ _ (X _ _ ho)) (wpAny_pure q))
    · cases hcD
  ne := fun h tp dd its n sl X htp => by
    obtain ⟨cdD, hcD⟩ := hd
    refine Bool.eq_false_iff.mpr fun q => ?_
    cases (Value.ref.inj (beq_iff_eq.mp q))
    unfold clsIn at hcD
    split at hcD
    · rename_i c' d' cd' sl' ho
      cases (X _ _ ho).symm.trans htp
    · cases hcD
  ca := fun X I k => class_of_exc C X I k
end
/-- isinstance of the exception at a that the suite holds; its class D, its dict dd -/
def rIsX (K : PySem.W.Frag) (a : Addr) (cls : Value) (d : Option Addr) : List V → Hp → VK → Prop := fun xs H Q => ∃ (D dd : Addr) (fs : List (Str × V)) (b : Bool), cls = .ref D ∧ d = some dd ∧ H dd = some (.xd fs) ∧ ExcC K D ∧
  ((∃ c cv, xs = [.ref a, c] ∧ ClsV c cv ∧ PySem.W.kitOne K (.ref D) cv = some b) ∨ ∃ tp cs us, xs = [.ref a, .ref tp] ∧ H tp = some (.tup cs) ∧ Paired ClsV cs us ∧ PySem.W.kitAny K (.ref D) us = some b) ∧ Q (.bl b) H
theorem call_isX {X : Cx} {a : Addr} {oe : Obj} {cls : Value} {d : Option Addr} {pn : List (Addr × Obj)} (hz : Zc cls d oe) (hf : ∃ vs, oe.data = .fields vs) : CallR (X.suite a ((a, oe) :: pn)) (.builtin "isinstance") (rIsX X.K a cls d) := by
  intro pins s σ H xs us Q I r h
  obtain ⟨D, dd, fs, b, rfl, rfl, hdd, C, hk, q⟩ := h
  obtain ⟨hget, _⟩ := I.pin (a, oe) (List.mem_append_left _ List.mem_cons_self)
  obtain ⟨vs, hv⟩ := hf
  obtain ⟨mA, hns, _⟩ := (show ObjOk X.prog X.w H s.heap dd (.xd fs) from I.hok dd _ hdd)
  obtain ⟨od, ho, _⟩ := lookIn_ns hns
  have J : PySem.W.InstAt s.heap a oe D (some od) := ⟨hget, hz.1, by unfold PySem.W.notCls; rw [hv] <;> rfl, by rw [hz.2]; exact ho⟩
  have Z := kit_exc (x := a) (ox := oe) (od := some od) C (let ⟨cd, hc, _⟩ := PySem.W.any_some C.hd; ⟨cd, hc⟩)
  have fin : ∀ tk, EP (X.suite a ((a, oe) :: pn)) pins σ Q (.bool b) { s with toks := tk } := fun tk => ⟨.bl b, H, I.tok tk, rfl, q⟩
  rcases hk with ⟨c, cv, rfl, k, e⟩ | ⟨tp, cs, ws, rfl, hT, k, e⟩
  · obtain ⟨u1, u2, rfl, r1, r2⟩ := vals2 r
    cases r1
    have e2 := k.eq r2
    subst e2
    exact PySem.W.kia_one Z I.kIn J e (fun z => nomatch z) fin
  · obtain ⟨u1, u2, rfl, r1, r2⟩ := vals2 r
    cases r1
    cases (show u2 = Value.ref tp from r2)
    obtain ⟨_, its, rv, o, h1, h2, n, h3⟩ := (show ObjOk X.prog X.w H s.heap tp (.tup cs) from I.hok tp _ hT)
    have e3 := ClsV.all k rv
    subst e3
    obtain ⟨oc, oD, dt, sl⟩ := o
    simp only at h2 h3
    subst h2 h3
    exact PySem.W.kia_tup Z I.kIn J h1 e (fun z => nomatch z) fin
/-! ### try with several clauses, named or not -/
abbrev HdR := Value × (Addr → Value → Option Addr → TS)
/-- what the clauses wish of what the body raises, the first that fits -/
def wMix (K : PySem.W.Frag) (Wout : WX) (D : Ends) : List HdR → WX
  | [] => Wout
  | (c, r) :: l => fun cls d σ H => ∃ b, PySem.W.exmOne K cls c = some b ∧ (b = true → ∀ a, H a = none → r a cls d D σ H) ∧ (b = false → wMix K Wout D l cls d σ H)
/-- a named clause's suite: the name holds the exception, and is gone behind it -/
def asName (i : Nat) (ts : Addr → Value → Option Addr → TS) : Addr → Value → Option Addr → TS := fun a cls d D σ H =>
  ts a cls d { nx := fun σ' H' => D.nx (σ'.set i none) H', rt := D.rt, bk := fun σ' H' => D.bk (σ'.set i none) H', ct := fun σ' H' => D.ct (σ'.set i none) H' } (σ.set i (some (.ref a))) H
def SuiteOk (X : Cx) (b : List Stmt) (ts : Addr → Value → Option Addr → TS) : Prop :=
  ∀ (a : Addr) (oe : Obj) (cls : Value) (d : Option Addr) (pn : List (Addr × Obj)), Zc cls d oe → (∃ vs, oe.data = .fields vs) → PSs (X.suite a ((a, oe) :: pn)) b (ts a cls d)
inductive MixOk (X : Cx) : List ExceptHandler → List HdR → Prop
  | nil : MixOk X [] []
  | bare {x : Str} {c : Value} {ts : Addr → Value → Option Addr → TS} {b0 : Stmt} {bs : List Stmt} {np ps : Pos} {hds : List ExceptHandler} {l : List HdR} (hc : Names X x c) (hsu : SuiteOk X (b0 :: bs) ts) (r : MixOk X hds l) :
      MixOk X (.ExceptHandler (some (.Name x np)) none (b0 :: bs) ps :: hds) ((c, ts) :: l)
  | named {x n : Str} {i : Nat} {c : Value} {ts : Addr → Value → Option Addr → TS} {b0 : Stmt} {bs : List Stmt} {np ps : Pos} {hds : List ExceptHandler} {l : List HdR} (hc : Names X x c) (hN : X.N.Nodup) (hi : X.N[i]? = some n) (hln : X.env.kindOf n = some .local)
      (hsu : SuiteOk X (b0 :: bs) ts) (r : MixOk X hds l) : MixOk X (.ExceptHandler (some (.Name x np)) (some n) (b0 :: bs) ps :: hds) ((c, asName i ts) :: l)
section
variable {X : Cx} {body : List Stmt} {h0 : ExceptHandler} {hds : List ExceptHandler} {l : List HdR} {pos : Pos} {tb : WX → TS} {Wout : WX}
theorem ps_try_mix (hs : X.stack = X.env :: X.outer) (hf : X.env.frame = some X.env.locals) (tk : Takes X Wout)
    (hb : ∀ (W : WX) (pn : List (Addr × Obj)) (xe : Value → Shared → Prop), Takes (X.tr pn xe) W → PassesOwn (model X.prog X.w) X.A X.env xe → PSs (X.tr pn xe) body (tb W))
    (hh : MixOk X (h0 :: hds) l) : PS X (.Try body (h0 :: hds) [] [] pos) (fun D σ H => tb (wMix X.K Wout D l) D σ H) := by
  refine ⟨fun pins s σ H D I h => wpAny_Try_except ?_⟩
  have ok := I.ok
  refine wpAny_mono ((hb (wMix X.K Wout D l) (X.pn ++ pins) _ (fun u s' xx => ?_) PassesOwn.looking).run [] s σ H D (I.toTry _) h) (fun f s1 hsp => ?_) (fun e s1 he => he)
  · -- what was raised is looked at by the clauses
    obtain ⟨a, B, sI, pins', σ', H', cls, d, rfl, J', nb, up, sky, na, os, ag, w⟩ := xx
    have J : Inv X pins σ' H' sI := J'.ofTry ok
    rw [hs] at sky
    refine Sky.land Zc.steady (show X.A.frames = some (X.env :: X.outer) by rw [ok.frames, hs]) hf sky fun h3 fl3 up3 => ?_
    have land : ∀ {h4 : Heap}, HandSPX.FlyingZ B (X.env :: X.outer) a (Zc cls d) h4 → _ → Inv X pins σ' H' { s' with heap := h4 } := fun {h4} fl4 up4 => J.landed nb fl4.1 (up.trans up4) os ag
    have J3 := land fl3 up3
    obtain ⟨oe3, vs3, he3, hz3, hd3⟩ := fl3.there
    have nfr : a ∉ frs (X.env :: X.outer) := fun hm => by
      obtain ⟨_, o', e', hnf⟩ := fl3.2.2.1.mem hm
      rw [he3] at e'
      cases e'
      exact hnf _ hd3
    have nL : a ≠ X.env.locals := fun z => nfr (List.mem_filterMap.mpr ⟨X.env, List.mem_cons_self, by rw [hf, z]⟩)
    have nF : a ∉ X.fs := fun hm => by
      obtain ⟨e, he, q⟩ := List.mem_filterMap.mp hm
      exact nfr (List.mem_filterMap.mpr ⟨e, List.mem_cons_of_mem _ he, q⟩)
    have S3 := J3.suite he3 hd3 na nL nF
    have LT : PySem.W.Looks (model X.prog X.w) h3 (typeOf (.ref a)) cls := fun A Q E s k q => wpAny_typeOf_ref (k _ _ he3) (by rw [hz3.1]; exact q)
    have test : ∀ {x : Str} {c : Value} {np : Pos} {Q : Value → Shared → Prop} {E : Value → Shared → Prop}, Names X x c → Q c { s' with heap := h3 } → wpAny (model X.prog X.w) (X.A.mark (some (.ref a))) (eval (.Name x np) X.env) Q E { s' with heap := h3 } := fun {x c np Q E} hc q => by
      obtain ⟨hg, hdbg, hm | ⟨hm, hv, hnn⟩⟩ := hc
      · exact ld_glob (X := X.suite a ((a, oe3) :: (X.pn ++ pins))) S3 hg hm q hdbg
      · exact ld_blt (X := X.suite a ((a, oe3) :: (X.pn ++ pins))) S3 hg hm hv q hnn hdbg
    have go : ∀ {hds' : List ExceptHandler} {l' : List HdR}, MixOk X hds' l' → wMix X.K Wout D l' cls d σ' H' → wpAny (model X.prog X.w) X.A (handleBy (.ref a) X.env hds') (SP X pins D) X.xe { s' with heap := h3 } := by
      intro hds' l' hk
      induction hk with
      | nil =>
        intro w
        refine wpAny_handleBy_nil ?_
        obtain ⟨_, _, _, oe, vs, T, oT, ts', he, hz, hd, h1, hr⟩ := id fl3
        unfold PySem.passOn
        refine wpAny_bind (wpAny_field he hd h1 ?_)
        rw [if_neg (show ¬ ((Value.ref T == Value.none) = true) by simp)]
        have fin : wpAny (model X.prog X.w) X.A (setFlight (.ref a) X.env.frame) (fun _ s4 => wpAny (model X.prog X.w) X.A (throw (.ref a) : Sem Flow) (SP X pins D) X.xe s4) X.xe { s' with heap := h3 } := by
          rw [hf]
          exact HandSPX.setFlight_upZ fl3 fun h4 hh4 up4 => wpAny_throw (tk _ _ ⟨a, B, sI, pins, σ', H', cls, d, rfl, J, nb, (up.trans up3).trans up4, .inr (.inr (by rw [hs]; exact hh4)), na, os, ag, w⟩)
        first
          | exact wpAny_bind (wpAny_pure (wpAny_bind fin))
          | exact wpAny_bind fin
      | bare hc hsu r ih =>
        intro w
        obtain ⟨b, hb1, hyes, hno⟩ := w
        refine wpAny_handleBy_cons (codeAny_handlers_test (test hc ((PySem.W.exm_one (M := model X.prog X.w) J3.kIn LT hb1).here ?_))) (by intro q; cases q)
        cases b with
        | false => exact ih (hno rfl)
        | true =>
          refine codeAny_handlers_suite (HandSPX.lands_againZ fl3 fun h4 fl4 up4 => ?_)
          obtain ⟨oe4, vs4, he4, hz4, hd4⟩ := fl4.there
          have S4 := (land fl4 (up3.trans up4)).suite he4 hd4 na nL nF
          refine wpAny_mono ((hsu a oe4 cls d (X.pn ++ pins) hz4 ⟨_, hd4⟩).run [] _ _ H' _ S4 (hyes rfl a na)) (fun f s6 hsp => ?_) (fun _ _ z => z.elim)
          match f, hsp with
          | .next, ⟨σ6, H6, S6, q6⟩ => exact ⟨_, _, S6.unsuite ok, q6⟩
          | .brk, ⟨σ6, H6, S6, q6⟩ => exact ⟨_, _, S6.unsuite ok, q6⟩
          | .cont, ⟨σ6, H6, S6, q6⟩ => exact ⟨_, _, S6.unsuite ok, q6⟩
          | .ret u, ⟨v6, σ6, H6, S6, r6, q6⟩ => exact ⟨_, _, _, S6.unsuite ok, r6, q6⟩
      | @named x n i c ts b0 bs np ps hds2 l2 hc hN hi hln hsu r ih =>
        intro w
        obtain ⟨b, hb1, hyes, hno⟩ := w
        refine wpAny_handleBy_cons (codeAny_handlers_test (test hc ((PySem.W.exm_one (M := model X.prog X.w) J3.kIn LT hb1).here ?_))) (by intro q; cases q)
        cases b with
        | false => exact ih (hno rfl)
        | true =>
          refine codeAny_handlers_suite_as (HandSPX.lands_againZ fl3 fun h4 fl4 up4 => ?_)
          obtain ⟨oe4, vs4, he4, hz4, hd4⟩ := fl4.there
          have S4 := (land fl4 (up3.trans up4)).suite he4 hd4 na nL nF
          refine store_ok (X := X.suite a ((a, oe4) :: (X.pn ++ pins))) (v := .ref a) S4 hN hi (.inl hln) rfl (fun s5 S5 => ?_) (.inr hln)
          refine wpAny_mono ((hsu a oe4 cls d (X.pn ++ pins) hz4 ⟨_, hd4⟩).run [] s5 _ H' _ S5 (hyes rfl a na)) (fun f s6 hsp => ?_) (fun _ _ z => z.elim)
          match f, hsp with
          | .next, ⟨σ6, H6, S6, q6⟩ => exact gone_ok (S6.unsuite ok) hN hi hln fun s7 J7 => ⟨_, _, J7, q6⟩
          | .brk, ⟨σ6, H6, S6, q6⟩ => exact gone_ok (S6.unsuite ok) hN hi hln fun s7 J7 => ⟨_, _, J7, q6⟩
          | .cont, ⟨σ6, H6, S6, q6⟩ => exact gone_ok (S6.unsuite ok) hN hi hln fun s7 J7 => ⟨_, _, J7, q6⟩
          | .ret u, ⟨v6, σ6, H6, S6, r6, q6⟩ => exact gone_ok (S6.unsuite ok) hN hi hln fun s7 J7 => ⟨_, _, _, J7, r6, q6⟩
    exact go hh w
  · match f, hsp with
    | .next, ⟨σ', H', J', q⟩ => exact wpAny_execs_nil ⟨σ', H', J'.ofTry ok, q⟩
    | .brk, ⟨σ', H', J', q⟩ => exact ⟨σ', H', J'.ofTry ok, q⟩
    | .cont, ⟨σ', H', J', q⟩ => exact ⟨σ', H', J'.ofTry ok, q⟩
    | .ret u, ⟨v, σ', H', J', r, q⟩ => exact ⟨v, σ', H', J'.ofTry ok, r, q⟩
end
/-! ### isinstance against an own class, against a built-in one -/
theorem kit_refE {K : PySem.W.Frag} {C : Addr} {cls : Value} {b : Bool} (hdct : PySem.W.hasDictIn K C = true) (ht : PySem.W.typeIn K (.ref C) = some (.type "type")) (h4 : PySem.W.subIn K cls (.ref C) = some b) (hb : cls = .ref C → some true = some b) : PySem.W.kitOne K cls (.ref C) = some b := by
  obtain ⟨cd, hc, _⟩ := PySem.W.any_some hdct
  have e2 : ((PySem.W.clsIn K C).isSome && PySem.W.typeIn K (.ref C) == some (.type "type")) = true := by rw [hc, ht] <;> rfl
  unfold PySem.W.kitOne
  by_cases e : (cls == .ref C) = true
  · rw [if_pos e]
    exact hb (eq_of_beq e)
  · rw [if_neg e]
    show (if ((PySem.W.clsIn K C).isSome && PySem.W.typeIn K (.ref C) == some (.type "type")) = true then PySem.W.subIn K cls (.ref C) else none) = some b
    rw [if_pos e2]
    exact h4
theorem kit_tyE {K : PySem.W.Frag} {C : Addr} {n : String} {b : Bool} (h : PySem.W.subIn K (.ref C) (.type n) = some b) (hm : PySem.W.kitMeta n = true) : PySem.W.kitOne K (.ref C) (.type n) = some b := by
  unfold PySem.W.kitOne
  rw [if_neg (show ¬ ((Value.ref C == Value.type n) = true) by simp)]
  show (if PySem.W.kitMeta n = true then PySem.W.subIn K (.ref C) (.type n) else none) = some b
  rw [if_pos hm]
  exact h


def topS (i : Nat) : Stmt := PySem.Challenge.pw_fairseek_k04_parts_put.main.body.getD i (.Pass ⟨0, 0, 0, 0⟩)
abbrev s_is_whole : Stmt := topS 10
abbrev s_is_within : Stmt := topS 11
abbrev s_is_name : Stmt := topS 12
abbrev s_is_unknown : Stmt := topS 17
abbrev s_is_pair : Stmt := topS 18
abbrev s_is_single : Stmt := topS 19
abbrev s_is_term : Stmt := topS 20
abbrev s_need_term : Stmt := topS 21
abbrev s_parts_within : Stmt := topS 22
abbrev s_parts_of : Stmt := topS 23
abbrev s_at_place : Stmt := topS 24
abbrev s_put_within : Stmt := topS 25
abbrev s_put_at : Stmt := topS 26
abbrev s_l_cell : Stmt := topS 28
abbrev s_l_purse : Stmt := topS 29
abbrev s_l_take : Stmt := topS 30
abbrev s_l_single : Stmt := topS 31
abbrev s_l_term : Stmt := topS 32
abbrev s_l_room : Stmt := topS 33
abbrev s_l_parts : Stmt := topS 34
abbrev s_l_places : Stmt := topS 35
abbrev s_l_put : Stmt := topS 36
abbrev s_l_said : Stmt := topS 37
abbrev s_l_seen : Stmt := topS 38
abbrev s_l_bad_place : Stmt := topS 39
abbrev s_l_no_term : Stmt := topS 40
abbrev s_l_right : Stmt := topS 41
abbrev s_l_refused : Stmt := topS 42
abbrev s_law : Stmt := topS 43
abbrev s_NoTerm_init : Stmt := inClass (topS 2) 0
abbrev s_NoPlace_init : Stmt := inClass (topS 3) 0
abbrev s_NoText_init : Stmt := inClass (topS 4) 0
abbrev s_TooGreat_init : Stmt := inClass (topS 5) 0
structure Env (K : PySem.W.Frag) (mg : Str → Option Value) where
  a_is_whole : Addr
  d_is_whole : FuncData
  F_is_whole : Fun K "is_whole" "is_whole" s_is_whole a_is_whole d_is_whole
  b_is_whole : Binds K d_is_whole ["thing"] []
  g_is_whole : mg "is_whole" = some (.ref a_is_whole)
  a_is_within : Addr
  d_is_within : FuncData
  F_is_within : Fun K "is_within" "is_within" s_is_within a_is_within d_is_within
  b_is_within : Binds K d_is_within ["thing", "low", "high"] []
  g_is_within : mg "is_within" = some (.ref a_is_within)
  a_is_name : Addr
  d_is_name : FuncData
  F_is_name : Fun K "is_name" "is_name" s_is_name a_is_name d_is_name
  b_is_name : Binds K d_is_name ["thing"] []
  g_is_name : mg "is_name" = some (.ref a_is_name)
  a_is_unknown : Addr
  d_is_unknown : FuncData
  F_is_unknown : Fun K "is_unknown" "is_unknown" s_is_unknown a_is_unknown d_is_unknown
  b_is_unknown : Binds K d_is_unknown ["thing"] []
  g_is_unknown : mg "is_unknown" = some (.ref a_is_unknown)
  a_is_pair : Addr
  d_is_pair : FuncData
  F_is_pair : Fun K "is_pair" "is_pair" s_is_pair a_is_pair d_is_pair
  b_is_pair : Binds K d_is_pair ["term"] []
  g_is_pair : mg "is_pair" = some (.ref a_is_pair)
  a_is_single : Addr
  d_is_single : FuncData
  F_is_single : Fun K "is_single" "is_single" s_is_single a_is_single d_is_single
  b_is_single : Binds K d_is_single ["thing"] []
  g_is_single : mg "is_single" = some (.ref a_is_single)
  a_is_term : Addr
  d_is_term : FuncData
  F_is_term : Fun K "is_term" "is_term" s_is_term a_is_term d_is_term
  b_is_term : Binds K d_is_term ["thing"] []
  g_is_term : mg "is_term" = some (.ref a_is_term)
  a_need_term : Addr
  d_need_term : FuncData
  F_need_term : Fun K "need_term" "need_term" s_need_term a_need_term d_need_term
  b_need_term : Binds K d_need_term ["thing"] []
  g_need_term : mg "need_term" = some (.ref a_need_term)
  a_parts_within : Addr
  d_parts_within : FuncData
  F_parts_within : Fun K "parts_within" "parts_within" s_parts_within a_parts_within d_parts_within
  b_parts_within : Binds K d_parts_within ["term"] []
  g_parts_within : mg "parts_within" = some (.ref a_parts_within)
  a_parts_of : Addr
  d_parts_of : FuncData
  F_parts_of : Fun K "parts_of" "parts_of" s_parts_of a_parts_of d_parts_of
  b_parts_of : Binds K d_parts_of ["term"] []
  g_parts_of : mg "parts_of" = some (.ref a_parts_of)
  a_at_place : Addr
  d_at_place : FuncData
  F_at_place : Fun K "at_place" "at_place" s_at_place a_at_place d_at_place
  b_at_place : Binds K d_at_place ["term", "place"] []
  g_at_place : mg "at_place" = some (.ref a_at_place)
  a_put_within : Addr
  d_put_within : FuncData
  F_put_within : Fun K "put_within" "put_within" s_put_within a_put_within d_put_within
  b_put_within : Binds K d_put_within ["term", "place", "part"] []
  g_put_within : mg "put_within" = some (.ref a_put_within)
  a_put_at : Addr
  d_put_at : FuncData
  F_put_at : Fun K "put_at" "put_at" s_put_at a_put_at d_put_at
  b_put_at : Binds K d_put_at ["term", "place", "part"] []
  g_put_at : mg "put_at" = some (.ref a_put_at)
  a_l_cell : Addr
  d_l_cell : FuncData
  F_l_cell : Fun K "_law_cell" "_law_cell" s_l_cell a_l_cell d_l_cell
  b_l_cell : Binds K d_l_cell ["_law_script", "_law_k"] []
  g_l_cell : mg "_law_cell" = some (.ref a_l_cell)
  a_l_purse : Addr
  d_l_purse : FuncData
  F_l_purse : Fun K "_law_purse" "_law_purse" s_l_purse a_l_purse d_l_purse
  b_l_purse : Binds K d_l_purse ["_law_cell_here"] []
  g_l_purse : mg "_law_purse" = some (.ref a_l_purse)
  a_l_take : Addr
  d_l_take : FuncData
  F_l_take : Fun K "_law_take" "_law_take" s_l_take a_l_take d_l_take
  b_l_take : Binds K d_l_take ["_law_purse_here", "_law_many"] []
  g_l_take : mg "_law_take" = some (.ref a_l_take)
  a_l_single : Addr
  d_l_single : FuncData
  F_l_single : Fun K "_law_single" "_law_single" s_l_single a_l_single d_l_single
  b_l_single : Binds K d_l_single ["_law_purse_here"] []
  g_l_single : mg "_law_single" = some (.ref a_l_single)
  a_l_term : Addr
  d_l_term : FuncData
  F_l_term : Fun K "_law_term" "_law_term" s_l_term a_l_term d_l_term
  b_l_term : Binds K d_l_term ["_law_purse_here", "_law_room_here"] []
  g_l_term : mg "_law_term" = some (.ref a_l_term)
  a_l_room : Addr
  d_l_room : FuncData
  F_l_room : Fun K "_law_room" "_law_room" s_l_room a_l_room d_l_room
  b_l_room : Binds K d_l_room ["_law_purse_here"] []
  g_l_room : mg "_law_room" = some (.ref a_l_room)
  a_l_parts : Addr
  d_l_parts : FuncData
  F_l_parts : Fun K "_law_parts" "_law_parts" s_l_parts a_l_parts d_l_parts
  b_l_parts : Binds K d_l_parts ["_law_term_here"] []
  g_l_parts : mg "_law_parts" = some (.ref a_l_parts)
  a_l_places : Addr
  d_l_places : FuncData
  F_l_places : Fun K "_law_places" "_law_places" s_l_places a_l_places d_l_places
  b_l_places : Binds K d_l_places ["_law_term_here", "_law_place"] []
  g_l_places : mg "_law_places" = some (.ref a_l_places)
  a_l_put : Addr
  d_l_put : FuncData
  F_l_put : Fun K "_law_put" "_law_put" s_l_put a_l_put d_l_put
  b_l_put : Binds K d_l_put ["_law_term_here", "_law_place", "_law_part"] []
  g_l_put : mg "_law_put" = some (.ref a_l_put)
  a_l_said : Addr
  d_l_said : FuncData
  F_l_said : Fun K "_law_said" "_law_said" s_l_said a_l_said d_l_said
  b_l_said : Binds K d_l_said ["_law_term_here", "_law_place", "_law_part"] []
  g_l_said : mg "_law_said" = some (.ref a_l_said)
  a_l_seen : Addr
  d_l_seen : FuncData
  F_l_seen : Fun K "_law_seen" "_law_seen" s_l_seen a_l_seen d_l_seen
  b_l_seen : Binds K d_l_seen ["_law_term_here", "_law_place"] []
  g_l_seen : mg "_law_seen" = some (.ref a_l_seen)
  a_l_bad_place : Addr
  d_l_bad_place : FuncData
  F_l_bad_place : Fun K "_law_bad_place" "_law_bad_place" s_l_bad_place a_l_bad_place d_l_bad_place
  b_l_bad_place : Binds K d_l_bad_place ["_law_purse_here", "_law_term_here"] []
  g_l_bad_place : mg "_law_bad_place" = some (.ref a_l_bad_place)
  a_l_no_term : Addr
  d_l_no_term : FuncData
  F_l_no_term : Fun K "_law_no_term" "_law_no_term" s_l_no_term a_l_no_term d_l_no_term
  b_l_no_term : Binds K d_l_no_term ["_law_purse_here"] []
  g_l_no_term : mg "_law_no_term" = some (.ref a_l_no_term)
  a_l_right : Addr
  d_l_right : FuncData
  F_l_right : Fun K "_law_right" "_law_right" s_l_right a_l_right d_l_right
  b_l_right : Binds K d_l_right ["_law_purse_here", "_law_term_here", "_law_part"] []
  g_l_right : mg "_law_right" = some (.ref a_l_right)
  a_l_refused : Addr
  d_l_refused : FuncData
  F_l_refused : Fun K "_law_refused" "_law_refused" s_l_refused a_l_refused d_l_refused
  b_l_refused : Binds K d_l_refused ["_law_purse_here", "_law_term_here", "_law_part"] []
  g_l_refused : mg "_law_refused" = some (.ref a_l_refused)
  a_law : Addr
  d_law : FuncData
  F_law : Fun K "law" "law" s_law a_law d_law
  b_law : Binds K d_law ["_law_script"] []
  g_law : mg "law" = some (.ref a_law)
  a_NoTerm : Addr
  g_NoTerm : mg "NoTerm" = some (.ref a_NoTerm)
  x_NoTerm : OexC K a_NoTerm
  y_NoTerm : ExcC K a_NoTerm
  f_NoTerm : XfC K a_NoTerm
  i_NoTerm : Addr
  di_NoTerm : FuncData
  Fi_NoTerm : Fun K "__init__" "NoTerm.__init__" s_NoTerm_init i_NoTerm di_NoTerm
  bi_NoTerm : Binds K di_NoTerm ["self", "found"] []
  ii_NoTerm : PySem.W.findIn K (.ref a_NoTerm) "__init__" = some (some (.ref i_NoTerm))
  ti_NoTerm : PySem.W.typeIn K (.ref i_NoTerm) = some (.type "function")
  kv_NoTerm : PySem.W.kitOne K (.ref a_NoTerm) (.type "ValueError") = some true
  n_NoTerm_found : PySem.W.findIn K (.ref a_NoTerm) "found" = some none
  a_NoPlace : Addr
  g_NoPlace : mg "NoPlace" = some (.ref a_NoPlace)
  x_NoPlace : OexC K a_NoPlace
  y_NoPlace : ExcC K a_NoPlace
  f_NoPlace : XfC K a_NoPlace
  i_NoPlace : Addr
  di_NoPlace : FuncData
  Fi_NoPlace : Fun K "__init__" "NoPlace.__init__" s_NoPlace_init i_NoPlace di_NoPlace
  bi_NoPlace : Binds K di_NoPlace ["self", "found"] []
  ii_NoPlace : PySem.W.findIn K (.ref a_NoPlace) "__init__" = some (some (.ref i_NoPlace))
  ti_NoPlace : PySem.W.typeIn K (.ref i_NoPlace) = some (.type "function")
  kv_NoPlace : PySem.W.kitOne K (.ref a_NoPlace) (.type "ValueError") = some true
  n_NoPlace_found : PySem.W.findIn K (.ref a_NoPlace) "found" = some none
  a_NoText : Addr
  g_NoText : mg "NoText" = some (.ref a_NoText)
  x_NoText : OexC K a_NoText
  y_NoText : ExcC K a_NoText
  f_NoText : XfC K a_NoText
  i_NoText : Addr
  di_NoText : FuncData
  Fi_NoText : Fun K "__init__" "NoText.__init__" s_NoText_init i_NoText di_NoText
  bi_NoText : Binds K di_NoText ["self", "at"] []
  ii_NoText : PySem.W.findIn K (.ref a_NoText) "__init__" = some (some (.ref i_NoText))
  ti_NoText : PySem.W.typeIn K (.ref i_NoText) = some (.type "function")
  kv_NoText : PySem.W.kitOne K (.ref a_NoText) (.type "ValueError") = some true
  n_NoText_at : PySem.W.findIn K (.ref a_NoText) "at" = some none
  a_TooGreat : Addr
  g_TooGreat : mg "TooGreat" = some (.ref a_TooGreat)
  x_TooGreat : OexC K a_TooGreat
  y_TooGreat : ExcC K a_TooGreat
  f_TooGreat : XfC K a_TooGreat
  i_TooGreat : Addr
  di_TooGreat : FuncData
  Fi_TooGreat : Fun K "__init__" "TooGreat.__init__" s_TooGreat_init i_TooGreat di_TooGreat
  bi_TooGreat : Binds K di_TooGreat ["self", "parts"] []
  ii_TooGreat : PySem.W.findIn K (.ref a_TooGreat) "__init__" = some (some (.ref i_TooGreat))
  ti_TooGreat : PySem.W.typeIn K (.ref i_TooGreat) = some (.type "function")
  kv_TooGreat : PySem.W.kitOne K (.ref a_TooGreat) (.type "ValueError") = some true
  n_TooGreat_parts : PySem.W.findIn K (.ref a_TooGreat) "parts" = some none
  a_SeekError : Addr
  g_SeekError : mg "SeekError" = some (.ref a_SeekError)
  sga : PySem.W.specialIn K (.ref a_SeekError) "__getattribute__" = some (some (.builtin "type.__getattribute__"))
  srd : PySem.W.readsIn K a_SeekError (.type "type") = true
  svi : PySem.W.findCls K (.ref a_SeekError) (.type "type") "__init__" = some (.val (.builtin "ValueError.__init__"))
  km_NoTerm_NoTerm : PySem.W.kitOne K (.ref a_NoTerm) (.ref a_NoTerm) = some true
  em_NoTerm_NoTerm : PySem.W.exmOne K (.ref a_NoTerm) (.ref a_NoTerm) = some true
  km_NoTerm_NoPlace : PySem.W.kitOne K (.ref a_NoTerm) (.ref a_NoPlace) = some false
  em_NoTerm_NoPlace : PySem.W.exmOne K (.ref a_NoTerm) (.ref a_NoPlace) = some false
  km_NoTerm_NoText : PySem.W.kitOne K (.ref a_NoTerm) (.ref a_NoText) = some false
  em_NoTerm_NoText : PySem.W.exmOne K (.ref a_NoTerm) (.ref a_NoText) = some false
  km_NoTerm_TooGreat : PySem.W.kitOne K (.ref a_NoTerm) (.ref a_TooGreat) = some false
  em_NoTerm_TooGreat : PySem.W.exmOne K (.ref a_NoTerm) (.ref a_TooGreat) = some false
  km_NoPlace_NoTerm : PySem.W.kitOne K (.ref a_NoPlace) (.ref a_NoTerm) = some false
  em_NoPlace_NoTerm : PySem.W.exmOne K (.ref a_NoPlace) (.ref a_NoTerm) = some false
  km_NoPlace_NoPlace : PySem.W.kitOne K (.ref a_NoPlace) (.ref a_NoPlace) = some true
  em_NoPlace_NoPlace : PySem.W.exmOne K (.ref a_NoPlace) (.ref a_NoPlace) = some true
  km_NoPlace_NoText : PySem.W.kitOne K (.ref a_NoPlace) (.ref a_NoText) = some false
  em_NoPlace_NoText : PySem.W.exmOne K (.ref a_NoPlace) (.ref a_NoText) = some false
  km_NoPlace_TooGreat : PySem.W.kitOne K (.ref a_NoPlace) (.ref a_TooGreat) = some false
  em_NoPlace_TooGreat : PySem.W.exmOne K (.ref a_NoPlace) (.ref a_TooGreat) = some false
  km_NoText_NoTerm : PySem.W.kitOne K (.ref a_NoText) (.ref a_NoTerm) = some false
  em_NoText_NoTerm : PySem.W.exmOne K (.ref a_NoText) (.ref a_NoTerm) = some false
  km_NoText_NoPlace : PySem.W.kitOne K (.ref a_NoText) (.ref a_NoPlace) = some false
  em_NoText_NoPlace : PySem.W.exmOne K (.ref a_NoText) (.ref a_NoPlace) = some false
  km_NoText_NoText : PySem.W.kitOne K (.ref a_NoText) (.ref a_NoText) = some true
  em_NoText_NoText : PySem.W.exmOne K (.ref a_NoText) (.ref a_NoText) = some true
  km_NoText_TooGreat : PySem.W.kitOne K (.ref a_NoText) (.ref a_TooGreat) = some false
  em_NoText_TooGreat : PySem.W.exmOne K (.ref a_NoText) (.ref a_TooGreat) = some false
  km_TooGreat_NoTerm : PySem.W.kitOne K (.ref a_TooGreat) (.ref a_NoTerm) = some false
  em_TooGreat_NoTerm : PySem.W.exmOne K (.ref a_TooGreat) (.ref a_NoTerm) = some false
  km_TooGreat_NoPlace : PySem.W.kitOne K (.ref a_TooGreat) (.ref a_NoPlace) = some false
  em_TooGreat_NoPlace : PySem.W.exmOne K (.ref a_TooGreat) (.ref a_NoPlace) = some false
  km_TooGreat_NoText : PySem.W.kitOne K (.ref a_TooGreat) (.ref a_NoText) = some false
  em_TooGreat_NoText : PySem.W.exmOne K (.ref a_TooGreat) (.ref a_NoText) = some false
  km_TooGreat_TooGreat : PySem.W.kitOne K (.ref a_TooGreat) (.ref a_TooGreat) = some true
  em_TooGreat_TooGreat : PySem.W.exmOne K (.ref a_TooGreat) (.ref a_TooGreat) = some true
  km_NoTerm_SeekError : PySem.W.kitOne K (.ref a_NoTerm) (.ref a_SeekError) = some true
  em_NoTerm_SeekError : PySem.W.exmOne K (.ref a_NoTerm) (.ref a_SeekError) = some true
  km_NoPlace_SeekError : PySem.W.kitOne K (.ref a_NoPlace) (.ref a_SeekError) = some true
  em_NoPlace_SeekError : PySem.W.exmOne K (.ref a_NoPlace) (.ref a_SeekError) = some true
  km_NoText_SeekError : PySem.W.kitOne K (.ref a_NoText) (.ref a_SeekError) = some true
  em_NoText_SeekError : PySem.W.exmOne K (.ref a_NoText) (.ref a_SeekError) = some true
  km_TooGreat_SeekError : PySem.W.kitOne K (.ref a_TooGreat) (.ref a_SeekError) = some true
  em_TooGreat_SeekError : PySem.W.exmOne K (.ref a_TooGreat) (.ref a_SeekError) = some true
  m_ValueError : mg "ValueError" = none
  m_all : mg "all" = none
  m_len : mg "len" = none
  m_repr : mg "repr" = none
  m_range : mg "range" = none
  m_isinstance : mg "isinstance" = none
  m_int : mg "int" = none
  m_tuple : mg "tuple" = none
  m_max : mg "max" = none
  m_list : mg "list" = none
  m_bool : mg "bool" = none
  m_str : mg "str" = none
  t_LETTERS : Tok
  g_LETTERS : mg "LETTERS" = some (Value.str "abcdefghijklmnopqrstuvwxyz" t_LETTERS)
  t_LONGEST : Tok
  g_LONGEST : mg "LONGEST" = some (Value.int 8 t_LONGEST)
  a_OWN_WORDS : Addr
  g_OWN_WORDS : mg "OWN_WORDS" = some (.ref a_OWN_WORDS)
  q_OWN_WORDS : ∀ H : Hp, SqT K H a_OWN_WORDS [V.str "rel", V.str "same", V.str "unlike", V.str "one", V.str "both", V.str "fresh", V.str "call", V.str "not"]
  t_MOST_PARTS : Tok
  g_MOST_PARTS : mg "MOST_PARTS" = some (Value.int 100 t_MOST_PARTS)
  t_MOST_UNKNOWN : Tok
  g_MOST_UNKNOWN : mg "MOST_UNKNOWN" = some (Value.int 999999999 t_MOST_UNKNOWN)
  t_GREATEST : Tok
  g_GREATEST : mg "GREATEST" = some (Value.int 999999999999999999999999999999 t_GREATEST)
theorem sc_is_whole : FnScope ["thing"] ["thing"] (defScope s_is_whole) := ⟨rfl, rfl, rfl, by decide +kernel, rfl, by decide +kernel, by decide +kernel⟩
theorem sc_is_within : FnScope ["thing", "low", "high"] ["thing", "low", "high"] (defScope s_is_within) := ⟨rfl, rfl, rfl, by decide +kernel, rfl, by decide +kernel, by decide +kernel⟩
theorem sc_is_name : FnScope ["thing", "sign"] ["thing"] (defScope s_is_name) := ⟨rfl, rfl, rfl, by decide +kernel, rfl, by decide +kernel, by decide +kernel⟩
theorem sc_is_unknown : FnScope ["thing"] ["thing"] (defScope s_is_unknown) := ⟨rfl, rfl, rfl, by decide +kernel, rfl, by decide +kernel, by decide +kernel⟩
theorem sc_is_pair : FnScope ["term"] ["term"] (defScope s_is_pair) := ⟨rfl, rfl, rfl, by decide +kernel, rfl, by decide +kernel, by decide +kernel⟩
theorem sc_is_single : FnScope ["thing"] ["thing"] (defScope s_is_single) := ⟨rfl, rfl, rfl, by decide +kernel, rfl, by decide +kernel, by decide +kernel⟩
theorem sc_is_term : FnScope ["thing", "left", "seen", "part"] ["thing"] (defScope s_is_term) := ⟨rfl, rfl, rfl, by decide +kernel, rfl, by decide +kernel, by decide +kernel⟩
theorem sc_need_term : FnScope ["thing"] ["thing"] (defScope s_need_term) := ⟨rfl, rfl, rfl, by decide +kernel, rfl, by decide +kernel, by decide +kernel⟩
theorem sc_parts_within : FnScope ["term", "left", "found", "part"] ["term"] (defScope s_parts_within) := ⟨rfl, rfl, rfl, by decide +kernel, rfl, by decide +kernel, by decide +kernel⟩
theorem sc_parts_of : FnScope ["term"] ["term"] (defScope s_parts_of) := ⟨rfl, rfl, rfl, by decide +kernel, rfl, by decide +kernel, by decide +kernel⟩
theorem sc_at_place : FnScope ["term", "place", "part", "step"] ["term", "place"] (defScope s_at_place) := ⟨rfl, rfl, rfl, by decide +kernel, rfl, by decide +kernel, by decide +kernel⟩
theorem sc_put_within : FnScope ["term", "place", "part"] ["term", "place", "part"] (defScope s_put_within) := ⟨rfl, rfl, rfl, by decide +kernel, rfl, by decide +kernel, by decide +kernel⟩
theorem sc_put_at : FnScope ["term", "place", "part", "old", "many"] ["term", "place", "part"] (defScope s_put_at) := ⟨rfl, rfl, rfl, by decide +kernel, rfl, by decide +kernel, by decide +kernel⟩
theorem sc_l_cell : FnScope ["_law_script", "_law_k"] ["_law_script", "_law_k"] (defScope s_l_cell) := ⟨rfl, rfl, rfl, by decide +kernel, rfl, by decide +kernel, by decide +kernel⟩
theorem sc_l_purse : FnScope ["_law_cell_here"] ["_law_cell_here"] (defScope s_l_purse) := ⟨rfl, rfl, rfl, by decide +kernel, rfl, by decide +kernel, by decide +kernel⟩
theorem sc_l_take : FnScope ["_law_purse_here", "_law_many", "_law_digit", "_law_number"] ["_law_purse_here", "_law_many"] (defScope s_l_take) := ⟨rfl, rfl, rfl, by decide +kernel, rfl, by decide +kernel, by decide +kernel⟩
theorem sc_l_single : FnScope ["_law_purse_here", "_law_way", "_law_names"] ["_law_purse_here"] (defScope s_l_single) := ⟨rfl, rfl, rfl, by decide +kernel, rfl, by decide +kernel, by decide +kernel⟩
theorem sc_l_term : FnScope ["_law_purse_here", "_law_room_here", "_law_first"] ["_law_purse_here", "_law_room_here"] (defScope s_l_term) := ⟨rfl, rfl, rfl, by decide +kernel, rfl, by decide +kernel, by decide +kernel⟩
theorem sc_l_room : FnScope ["_law_purse_here"] ["_law_purse_here"] (defScope s_l_room) := ⟨rfl, rfl, rfl, by decide +kernel, rfl, by decide +kernel, by decide +kernel⟩
theorem sc_l_parts : FnScope ["_law_term_here"] ["_law_term_here"] (defScope s_l_parts) := ⟨rfl, rfl, rfl, by decide +kernel, rfl, by decide +kernel, by decide +kernel⟩
theorem sc_l_places : FnScope ["_law_term_here", "_law_place", "_law_found"] ["_law_term_here", "_law_place"] (defScope s_l_places) := ⟨rfl, rfl, rfl, by decide +kernel, rfl, by decide +kernel, by decide +kernel⟩
theorem sc_l_put : FnScope ["_law_term_here", "_law_place", "_law_part"] ["_law_term_here", "_law_place", "_law_part"] (defScope s_l_put) := ⟨rfl, rfl, rfl, by decide +kernel, rfl, by decide +kernel, by decide +kernel⟩
theorem sc_l_said : FnScope ["_law_term_here", "_law_place", "_law_part", "_law_found", "e"] ["_law_term_here", "_law_place", "_law_part"] (defScope s_l_said) := ⟨rfl, rfl, rfl, by decide +kernel, rfl, by decide +kernel, by decide +kernel⟩
theorem sc_l_seen : FnScope ["_law_term_here", "_law_place", "_law_found", "e"] ["_law_term_here", "_law_place"] (defScope s_l_seen) := ⟨rfl, rfl, rfl, by decide +kernel, rfl, by decide +kernel, by decide +kernel⟩
theorem sc_l_bad_place : FnScope ["_law_purse_here", "_law_term_here", "_law_some", "_law_place", "_law_bad", "_law_part"] ["_law_purse_here", "_law_term_here"] (defScope s_l_bad_place) := ⟨rfl, rfl, rfl, by decide +kernel, rfl, by decide +kernel, by decide +kernel⟩
theorem sc_l_no_term : FnScope ["_law_purse_here", "_law_some"] ["_law_purse_here"] (defScope s_l_no_term) := ⟨rfl, rfl, rfl, by decide +kernel, rfl, by decide +kernel, by decide +kernel⟩
theorem sc_l_right : FnScope ["_law_purse_here", "_law_term_here", "_law_part", "_law_some", "_law_place", "_law_there", "_law_many", "_law_due"] ["_law_purse_here", "_law_term_here", "_law_part"] (defScope s_l_right) := ⟨rfl, rfl, rfl, by decide +kernel, rfl, by decide +kernel, by decide +kernel⟩
theorem sc_l_refused : FnScope ["_law_purse_here", "_law_term_here", "_law_part", "_law_place", "_law_bad", "_law_worse", "_law_some"] ["_law_purse_here", "_law_term_here", "_law_part"] (defScope s_l_refused) := ⟨rfl, rfl, rfl, by decide +kernel, rfl, by decide +kernel, by decide +kernel⟩
theorem sc_law : FnScope ["_law_script", "_law_cell_here", "_law_purse_here", "_law_term_here", "_law_part", "_law_kept", "_law_turn", "_law_full", "_law_k"] ["_law_script"] (defScope s_law) := ⟨rfl, rfl, rfl, by decide +kernel, rfl, by decide +kernel, by decide +kernel⟩
theorem sc_NoTerm_init : FnScope ["self", "found"] ["self", "found"] (defScope s_NoTerm_init) := ⟨rfl, rfl, rfl, by decide +kernel, rfl, by decide +kernel, by decide +kernel⟩
theorem sc_NoPlace_init : FnScope ["self", "found"] ["self", "found"] (defScope s_NoPlace_init) := ⟨rfl, rfl, rfl, by decide +kernel, rfl, by decide +kernel, by decide +kernel⟩
theorem sc_NoText_init : FnScope ["self", "at"] ["self", "at"] (defScope s_NoText_init) := ⟨rfl, rfl, rfl, by decide +kernel, rfl, by decide +kernel, by decide +kernel⟩
theorem sc_TooGreat_init : FnScope ["self", "parts"] ["self", "parts"] (defScope s_TooGreat_init) := ⟨rfl, rfl, rfl, by decide +kernel, rfl, by decide +kernel, by decide +kernel⟩
/-! ### the exceptions' own __init__ -/
def sp_init1 (C : Addr) (f : Str) : Sp := fun vs H Q _ => ∃ (a : Addr) (v : V), vs = [.ref a, v] ∧ H a = some (exo a C none) ∧ ∀ d, H d = none → d ≠ a → Q .non (upd (upd H d (exd d [(f, v)])) a (exo a C (some d)))
/-- what is left of a made exception is its dict -/
theorem exc_heap {H : Hp} {a d : Addr} {o1 o2 o3 o4 : HO} (ha : H a = none) (hd : d ≠ a) : upd (del (upd (upd (upd H a o1) d o2) a o3) a) d o4 = upd H d o4 := by
  funext b
  by_cases h1 : b = d
  · subst h1
    rw [upd_same, upd_same]
  · rw [upd_ne h1, upd_ne h1]
    by_cases h2 : b = a
    · subst h2
      rw [del_same, ha]
    · rw [del_ne h2, upd_ne h2, upd_ne h1, upd_ne h2]
theorem un2 {k : Nat} {A : Around} (h : Room k A) : A.units + 200 < cLine := Nat.lt_of_le_of_lt (by omega) h.un
section
variable {P : Program} {w : World} {K : PySem.W.Frag} {mg : Str → Option Value} {base : Heap}
theorem ok_NoTerm (T : Env K mg) : FnOk P w K mg base CX0 1 T.i_NoTerm T.di_NoTerm ["self", "found"] (sp_init1 T.a_NoTerm "found") := by
  refine T.Fi_NoTerm.ok sc_NoTerm_init (fun vs H Q E h => ?_) (fun cdv A outer s H vs Q E hr h => ?_)
  · obtain ⟨a, v, rfl, _⟩ := h
    rfl
  · obtain ⟨a, v, rfl, ha, q⟩ := h
    refine ⟨_, pss_cons (ps_expr (pe_seinit (by rfl) T.g_SeekError T.sga T.srd T.svi (pa_cons (pv 0) (pa_cons pe_str pa_nil)))) (pss_one (ps_ost (pv 0) (pv 1))), ?_⟩
    exact ⟨_, rfl, a, T.a_NoTerm, [_], rfl, (by show 1 ≤ 1000; decide), T.x_NoTerm, ha, _, rfl, _, rfl, a, T.a_NoTerm, rfl, T.x_NoTerm, T.n_NoTerm_found, .inl ⟨ha, fun dx hd hne => q dx hd hne⟩⟩
theorem ok_NoPlace (T : Env K mg) : FnOk P w K mg base CX0 1 T.i_NoPlace T.di_NoPlace ["self", "found"] (sp_init1 T.a_NoPlace "found") := by
  refine T.Fi_NoPlace.ok sc_NoPlace_init (fun vs H Q E h => ?_) (fun cdv A outer s H vs Q E hr h => ?_)
  · obtain ⟨a, v, rfl, _⟩ := h
    rfl
  · obtain ⟨a, v, rfl, ha, q⟩ := h
    refine ⟨_, pss_cons (ps_expr (pe_seinit (by rfl) T.g_SeekError T.sga T.srd T.svi (pa_cons (pv 0) (pa_cons pe_str pa_nil)))) (pss_one (ps_ost (pv 0) (pv 1))), ?_⟩
    exact ⟨_, rfl, a, T.a_NoPlace, [_], rfl, (by show 1 ≤ 1000; decide), T.x_NoPlace, ha, _, rfl, _, rfl, a, T.a_NoPlace, rfl, T.x_NoPlace, T.n_NoPlace_found, .inl ⟨ha, fun dx hd hne => q dx hd hne⟩⟩
theorem ok_NoText (T : Env K mg) : FnOk P w K mg base CX0 1 T.i_NoText T.di_NoText ["self", "at"] (sp_init1 T.a_NoText "at") := by
  refine T.Fi_NoText.ok sc_NoText_init (fun vs H Q E h => ?_) (fun cdv A outer s H vs Q E hr h => ?_)
  · obtain ⟨a, v, rfl, _⟩ := h
    rfl
  · obtain ⟨a, v, rfl, ha, q⟩ := h
    refine ⟨_, pss_cons (ps_expr (pe_seinit (by rfl) T.g_SeekError T.sga T.srd T.svi (pa_cons (pv 0) (pa_cons pe_str pa_nil)))) (pss_one (ps_ost (pv 0) (pv 1))), ?_⟩
    exact ⟨_, rfl, a, T.a_NoText, [_], rfl, (by show 1 ≤ 1000; decide), T.x_NoText, ha, _, rfl, _, rfl, a, T.a_NoText, rfl, T.x_NoText, T.n_NoText_at, .inl ⟨ha, fun dx hd hne => q dx hd hne⟩⟩
theorem ok_TooGreat (T : Env K mg) : FnOk P w K mg base CX0 1 T.i_TooGreat T.di_TooGreat ["self", "parts"] (sp_init1 T.a_TooGreat "parts") := by
  refine T.Fi_TooGreat.ok sc_TooGreat_init (fun vs H Q E h => ?_) (fun cdv A outer s H vs Q E hr h => ?_)
  · obtain ⟨a, v, rfl, _⟩ := h
    rfl
  · obtain ⟨a, v, rfl, ha, q⟩ := h
    refine ⟨_, pss_cons (ps_expr (pe_seinit (by rfl) T.g_SeekError T.sga T.srd T.svi (pa_cons (pv 0) (pa_cons pe_str pa_nil)))) (pss_one (ps_ost (pv 0) (pv 1))), ?_⟩
    exact ⟨_, rfl, a, T.a_TooGreat, [_], rfl, (by show 1 ≤ 1000; decide), T.x_TooGreat, ha, _, rfl, _, rfl, a, T.a_TooGreat, rfl, T.x_TooGreat, T.n_TooGreat_parts, .inl ⟨ha, fun dx hd hne => q dx hd hne⟩⟩
end
/-- raise C(v): the reading, from the argument on -/
theorem raise1 {C : Addr} {f : Str} {v : V} {H : Hp} {Q : XK} (q : ∀ d, H d = none → Q (.ref C) (some d) (upd H d (.xd [(f, v)]))) :
    ([v] : List V).length ≤ 1000 ∧ ∀ a, H a = none → sp_init1 C f (.ref a :: ([v] ++ [])) (upd H a (exo a C none))
      (fun u H2 => u = .non ∧ ∃ (d : Addr) (fs : List (Str × V)), H2 a = some (exo a C (some d)) ∧ H2 d = some (exd d fs) ∧ H d = none ∧ Q (.ref C) (some d) (upd (del H2 a) d (.xd fs))) (fun _ _ _ => False) := by
  refine ⟨by show 1 ≤ 1000; decide, fun a ha => ⟨a, v, rfl, upd_same, fun d hd hne => ⟨rfl, d, [(f, v)], upd_same, ?_, ?_, ?_⟩⟩⟩
  · rw [upd_ne hne, upd_same]
  · rw [upd_ne hne] at hd
    exact hd
  · rw [exc_heap ha hne]
    rw [upd_ne hne] at hd
    exact q d hd

/-! ### is_whole, is_within, is_name -/
section
variable {P : Program} {w : World} {K : PySem.W.Frag} {mg : Str → Option Value} {base : Heap}
def sp_is_whole (K : PySem.W.Frag) : Sp := fun vs H Q _ => ∃ x k, vs = [x] ∧ Knd K H x k ∧ Q (.bl k.isWhole) H
theorem ok_is_whole (T : Env K mg) : FnOk P w K mg base CX0 1 T.a_is_whole T.d_is_whole ["thing"] (sp_is_whole K) := by
  refine T.F_is_whole.ok sc_is_whole (fun vs H Q E h => ?_) (fun cdv A outer s H vs Q E hr h => ?_)
  · obtain ⟨x, k, rfl, _⟩ := h
    rfl
  · obtain ⟨x, k, rfl, hk, q⟩ := h
    refine ⟨_, (pss_one (ps_ret (pe_and (pe_callB call_isi (by rfl) T.m_isinstance PyProof.Rows.boot_isinstance (pa_cons (pv 0) (pa_cons (pe_bltn (v := .ty "int") (by rfl) T.m_int PyProof.Rows.boot_int rfl) pa_nil))) (pe_one (pe_not (pe_callB call_isi (by rfl) T.m_isinstance PyProof.Rows.boot_isinstance (pa_cons (pv 0) (pa_cons (pe_bltn (v := .ty "bool") (by rfl) T.m_bool PyProof.Rows.boot_bool rfl) pa_nil)))))))), ?_⟩
    refine ⟨x, rfl, x, .ty "int", .type k.name, .type "int", k.isInt, rfl, .ty _, hk, kit_int k, k.isInt, rfl, ?_⟩
    cases k <;> first
      | exact iteF q
      | exact iteT ⟨x, rfl, x, .ty "bool", _, .type "bool", _, rfl, .ty _, hk, kit_bl _, _, rfl, q⟩
def withinV : V → Int → Int → Bool
  | .int i, lo, hi => decide (lo ≤ i) && decide (i ≤ hi)
  | _, _, _ => false
def sp_is_within (K : PySem.W.Frag) : Sp := fun vs H Q _ => ∃ x k lo hi, vs = [x, .int lo, .int hi] ∧ Knd K H x k ∧ Q (.bl (withinV x lo hi)) H
theorem tyx_int {H : Hp} {x : V} {t : Value} (h : TyX K H x t) : t = .type "int" → ∃ i, x = .int i := by
  cases h with
  | base b => cases b <;> intro e <;> first | exact ⟨_, rfl⟩ | (exact absurd (Value.type.inj e) (by decide)) | cases e
  | _ => intro e; exact absurd (Value.type.inj e) (by decide)
theorem knd_int {H : Hp} {x : V} (h : Knd K H x .int) : ∃ i, x = .int i := tyx_int h rfl
theorem tyx_of_int {H : Hp} {x : V} {t : Value} (h : TyX K H x t) : ∀ i, x = .int i → t = .type "int" := by
  cases h with
  | base b => cases b <;> intro i e <;> first | rfl | cases e
  | _ => intro i e; cases e
theorem int_knd {H : Hp} {i : Int} {k : Kn} (h : Knd K H (.int i) k) : k = .int := by
  have e := Value.type.inj (tyx_of_int h i rfl)
  cases k <;> first | rfl | exact absurd e (by decide)
theorem ok_is_within (T : Env K mg) : FnOk P w K mg base CX0 2 T.a_is_within T.d_is_within ["thing", "low", "high"] (sp_is_within K) := by
  have G_is_whole : FnOk P w K mg base CX0 1 T.a_is_whole T.d_is_whole ["thing"] (sp_is_whole K) := ok_is_whole T
  refine T.F_is_within.ok sc_is_within (fun vs H Q E h => ?_) (fun cdv A outer s H vs Q E hr h => ?_)
  · obtain ⟨x, k, lo, hi, rfl, _⟩ := h
    rfl
  · obtain ⟨x, k, lo, hi, rfl, hk, q⟩ := h
    have hr_is_whole := hr
    refine ⟨_, (pss_one (ps_ret (pe_and (pe_call G_is_whole hr_is_whole (by rfl) T.g_is_whole T.F_is_whole.kp T.b_is_whole .nil pass0 (pa_cons (pv 0) pa_nil)) (pe_one (pe_chain op_le op_le (pv 1) (pv 0) (pv 2)))))), ?_⟩
    refine ⟨x, rfl, x, k, rfl, hk, k.isWhole, rfl, ?_⟩
    by_cases c : k = .int
    · subst c
      obtain ⟨i, rfl⟩ := knd_int hk
      refine iteT ⟨_, rfl, _, rfl, _, _, rfl, rfl, _, rfl, ?_⟩
      have q : Q (.bl (decide (lo ≤ i) && decide (i ≤ hi))) H := q
      by_cases c : lo ≤ i
      · rw [decide_eq_true c]
        refine iteT ⟨_, rfl, _, _, rfl, rfl, ?_⟩
        rw [decide_eq_true c] at q
        exact q
      · rw [decide_eq_false c]
        refine iteF ?_
        rw [decide_eq_false c] at q
        exact q
    · have e : k.isWhole = false := by cases k <;> first | rfl | exact absurd rfl c
      rw [e]
      refine iteF ?_
      have e2 : withinV x lo hi = false := by
        cases x with
        | int i => exact absurd (int_knd hk) c
        | _ => rfl
      rw [e2] at q
      exact q
/-- the own words -/
def ownW : List V := [V.str "rel", V.str "same", V.str "unlike", V.str "one", V.str "both", V.str "fresh", V.str "call", V.str "not"]
def letterL : List Nat := ("abcdefghijklmnopqrstuvwxyz" : Str).cps.toList
/-- what is_name tells of a text -/
def isName (x : Str) : Bool := decide (1 ≤ (x.length : Int)) && (decide ((x.length : Int) ≤ 8) && (!inV (.str x) ownW && x.cps.toList.all fun c => decide (c ∈ letterL)))
def nameV : V → Bool
  | .str x => isName x
  | _ => false
theorem tyx_str {H : Hp} {x : V} {t : Value} (h : TyX K H x t) : t = .type "str" → ∃ i, x = .str i := by
  cases h with
  | base b => cases b <;> intro e <;> first | exact ⟨_, rfl⟩ | (exact absurd (Value.type.inj e) (by decide)) | cases e
  | _ => intro e; exact absurd (Value.type.inj e) (by decide)
theorem tyx_of_str {H : Hp} {x : V} {t : Value} (h : TyX K H x t) : ∀ i, x = .str i → t = .type "str" := by
  cases h with
  | base b => cases b <;> intro i e <;> first | rfl | cases e
  | _ => intro i e; cases e
theorem knd_str {H : Hp} {x : V} (h : Knd K H x .str) : ∃ i, x = .str i := tyx_str h rfl
theorem str_knd {H : Hp} {i : Str} {k : Kn} (h : Knd K H (.str i) k) : k = .str := by
  have e := Value.type.inj (tyx_of_str h i rfl)
  cases k <;> first | rfl | exact absurd e (by decide)
/-- a list made sign by sign -/
theorem lc_signs {z : Str} {te : TE} {i : Nat} {σ : L2.St} {H : Hp} {D : Addr} {f : Nat → V} {Qd : Hp → Prop} (hD : H D = none) (hz : z.length ≤ sizeLine)
    (he : ∀ c H', Same H H' → ∀ Q : VK, Q (f c) H' → te ((wipe σ [i]).set i (some (.str ⟨#[c]⟩))) H' Q) (hw : ∀ v, wipe ((wipe σ [i]).set i (some v)) [i] = wipe σ [i])
    (hd : ∀ H', Same H H' → H' D = some (.lst (z.cps.toList.map f)) → Qd H') :
    ∃ W : Nat → Nat → Hp → Prop, (∃ m, W 0 m (upd H D (.lst []))) ∧ ∀ j m H, W j m H →
      ((Its z).stop j H ∧ Qd H) ∨ ((Its z).go j H ∧ ∃ Nx : Hp → Prop, (∀ H', Nx H' → ∃ m', m' < m ∧ W (j + 1) m' H') ∧ ∀ x H', (Its z).yld j H x H' → gName i x (wipe σ [i]) H' fun σ2 H2 => wipe σ2 [i] = wipe σ [i] ∧ tYes σ2 H2 fun b H3 =>
        if b = true then te σ2 H3 fun y H4 => ∃ acc, H4 D = some (.lst acc) ∧ acc.length < sizeLine ∧ Nx (upd H4 D (.lst (acc ++ [y]))) else Nx H3) := by
  refine lc_it walk_str (fun j H' => Same H H' ∧ H' D = some (.lst ((z.cps.toList.take j).map f))) ⟨same_upd hD, upd_same⟩ (fun _ _ _ _ => trivial) ?_ ?_
  · rintro j x H1 H2 hj ⟨sm, hL⟩ ⟨rfl, c, hc, rfl⟩
    refine ⟨hw _, ?_⟩
    refine he c H2 sm _ ⟨_, hL, ?_, same_mut sm hD, ?_⟩
    · rw [List.length_map, List.length_take]
      have e : z.cps.toList.length = z.length := by simp [Str.length]
      have e2 : z.cps.size = z.length := rfl
      omega
    · have g : z.cps.toList[j]? = some c := by
        rw [Array.getElem?_toList]
        exact hc
      rw [upd_same, List.take_add_one, g, List.map_append]
      rfl
  · rintro H' ⟨sm, hL⟩
    refine hd H' sm ?_
    have e : z.cps.toList.take z.cps.size = z.cps.toList := List.take_of_length_le (by simp)
    rw [e] at hL
    exact hL
def sp_is_name (K : PySem.W.Frag) : Sp := fun vs H Q _ => ∃ x k, vs = [x] ∧ Knd K H x k ∧ (∀ z, x = .str z → z.length ≤ sizeLine) ∧ ∀ H', Same H H' → Q (.bl (nameV x)) H'
theorem ok_is_name (T : Env K mg) : FnOk P w K mg base CX0 1 T.a_is_name T.d_is_name ["thing"] (sp_is_name K) := by
  refine T.F_is_name.ok sc_is_name (fun vs H Q E h => ?_) (fun cdv A outer s H vs Q E hr h => ?_)
  · obtain ⟨x, k, rfl, _⟩ := h
    rfl
  · obtain ⟨x, k, rfl, hk, hz, q⟩ := h
    refine ⟨_, (pss_cons (ps_if (PW.pt (pw_or (pt_not (pt_val (pe_callB call_isi (by rfl) T.m_isinstance PyProof.Rows.boot_isinstance (pa_cons (pv 0) (pa_cons (pe_bltn (v := .ty "str") (by rfl) T.m_str PyProof.Rows.boot_str rfl) pa_nil))))) (pw_or (pt_not (pt_chain op_le op_le pe_int (pe_callB call_len_str (by rfl) T.m_len PySem.boot_len (pa_cons (pv 0) pa_nil)) (pe_glob (v := V.int 8) (by rfl) T.g_LONGEST ⟨_, rfl⟩))) (pw_or1 (pt_cmpR op_in_seq (pv 0) (pe_glob (v := .ref T.a_OWN_WORDS) (by rfl) T.g_OWN_WORDS rfl) (by rfl)))))) (pss_one (ps_ret pe_bl)) pss_nil)
      (pss_one (ps_ret (pe_callB (cr_all (by rfl)) (by rfl) T.m_all PyProof.Rows.boot_all (pa_cons (pe_lc (own := [("sign", 1)]) (g := gName 1) (tt := tYes) (by rfl) sc_is_name.nd (pi_str (pv 0)) (blkOk_by (own := [("sign", 1)]) (N := ["thing", "sign"]) (sc := defScope s_is_name) (by decide +kernel)) (fun _ _ _ _ _ => (pg_name (i := 1) sc_is_name.nd rfl (Or.inl rfl))) (fun _ _ _ _ _ => pts_nil) (fun _ _ _ _ _ => (pe_cmpR op_in_sign (pv 1) (pe_glob (v := V.str "abcdefghijklmnopqrstuvwxyz") (by rfl) T.g_LETTERS ⟨_, rfl⟩) (by rfl)))) pa_nil))))), ?_⟩
    refine ⟨x, rfl, x, .ty "str", .type k.name, .type "str", k.isStr, rfl, .ty _, hk, kit_str k, _, rfl, ?_⟩
    by_cases ck : k = .str
    · subst ck
      obtain ⟨z, rfl⟩ := knd_str hk
      have hz := hz z rfl
      have qn : ∀ H', Same H H' → Q (.bl (decide (1 ≤ (z.length : Int)) && (decide ((z.length : Int) ≤ 8) && (!inV (.str z) ownW && z.cps.toList.all fun c => decide (c ∈ letterL))))) H' := q
      refine iteF ⟨_, rfl, z, rfl, hz, _, _, rfl, rfl, _, rfl, ?_⟩
      by_cases c1 : (1 : Int) ≤ (z.length : Int)
      · rw [decide_eq_true c1] at qn ⊢
        refine iteT ⟨_, _, rfl, rfl, _, rfl, ?_⟩
        by_cases c2 : (z.length : Int) ≤ 8
        · rw [decide_eq_true c2] at qn ⊢
          refine iteF ⟨_, rfl, T.a_OWN_WORDS, ownW, rfl, .inr (T.q_OWN_WORDS H), rfl, rfl, _, rfl, ?_⟩
          cases c3 : inV (.str z) ownW with
          | true =>
            rw [c3] at qn
            exact qn H (Same.refl H)
          | false =>
            rw [c3] at qn
            refine iteF ?_
            refine ⟨_, rfl, z, rfl, fun D hD => ?_⟩
            refine lc_signs (f := fun c => .bl (decide (c ∈ letterL))) hD hz (fun c H' sm Q' q' => ⟨_, rfl, c, _, rfl, rfl, q'⟩) (fun v => rfl) fun H' sm hL => ?_
            refine ⟨D, z.cps.toList.map fun c => decide (c ∈ letterL), rfl, SqL.of ?_, ?_⟩
            · rw [hL, List.map_map]
              rfl
            · have e : ((z.cps.toList.map fun c => decide (c ∈ letterL)).all id) = z.cps.toList.all fun c => decide (c ∈ letterL) := by
                rw [List.all_map]
                rfl
              rw [e]
              exact qn H' sm
        · rw [decide_eq_false c2] at qn ⊢
          exact qn H (Same.refl H)
      · rw [decide_eq_false c1] at qn ⊢
        refine iteF ⟨_, rfl, ?_⟩
        exact qn H (Same.refl H)
    · have e : k.isStr = false := by cases k <;> first | rfl | exact absurd rfl ck
      rw [e]
      have e2 : nameV x = false := by
        cases x with
        | str i => exact absurd (str_knd hk) ck
        | _ => rfl
      rw [e2] at q
      exact q H (Same.refl H)
end

/-! ### the law's cell, purse and draws -/
section
variable {P : Program} {w : World} {K : PySem.W.Frag} {mg : Str → Option Value} {base : Heap}
def sp_l_cell (K : PySem.W.Frag) : Sp := fun vs H Q _ => ∃ (a : Addr) (ns : List Int) (k : Int), vs = [.ref a, .int k] ∧ SqL K H a (ns.map V.int) ∧ 0 ≤ k ∧ ∀ c, Q (.int c) H
theorem ok_l_cell (T : Env K mg) : FnOk P w K mg base CX0 1 T.a_l_cell T.d_l_cell ["_law_script", "_law_k"] (sp_l_cell K) := by
  refine T.F_l_cell.ok sc_l_cell (fun vs H Q E h => ?_) (fun cdv A outer s H vs Q E hr h => ?_)
  · obtain ⟨a, ns, k, rfl, _⟩ := h
    rfl
  · obtain ⟨a, ns, k, rfl, hS, h0, q⟩ := h
    refine ⟨_, (pss_cons (ps_if (pt_cmpR op_lt (pv 1) (pe_callB call_len_seq (by rfl) T.m_len PySem.boot_len (pa_cons (pv 0) pa_nil)) (nomark _)) (pss_one (ps_ret (pe_ix ix_list (pv 0) (pv 1) (fun _ _ => rfl)))) pss_nil)
      (pss_one (ps_ret (pe_op op_add (pe_op op_mul pe_int (pv 1)) pe_int)))), ?_⟩
    refine ⟨_, rfl, _, rfl, a, _, rfl, .inl hS, _, _, rfl, rfl, _, rfl, ite2 (fun c => ?_) (fun c => ?_)⟩
    · have c' : k < (((ns.map V.int).length : Nat) : Int) := of_decide_eq_true c
      obtain ⟨x, hx, hm⟩ := atI_in h0 c'
      obtain ⟨n, _, rfl⟩ := List.mem_map.mp hm
      exact ⟨_, rfl, _, rfl, a, _, k, _, rfl, rfl, hS, hx, q n⟩
    · exact ⟨_, rfl, _, _, rfl, rfl, .inl ⟨by decide, by decide⟩, _, _, rfl, rfl, q _⟩
/-- a purse stands at p -/
def Pu (H : Hp) (p : Addr) : Prop := ∃ x y z : Int, H p = some (.lst [.int x, .int y, .int z])
def sp_l_purse (K : PySem.W.Frag) : Sp := fun vs H Q _ => ∃ (c : Int), vs = [.int c] ∧ ∀ p H', H p = none → Same H H' → Pu H' p → Q (.ref p) H'
theorem ok_l_purse (T : Env K mg) : FnOk P w K mg base CX0 1 T.a_l_purse T.d_l_purse ["_law_cell_here"] (sp_l_purse K) := by
  refine T.F_l_purse.ok sc_l_purse (fun vs H Q E h => ?_) (fun cdv A outer s H vs Q E hr h => ?_)
  · obtain ⟨c, rfl, _⟩ := h
    rfl
  · obtain ⟨c, rfl, q⟩ := h
    refine ⟨_, (pss_one (ps_ret (pe_lst (pa_cons (pe_callB (call_max2 (by rfl)) (by rfl) T.m_max PyProof.Rows.boot_max (pa_cons pe_int (pa_cons (pe_op op_sub (pv 0) (pe_op op_pow pe_int pe_int)) pa_nil))) (pa_cons (pe_op op_mod (pv 0) pe_int) (pa_cons pe_int pa_nil)))))), ?_⟩
    refine ⟨_, rfl, _, _, rfl, rfl, ⟨by decide, by decide, by decide⟩, _, _, rfl, rfl, _, _, rfl, _, rfl, _, _, rfl, rfl, (by show (0 : Int) < 2147483629; decide), (by show 3 ≤ sizeLine; decide), fun p hp => ?_⟩
    exact q p _ hp (same_upd hp) ⟨_, _, _, upd_same⟩
def sp_l_take (K : PySem.W.Frag) : Sp := fun vs H Q _ => ∃ (p : Addr) (n : Int), vs = [.ref p, .int n] ∧ Pu H p ∧ 0 < n ∧ n.natAbs < 2 ^ 9000 ∧ ∀ r H', 0 ≤ r → r < n → Off p H H' → Pu H' p → Q (.int r) H'
theorem ok_l_take (T : Env K mg) : FnOk P w K mg base CX0 1 T.a_l_take T.d_l_take ["_law_purse_here", "_law_many"] (sp_l_take K) := by
  refine T.F_l_take.ok sc_l_take (fun vs H Q E h => ?_) (fun cdv A outer s H vs Q E hr h => ?_)
  · obtain ⟨p, n, rfl, _⟩ := h
    rfl
  · obtain ⟨p, n, rfl, ⟨x, y, z, hp⟩, hn, hn2, q⟩ := h
    refine ⟨_, (pss_cons (ps_asg (pe_op op_add (pe_ix ix_list (pv 0) pe_int (fun _ _ => rfl)) pe_int) (pg_sub (pv 0) pe_int set_list))
      (pss_cons (ps_if (pt_cmpR op_gt (pe_ix ix_list (pv 0) pe_int (fun _ _ => rfl)) pe_int (nomark _)) (pss_cons (ps_set (i := 2) sc_l_take.nd rfl (Or.inl rfl) (pe_op op_mod (pe_ix ix_list (pv 0) pe_int (fun _ _ => rfl)) (pv 1)))
      (pss_cons (ps_asg (pe_op op_fdivW (pe_ix ix_list (pv 0) pe_int (fun _ _ => rfl)) (pv 1)) (pg_sub (pv 0) pe_int set_list))
      (pss_one (ps_ret (pv 2))))) pss_nil)
      (pss_cons (ps_set (i := 3) sc_l_take.nd rfl (Or.inl rfl) (pe_op op_mod (pe_op op_add (pe_op op_add (pe_op op_mul (pe_ix ix_list (pv 0) pe_int (fun _ _ => rfl)) pe_int) (pe_op op_mul pe_int (pe_ix ix_list (pv 0) pe_int (fun _ _ => rfl)))) pe_int) pe_int))
      (pss_cons (ps_set (i := 3) sc_l_take.nd rfl (Or.inl rfl) (pe_op op_mod (pe_op op_mul (pv 3) (pv 3)) pe_int))
      (pss_cons (ps_set (i := 3) sc_l_take.nd rfl (Or.inl rfl) (pe_op op_mod (pe_op op_mul (pe_op op_add (pv 3) (pe_op op_mul pe_int (pe_ix ix_list (pv 0) pe_int (fun _ _ => rfl)))) pe_int) pe_int))
      (pss_one (ps_ret (pe_op op_mod (pe_op op_fdivW (pe_op op_mod (pe_op op_mul (pv 3) (pv 3)) pe_int) pe_int) (pv 1))))))))), ?_⟩
    refine ⟨_, rfl, p, _, 2, _, rfl, rfl, SqL.of hp, atI_nat (j := 2) rfl, _, _, rfl, rfl, _, rfl, p, _, 2, 2, rfl, rfl, hp, rfl, ?_⟩
    have h1 : (upd H p (.lst ([V.int x, V.int y, V.int z].set 2 (V.int (z + 1))))) p = some (.lst [V.int x, V.int y, V.int (z + 1)]) := upd_same
    refine ⟨_, rfl, p, _, 0, _, rfl, rfl, SqL.of h1, atI_nat (j := 0) rfl, _, _, rfl, rfl, _, rfl, ite2 (fun c => ?_) (fun c => ?_)⟩
    · refine ⟨_, rfl, p, _, 0, _, rfl, rfl, SqL.of h1, atI_nat (j := 0) rfl, _, rfl, _, _, rfl, rfl, hn, ?_⟩
      refine ⟨_, rfl, p, _, 0, _, rfl, rfl, SqL.of h1, atI_nat (j := 0) rfl, _, rfl, _, _, rfl, rfl, wide_div hn hn2 (by decide) (by decide), _, rfl, p, _, 0, 0, rfl, rfl, h1, rfl, ?_⟩
      refine ⟨_, rfl, ?_⟩
      exact q _ _ (Int.emod_nonneg _ (by omega)) (Int.emod_lt_of_pos _ hn) (Off.put.trans Off.put) ⟨_, _, _, upd_same⟩
    · refine ⟨_, rfl, p, _, 1, _, rfl, rfl, SqL.of h1, atI_nat (j := 1) rfl, _, _, rfl, rfl, .inr ⟨by decide, by decide⟩, _, rfl, p, _, 2, _, rfl, rfl, SqL.of h1, atI_nat (j := 2) rfl, _, _, rfl, rfl, .inl ⟨by decide, by decide⟩, _, _, rfl, rfl, _, _, rfl, rfl, _, _, rfl, rfl, (by show (0 : Int) < 2147483647; decide), ?_⟩
      have b1 : ∀ i : Int, -(2 ^ 64) < i % 2147483647 ∧ i % 2147483647 < 2 ^ 64 := fun i => by omega
      refine ⟨_, rfl, _, rfl, _, _, rfl, rfl, .inl (b1 _), _, _, rfl, rfl, (by show (0 : Int) < 2147483629; decide), ?_⟩
      refine ⟨_, rfl, _, rfl, p, _, 2, _, rfl, rfl, SqL.of h1, atI_nat (j := 2) rfl, _, _, rfl, rfl, .inl ⟨by decide, by decide⟩, _, _, rfl, rfl, _, _, rfl, rfl, .inr ⟨by decide, by decide⟩, _, _, rfl, rfl, (by show (0 : Int) < 2147483587; decide), ?_⟩
      have b2 : ∀ i : Int, -(2 ^ 64) < i % 2147483587 ∧ i % 2147483587 < 2 ^ 64 := fun i => by omega
      refine ⟨_, rfl, _, rfl, _, _, rfl, rfl, .inl (b2 _), _, _, rfl, rfl, (by show (0 : Int) < 2147483579; decide), _, _, rfl, rfl, wide_div (b := 4) (by decide) (by decide) (by decide) (by decide), _, rfl, _, _, rfl, rfl, hn, ?_⟩
      exact q _ _ (Int.emod_nonneg _ (by omega)) (Int.emod_lt_of_pos _ hn) Off.put ⟨_, _, _, upd_same⟩
end
theorem lt9000 {n : Int} (h : n.natAbs < 2 ^ 128) : n.natAbs < 2 ^ 9000 := Nat.lt_of_lt_of_le h (Nat.pow_le_pow_right (by decide) (by decide))
theorem Pu.ne {H : Hp} {p q : Addr} {o : HO} (h : Pu H p) (hq : H q = some o) (d : ∀ x y z : Int, o ≠ .lst [.int x, .int y, .int z]) : q ≠ p := fun e => by
  obtain ⟨x, y, z, hp⟩ := h
  rw [e, hp] at hq
  exact d x y z (Option.some.inj hq).symm
theorem Pu.new {H : Hp} {p q : Addr} {o : HO} (h : Pu H p) (hq : H q = none) : Pu (upd H q o) p := by
  obtain ⟨x, y, z, hp⟩ := h
  exact ⟨x, y, z, by rw [upd_ne (ne_of_none hp hq)]; exact hp⟩
theorem Pu.nne {H : Hp} {p q : Addr} (h : Pu H p) (hq : H q = none) : q ≠ p := fun e => by
  obtain ⟨x, y, z, hp⟩ := h
  rw [e, hp] at hq
  cases hq
theorem Pu.off {H : Hp} {p q : Addr} {o : HO} (h : Pu H p) (hq : q ≠ p) : Pu (upd H q o) p := by
  obtain ⟨x, y, z, hp⟩ := h
  exact ⟨x, y, z, by rw [upd_ne (Ne.symm hq)]; exact hp⟩
theorem Pu.same {H H' : Hp} {p : Addr} (h : Pu H p) (s : Same H H') : Pu H' p := by
  obtain ⟨x, y, z, hp⟩ := h
  exact ⟨x, y, z, s _ _ hp⟩
theorem cutV_mem {xs : List V} {lo hi : Option Int} {x : V} (h : x ∈ cutV xs lo hi) : x ∈ xs := List.mem_of_mem_drop (List.mem_of_mem_take h)


/-! ### things as trees: pairs, and leaves -/
inductive Th where
  | lf (d : PyData)
  | pr (a b : Th)
def Th.toD : Th → PyData
  | .lf d => d
  | .pr a b => .tuple [a.toD, b.toD]
def isPairD : PyData → Bool
  | .tuple [_, _] => true
  | _ => false
def Th.isPr : Th → Bool
  | .lf _ => false
  | .pr _ _ => true
/-- the leaves are no pairs -/
def Th.nf : Th → Prop
  | .lf d => isPairD d = false
  | .pr a b => a.nf ∧ b.nf
def Th.parts : Th → Nat
  | .lf _ => 1
  | .pr a b => 1 + a.parts + b.parts
/-- all parts, in reading order -/
def Th.pre : Th → List Th
  | .lf d => [.lf d]
  | .pr a b => .pr a b :: (a.pre ++ b.pre)
def Th.deep : Th → Nat
  | .lf _ => 1
  | .pr a b => 1 + max a.deep b.deep
theorem Th.parts_pos (t : Th) : 0 < t.parts := by
  cases t with
  | lf d => exact Nat.one_pos
  | pr a b =>
    show 0 < 1 + a.parts + b.parts
    omega
theorem Th.pre_length (t : Th) : t.pre.length = t.parts := by
  induction t with
  | lf d => rfl
  | pr a b iha ihb =>
    show (a.pre ++ b.pre).length + 1 = 1 + a.parts + b.parts
    rw [List.length_append, iha, ihb]
    omega
theorem Th.deep_le (t : Th) : t.deep ≤ t.parts := by
  induction t with
  | lf d => exact Nat.le_refl _
  | pr a b iha ihb =>
    show 1 + max a.deep b.deep ≤ 1 + a.parts + b.parts
    omega
theorem Th.pairD {t : Th} (h : t.nf) : isPairD t.toD = t.isPr := by
  cases t with
  | lf d => exact h
  | pr a b => rfl
theorem Th.pre_nf {t u : Th} (h : t.nf) (hu : u ∈ t.pre) : u.nf := by
  induction t with
  | lf d =>
    rw [List.mem_singleton.mp hu]
    exact h
  | pr a b iha ihb =>
    rcases List.mem_cons.mp hu with e | hu
    · rw [e]
      exact h
    · rcases List.mem_append.mp hu with hu | hu
      · exact iha h.1 hu
      · exact ihb h.2 hu
def withinD : PyData → Int → Int → Bool
  | .int i, lo, hi => decide (lo ≤ i) && decide (i ≤ hi)
  | _, _, _ => false
def nameD : PyData → Bool
  | .str x => isName x
  | _ => false
/-- an unknown's number -/
def unkD : PyData → Bool
  | .tuple [d] => withinD d 0 999999999
  | _ => false
def singleD (d : PyData) : Bool := nameD d || (withinD d 0 999999999999999999999999999999 || unkD d)
def Th.okL : Th → Bool
  | .lf d => singleD d
  | .pr a b => a.okL && b.okL
def Th.isTerm (t : Th) : Bool := t.okL && decide (t.parts ≤ 100)
def knD : PyData → Kn
  | .none => .non
  | .bool _ => .bl
  | .int _ => .int
  | .str _ => .str
  | .list _ => .lst
  | .tuple _ => .tup
  | .dict _ => .dct
mutual
/-- numbers and texts of no great size -/
def fine : PyData → Bool
  | .none | .bool _ => true
  | .int i => decide (i.natAbs < 2 ^ 1000)
  | .str x => decide (x.length ≤ 1000) && x.cps.toList.all (fun c => decide (c < 1114112))
  | .list xs | .tuple xs => fineAll xs
  | .dict kvs => kvs.isEmpty
def fineAll : List PyData → Bool
  | [] => true
  | x :: xs => fine x && fineAll xs
end
theorem Th.fine_pr {a b : Th} (h : fine (Th.pr a b).toD = true) : fine a.toD = true ∧ fine b.toD = true := by
  have h' : (fine a.toD && (fine b.toD && true)) = true := h
  rw [Bool.and_true] at h'
  exact Bool.and_eq_true_iff.mp h'
section
variable {K : PySem.W.Frag} {H : Hp}
theorem Dq.knd {v : V} {d : PyData} (h : Dq K H v d) : Knd K H v (knD d) := by
  cases h with
  | non => exact kn_non
  | bl b => exact kn_bl b
  | int i => exact kn_int i
  | str x => exact kn_str x
  | lst hs _ =>
    rcases hs with (h | ⟨o, h⟩) | ⟨o, its, n, h, c, _⟩
    · exact .base (.lst h)
    · exact .base (.frz h)
    · exact .kList h c
  | tup hs _ =>
    rcases hs with (h | ⟨o, h⟩) | ⟨o, its, n, h, c, _⟩
    · exact .base (.tup h)
    · exact .fTuple h
    · exact .kTuple h c
  | dct h => exact kn_dct h
theorem Dq.within {v : V} {d : PyData} (h : Dq K H v d) (lo hi : Int) : withinV v lo hi = withinD d lo hi := by
  cases h <;> rfl
theorem Dq.name {v : V} {d : PyData} (h : Dq K H v d) : nameV v = nameD d := by
  cases h <;> rfl
theorem Dq.strLen {v : V} {d : PyData} (h : Dq K H v d) (f : fine d = true) : ∀ z, v = .str z → z.length ≤ sizeLine := by
  intro z e
  subst e
  cases h
  exact sz_le (Nat.le_trans (of_decide_eq_true (Bool.and_eq_true_iff.mp f).1) (by decide))
theorem Dq.tupOf {v : V} {ds : List PyData} (h : Dq K H v (.tuple ds)) : ∃ a xs, v = .ref a ∧ SqT K H a xs ∧ DqAll K H xs ds := by
  cases h with
  | tup hs hr => exact ⟨_, _, rfl, hs, hr⟩
theorem DqAll.two {xs : List V} {d e : PyData} (h : DqAll K H xs [d, e]) : ∃ x y, xs = [x, y] ∧ Dq K H x d ∧ Dq K H y e := by
  cases h with
  | cons h1 h2 =>
    cases h2 with
    | cons h2 h3 =>
      cases h3
      exact ⟨_, _, rfl, h1, h2⟩
theorem DqAll.one {xs : List V} {d : PyData} (h : DqAll K H xs [d]) : ∃ x, xs = [x] ∧ Dq K H x d := by
  cases h with
  | cons h1 h2 =>
    cases h2
    exact ⟨_, rfl, h1⟩
end
section
variable {P : Program} {w : World} {K : PySem.W.Frag} {mg : Str → Option Value} {base : Heap}
/-! ### is_unknown, is_pair, is_single -/
def sp_is_pair (K : PySem.W.Frag) : Sp := fun vs H Q _ => ∃ x d, vs = [x] ∧ Dq K H x d ∧ Q (.bl (isPairD d)) H
theorem isPair_tup (ds : List PyData) : isPairD (.tuple ds) = decide (V.int (ds.length : Int) = V.int 2) := by
  match ds with
  | [] => rfl
  | [_] => rfl
  | [_, _] => rfl
  | _ :: _ :: _ :: r =>
    symm
    refine decide_eq_false fun e => ?_
    have e := V.int.inj e
    simp only [List.length_cons] at e
    omega
theorem ok_is_pair (T : Env K mg) : FnOk P w K mg base CX0 1 T.a_is_pair T.d_is_pair ["term"] (sp_is_pair K) := by
  refine T.F_is_pair.ok sc_is_pair (fun vs H Q E h => ?_) (fun cdv A outer s H vs Q E hr h => ?_)
  · obtain ⟨x, d, rfl, _⟩ := h
    rfl
  · obtain ⟨x, d, rfl, hd, q⟩ := h
    refine ⟨_, (pss_one (ps_ret (pe_and (pe_callB call_isi (by rfl) T.m_isinstance PyProof.Rows.boot_isinstance (pa_cons (pv 0) (pa_cons (pe_bltn (v := .ty "tuple") (by rfl) T.m_tuple PyProof.Rows.boot_tuple rfl) pa_nil))) (pe_one (pe_cmpR op_eq (pe_callB call_len_seq (by rfl) T.m_len PySem.boot_len (pa_cons (pv 0) pa_nil)) pe_int (nomark _)))))), ?_⟩
    refine ⟨x, rfl, x, .ty "tuple", _, .type "tuple", _, rfl, .ty _, hd.knd, kit_tup _, _, rfl, ?_⟩
    cases d with
    | tuple ds =>
      obtain ⟨a, xs, rfl, hs, hr'⟩ := hd.tupOf
      rw [isPair_tup, ← hr'.length] at q
      exact ⟨_, rfl, a, xs, rfl, .inr hs, rfl, q⟩
    | _ => exact q
def sp_is_unknown (K : PySem.W.Frag) : Sp := fun vs H Q _ => ∃ x d, vs = [x] ∧ Dq K H x d ∧ Q (.bl (unkD d)) H
theorem ok_is_unknown (T : Env K mg) : FnOk P w K mg base CX0 3 T.a_is_unknown T.d_is_unknown ["thing"] (sp_is_unknown K) := by
  have G_is_within : FnOk P w K mg base CX0 2 T.a_is_within T.d_is_within ["thing", "low", "high"] (sp_is_within K) := ok_is_within T
  refine T.F_is_unknown.ok sc_is_unknown (fun vs H Q E h => ?_) (fun cdv A outer s H vs Q E hr h => ?_)
  · obtain ⟨x, d, rfl, _⟩ := h
    rfl
  · obtain ⟨x, d, rfl, hd, q⟩ := h
    have hr_is_within := hr
    refine ⟨_, (pss_one (ps_ret (pe_and (pe_callB call_isi (by rfl) T.m_isinstance PyProof.Rows.boot_isinstance (pa_cons (pv 0) (pa_cons (pe_bltn (v := .ty "tuple") (by rfl) T.m_tuple PyProof.Rows.boot_tuple rfl) pa_nil))) (pe_and (pe_cmpR op_eq (pe_callB call_len_seq (by rfl) T.m_len PySem.boot_len (pa_cons (pv 0) pa_nil)) pe_int (nomark _)) (pe_one (pe_call G_is_within hr_is_within (by rfl) T.g_is_within T.F_is_within.kp T.b_is_within .nil pass0 (pa_cons (pe_ix ix_tup (pv 0) pe_int (fun _ _ => rfl)) (pa_cons pe_int (pa_cons (pe_glob (v := V.int 999999999) (by rfl) T.g_MOST_UNKNOWN ⟨_, rfl⟩) pa_nil))))))))), ?_⟩
    refine ⟨x, rfl, x, .ty "tuple", _, .type "tuple", _, rfl, .ty _, hd.knd, kit_tup _, _, rfl, ?_⟩
    cases d with
    | tuple ds =>
      obtain ⟨a, xs, rfl, hs, hr'⟩ := hd.tupOf
      refine ⟨_, rfl, a, xs, rfl, .inr hs, rfl, _, rfl, ?_⟩
      match ds, hr', q with
      | [], hr', q =>
        cases hr'
        exact q
      | [d], hr', q =>
        obtain ⟨y, rfl, hy⟩ := hr'.one
        refine ⟨_, rfl, a, _, 0, y, rfl, rfl, hs, atI_nat (j := 0) rfl, y, knD d, 0, 999999999, rfl, hy.knd, ?_⟩
        rw [hy.within]
        exact q
      | d :: e :: r, hr', q =>
        have hl := hr'.length
        have e2 : decide (V.int (xs.length : Int) = V.int 1) = false := decide_eq_false fun e => by
          have e := V.int.inj e
          simp only [List.length_cons] at hl
          omega
        rw [e2]
        exact q
    | _ => exact q
def sp_is_single (K : PySem.W.Frag) : Sp := fun vs H Q _ => ∃ x d, vs = [x] ∧ Dq K H x d ∧ fine d = true ∧ ∀ H', Same H H' → Q (.bl (singleD d)) H'
theorem ok_is_single (T : Env K mg) : FnOk P w K mg base CX0 4 T.a_is_single T.d_is_single ["thing"] (sp_is_single K) := by
  have G_is_within : FnOk P w K mg base CX0 3 T.a_is_within T.d_is_within ["thing", "low", "high"] (sp_is_within K) := (ok_is_within T).mono (by decide)
  have G_is_name : FnOk P w K mg base CX0 3 T.a_is_name T.d_is_name ["thing"] (sp_is_name K) := (ok_is_name T).mono (by decide)
  have G_is_unknown : FnOk P w K mg base CX0 3 T.a_is_unknown T.d_is_unknown ["thing"] (sp_is_unknown K) := ok_is_unknown T
  refine T.F_is_single.ok sc_is_single (fun vs H Q E h => ?_) (fun cdv A outer s H vs Q E hr h => ?_)
  · obtain ⟨x, d, rfl, _⟩ := h
    rfl
  · obtain ⟨x, d, rfl, hd, hf, q⟩ := h
    have hr_is_within := hr
    have hr_is_name := hr
    have hr_is_unknown := hr
    refine ⟨_, (pss_one (ps_ret (pe_or (pe_call G_is_name hr_is_name (by rfl) T.g_is_name T.F_is_name.kp T.b_is_name .nil pass0 (pa_cons (pv 0) pa_nil)) (pe_or (pe_call G_is_within hr_is_within (by rfl) T.g_is_within T.F_is_within.kp T.b_is_within .nil pass0 (pa_cons (pv 0) (pa_cons pe_int (pa_cons (pe_glob (v := V.int 999999999999999999999999999999) (by rfl) T.g_GREATEST ⟨_, rfl⟩) pa_nil)))) (pe_one (pe_call G_is_unknown hr_is_unknown (by rfl) T.g_is_unknown T.F_is_unknown.kp T.b_is_unknown .nil pass0 (pa_cons (pv 0) pa_nil))))))), ?_⟩
    refine ⟨_, rfl, x, _, rfl, hd.knd, hd.strLen hf, fun H1 s1 => ⟨_, rfl, ?_⟩⟩
    have q := q H1 s1
    have hd1 := hd.same s1
    unfold singleD at q
    rw [hd.name]
    cases e1 : nameD d with
    | true =>
      rw [e1] at q
      exact q
    | false =>
      rw [e1] at q
      refine ⟨_, rfl, x, _, 0, 999999999999999999999999999999, rfl, hd1.knd, _, rfl, ?_⟩
      rw [hd1.within]
      cases e2 : withinD d 0 999999999999999999999999999999 with
      | true =>
        rw [e2] at q
        exact q
      | false =>
        rw [e2] at q
        exact ⟨_, rfl, x, d, rfl, hd1, q⟩
end


/-! ### is_term -/
def sumP : List Th → Nat
  | [] => 0
  | t :: r => t.parts + sumP r
section
variable {P : Program} {w : World} {K : PySem.W.Frag} {mg : Str → Option Value} {base : Heap}
def OkTh (t : Th) : Prop := t.nf ∧ fine t.toD = true
theorem OkTh.pr {a b : Th} (h : OkTh (.pr a b)) : OkTh a ∧ OkTh b := ⟨⟨h.1.1, (Th.fine_pr h.2).1⟩, ⟨h.1.2, (Th.fine_pr h.2).2⟩⟩
theorem Dq.pr {H : Hp} {v : V} {a b : Th} (h : Dq K H v (Th.pr a b).toD) : ∃ p x y, v = .ref p ∧ SqT K H p [x, y] ∧ Dq K H x a.toD ∧ Dq K H y b.toD := by
  obtain ⟨p, xs, rfl, hs, hr⟩ := Dq.tupOf (ds := [a.toD, b.toD]) h
  obtain ⟨x, y, rfl, hx, hy⟩ := hr.two
  exact ⟨p, x, y, rfl, hs, hx, hy⟩
/-- the loop of is_term: the stack's top is the head of ts -/
def WT (K : PySem.W.Frag) (H : Hp) (x : V) (l : Addr) (t : Th) (m : Nat) (σ : L2.St) (H' : Hp) : Prop := ∃ (ts : List Th) (vs : List V) (n : Nat) (y : Option V), σ = [some x, some (.ref l), some (.int (n : Int)), y] ∧ m = sumP ts ∧ DqAll K H vs (ts.map Th.toD) ∧ (∀ u ∈ ts, OkTh u) ∧
  H' l = some (.lst vs.reverse) ∧ Same H H' ∧ n ≤ 100 ∧ vs.length ≤ n + 1 ∧ t.isTerm = (ts.all Th.okL && decide (n + sumP ts ≤ 100))
def sp_is_term (K : PySem.W.Frag) : Sp := fun vs H Q _ => ∃ x t, vs = [x] ∧ Dq K H x t.toD ∧ OkTh t ∧ ∀ H', Same H H' → Q (.bl t.isTerm) H'
theorem ok_is_term (T : Env K mg) : FnOk P w K mg base CX0 5 T.a_is_term T.d_is_term ["thing"] (sp_is_term K) := by
  have G_is_pair : FnOk P w K mg base CX0 4 T.a_is_pair T.d_is_pair ["term"] (sp_is_pair K) := (ok_is_pair T).mono (by decide)
  have G_is_single : FnOk P w K mg base CX0 4 T.a_is_single T.d_is_single ["thing"] (sp_is_single K) := ok_is_single T
  refine T.F_is_term.ok sc_is_term (fun vs H Q E h => ?_) (fun cdv A outer s H vs Q E hr h => ?_)
  · obtain ⟨x, t, rfl, _⟩ := h
    rfl
  · obtain ⟨x, t, rfl, hd, ht, q⟩ := h
    have hr_is_pair := hr
    have hr_is_single := hr
    refine ⟨_, (pss_cons (ps_set (i := 1) sc_is_term.nd rfl (Or.inl rfl) (pe_lst (pa_cons (pv 0) pa_nil)))
      (pss_cons (ps_set (i := 2) sc_is_term.nd rfl (Or.inl rfl) pe_int)
      (pss_cons (ps_while PassesOwn.never (pt_cmpR (op_neNil hr.units) (pv 1) (pe_lst pa_nil) (nomark _)) (pss_cons (ps_set (i := 3) sc_is_term.nd rfl (Or.inl rfl) (pe_bm0 PySem.F.plainAttrs_list PySem.F.slot_list_pop PySem.F.type_list_pop mt_pop (pv 1)))
      (pss_cons (ps_aug (i := 2) sc_is_term.nd rfl (Or.inl rfl) pe_int ip_add)
      (pss_cons (ps_if (pt_cmpR op_gt (pv 2) (pe_glob (v := V.int 100) (by rfl) T.g_MOST_PARTS ⟨_, rfl⟩) (nomark _)) (pss_one (ps_ret pe_bl)) pss_nil)
      (pss_one (ps_if (pt_val (pe_call G_is_pair hr_is_pair (by rfl) T.g_is_pair T.F_is_pair.kp T.b_is_pair .nil pass0 (pa_cons (pv 3) pa_nil))) (pss_one (ps_expr (pe_bm PySem.F.plainAttrs_list PySem.F.slot_list_extend PySem.F.type_list_extend mt_extend (pv 1) (pa_cons (pe_lst (pa_cons (pe_ix ix_tup (pv 3) pe_int (fun _ _ => rfl)) (pa_cons (pe_ix ix_tup (pv 3) pe_int (fun _ _ => rfl)) pa_nil))) pa_nil)))) (pss_one (ps_if (pt_not (pt_val (pe_call G_is_single hr_is_single (by rfl) T.g_is_single T.F_is_single.kp T.b_is_single .nil pass0 (pa_cons (pv 3) pa_nil)))) (pss_one (ps_ret pe_bl)) pss_nil))))))))
      (pss_one (ps_ret pe_bl))))), ?_⟩
    refine ⟨_, rfl, (by show 1 ≤ sizeLine; decide), fun l hl => ?_⟩
    refine ⟨WT K H x l t, ⟨sumP [t], [t], [x], 0, none, rfl, rfl, .cons hd .nil, (fun u hu => by rw [List.mem_singleton.mp hu]; exact ht), upd_same, same_upd hl, by decide, Nat.le_refl 1, ?_⟩, fun m σ H1 hW => ?_⟩
    · show (t.okL && decide (t.parts ≤ 100)) = ((t.okL && true) && decide (0 + (t.parts + 0) ≤ 100))
      rw [Bool.and_true, Nat.zero_add, Nat.add_zero]
    · obtain ⟨ts, ws, n, y, rfl, rfl, hD, hO, hL, sm, hn, hw, eT⟩ := hW
      refine ⟨_, rfl, Nat.zero_le _, fun p hp => ?_⟩
      have nlp : l ≠ p := ne_of_none hL hp
      have hL2 : (upd H1 p (.lst [])) l = some (.lst ws.reverse) := (upd_ne nlp).trans hL
      have sm2 : Same H (upd H1 p (.lst [])) := sm.trans (same_upd hp)
      match ts, ws, hD with
      | [], [], _ =>
        refine ⟨l, p, _, rfl, rfl, SqL.of hL2, SqL.of upd_same, false, rfl, ?_⟩
        have e : t.isTerm = true := by
          rw [eT]
          show (true && decide (n + 0 ≤ 100)) = true
          rw [decide_eq_true (by omega)]
          rfl
        rw [e] at q
        exact q _ sm2
      | u :: ts, v :: ws, hD =>
        have hne : (v :: ws).reverse.isEmpty = false := by simp
        refine ⟨l, p, _, rfl, rfl, SqL.of hL2, SqL.of upd_same, true, congrArg V.bl (congrArg Bool.not hne), ?_⟩
        refine ⟨fun σ' H' => ∃ m', m' < sumP (u :: ts) ∧ WT K H x l t m' σ' H', fun σ' H' z => z, ?_⟩
        have hv : Dq K H v u.toD ∧ DqAll K H ws (ts.map Th.toD) := by
          cases hD with
          | cons a b => exact ⟨a, b⟩
        have hlast : (v :: ws).reverse[(v :: ws).reverse.length - 1]? = some v := by simp
        have hdrop : (v :: ws).reverse.dropLast = ws.reverse := by simp
        refine ⟨_, rfl, .inl ⟨rfl, _, SqL.of hL2⟩, l, _, v, rfl, rfl, hL2, hlast, ?_⟩
        rw [hdrop]
        have sm3 : Same H (upd (upd H1 p (.lst [])) l (.lst ws.reverse)) := same_mut sm2 hl
        refine ⟨_, rfl, _, _, rfl, rfl, ?_⟩
        refine ⟨_, rfl, _, _, rfl, rfl, _, rfl, ite2 (fun c => ?_) (fun c => ?_)⟩
        · have c : (100 : Int) < (n : Int) + 1 := of_decide_eq_true c
          have e : t.isTerm = false := by
            rw [eT]
            have hp := u.parts_pos
            show ((u :: ts).all Th.okL && decide (n + (u.parts + sumP ts) ≤ 100)) = false
            rw [decide_eq_false (show ¬ n + (u.parts + sumP ts) ≤ 100 by omega), Bool.and_false]
          rw [e] at q
          exact q _ sm3
        · have c : ¬ (100 : Int) < (n : Int) + 1 := of_decide_eq_false (Bool.eq_false_iff.mpr c)
          have hu := hO u List.mem_cons_self
          have hrest : ∀ z ∈ ts, OkTh z := fun z hz => hO z (List.mem_cons_of_mem _ hz)
          have hL3 : (upd (upd H1 p (.lst [])) l (.lst ws.reverse)) l = some (.lst ws.reverse) := upd_same
          refine ⟨_, rfl, v, u.toD, rfl, hv.1.same sm3, _, rfl, ?_⟩
          rw [Th.pairD hu.1]
          cases u with
          | pr a b =>
            obtain ⟨pa, y0, y1, rfl, hs, h0, h1⟩ := hv.1.pr
            have hs3 := seqT sm3 hs
            refine ⟨_, rfl, .inl ⟨rfl, _, SqL.of hL3⟩, _, rfl, pa, _, 1, y1, rfl, rfl, hs3, atI_nat (j := 1) rfl, _, rfl, pa, _, 0, y0, rfl, rfl, hs3, atI_nat (j := 0) rfl, (by show 2 ≤ sizeLine; decide), fun p2 hp2 => ?_⟩
            have nl2 : l ≠ p2 := ne_of_none hL3 hp2
            refine ⟨l, p2, _, _, rfl, rfl, (upd_ne nl2).trans hL3, upd_same, ?_, ?_⟩
            · rw [List.length_reverse]
              simp only [List.length_cons] at hw
              exact sz_le (by show ws.length + 2 ≤ 1000000; omega)
            · have e1 : ws.reverse ++ [y1, y0] = (y0 :: y1 :: ws).reverse := by simp
              rw [e1]
              refine ⟨sumP (a :: b :: ts), ?_, a :: b :: ts, y0 :: y1 :: ws, n + 1, _, rfl, rfl, .cons h0 (.cons h1 hv.2), ?_, upd_same, same_mut (sm3.trans (same_upd hp2)) hl, by omega, ?_, ?_⟩
              · show a.parts + (b.parts + sumP ts) < 1 + a.parts + b.parts + sumP ts
                omega
              · intro z hz
                rcases List.mem_cons.mp hz with rfl | hz
                · exact hu.pr.1
                · rcases List.mem_cons.mp hz with rfl | hz
                  · exact hu.pr.2
                  · exact hrest z hz
              · simp only [List.length_cons] at hw ⊢
                omega
              · rw [eT]
                show ((a.okL && b.okL) && ts.all Th.okL && decide (n + (1 + a.parts + b.parts + sumP ts) ≤ 100)) = (a.okL && (b.okL && ts.all Th.okL) && decide (n + 1 + (a.parts + (b.parts + sumP ts)) ≤ 100))
                rw [Bool.and_assoc a.okL, show n + (1 + a.parts + b.parts + sumP ts) = n + 1 + (a.parts + (b.parts + sumP ts)) by omega]
          | lf d =>
            refine ⟨_, rfl, v, d, rfl, hv.1.same sm3, hu.2, fun H4 s4 => ⟨_, rfl, ?_⟩⟩
            cases e1 : singleD d with
            | false =>
              have e : t.isTerm = false := by
                rw [eT]
                show ((singleD d && ts.all Th.okL) && _) = false
                rw [e1]
                rfl
              rw [e] at q
              exact q _ (sm3.trans s4)
            | true =>
              refine ⟨sumP ts, ?_, ts, ws, n + 1, _, rfl, rfl, hv.2, hrest, s4 _ _ hL3, sm3.trans s4, by omega, ?_, ?_⟩
              · show sumP ts < 1 + sumP ts
                omega
              · simp only [List.length_cons] at hw
                omega
              · rw [eT]
                show ((singleD d && ts.all Th.okL) && decide (n + (1 + sumP ts) ≤ 100)) = (ts.all Th.okL && decide (n + 1 + sumP ts ≤ 100))
                rw [e1, Bool.true_and, show n + (1 + sumP ts) = n + 1 + sumP ts by omega]
end
/-! ### need_term, parts_within, parts_of -/
section
variable {P : Program} {w : World} {K : PySem.W.Frag} {mg : Str → Option Value} {base : Heap}
def sp_need_term (K : PySem.W.Frag) (C : Addr) : Sp := fun vs H Q E => ∃ x t, vs = [x] ∧ Dq K H x t.toD ∧ OkTh t ∧ (t.isTerm = true → ∀ H', Same H H' → Q .non H') ∧
  (t.isTerm = false → ∀ H' d, Same H H' → H' d = none → E (.ref C) (some d) (upd H' d (.xd [("found", x)])))
theorem ok_need_term (T : Env K mg) : FnOk P w K mg base (L2.CX P w) 6 T.a_need_term T.d_need_term ["thing"] (sp_need_term K T.a_NoTerm) := by
  have G_is_term : FnOk P w K mg base CX0 5 T.a_is_term T.d_is_term ["thing"] (sp_is_term K) := ok_is_term T
  have G_NoTerm : FnOk P w K mg base CX0 4 T.i_NoTerm T.di_NoTerm ["self", "found"] (sp_init1 T.a_NoTerm "found") := (ok_NoTerm T).mono (by decide)
  refine T.F_need_term.okX sc_need_term (fun vs H Q E h => ?_) (fun cdv A outer s H vs Q E hr h => ?_)
  · obtain ⟨x, t, rfl, _⟩ := h
    rfl
  · obtain ⟨x, t, rfl, hd, ht, q, qe⟩ := h
    have hr_is_term := hr
    refine ⟨_, (pss_one (ps_if (pt_not (pt_val (pe_call G_is_term hr_is_term (by rfl) T.g_is_term T.F_is_term.kp T.b_is_term .nil pass0 (pa_cons (pv 0) pa_nil)))) (pss_one (ps_raise (by rfl) (takes_of rfl rfl rfl rfl) (pmk_oex T.x_NoTerm T.ii_NoTerm T.ti_NoTerm G_NoTerm hr T.bi_NoTerm .nil pass0 (by rfl) T.g_NoTerm (pa_cons (pv 0) pa_nil)))) pss_nil)), ?_⟩
    refine ⟨_, rfl, x, t, rfl, hd, ht, fun H1 s1 => ⟨_, rfl, ?_⟩⟩
    cases e : t.isTerm with
    | true => exact q e H1 s1
    | false => exact ⟨_, rfl, raise1 fun d hd => qe e H1 d s1 hd⟩
/-- the loop of parts_within -/
def WP (K : PySem.W.Frag) (H0 H : Hp) (x : V) (l f : Addr) (t : Th) (m : Nat) (σ : L2.St) (H' : Hp) : Prop := ∃ (ts done : List Th) (vs fs : List V) (y : Option V), σ = [some x, some (.ref l), some (.ref f), y] ∧ m = sumP ts ∧ DqAll K H0 vs (ts.map Th.toD) ∧ (∀ u ∈ ts, u.nf) ∧
  DqAll K H0 fs (done.map Th.toD) ∧ H' l = some (.lst vs.reverse) ∧ H' f = some (.lst fs) ∧ Same H H' ∧ done ++ (ts.map Th.pre).flatten = t.pre
def sp_parts_within (K : PySem.W.Frag) : Sp := fun vs H Q _ => ∃ (x : V) (t : Th) (H0 : Hp), vs = [x] ∧ Same H0 H ∧ Dq K H0 x t.toD ∧ t.nf ∧ t.parts ≤ 500000 ∧ ∀ l ws H', H l = none → Same H H' → H' l = some (.lst ws) → DqAll K H0 ws (t.pre.map Th.toD) → Q (.ref l) H'
theorem sumP_len : ∀ ts : List Th, ((ts.map Th.pre).flatten).length = sumP ts
  | [] => rfl
  | t :: r => by
    rw [List.map_cons, List.flatten_cons, List.length_append, sumP_len r, t.pre_length]
    rfl
theorem sumP_ge : ∀ ts : List Th, ts.length ≤ sumP ts
  | [] => Nat.le_refl _
  | t :: r => by
    have h := sumP_ge r
    have h2 := t.parts_pos
    show r.length + 1 ≤ t.parts + sumP r
    omega
theorem DqAll.snoc {H : Hp} : ∀ {vs : List V} {ds : List PyData} {v : V} {d : PyData}, DqAll K H vs ds → Dq K H v d → DqAll K H (vs ++ [v]) (ds ++ [d])
  | _, _, _, _, .nil, h => .cons h .nil
  | _, _, _, _, .cons a r, h => .cons a (r.snoc h)
theorem ok_parts_within (T : Env K mg) : FnOk P w K mg base CX0 2 T.a_parts_within T.d_parts_within ["term"] (sp_parts_within K) := by
  have G_is_pair : FnOk P w K mg base CX0 1 T.a_is_pair T.d_is_pair ["term"] (sp_is_pair K) := ok_is_pair T
  refine T.F_parts_within.ok sc_parts_within (fun vs H Q E h => ?_) (fun cdv A outer s H vs Q E hr h => ?_)
  · obtain ⟨x, t, H0, rfl, _⟩ := h
    rfl
  · obtain ⟨x, t, H0, rfl, s0, hd, ht, hp, q⟩ := h
    have hr_is_pair := hr
    refine ⟨_, (pss_cons (ps_set (i := 1) sc_parts_within.nd rfl (Or.inl rfl) (pe_lst (pa_cons (pv 0) pa_nil)))
      (pss_cons (ps_set (i := 2) sc_parts_within.nd rfl (Or.inl rfl) (pe_lst pa_nil))
      (pss_cons (ps_while PassesOwn.never (pt_cmpR (op_neNil hr.units) (pv 1) (pe_lst pa_nil) (nomark _)) (pss_cons (ps_set (i := 3) sc_parts_within.nd rfl (Or.inl rfl) (pe_bm0 PySem.F.plainAttrs_list PySem.F.slot_list_pop PySem.F.type_list_pop mt_pop (pv 1)))
      (pss_cons (ps_expr (pe_bm PySem.F.plainAttrs_list PySem.F.slot_list_append PySem.F.type_list_append mt_append (pv 2) (pa_cons (pv 3) pa_nil)))
      (pss_one (ps_if (pt_val (pe_call G_is_pair hr_is_pair (by rfl) T.g_is_pair T.F_is_pair.kp T.b_is_pair .nil pass0 (pa_cons (pv 3) pa_nil))) (pss_one (ps_expr (pe_bm PySem.F.plainAttrs_list PySem.F.slot_list_extend PySem.F.type_list_extend mt_extend (pv 1) (pa_cons (pe_lst (pa_cons (pe_ix ix_tup (pv 3) pe_int (fun _ _ => rfl)) (pa_cons (pe_ix ix_tup (pv 3) pe_int (fun _ _ => rfl)) pa_nil))) pa_nil)))) pss_nil)))))
      (pss_one (ps_ret (pv 2)))))), ?_⟩
    refine ⟨_, rfl, (by show 1 ≤ sizeLine; decide), fun l hl => ⟨Nat.zero_le _, fun f hf => ?_⟩⟩
    have nlf : l ≠ f := ne_of_none upd_same hf
    have hf0 : H f = none := (same_upd hl).free hf
    refine ⟨WP K H0 H x l f t, ⟨sumP [t], [t], [], [x], [], none, rfl, rfl, .cons hd .nil, (fun u hu => by rw [List.mem_singleton.mp hu]; exact ht), .nil, (upd_ne nlf).trans upd_same, upd_same, (same_upd hl).trans (same_upd hf), ?_⟩, fun m σ H1 hW => ?_⟩
    · show [] ++ (t.pre ++ []) = t.pre
      rw [List.nil_append, List.append_nil]
    · obtain ⟨ts, done, ws, fs, y, rfl, rfl, hD, hO, hF, hL, hFo, sm, eP⟩ := hW
      have hlen : fs.length + sumP ts = t.parts := by
        have e := congrArg List.length eP
        rw [List.length_append, sumP_len, t.pre_length] at e
        rw [hF.length, List.length_map]
        exact e
      refine ⟨_, rfl, Nat.zero_le _, fun p hp' => ?_⟩
      have nlp : l ≠ p := ne_of_none hL hp'
      have nfp : f ≠ p := ne_of_none hFo hp'
      have hL2 : (upd H1 p (.lst [])) l = some (.lst ws.reverse) := (upd_ne nlp).trans hL
      have hF2 : (upd H1 p (.lst [])) f = some (.lst fs) := (upd_ne nfp).trans hFo
      have sm2 : Same H (upd H1 p (.lst [])) := sm.trans (same_upd hp')
      match ts, ws, hD with
      | [], [], _ =>
        refine ⟨l, p, _, rfl, rfl, SqL.of hL2, SqL.of upd_same, false, rfl, ?_⟩
        have e : done = t.pre := by
          rw [← eP]
          exact (List.append_nil done).symm
        rw [e] at hF
        exact ⟨_, rfl, q f fs _ hf0 sm2 hF2 hF⟩
      | u :: ts, v :: ws, hD =>
        have hne : (v :: ws).reverse.isEmpty = false := by simp
        refine ⟨l, p, _, rfl, rfl, SqL.of hL2, SqL.of upd_same, true, congrArg V.bl (congrArg Bool.not hne), ?_⟩
        refine ⟨fun σ' H' => ∃ m', m' < sumP (u :: ts) ∧ WP K H0 H x l f t m' σ' H', fun σ' H' z => z, ?_⟩
        have hv : Dq K H0 v u.toD ∧ DqAll K H0 ws (ts.map Th.toD) := by
          cases hD with
          | cons a b => exact ⟨a, b⟩
        have hlast : (v :: ws).reverse[(v :: ws).reverse.length - 1]? = some v := by simp
        have hdrop : (v :: ws).reverse.dropLast = ws.reverse := by simp
        refine ⟨_, rfl, .inl ⟨rfl, _, SqL.of hL2⟩, l, _, v, rfl, rfl, hL2, hlast, ?_⟩
        rw [hdrop]
        have sm3 : Same H (upd (upd H1 p (.lst [])) l (.lst ws.reverse)) := same_mut sm2 hl
        have hF3 : (upd (upd H1 p (.lst [])) l (.lst ws.reverse)) f = some (.lst fs) := (upd_ne (Ne.symm nlf)).trans hF2
        have hL3 : (upd (upd H1 p (.lst [])) l (.lst ws.reverse)) l = some (.lst ws.reverse) := upd_same
        have hws : ws.length + 1 ≤ sumP (u :: ts) := by
          have h1 := hv.2.length
          rw [List.length_map] at h1
          have h2 := sumP_ge ts
          have h3 := u.parts_pos
          show ws.length + 1 ≤ u.parts + sumP ts
          omega
        refine ⟨_, rfl, .inl ⟨rfl, _, SqL.of hF3⟩, _, rfl, f, _, v, rfl, rfl, hF3, sz_lt (by omega), ?_⟩
        have sm4 : Same H (upd (upd (upd H1 p (.lst [])) l (.lst ws.reverse)) f (.lst (fs ++ [v]))) := same_mut sm3 hf0
        have hL4 : (upd (upd (upd H1 p (.lst [])) l (.lst ws.reverse)) f (.lst (fs ++ [v]))) l = some (.lst ws.reverse) := (upd_ne nlf).trans hL3
        have hu := hO u List.mem_cons_self
        have hrest : ∀ z ∈ ts, z.nf := fun z hz => hO z (List.mem_cons_of_mem _ hz)
        have hF5 : DqAll K H0 (fs ++ [v]) ((done ++ [u]).map Th.toD) := by
          rw [List.map_append]
          exact hF.snoc hv.1
        refine ⟨_, rfl, v, u.toD, rfl, hv.1.same (s0.trans sm4), _, rfl, ?_⟩
        rw [Th.pairD hu]
        cases u with
        | pr a b =>
          obtain ⟨pa, y0, y1, rfl, hs, h0, h1⟩ := hv.1.pr
          have hs3 := seqT (s0.trans sm4) hs
          refine ⟨_, rfl, .inl ⟨rfl, _, SqL.of hL4⟩, _, rfl, pa, _, 1, y1, rfl, rfl, hs3, atI_nat (j := 1) rfl, _, rfl, pa, _, 0, y0, rfl, rfl, hs3, atI_nat (j := 0) rfl, (by show 2 ≤ sizeLine; decide), fun p2 hp2 => ?_⟩
          have nl2 : l ≠ p2 := ne_of_none hL4 hp2
          have nf2 : f ≠ p2 := ne_of_none upd_same hp2
          refine ⟨l, p2, _, _, rfl, rfl, (upd_ne nl2).trans hL4, upd_same, ?_, ?_⟩
          · rw [List.length_reverse]
            exact sz_le (by show ws.length + 2 ≤ 1000000; omega)
          · have e1 : ws.reverse ++ [y1, y0] = (y0 :: y1 :: ws).reverse := by simp
            rw [e1]
            refine ⟨sumP (a :: b :: ts), ?_, a :: b :: ts, done ++ [.pr a b], y0 :: y1 :: ws, fs ++ [.ref pa], _, rfl, rfl, .cons h0 (.cons h1 hv.2), ?_, hF5, upd_same, ?_, same_mut (sm4.trans (same_upd hp2)) hl, ?_⟩
            · show a.parts + (b.parts + sumP ts) < 1 + a.parts + b.parts + sumP ts
              omega
            · intro z hz
              rcases List.mem_cons.mp hz with rfl | hz
              · exact hu.1
              · rcases List.mem_cons.mp hz with rfl | hz
                · exact hu.2
                · exact hrest z hz
            · rw [upd_ne (Ne.symm nlf), upd_ne nf2, upd_same]
            · rw [← eP]
              show done ++ [Th.pr a b] ++ (a.pre ++ (b.pre ++ (ts.map Th.pre).flatten)) = done ++ ((Th.pr a b :: (a.pre ++ b.pre)) ++ (ts.map Th.pre).flatten)
              simp
        | lf d =>
          refine ⟨sumP ts, ?_, ts, done ++ [.lf d], ws, fs ++ [v], _, rfl, rfl, hv.2, hrest, hF5, hL4, upd_same, sm4, ?_⟩
          · show sumP ts < 1 + sumP ts
            omega
          · rw [← eP]
            show done ++ [Th.lf d] ++ (ts.map Th.pre).flatten = done ++ ([Th.lf d] ++ (ts.map Th.pre).flatten)
            simp
def sp_parts_of (K : PySem.W.Frag) (C : Addr) : Sp := fun vs H Q E => ∃ x t, vs = [x] ∧ Dq K H x t.toD ∧ OkTh t ∧ (t.isTerm = true → ∀ H', Same H H' → Q (.int t.parts) H') ∧
  (t.isTerm = false → ∀ H' d, Same H H' → H' d = none → E (.ref C) (some d) (upd H' d (.xd [("found", x)])))
theorem Th.term_parts {t : Th} (h : t.isTerm = true) : t.parts ≤ 100 := of_decide_eq_true (Bool.and_eq_true_iff.mp h).2
theorem ok_parts_of (T : Env K mg) : FnOk P w K mg base (L2.CX P w) 7 T.a_parts_of T.d_parts_of ["term"] (sp_parts_of K T.a_NoTerm) := by
  have G_need_term : FnOk P w K mg base (L2.CX P w) 6 T.a_need_term T.d_need_term ["thing"] (sp_need_term K T.a_NoTerm) := ok_need_term T
  have G_parts_within : FnOk P w K mg base CX0 6 T.a_parts_within T.d_parts_within ["term"] (sp_parts_within K) := (ok_parts_within T).mono (by decide)
  refine T.F_parts_of.okX sc_parts_of (fun vs H Q E h => ?_) (fun cdv A outer s H vs Q E hr h => ?_)
  · obtain ⟨x, t, rfl, _⟩ := h
    rfl
  · obtain ⟨x, t, rfl, hd, ht, q, qe⟩ := h
    have hr_need_term := hr
    have hr_parts_within := hr
    refine ⟨_, (pss_cons (ps_expr (pe_callS G_need_term hr_need_term (by rfl) T.g_need_term T.F_need_term.kp T.b_need_term (fun σ => passAt (takes_of rfl rfl rfl rfl) σ) (pa_cons (pv 0) pa_nil)))
      (pss_one (ps_ret (pe_callB call_len_seq (by rfl) T.m_len PySem.boot_len (pa_cons (pe_call G_parts_within hr_parts_within (by rfl) T.g_parts_within T.F_parts_within.kp T.b_parts_within .nil pass0 (pa_cons (pv 0) pa_nil)) pa_nil))))), ?_⟩
    refine ⟨_, rfl, x, t, rfl, hd, ht, fun e H1 s1 => ?_, fun e H1 d s1 hd => qe e H1 d s1 hd⟩
    have hp := Th.term_parts e
    refine ⟨_, rfl, x, t, H, rfl, s1, hd, ht.1, by omega, fun l ws H2 hl s2 hL hq => ⟨l, ws, rfl, .inl (SqL.of hL), ?_⟩⟩
    have e2 : ws.length = t.parts := by rw [hq.length, List.length_map, t.pre_length]
    rw [e2]
    exact q e H2 (s1.trans s2)
end
/-! ### numbers_in, unknowns_of -/
def unkNum : PyData → Option Int
  | .tuple [.int i] => if withinD (.int i) 0 999999999 then some i else none
  | _ => none
def addU (acc : List Int) (i : Int) : List Int := if i ∈ acc then acc else acc ++ [i]
def stepU (acc : List Int) (u : Th) : List Int := match unkNum u.toD with
  | some i => addU acc i
  | none => acc
/-- the unknowns, by first coming -/
def Th.unks (t : Th) : List Int := t.pre.foldl stepU []
theorem unkD_num {d : PyData} : unkD d = (unkNum d).isSome := by
  match d with
  | .none | .bool _ | .int _ | .str _ | .list _ | .dict _ => rfl
  | .tuple [] => rfl
  | .tuple [.int i] =>
    show withinD (.int i) 0 999999999 = (if withinD (.int i) 0 999999999 then some i else none).isSome
    cases withinD (.int i) 0 999999999 <;> rfl
  | .tuple [.none] | .tuple [.bool _] | .tuple [.str _] | .tuple [.list _] | .tuple [.tuple _] | .tuple [.dict _] => rfl
  | .tuple (a :: _ :: _) => cases a <;> rfl
theorem unkNum_some {d : PyData} {i : Int} (h : unkNum d = some i) : d = .tuple [.int i] := by
  match d, h with
  | .tuple [.int j], h =>
    have h' : (if withinD (.int j) 0 999999999 then some j else none) = some i := h
    cases e : withinD (.int j) 0 999999999 with
    | true =>
      rw [e, if_pos rfl] at h'
      rw [Option.some.inj h']
    | false =>
      rw [e, if_neg Bool.false_ne_true] at h'
      cases h'
theorem addU_len (acc : List Int) (i : Int) : (addU acc i).length ≤ acc.length + 1 := by
  unfold addU
  split
  · omega
  · rw [List.length_append, List.length_singleton]
    exact Nat.le_refl _
theorem stepU_len (acc : List Int) (u : Th) : (stepU acc u).length ≤ acc.length + 1 := by
  unfold stepU
  split
  · exact addU_len _ _
  · omega
theorem foldU_len : ∀ (l : List Th) (acc : List Int), (l.foldl stepU acc).length ≤ acc.length + l.length
  | [], acc => Nat.le_refl _
  | u :: r, acc => by
    have h1 := foldU_len r (stepU acc u)
    have h2 := stepU_len acc u
    show (r.foldl stepU (stepU acc u)).length ≤ acc.length + (r.length + 1)
    omega
/-- the dict that holds them -/
def kvU (acc : List Int) : List (Key × V) := acc.map fun i => (Sum.inl i, V.bl true)
theorem kvU_put (acc : List Int) (i : Int) : putK (kvU acc) (Sum.inl i : Key) (.bl true) = kvU (addU acc i) := by
  have ha : ((kvU acc).any fun kv => decide (kv.1 = (Sum.inl i : Key))) = decide (i ∈ acc) := by
    unfold kvU
    rw [List.any_map]
    rw [Bool.eq_iff_iff, List.any_eq_true, decide_eq_true_iff]
    constructor
    · rintro ⟨j, hj, e⟩
      have e := Sum.inl.inj (of_decide_eq_true e)
      rw [← e]
      exact hj
    · intro h
      exact ⟨i, h, decide_eq_true rfl⟩
  unfold putK addU
  rw [ha]
  by_cases h : i ∈ acc
  · rw [if_pos (decide_eq_true h), if_pos h]
    unfold kvU
    rw [List.map_map]
    refine List.map_congr_left fun j _ => ?_
    show (if (Sum.inl j : Key) = Sum.inl i then ((Sum.inl j : Key), V.bl true) else (Sum.inl j, V.bl true)) = (Sum.inl j, V.bl true)
    split <;> rfl
  · rw [if_neg (by rw [decide_eq_false h]; exact Bool.false_ne_true), if_neg h]
    unfold kvU
    rw [List.map_append]
    rfl
theorem kvU_keys (acc : List Int) : ((kvU acc).map fun kv => kV kv.1) = acc.map V.int := by
  unfold kvU
  rw [List.map_map]
  rfl
theorem take_fold {l : List Th} {i : Nat} {u : Th} (h : l[i]? = some u) : (l.take (i + 1)).foldl stepU [] = stepU ((l.take i).foldl stepU []) u := by
  rw [List.take_add_one, h, List.foldl_append]
  rfl
section
variable {P : Program} {w : World} {K : PySem.W.Frag} {mg : Str → Option Value} {base : Heap}
theorem DqAll.get {H : Hp} : ∀ {vs : List V} {ds : List PyData} {i : Nat} {v : V}, DqAll K H vs ds → vs[i]? = some v → ∃ d, ds[i]? = some d ∧ Dq K H v d
  | _, _, _, _, .nil, e => by simp at e
  | _, _, 0, _, .cons h _, e => by
    have e := Option.some.inj e
    subst e
    exact ⟨_, rfl, h⟩
  | _, _, i + 1, v, .cons _ r, e => r.get (i := i) (v := v) e
theorem DqAll.getTh {H : Hp} {vs : List V} {ts : List Th} {i : Nat} {v : V} (h : DqAll K H vs (ts.map Th.toD)) (e : vs[i]? = some v) : ∃ u, ts[i]? = some u ∧ Dq K H v u.toD := by
  obtain ⟨d, e2, hd⟩ := h.get e
  rw [List.getElem?_map] at e2
  cases eu : ts[i]? with
  | none =>
    rw [eu] at e2
    cases e2
  | some u =>
    rw [eu] at e2
    have e3 := Option.some.inj e2
    rw [← e3] at hd
    exact ⟨u, rfl, hd⟩
def sp_numbers_in (K : PySem.W.Frag) : Sp := fun vs H Q _ => ∃ (x : V) (t : Th), vs = [x] ∧ Dq K H x t.toD ∧ t.nf ∧ t.parts ≤ 500000 ∧ ∀ l H', H l = none → Same H H' → H' l = some (.lst (t.unks.map V.int)) → Q (.ref l) H'
end
section
variable {P : Program} {w : World} {K : PySem.W.Frag} {mg : Str → Option Value} {base : Heap}
/-! ### places -/
def Th.pls : Th → List Int → List (List Int × Th)
  | .lf d, pl => [(pl, .lf d)]
  | .pr a b, pl => (pl, .pr a b) :: (a.pls (pl ++ [0]) ++ b.pls (pl ++ [1]))
/-- all tuples are as they were -/
def Tups (K : PySem.W.Frag) (H H' : Hp) : Prop := ∀ a xs, SqT K H a xs → SqT K H' a xs
theorem Tups.of {H H' : Hp} (s : Same H H') : Tups K H H' := fun _ _ h => seqT s h
theorem Tups.trans {H H1 H2 : Hp} (a : Tups K H H1) (b : Tups K H1 H2) : Tups K H H2 := fun x y h => b x y (a x y h)
theorem Tups.put {H : Hp} {l : Addr} {ys zs : List V} (h : H l = some (.lst ys)) : Tups K H (upd H l (.lst zs)) := fun a xs ha => by
  rcases ha with (ha | ⟨o, ha⟩) | ha
  · exact .inl (.inl ((upd_ne (ne_of ha h fun z => nomatch z)).trans ha))
  · exact .inl (.inr ⟨o, (upd_ne (ne_of ha h fun z => nomatch z)).trans ha⟩)
  · exact .inr ha
theorem Tups.off {H H' : Hp} {l : Addr} {ys : List V} (h : H l = some (.lst ys)) (o : Off l H H') : Tups K H H' := fun a xs ha => by
  rcases ha with (ha | ⟨o', ha⟩) | ha
  · exact .inl (.inl (o _ _ (ne_of ha h fun z => nomatch z) ha))
  · exact .inl (.inr ⟨o', o _ _ (ne_of ha h fun z => nomatch z) ha⟩)
  · exact .inr ha
/-- e is a tuple of a place and a part (the part was there at H0) -/
def Pp (K : PySem.W.Frag) (H0 H : Hp) (e : V) (p : List Int × Th) : Prop := ∃ a b xv, e = .ref a ∧ SqT K H a [.ref b, xv] ∧ SqT K H b (p.1.map V.int) ∧ Dq K H0 xv p.2.toD
def PpAll (K : PySem.W.Frag) (H0 H : Hp) : List V → List (List Int × Th) → Prop
  | [], [] => True
  | e :: es, p :: ps => Pp K H0 H e p ∧ PpAll K H0 H es ps
  | _, _ => False
theorem Pp.tups {H0 H H' : Hp} {e : V} {p : List Int × Th} (h : Pp K H0 H e p) (t : Tups K H H') : Pp K H0 H' e p := by
  obtain ⟨a, b, xv, rfl, h1, h2, h3⟩ := h
  exact ⟨a, b, xv, rfl, t _ _ h1, t _ _ h2, h3⟩
theorem PpAll.tups {H0 H H' : Hp} (t : Tups K H H') : ∀ {es : List V} {ps : List (List Int × Th)}, PpAll K H0 H es ps → PpAll K H0 H' es ps
  | [], [], _ => trivial
  | _ :: _, _ :: _, ⟨h, r⟩ => ⟨h.tups t, PpAll.tups t r⟩
theorem PpAll.length {H0 H : Hp} : ∀ {es : List V} {ps : List (List Int × Th)}, PpAll K H0 H es ps → es.length = ps.length
  | [], [], _ => rfl
  | _ :: _, _ :: _, ⟨_, r⟩ => congrArg Nat.succ (PpAll.length r)
theorem PpAll.app {H0 H : Hp} : ∀ {es fs : List V} {ps qs : List (List Int × Th)}, PpAll K H0 H es ps → PpAll K H0 H fs qs → PpAll K H0 H (es ++ fs) (ps ++ qs)
  | [], _, [], _, _, h => h
  | _ :: _, _, _ :: _, _, ⟨h, r⟩, h2 => ⟨h, PpAll.app r h2⟩
theorem cat_place {H : Hp} {b q : Addr} {pl : List Int} {k : Int} {Q : VK} (hb : SqT K H b (pl.map V.int)) (hq : SqT K H q [.int k]) (hl : pl.length ≤ 1000) (h : ∀ r H', Same H H' → SqT K H' r ((pl ++ [k]).map V.int) → Q (.ref r) H') :
    rCatA K (.ref b) (.ref q) H Q := by
  refine ⟨b, q, _, _, rfl, rfl, hb, hq, ?_, fun e => ?_, (fun _ e => by cases e), fun _ _ p hp => ?_⟩
  · rw [List.length_map]
    exact sz_le (by show pl.length + 1 ≤ 1000000; omega)
  · have e : pl = [] := List.map_eq_nil_iff.mp e
    subst e
    exact h q H (Same.refl H) hq
  · refine h p _ (same_upd hp) (SqT.of ?_)
    rw [upd_same, List.map_append]
    rfl
def sumQ : List (List Int × Th) → Nat
  | [] => 0
  | p :: r => p.2.parts + sumQ r
theorem sumQ_ge : ∀ ts : List (List Int × Th), ts.length ≤ sumQ ts
  | [] => Nat.le_refl _
  | t :: r => by
    have h := sumQ_ge r
    have h2 := t.2.parts_pos
    show r.length + 1 ≤ t.2.parts + sumQ r
    omega
theorem Th.pls_length : ∀ (t : Th) (pl : List Int), (t.pls pl).length = t.parts
  | .lf _, _ => rfl
  | .pr a b, pl => by
    show (a.pls _ ++ b.pls _).length + 1 = 1 + a.parts + b.parts
    rw [List.length_append, pls_length a, pls_length b]
    omega
theorem sumQ_len : ∀ ts : List (List Int × Th), ((ts.map fun p => p.2.pls p.1).flatten).length = sumQ ts
  | [] => rfl
  | t :: r => by
    rw [List.map_cons, List.flatten_cons, List.length_append, sumQ_len r, Th.pls_length]
    rfl
end


/-! ### the law's drawn terms -/
mutual
/-- no lists, no dicts in it -/
def tupOnly : PyData → Bool
  | .none | .bool _ | .int _ | .str _ => true
  | .tuple xs => tupOnlyAll xs
  | .list _ | .dict _ => false
def tupOnlyAll : List PyData → Bool
  | [] => true
  | x :: xs => tupOnly x && tupOnlyAll xs
end
theorem no_ft {p : Prop} (h : false = true) : p := nomatch h
theorem single_tup : ∀ {d : PyData}, singleD d = true → tupOnly d = true
  | .none, _ => rfl
  | .bool _, _ => rfl
  | .int _, _ => rfl
  | .str _, _ => rfl
  | .list _, h => no_ft h
  | .dict _, h => no_ft h
  | .tuple [], _ => rfl
  | .tuple [.none], _ => rfl
  | .tuple [.bool _], _ => rfl
  | .tuple [.int _], _ => rfl
  | .tuple [.str _], _ => rfl
  | .tuple [.list _], h => no_ft h
  | .tuple [.tuple _], h => no_ft h
  | .tuple [.dict _], h => no_ft h
  | .tuple (_ :: _ :: _), h => no_ft h
theorem Th.ok_tup {t : Th} (h : t.okL = true) : tupOnly t.toD = true := by
  induction t with
  | lf d => exact single_tup h
  | pr a b iha ihb =>
    obtain ⟨h1, h2⟩ := Bool.and_eq_true_iff.mp h
    show (tupOnly a.toD && (tupOnly b.toD && true)) = true
    rw [iha h1, ihb h2]
    rfl
section
variable {K : PySem.W.Frag} {H H' : Hp}
mutual
theorem Dq.tups (t : Tups K H H') : ∀ (d : PyData) (v : V), tupOnly d = true → Dq K H v d → Dq K H' v d
  | .none, _, _, h => by
    cases h
    exact .non
  | .bool b, _, _, h => by
    cases h
    exact .bl b
  | .int i, _, _, h => by
    cases h
    exact .int i
  | .str i, _, _, h => by
    cases h
    exact .str i
  | .list _, _, e, _ => no_ft e
  | .dict _, _, e, _ => no_ft e
  | .tuple ds, _, e, h => by
    cases h with
    | tup h r => exact .tup (t _ _ h) (DqAll.tups t ds _ e r)
theorem DqAll.tups (t : Tups K H H') : ∀ (ds : List PyData) (vs : List V), tupOnlyAll ds = true → DqAll K H vs ds → DqAll K H' vs ds
  | [], _, _, h => by
    cases h
    exact .nil
  | d :: ds, _, e, h => by
    cases h with
    | cons h r => exact .cons (Dq.tups t d _ (Bool.and_eq_true_iff.mp e).1 h) (DqAll.tups t ds _ (Bool.and_eq_true_iff.mp e).2 r)
end
theorem Pu.tups {p : Addr} (h : Pu H p) (o : Off p H H') : Tups K H H' := by
  obtain ⟨x, y, z, e⟩ := h
  exact Tups.off e o
end
section
variable {P : Program} {w : World} {K : PySem.W.Frag} {mg : Str → Option Value} {base : Heap}
def sp_l_single (K : PySem.W.Frag) : Sp := fun vs H Q _ => ∃ p, vs = [.ref p] ∧ Pu H p ∧ ∀ v d H', Dq K H' v d → singleD d = true → fine d = true → isPairD d = false → Off p H H' → Pu H' p → Q v H'
theorem single_int {i : Int} (h0 : 0 ≤ i) (h1 : i ≤ 999999999999999999999999999999) : singleD (.int i) = true ∧ fine (.int i) = true := by
  constructor
  · show (false || ((decide (0 ≤ i) && decide (i ≤ 999999999999999999999999999999)) || false)) = true
    rw [decide_eq_true h0, decide_eq_true h1]
    rfl
  · show decide (i.natAbs < 2 ^ 1000) = true
    refine decide_eq_true (Nat.lt_of_le_of_lt (m := 999999999999999999999999999999) (by omega) (by decide))
theorem single_unk {i : Int} (h0 : 0 ≤ i) (h1 : i ≤ 999999999) : singleD (.tuple [.int i]) = true ∧ fine (.tuple [.int i]) = true := by
  constructor
  · show (false || (false || (decide (0 ≤ i) && decide (i ≤ 999999999)))) = true
    rw [decide_eq_true h0, decide_eq_true h1]
    rfl
  · show (decide (i.natAbs < 2 ^ 1000) && true) = true
    rw [Bool.and_true]
    exact decide_eq_true (Nat.lt_of_le_of_lt (m := 999999999999999999999999999999) (by omega) (by decide))
theorem single_name {z : Str} (h : isName z = true) (hf : fine (.str z) = true) : singleD (.str z) = true ∧ fine (.str z) = true := ⟨by
  show (isName z || _) = true
  rw [h]
  rfl, hf⟩
/-- a text that is a name -/
def NameV (v : V) : Prop := ∃ z : Str, v = .str z ∧ isName z = true ∧ fine (.str z) = true
/-- a whole number of terms, at most m -/
def NumV (m : Int) (v : V) : Prop := ∃ i : Int, v = .int i ∧ 0 ≤ i ∧ i ≤ m
theorem ok_l_single (T : Env K mg) : FnOk P w K mg base CX0 2 T.a_l_single T.d_l_single ["_law_purse_here"] (sp_l_single K) := by
  have G_l_take : FnOk P w K mg base CX0 1 T.a_l_take T.d_l_take ["_law_purse_here", "_law_many"] (sp_l_take K) := ok_l_take T
  refine T.F_l_single.ok sc_l_single (fun vs H Q E h => ?_) (fun cdv A outer s H vs Q E hr h => ?_)
  · obtain ⟨p, rfl, _⟩ := h
    rfl
  · obtain ⟨p, rfl, hp, q⟩ := h
    have hr_l_take := hr
    refine ⟨_, (pss_cons (ps_set (i := 1) sc_l_single.nd rfl (Or.inl rfl) (pe_call G_l_take hr_l_take (by rfl) T.g_l_take T.F_l_take.kp T.b_l_take .nil pass0 (pa_cons (pv 0) (pa_cons pe_int pa_nil))))
      (pss_cons (ps_if (pt_cmpR op_lt (pv 1) pe_int (nomark _)) (pss_cons (ps_set (i := 2) sc_l_single.nd rfl (Or.inl rfl) (pe_lst (pa_cons pe_str (pa_cons pe_str (pa_cons pe_str (pa_cons pe_str (pa_cons pe_str (pa_cons pe_str (pa_cons pe_str (pa_cons pe_str (pa_cons pe_str (pa_cons pe_str (pa_cons pe_str (pa_cons pe_str (pa_cons pe_str (pa_cons pe_str pa_nil))))))))))))))))
      (pss_one (ps_ret (pe_ix ix_list (pv 2) (pe_call G_l_take hr_l_take (by rfl) T.g_l_take T.F_l_take.kp T.b_l_take .nil pass0 (pa_cons (pv 0) (pa_cons pe_int pa_nil))) (fun _ _ => rfl))))) pss_nil)
      (pss_cons (ps_if (pt_cmpR op_lt (pv 1) pe_int (nomark _)) (pss_one (ps_ret (pe_ix ix_list (pe_lst (pa_cons pe_int (pa_cons pe_int (pa_cons pe_int (pa_cons (pe_op op_sub (pe_op op_pow pe_int pe_int) pe_int) (pa_cons (pe_call G_l_take hr_l_take (by rfl) T.g_l_take T.F_l_take.kp T.b_l_take .nil pass0 (pa_cons (pv 0) (pa_cons (pe_op op_pow pe_int pe_int) pa_nil))) (pa_cons pe_int pa_nil))))))) (pe_call G_l_take hr_l_take (by rfl) T.g_l_take T.F_l_take.kp T.b_l_take .nil pass0 (pa_cons (pv 0) (pa_cons pe_int pa_nil))) (fun _ _ => rfl)))) pss_nil)
      (pss_one (ps_ret (pe_tup (pa_cons (pe_ix ix_list (pe_lst (pa_cons pe_int (pa_cons pe_int (pa_cons pe_int (pa_cons pe_int (pa_cons pe_int (pa_cons pe_int (pa_cons pe_int (pa_cons pe_int pa_nil))))))))) (pe_call G_l_take hr_l_take (by rfl) T.g_l_take T.F_l_take.kp T.b_l_take .nil pass0 (pa_cons (pv 0) (pa_cons pe_int pa_nil))) (fun _ _ => rfl)) pa_nil))))))), ?_⟩
    refine ⟨_, rfl, p, 8, rfl, hp, by decide, lt9000 (by decide), fun w1 H1 _ _ o1 p1 => ?_⟩
    refine ⟨_, rfl, _, _, rfl, rfl, _, rfl, ite2 (fun c => ?_) (fun c => ?_)⟩
    · refine ⟨(by show 14 ≤ sizeLine; decide), fun l hl => ?_⟩
      refine ⟨_, rfl, _, rfl, p, 14, rfl, p1.new hl, by decide, lt9000 (by decide), fun r H2 r0 r1 o2 p2 => ?_⟩
      obtain ⟨y, hL, hy, hm⟩ := lst_at (o2 l _ (p1.nne hl) upd_same) r0 r1
      refine ⟨l, _, r, y, rfl, rfl, SqL.of hL, hy, ?_⟩
      have hy2 : NameV y := by
        simp only [List.mem_cons, List.not_mem_nil, or_false] at hm
        rcases hm with rfl | rfl | rfl | rfl | rfl | rfl | rfl | rfl | rfl | rfl | rfl | rfl | rfl | rfl <;> exact ⟨_, rfl, by decide +kernel, by decide +kernel⟩
      obtain ⟨z, rfl, hz, hf⟩ := hy2
      obtain ⟨k1, k2⟩ := single_name hz hf
      exact q _ _ H2 (.str z) k1 k2 rfl ((o1.new hl).trans o2) p2
    · refine ⟨_, rfl, _, _, rfl, rfl, _, rfl, ite2 (fun c => ?_) (fun c => ?_)⟩
      · refine ⟨_, _, rfl, rfl, ⟨by decide, by decide, by decide⟩, _, _, rfl, rfl, _, rfl, _, _, rfl, rfl, ⟨by decide, by decide, by decide⟩, p, _, rfl, p1, by decide, lt9000 (by decide), fun n H2 n0 n1 o2 p2 => ?_⟩
        refine ⟨(by show 6 ≤ sizeLine; decide), fun l hl => ?_⟩
        refine ⟨_, rfl, p, 6, rfl, p2.new hl, by decide, lt9000 (by decide), fun r H3 r0 r1 o3 p3 => ?_⟩
        obtain ⟨y, hL, hy, hm⟩ := lst_at (o3 l _ (p2.nne hl) upd_same) r0 r1
        refine ⟨l, _, r, y, rfl, rfl, SqL.of hL, hy, ?_⟩
        have hy2 : NumV 999999999999999999999999999999 y := by
          simp only [List.mem_cons, List.not_mem_nil, or_false] at hm
          have n1 : n < 1000000000 := n1
          rcases hm with rfl | rfl | rfl | rfl | rfl | rfl
          · exact ⟨_, rfl, by decide, by decide⟩
          · exact ⟨_, rfl, by decide, by decide⟩
          · exact ⟨_, rfl, by decide, by decide⟩
          · exact ⟨_, rfl, by decide, by decide⟩
          · exact ⟨_, rfl, n0, by omega⟩
          · exact ⟨_, rfl, by decide, by decide⟩
        obtain ⟨i, rfl, i0, i1⟩ := hy2
        obtain ⟨k1, k2⟩ := single_int i0 i1
        exact q _ _ H3 (.int i) k1 k2 rfl (((o1.trans o2).new hl).trans o3) p3
      · refine ⟨(by show 8 ≤ sizeLine; decide), fun l hl => ?_⟩
        refine ⟨_, rfl, p, 8, rfl, p1.new hl, by decide, lt9000 (by decide), fun r H3 r0 r1 o3 p3 => ?_⟩
        obtain ⟨y, hL, hy, hm⟩ := lst_at (o3 l _ (p1.nne hl) upd_same) r0 r1
        refine ⟨l, _, r, y, rfl, rfl, SqL.of hL, hy, ?_⟩
        have hy2 : NumV 999999999 y := by
          simp only [List.mem_cons, List.not_mem_nil, or_false] at hm
          rcases hm with rfl | rfl | rfl | rfl | rfl | rfl | rfl | rfl <;> exact ⟨_, rfl, by decide, by decide⟩
        obtain ⟨i, rfl, i0, i1⟩ := hy2
        obtain ⟨k1, k2⟩ := single_unk i0 i1
        refine ⟨(by show 1 ≤ sizeLine; decide), fun t ht => ?_⟩
        exact q _ _ _ (.tup (SqT.of upd_same) (.cons (.int i) .nil)) k1 k2 rfl (((o1.new hl).trans o3).new ht) (p3.new ht)
/-- a drawn term -/
def GoodT (t : Th) (n : Int) : Prop := t.nf ∧ t.okL = true ∧ fine t.toD = true ∧ (t.parts : Int) ≤ n
def sp_l_term (K : PySem.W.Frag) (n : Nat) : Sp := fun vs H Q _ => ∃ p r, vs = [.ref p, .int r] ∧ Pu H p ∧ 1 ≤ r ∧ r ≤ n ∧ r ≤ 1000 ∧ ∀ v t H', Dq K H' v (Th.toD t) → GoodT t r → Off p H H' → Pu H' p → Q v H'
theorem ok_l_term (T : Env K mg) : ∀ n : Nat, FnOk P w K mg base CX0 (n + 3) T.a_l_term T.d_l_term ["_law_purse_here", "_law_room_here"] (sp_l_term K n)
  | 0 => by
    have no : ∀ vs H Q E, ¬ sp_l_term K 0 vs H Q E := fun vs H Q E h => by
      obtain ⟨p, r, _, _, h1, h2, _⟩ := h
      omega
    exact ⟨fun vs H Q E h => absurd h (no vs H Q E), fun A outer s H args us vs Q E _ _ _ _ h => absurd h (no vs H Q E)⟩
  | n + 1 => by
    have G_l_term : FnOk P w K mg base CX0 (n + 3) T.a_l_term T.d_l_term ["_law_purse_here", "_law_room_here"] (sp_l_term K n) := ok_l_term T n
    have G_l_single : FnOk P w K mg base CX0 (n + 3) T.a_l_single T.d_l_single ["_law_purse_here"] (sp_l_single K) := (ok_l_single T).mono (by omega)
    have G_l_take : FnOk P w K mg base CX0 (n + 3) T.a_l_take T.d_l_take ["_law_purse_here", "_law_many"] (sp_l_take K) := (ok_l_take T).mono (by omega)
    refine T.F_l_term.ok sc_l_term (fun vs H Q E h => ?_) (fun cdv A outer s H vs Q E hr h => ?_)
    · obtain ⟨p, r, rfl, _⟩ := h
      rfl
    · obtain ⟨p, r, rfl, hp, hr1, hrn, hrk, q⟩ := h
      have hr_l_take := hr
      have hr_l_single := hr
      have hr_l_term := hr
      refine ⟨_, (pss_cons (ps_if (PW.pt (pw_or (pt_cmpR op_lt (pv 1) pe_int (nomark _)) (pw_or1 (pt_cmpR op_eq (pe_call G_l_take hr_l_take (by rfl) T.g_l_take T.F_l_take.kp T.b_l_take .nil pass0 (pa_cons (pv 0) (pa_cons pe_int pa_nil))) pe_int (nomark _))))) (pss_one (ps_ret (pe_call G_l_single hr_l_single (by rfl) T.g_l_single T.F_l_single.kp T.b_l_single .nil pass0 (pa_cons (pv 0) pa_nil)))) pss_nil)
      (pss_cons (ps_set (i := 2) sc_l_term.nd rfl (Or.inl rfl) (pe_ix ix_list (pe_lst (pa_cons pe_int (pa_cons (pe_op op_add pe_int (pe_call G_l_take hr_l_take (by rfl) T.g_l_take T.F_l_take.kp T.b_l_take .nil pass0 (pa_cons (pv 0) (pa_cons (pe_op op_sub (pv 1) pe_int) pa_nil)))) pa_nil))) (pe_call G_l_take hr_l_take (by rfl) T.g_l_take T.F_l_take.kp T.b_l_take .nil pass0 (pa_cons (pv 0) (pa_cons pe_int pa_nil))) (fun _ _ => rfl)))
      (pss_one (ps_ret (pe_tup (pa_cons (pe_call G_l_term hr_l_term (by rfl) T.g_l_term T.F_l_term.kp T.b_l_term .nil pass0 (pa_cons (pv 0) (pa_cons (pv 2) pa_nil))) (pa_cons (pe_call G_l_term hr_l_term (by rfl) T.g_l_term T.F_l_term.kp T.b_l_term .nil pass0 (pa_cons (pv 0) (pa_cons (pe_op op_sub (pe_op op_sub (pv 1) pe_int) (pv 2)) pa_nil))) pa_nil))))))), ?_⟩
      have single : ∀ H1, Off p H H1 → Pu H1 p → sp_l_single K [.ref p] H1 Q E0 := fun H1 o1 p1 => ⟨p, rfl, p1, fun v d H2 hd hs hf hn o2 p2 => q v (.lf d) H2 hd ⟨hn, hs, hf, by show ((1 : Nat) : Int) ≤ r; omega⟩ (o1.trans o2) p2⟩
      refine ⟨_, rfl, _, _, rfl, rfl, _, rfl, ite2 (fun c => ?_) (fun c => ?_)⟩
      · exact ⟨_, rfl, single H (Off.refl p H) hp⟩
      · have c : ¬ r < 3 := of_decide_eq_false (Bool.eq_false_iff.mpr c)
        refine ⟨_, rfl, p, 5, rfl, hp, by decide, lt9000 (by decide), fun w1 H1 _ _ o1 p1 => ⟨rfl, _, rfl, ite2 (fun c => ?_) (fun c => ?_)⟩⟩
        · exact ⟨_, rfl, single H1 o1 p1⟩
        · refine ⟨_, rfl, _, rfl, _, _, rfl, rfl, p, r - 2, rfl, p1, by omega, lt9000 (by omega), fun k H2 k0 k1 o2 p2 => ⟨_, _, rfl, rfl, (by show 2 ≤ sizeLine; decide), fun l hl => ?_⟩⟩
          refine ⟨_, rfl, p, 2, rfl, p2.new hl, by decide, lt9000 (by decide), fun j H3 j0 j1 o3 p3 => ?_⟩
          obtain ⟨y, hL, hy, hm⟩ := lst_at (o3 l _ (p2.nne hl) upd_same) j0 j1
          have hy2 : ∃ f : Int, y = .int f ∧ 1 ≤ f ∧ f ≤ r - 2 := by
            simp only [List.mem_cons, List.not_mem_nil, or_false] at hm
            rcases hm with rfl | rfl
            · exact ⟨_, rfl, by decide, by omega⟩
            · exact ⟨_, rfl, by omega, by omega⟩
          obtain ⟨f, rfl, f1, f2⟩ := hy2
          refine ⟨l, _, j, _, rfl, rfl, SqL.of hL, hy, ?_⟩
          have o03 : Off p H H3 := ((o1.trans o2).new hl).trans o3
          refine ⟨_, rfl, _, rfl, p, f, rfl, p3, f1, by omega, by omega, fun v1 t1 H4 d1 g1 o4 p4 => ?_⟩
          refine ⟨_, rfl, _, rfl, _, _, rfl, rfl, _, rfl, _, _, rfl, rfl, p, r - 1 - f, rfl, p4, by omega, by omega, by omega, fun v2 t2 H5 d2 g2 o5 p5 => ?_⟩
          refine ⟨(by show 2 ≤ sizeLine; decide), fun c hc => ?_⟩
          have s5 : Same H5 (upd H5 c (.tup [v1, v2])) := same_upd hc
          have d1' : Dq K H5 v1 t1.toD := Dq.tups (p4.tups o5) _ _ (Th.ok_tup g1.2.1) d1
          refine q _ (.pr t1 t2) _ (.tup (SqT.of upd_same) (.cons (d1'.same s5) (.cons (d2.same s5) .nil))) ⟨⟨g1.1, g2.1⟩, ?_, ?_, ?_⟩ ((o03.trans (o4.trans o5)).new hc) (p5.new hc)
          · show (t1.okL && t2.okL) = true
            rw [g1.2.1, g2.2.1]
            rfl
          · show (fine t1.toD && (fine t2.toD && true)) = true
            rw [g1.2.2.1, g2.2.2.1]
            rfl
          · have e1 := g1.2.2.2
            have e2 := g2.2.2.2
            show ((1 + t1.parts + t2.parts : Nat) : Int) ≤ r
            omega
def sp_l_room (K : PySem.W.Frag) : Sp := fun vs H Q _ => ∃ p, vs = [.ref p] ∧ Pu H p ∧ ∀ r H', 1 ≤ r → r ≤ 100 → Off p H H' → Pu H' p → Q (.int r) H'
theorem ok_l_room (T : Env K mg) : FnOk P w K mg base CX0 2 T.a_l_room T.d_l_room ["_law_purse_here"] (sp_l_room K) := by
  have G_l_take : FnOk P w K mg base CX0 1 T.a_l_take T.d_l_take ["_law_purse_here", "_law_many"] (sp_l_take K) := ok_l_take T
  refine T.F_l_room.ok sc_l_room (fun vs H Q E h => ?_) (fun cdv A outer s H vs Q E hr h => ?_)
  · obtain ⟨p, rfl, _⟩ := h
    rfl
  · obtain ⟨p, rfl, hp, q⟩ := h
    have hr_l_take := hr
    refine ⟨_, (pss_one (ps_ret (pe_ix ix_list (pe_lst (pa_cons pe_int (pa_cons pe_int (pa_cons pe_int (pa_cons pe_int (pa_cons pe_int (pa_cons pe_int (pa_cons pe_int (pa_cons (pe_op op_add pe_int (pe_call G_l_take hr_l_take (by rfl) T.g_l_take T.F_l_take.kp T.b_l_take .nil pass0 (pa_cons (pv 0) (pa_cons pe_int pa_nil)))) pa_nil))))))))) (pe_call G_l_take hr_l_take (by rfl) T.g_l_take T.F_l_take.kp T.b_l_take .nil pass0 (pa_cons (pv 0) (pa_cons pe_int pa_nil))) (fun _ _ => rfl)))), ?_⟩
    refine ⟨_, rfl, p, 100, rfl, hp, by decide, lt9000 (by decide), fun k H1 k0 k1 o1 p1 => ⟨_, _, rfl, rfl, (by show 8 ≤ sizeLine; decide), fun l hl => ?_⟩⟩
    refine ⟨_, rfl, p, 8, rfl, p1.new hl, by decide, lt9000 (by decide), fun j H3 j0 j1 o3 p3 => ?_⟩
    obtain ⟨y, hL, hy, hm⟩ := lst_at (o3 l _ (p1.nne hl) upd_same) j0 j1
    have hy2 : ∃ f : Int, y = .int f ∧ 1 ≤ f ∧ f ≤ 100 := by
      simp only [List.mem_cons, List.not_mem_nil, or_false] at hm
      rcases hm with rfl | rfl | rfl | rfl | rfl | rfl | rfl | rfl
      · exact ⟨_, rfl, by decide, by decide⟩
      · exact ⟨_, rfl, by decide, by decide⟩
      · exact ⟨_, rfl, by decide, by decide⟩
      · exact ⟨_, rfl, by decide, by decide⟩
      · exact ⟨_, rfl, by decide, by decide⟩
      · exact ⟨_, rfl, by decide, by decide⟩
      · exact ⟨_, rfl, by decide, by decide⟩
      · exact ⟨_, rfl, by omega, by omega⟩
    obtain ⟨f, rfl, f1, f2⟩ := hy2
    exact ⟨l, _, j, _, rfl, rfl, SqL.of hL, hy, q f H3 f1 f2 ((o1.new hl).trans o3) p3⟩
end


/-! ### the law's own count and places -/
theorem Th.deep_pos (t : Th) : 0 < t.deep := by
  cases t with
  | lf d => exact Nat.one_pos
  | pr a b =>
    show 0 < 1 + max a.deep b.deep
    omega
theorem Th.deep_half (t : Th) : 2 * t.deep ≤ t.parts + 1 := by
  induction t with
  | lf d => exact Nat.le_refl _
  | pr a b iha ihb =>
    have h1 := a.parts_pos
    have h2 := b.parts_pos
    show 2 * (1 + max a.deep b.deep) ≤ 1 + a.parts + b.parts + 1
    omega
theorem Th.pre_fine {t u : Th} (h : fine t.toD = true) (hu : u ∈ t.pre) : fine u.toD = true ∧ u.parts ≤ t.parts := by
  induction t with
  | lf d =>
    rw [List.mem_singleton.mp hu]
    exact ⟨h, Nat.le_refl _⟩
  | pr a b iha ihb =>
    rcases List.mem_cons.mp hu with e | hu
    · rw [e]
      exact ⟨h, Nat.le_refl _⟩
    · obtain ⟨h1, h2⟩ := Th.fine_pr h
      rcases List.mem_append.mp hu with hu | hu
      · obtain ⟨k1, k2⟩ := iha h1 hu
        exact ⟨k1, by show u.parts ≤ 1 + a.parts + b.parts; omega⟩
      · obtain ⟨k1, k2⟩ := ihb h2 hu
        exact ⟨k1, by show u.parts ≤ 1 + a.parts + b.parts; omega⟩
section
variable {P : Program} {w : World} {K : PySem.W.Frag} {mg : Str → Option Value} {base : Heap}
/-- the deed of a raising def where nothing is raised -/
def calm (sp : Sp) : Sp := fun vs H Q _ => sp vs H Q E0
theorem calm_ok {k : Nat} {f : Addr} {fd : FuncData} {ps : List Str} {sp : Sp} (F : FnOk P w K mg base (L2.CX P w) k f fd ps sp) : FnOk P w K mg base CX0 k f fd ps (calm sp) :=
  ⟨fun vs H Q E h => F.len vs H Q E0 h, fun A outer s H args us vs Q E hr he hb hv h => codeAny_mono (F.run A outer s H args us vs Q E0 hr he hb hv h) fun r s' hq => by
    match r, hq with
    | .ok x, hq =>
      cases x with
      | ret u => exact hq
      | _ => exact hq
    | .error e, hq =>
      obtain ⟨_, _, _, _, _, _, _, _, _, _, _, _, z⟩ := hq
      exact z.elim⟩
def sp_l_parts (K : PySem.W.Frag) (n : Nat) : Sp := fun vs H Q _ => ∃ (x : V) (t : Th), vs = [x] ∧ Dq K H x t.toD ∧ t.nf ∧ t.deep ≤ n ∧ Q (.int t.parts) H
theorem ok_l_parts (T : Env K mg) : ∀ n : Nat, FnOk P w K mg base CX0 (n + 1) T.a_l_parts T.d_l_parts ["_law_term_here"] (sp_l_parts K n)
  | 0 => by
    have no : ∀ vs H Q E, ¬ sp_l_parts K 0 vs H Q E := fun vs H Q E h => by
      obtain ⟨x, t, _, _, _, h1, _⟩ := h
      have := t.deep_pos
      omega
    exact ⟨fun vs H Q E h => absurd h (no vs H Q E), fun A outer s H args us vs Q E _ _ _ _ h => absurd h (no vs H Q E)⟩
  | n + 1 => by
    have G_l_parts : FnOk P w K mg base CX0 (n + 1) T.a_l_parts T.d_l_parts ["_law_term_here"] (sp_l_parts K n) := ok_l_parts T n
    refine T.F_l_parts.ok sc_l_parts (fun vs H Q E h => ?_) (fun cdv A outer s H vs Q E hr h => ?_)
    · obtain ⟨x, t, rfl, _⟩ := h
      rfl
    · obtain ⟨x, t, rfl, hd, hn, hdp, q⟩ := h
      have hr_l_parts := hr
      refine ⟨_, (pss_cons (ps_if (PW.pt (pw_and (pt_val (pe_callB call_isi (by rfl) T.m_isinstance PyProof.Rows.boot_isinstance (pa_cons (pv 0) (pa_cons (pe_bltn (v := .ty "tuple") (by rfl) T.m_tuple PyProof.Rows.boot_tuple rfl) pa_nil)))) (pw_and1 (pt_cmpR op_eq (pe_callB call_len_seq (by rfl) T.m_len PySem.boot_len (pa_cons (pv 0) pa_nil)) pe_int (nomark _))))) (pss_one (ps_ret (pe_op op_add (pe_op op_add pe_int (pe_call G_l_parts hr_l_parts (by rfl) T.g_l_parts T.F_l_parts.kp T.b_l_parts .nil pass0 (pa_cons (pe_ix ix_tup (pv 0) pe_int (fun _ _ => rfl)) pa_nil))) (pe_call G_l_parts hr_l_parts (by rfl) T.g_l_parts T.F_l_parts.kp T.b_l_parts .nil pass0 (pa_cons (pe_ix ix_tup (pv 0) pe_int (fun _ _ => rfl)) pa_nil))))) pss_nil)
      (pss_one (ps_ret pe_int))), ?_⟩
      refine ⟨x, rfl, x, .ty "tuple", _, .type "tuple", _, rfl, .ty _, hd.knd, kit_tup _, _, rfl, ?_⟩
      cases t with
      | pr a b =>
        obtain ⟨pa, y0, y1, rfl, hs, h0, h1⟩ := hd.pr
        have hdp : 1 + max a.deep b.deep ≤ n + 1 := hdp
        refine ⟨_, rfl, pa, _, rfl, .inr hs, rfl, true, rfl, ?_⟩
        refine ⟨_, rfl, pa, _, 0, y0, rfl, rfl, hs, atI_nat (j := 0) rfl, y0, a, rfl, h0, hn.1, by omega, _, _, rfl, rfl, ?_⟩
        refine ⟨_, rfl, pa, _, 1, y1, rfl, rfl, hs, atI_nat (j := 1) rfl, y1, b, rfl, h1, hn.2, by omega, _, _, rfl, rfl, ?_⟩
        have e : ((Th.pr a b).parts : Int) = 1 + (a.parts : Int) + (b.parts : Int) := by
          show ((1 + a.parts + b.parts : Nat) : Int) = _
          omega
        rw [e] at q
        exact q
      | lf d =>
        cases d with
        | tuple ds =>
          obtain ⟨a, xs, rfl, hs, hr'⟩ := Dq.tupOf (ds := ds) hd
          have e : decide (V.int (xs.length : Int) = V.int 2) = false := by
            rw [hr'.length, ← isPair_tup]
            exact hn
          exact ⟨_, rfl, a, xs, rfl, .inr hs, rfl, false, congrArg V.bl e, q⟩
        | _ => exact q
def sp_l_places (K : PySem.W.Frag) (n : Nat) : Sp := fun vs H Q _ => ∃ (x : V) (t : Th) (b : Addr) (pl : List Int) (H0 : Hp), vs = [x, .ref b] ∧ Same H0 H ∧ Dq K H0 x t.toD ∧ t.nf ∧ t.deep ≤ n ∧ pl.length + n ≤ 900 ∧ t.parts ≤ 400000 ∧ SqT K H b (pl.map V.int) ∧
  ∀ l es H', H l = none → Same H H' → H' l = some (.lst es) → PpAll K H0 H' es (t.pls pl) → Q (.ref l) H'
theorem ok_l_places (T : Env K mg) : ∀ n : Nat, FnOk P w K mg base CX0 (n + 1) T.a_l_places T.d_l_places ["_law_term_here", "_law_place"] (sp_l_places K n)
  | 0 => by
    have no : ∀ vs H Q E, ¬ sp_l_places K 0 vs H Q E := fun vs H Q E h => by
      obtain ⟨x, t, b, pl, H0, _, _, _, _, h1, _⟩ := h
      have := t.deep_pos
      omega
    exact ⟨fun vs H Q E h => absurd h (no vs H Q E), fun A outer s H args us vs Q E _ _ _ _ h => absurd h (no vs H Q E)⟩
  | n + 1 => by
    have G_l_places : FnOk P w K mg base CX0 (n + 1) T.a_l_places T.d_l_places ["_law_term_here", "_law_place"] (sp_l_places K n) := ok_l_places T n
    refine T.F_l_places.ok sc_l_places (fun vs H Q E h => ?_) (fun cdv A outer s H vs Q E hr h => ?_)
    · obtain ⟨x, t, b, pl, H0, rfl, _⟩ := h
      rfl
    · obtain ⟨x, t, b, pl, H0, rfl, s0, hd, hn, hdp, hpl, hpp, hb, q⟩ := h
      have hr_l_places := hr
      refine ⟨_, (pss_cons (ps_set (i := 2) sc_l_places.nd rfl (Or.inl rfl) (pe_lst (pa_cons (pe_tup (pa_cons (pv 1) (pa_cons (pv 0) pa_nil))) pa_nil)))
      (pss_cons (ps_if (PW.pt (pw_and (pt_val (pe_callB call_isi (by rfl) T.m_isinstance PyProof.Rows.boot_isinstance (pa_cons (pv 0) (pa_cons (pe_bltn (v := .ty "tuple") (by rfl) T.m_tuple PyProof.Rows.boot_tuple rfl) pa_nil)))) (pw_and1 (pt_cmpR op_eq (pe_callB call_len_seq (by rfl) T.m_len PySem.boot_len (pa_cons (pv 0) pa_nil)) pe_int (nomark _))))) (pss_one (ps_set (i := 2) sc_l_places.nd rfl (Or.inl rfl) (pe_op op_cat (pe_op op_cat (pv 2) (pe_call G_l_places hr_l_places (by rfl) T.g_l_places T.F_l_places.kp T.b_l_places .nil pass0 (pa_cons (pe_ix ix_tup (pv 0) pe_int (fun _ _ => rfl)) (pa_cons (pe_op op_catA (pv 1) (pe_tup (pa_cons pe_int pa_nil))) pa_nil)))) (pe_call G_l_places hr_l_places (by rfl) T.g_l_places T.F_l_places.kp T.b_l_places .nil pass0 (pa_cons (pe_ix ix_tup (pv 0) pe_int (fun _ _ => rfl)) (pa_cons (pe_op op_catA (pv 1) (pe_tup (pa_cons pe_int pa_nil))) pa_nil)))))) pss_nil)
      (pss_one (ps_ret (pv 2))))), ?_⟩
      refine ⟨_, rfl, _, rfl, (by show 2 ≤ sizeLine; decide), fun p1 hp1 => ⟨(by show 1 ≤ sizeLine; decide), fun l hl => ?_⟩⟩
      have s1 : Same H (upd H p1 (.tup [.ref b, x])) := same_upd hp1
      have s2 : Same H (upd (upd H p1 (.tup [.ref b, x])) l (.lst [.ref p1])) := s1.trans (same_upd hl)
      have hl0 : H l = none := s1.free hl
      have g1 : (upd (upd H p1 (.tup [.ref b, x])) l (.lst [.ref p1])) p1 = some (.tup [.ref b, x]) := (same_upd hl) _ _ upd_same
      have g2 : (upd (upd H p1 (.tup [.ref b, x])) l (.lst [.ref p1])) l = some (.lst [.ref p1]) := upd_same
      generalize upd (upd H p1 (.tup [.ref b, x])) l (.lst [.ref p1]) = H2 at s2 g1 g2 ⊢
      have hd2 := hd.same (s0.trans s2)
      have one : PpAll K H0 H2 [.ref p1] [(pl, t)] := ⟨⟨p1, b, x, rfl, SqT.of g1, seqT s2 hb, hd⟩, trivial⟩
      refine ⟨x, rfl, x, .ty "tuple", _, .type "tuple", _, rfl, .ty _, hd2.knd, kit_tup _, _, rfl, ?_⟩
      cases t with
      | pr a c =>
        obtain ⟨pa, y0, y1, rfl, hs0, h0, h1⟩ := hd.pr
        have hs := seqT (s0.trans s2) hs0
        have hdp : 1 + max a.deep c.deep ≤ n + 1 := hdp
        have hpp : 1 + a.parts + c.parts ≤ 400000 := hpp
        refine ⟨_, rfl, pa, _, rfl, .inr hs, rfl, true, rfl, ?_⟩
        refine ⟨_, rfl, _, rfl, pa, _, 0, y0, rfl, rfl, hs, atI_nat (j := 0) rfl, _, rfl, (by show 1 ≤ sizeLine; decide), fun q1 hq1 => ?_⟩
        have c1 : Same H2 (upd H2 q1 (.tup [.int 0])) := same_upd hq1
        refine cat_place (seqT c1 (seqT s2 hb)) (SqT.of upd_same) (by omega) fun r1 H3 c2 hr1 => ?_
        have s3 := s2.trans (c1.trans c2)
        refine ⟨y0, a, r1, pl ++ [0], H0, rfl, s0.trans s3, h0, hn.1, by omega, by rw [List.length_append, List.length_singleton]; omega, by omega, hr1, fun l1 es1 H4 hl1 s34 hL1 pp1 => ?_⟩
        have s4 := s3.trans s34
        have g4 := s34 _ _ (c2 _ _ (c1 _ _ g2))
        have len1 := pp1.length
        rw [Th.pls_length] at len1
        refine ⟨l, l1, _, _, rfl, rfl, g4, hL1, sz_le (by show 1 + es1.length ≤ 1000000; omega), fun m hm => ?_⟩
        have c4 : Same H4 (upd H4 m (.lst ([.ref p1] ++ es1))) := same_upd hm
        have s5 := s4.trans c4
        refine ⟨_, rfl, pa, _, 1, y1, rfl, rfl, seqT (s0.trans s5) hs0, atI_nat (j := 1) rfl, _, rfl, (by show 1 ≤ sizeLine; decide), fun q2 hq2 => ?_⟩
        have c5 : Same _ (upd (upd H4 m (.lst ([.ref p1] ++ es1))) q2 (.tup [.int 1])) := same_upd hq2
        refine cat_place (seqT (s5.trans c5) hb) (SqT.of upd_same) (by omega) fun r2 H5 c6 hr2 => ?_
        have s6 := s5.trans (c5.trans c6)
        refine ⟨y1, c, r2, pl ++ [1], H0, rfl, s0.trans s6, h1, hn.2, by omega, by rw [List.length_append, List.length_singleton]; omega, by omega, hr2, fun l2 es2 H6 hl2 s67 hL2 pp2 => ?_⟩
        have len2 := pp2.length
        rw [Th.pls_length] at len2
        have c46 := c4.trans ((c5.trans c6).trans s67)
        have gm := s67 _ _ (c6 _ _ (c5 _ _ upd_same))
        refine ⟨m, l2, _, _, rfl, rfl, gm, hL2, ?_, fun z hz => ⟨_, rfl, ?_⟩⟩
        · rw [List.length_append]
          exact sz_le (by show 1 + es1.length + es2.length ≤ 1000000; omega)
        · have s7 := s6.trans s67
          have c7 : Same H6 (upd H6 z (.lst ([.ref p1] ++ es1 ++ es2))) := same_upd hz
          refine q z _ _ (s7.free hz) (s7.trans c7) upd_same ?_
          have k1 := one.tups (Tups.of (((c1.trans c2).trans s34).trans (c46.trans c7)))
          have k2 := pp1.tups (Tups.of (c46.trans c7))
          have k3 := pp2.tups (Tups.of c7)
          have k := (k1.app k2).app k3
          have e : [(pl, Th.pr a c)] ++ a.pls (pl ++ [0]) ++ c.pls (pl ++ [1]) = (Th.pr a c).pls pl := rfl
          rw [e] at k
          exact k
      | lf d =>
        have fin := q l _ H2 hl0 s2 g2 one
        cases d with
        | tuple ds =>
          obtain ⟨a, xs, rfl, hs, hr'⟩ := Dq.tupOf (ds := ds) hd2
          have e : decide (V.int (xs.length : Int) = V.int 2) = false := by
            rw [hr'.length, ← isPair_tup]
            exact hn
          exact ⟨_, rfl, a, xs, rfl, .inr hs, rfl, false, congrArg V.bl e, _, rfl, fin⟩
        | _ => exact ⟨_, rfl, fin⟩
theorem Th.pls_snd : ∀ (t : Th) (pl : List Int), (t.pls pl).map Prod.snd = t.pre
  | .lf _, _ => rfl
  | .pr a b, pl => by
    show Th.pr a b :: (a.pls _ ++ b.pls _).map Prod.snd = Th.pr a b :: (a.pre ++ b.pre)
    rw [List.map_append, pls_snd a, pls_snd b]
theorem PpAll.get {H0 H : Hp} : ∀ {es : List V} {ps : List (List Int × Th)} {i : Nat} {v : V}, PpAll K H0 H es ps → es[i]? = some v → ∃ p, ps[i]? = some p ∧ Pp K H0 H v p
  | _ :: _, p :: _, 0, _, ⟨h, _⟩, e => by
    cases e
    exact ⟨p, rfl, h⟩
  | _ :: _, _ :: _, i + 1, _, ⟨_, r⟩, e => PpAll.get (i := i) r e
theorem single_cases {d : PyData} (h : singleD d = true) : (∃ z, d = .str z) ∨ (∃ i, d = .int i) ∨ ∃ i, d = .tuple [.int i] ∧ unkNum d = some i := by
  unfold singleD at h
  rcases Bool.or_eq_true_iff.mp h with h | h
  · left
    cases d with
    | str z => exact ⟨z, rfl⟩
    | _ => cases h
  · right
    rcases Bool.or_eq_true_iff.mp h with h | h
    · left
      cases d with
      | int z => exact ⟨z, rfl⟩
      | _ => cases h
    · right
      rw [unkD_num] at h
      obtain ⟨i, hi⟩ := Option.isSome_iff_exists.mp h
      exact ⟨i, unkNum_some hi, hi⟩
theorem Th.ok_pre {t u : Th} (h : t.okL = true) (hu : u ∈ t.pre) : u.okL = true := by
  induction t with
  | lf d =>
    rw [List.mem_singleton.mp hu]
    exact h
  | pr a b iha ihb =>
    rcases List.mem_cons.mp hu with e | hu
    · rw [e]
      exact h
    · obtain ⟨h1, h2⟩ := Bool.and_eq_true_iff.mp (show (a.okL && b.okL) = true from h)
      rcases List.mem_append.mp hu with hu | hu
      · exact iha h1 hu
      · exact ihb h2 hu
theorem inV_ints (i : Int) : ∀ acc : List Int, inV (.int i) (acc.map V.int) = decide (i ∈ acc)
  | [] => rfl
  | a :: r => by
    have ih := inV_ints i r
    show ((a == i) || inV (.int i) (r.map V.int)) = decide (i ∈ a :: r)
    rw [ih]
    by_cases e : a = i
    · subst e
      simp
    · have e' : i ≠ a := fun z => e z.symm
      simp [e, e']
theorem flat_ints : ∀ acc : List Int, (acc.map V.int).all flatV = true
  | [] => rfl
  | _ :: r => flat_ints r
theorem unkNum_two {x y : PyData} {r : List PyData} : unkNum (.tuple (x :: y :: r)) = none := by
  cases x <;> rfl
theorem stepU_some {acc : List Int} {u : Th} {j : Int} (h : unkNum u.toD = some j) : stepU acc u = addU acc j := by
  unfold stepU
  rw [h]
end


/-! ### putting a part into a term -/
def Th.At : Th → List Int → Prop
  | _, [] => True
  | .pr a b, k :: r => (k = 0 ∧ a.At r) ∨ (k = 1 ∧ b.At r)
  | .lf _, _ :: _ => False
def Th.put : Th → List Int → Th → Th
  | _, [], u => u
  | .pr a b, k :: r, u => if k = 0 then .pr (a.put r u) b else .pr a (b.put r u)
  | .lf d, _ :: _, _ => .lf d
theorem Th.put_nil (t u : Th) : t.put [] u = u := by
  cases t <;> rfl
theorem Th.pls_at : ∀ (t : Th) (pl : List Int) (p : List Int × Th), p ∈ t.pls pl → ∃ r, p.1 = pl ++ r ∧ t.At r ∧ r.length ≤ t.deep
  | .lf d, pl, p, h => by
    rw [List.mem_singleton.mp h]
    exact ⟨[], (List.append_nil _).symm, trivial, Nat.zero_le _⟩
  | .pr a b, pl, p, h => by
    rcases List.mem_cons.mp h with e | h
    · rw [e]
      exact ⟨[], (List.append_nil _).symm, trivial, Nat.zero_le _⟩
    · rcases List.mem_append.mp h with h | h
      · obtain ⟨r, e, ha, hl⟩ := pls_at a _ p h
        refine ⟨0 :: r, ?_, .inl ⟨rfl, ha⟩, ?_⟩
        · rw [e, List.append_assoc]
          rfl
        · show r.length + 1 ≤ 1 + max a.deep b.deep
          omega
      · obtain ⟨r, e, ha, hl⟩ := pls_at b _ p h
        refine ⟨1 :: r, ?_, .inr ⟨rfl, ha⟩, ?_⟩
        · rw [e, List.append_assoc]
          rfl
        · show r.length + 1 ≤ 1 + max a.deep b.deep
          omega
theorem bulk2 (x y : PyData) : (PyData.tuple [x, y]).bulk = x.bulk + y.bulk + 2 := by
  show x.bulk + 1 + (y.bulk + 1 + 0) = _
  omega
theorem depth2 (x y : PyData) : (PyData.tuple [x, y]).depth = max x.depth y.depth + 1 := by
  show max x.depth (max y.depth 0) + 1 = _
  omega
/-- what putting a bad part in does -/
theorem Th.put_facts : ∀ (t : Th) (r : List Int) (u : Th), t.At r → t.nf → fine t.toD = true → u.nf → fine u.toD = true → u.okL = false →
    (t.put r u).nf ∧ fine (t.put r u).toD = true ∧ (t.put r u).okL = false ∧ (t.put r u).toD.bulk ≤ t.toD.bulk + u.toD.bulk ∧ (t.put r u).toD.depth ≤ t.toD.depth + u.toD.depth
  | t, [], u, _, _, _, hn, hf, hk => by
    rw [Th.put_nil]
    exact ⟨hn, hf, hk, by omega, by omega⟩
  | .lf _, _ :: _, _, h, _, _, _, _, _ => h.elim
  | .pr a b, k :: r, u, h, hn, hf, un, uf, uk => by
    obtain ⟨fa, fb⟩ := Th.fine_pr hf
    have eb : (Th.pr a b).toD.bulk = a.toD.bulk + b.toD.bulk + 2 := bulk2 _ _
    have ed : (Th.pr a b).toD.depth = max a.toD.depth b.toD.depth + 1 := depth2 _ _
    rcases h with ⟨rfl, h⟩ | ⟨rfl, h⟩
    · obtain ⟨h1, h2, h3, h4, h5⟩ := put_facts a r u h hn.1 fa un uf uk
      show (Th.pr (a.put r u) b).nf ∧ _
      refine ⟨⟨h1, hn.2⟩, ?_, ?_, ?_, ?_⟩
      · show (fine (a.put r u).toD && (fine b.toD && true)) = true
        rw [h2, fb]
        rfl
      · show ((a.put r u).okL && b.okL) = false
        rw [h3]
        rfl
      · have e : (Th.pr (a.put r u) b).toD.bulk = (a.put r u).toD.bulk + b.toD.bulk + 2 := bulk2 _ _
        rw [eb]
        show (Th.pr (a.put r u) b).toD.bulk ≤ _
        omega
      · have e : (Th.pr (a.put r u) b).toD.depth = max (a.put r u).toD.depth b.toD.depth + 1 := depth2 _ _
        rw [ed]
        show (Th.pr (a.put r u) b).toD.depth ≤ _
        omega
    · obtain ⟨h1, h2, h3, h4, h5⟩ := put_facts b r u h hn.2 fb un uf uk
      show (Th.pr a (b.put r u)).nf ∧ _
      refine ⟨⟨hn.1, h1⟩, ?_, ?_, ?_, ?_⟩
      · show (fine a.toD && (fine (b.put r u).toD && true)) = true
        rw [h2, fa]
        rfl
      · show (a.okL && (b.put r u).okL) = false
        rw [h3, Bool.and_false]
      · have e : (Th.pr a (b.put r u)).toD.bulk = a.toD.bulk + (b.put r u).toD.bulk + 2 := bulk2 _ _
        rw [eb]
        show (Th.pr a (b.put r u)).toD.bulk ≤ _
        omega
      · have e : (Th.pr a (b.put r u)).toD.depth = max a.toD.depth (b.put r u).toD.depth + 1 := depth2 _ _
        rw [ed]
        show (Th.pr a (b.put r u)).toD.depth ≤ _
        omega
section
variable {P : Program} {w : World} {K : PySem.W.Frag} {mg : Str → Option Value} {base : Heap}
theorem dpInts {H : Hp} : ∀ l : List Int, DpAll K H (l.map V.int) (l.map PyData.int)
  | [] => .nil
  | i :: r => .cons (.int i) (dpInts r)
theorem layInts : ∀ l : List Int, PyData.canLayAll0 (l.map PyData.int) = true
  | [] => rfl
  | _ :: r => layInts r
theorem depthInts : ∀ l : List Int, PyData.depthAll (l.map PyData.int) = 0
  | [] => rfl
  | _ :: r => by
    show max 0 (PyData.depthAll (r.map PyData.int)) = 0
    rw [depthInts r]
    rfl
theorem shapedInts (l : List Int) : SeqAt.shaped (.tuple (l.map PyData.int)) = true := by
  show (PyData.canLayAll0 (l.map PyData.int) && decide (PyData.depthAll (l.map PyData.int) + 1 ≤ 64)) = true
  rw [layInts, depthInts]
  rfl
theorem shapedIntsL (l : List Int) : SeqAt.shaped (.list (l.map PyData.int)) = true := by
  show (PyData.canLayAll0 (l.map PyData.int) && decide (PyData.depthAll (l.map PyData.int) + 1 ≤ 64)) = true
  rw [layInts, depthInts]
  rfl
theorem eq_unit {H : Hp} {b q : Addr} {pl : List Int} {Q : VK} (hb : SqT K H b (pl.map V.int)) (hq : SqT K H q []) (h : Q (.bl pl.isEmpty) H) : rEqD K (.ref b) (.ref q) H Q := by
  refine ⟨.tuple (pl.map .int), .tuple [], .tup hb (dpInts pl), .tup hq .nil, shapedInts pl, rfl, ?_⟩
  cases pl <;> exact h
theorem cut_one {x : V} {xs : List V} : cutV (x :: xs) (some 1) none = xs := by
  have e : HT.sIx (x :: xs).length 0 (some 1) = 1 := by
    show min 1 (xs.length + 1) = 1
    omega
  have e2 : HT.sIx (x :: xs).length (x :: xs).length none = xs.length + 1 := rfl
  unfold cutV
  rw [e, e2]
  show xs.take xs.length = xs
  exact List.take_length
theorem no_cut {k : Int} {r : List Int} : ¬ (HT.sIx ((k :: r).map V.int).length 0 (some 1) = 0 ∧ HT.sIx ((k :: r).map V.int).length ((k :: r).map V.int).length none = ((k :: r).map V.int).length) := fun e => by
  have e1 : min 1 ((r.map V.int).length + 1) = 0 := e.1
  omega
theorem cut_int {H : Hp} {b : Addr} {k : Int} {r : List Int} (h : H b = some (.tup (cutV ((k :: r).map V.int) (some 1) none))) : SqT K H b (r.map V.int) := by
  refine SqT.of (h.trans ?_)
  exact congrArg (fun z => some (HO.tup z)) cut_one
def sp_l_put (K : PySem.W.Frag) (n : Nat) : Sp := fun vs H Q _ => ∃ (x : V) (t : Th) (b : Addr) (pl : List Int) (y : V) (u : Th), vs = [x, .ref b, y] ∧ Dq K H x t.toD ∧ SqT K H b (pl.map V.int) ∧ Dq K H y u.toD ∧ t.At pl ∧ pl.length < n ∧
  ∀ v H', Same H H' → Dq K H' v (t.put pl u).toD → Q v H'
theorem ok_l_put (T : Env K mg) : ∀ n : Nat, FnOk P w K mg base CX0 (n + 1) T.a_l_put T.d_l_put ["_law_term_here","_law_place","_law_part"] (sp_l_put K n)
  | 0 => by
    have no : ∀ vs H Q E, ¬ sp_l_put K 0 vs H Q E := fun vs H Q E h => by
      obtain ⟨x, t, b, pl, y, u, _, _, _, _, _, h1, _⟩ := h
      omega
    exact ⟨fun vs H Q E h => absurd h (no vs H Q E), fun A outer s H args us vs Q E _ _ _ _ h => absurd h (no vs H Q E)⟩
  | n + 1 => by
    have G_l_put : FnOk P w K mg base CX0 (n + 1) T.a_l_put T.d_l_put ["_law_term_here","_law_place","_law_part"] (sp_l_put K n) := ok_l_put T n
    refine T.F_l_put.ok sc_l_put (fun vs H Q E h => ?_) (fun cdv A outer s H vs Q E hr h => ?_)
    · obtain ⟨x, t, b, pl, y, u, rfl, _⟩ := h
      rfl
    · obtain ⟨x, t, b, pl, y, u, rfl, hd, hb, hy, hat, hpl, q⟩ := h
      have hr_l_put := hr
      refine ⟨_, (pss_cons (ps_if (pt_cmpR (op_eqD hr.units) (pv 1) (pe_tup pa_nil) (nomark _)) (pss_one (ps_ret (pv 2))) pss_nil)
      (pss_cons (ps_if (pt_cmpR op_eq (pe_ix ix_tup (pv 1) pe_int (fun _ _ => rfl)) pe_int (nomark _)) (pss_one (ps_ret (pe_tup (pa_cons (pe_call G_l_put hr_l_put (by rfl) T.g_l_put T.F_l_put.kp T.b_l_put .nil pass0 (pa_cons (pe_ix ix_tup (pv 0) pe_int (fun _ _ => rfl)) (pa_cons (pe_slice sl_tupA (pv 1) (po_some pe_int) po_none) (pa_cons (pv 2) pa_nil)))) (pa_cons (pe_ix ix_tup (pv 0) pe_int (fun _ _ => rfl)) pa_nil))))) pss_nil)
      (pss_one (ps_ret (pe_tup (pa_cons (pe_ix ix_tup (pv 0) pe_int (fun _ _ => rfl)) (pa_cons (pe_call G_l_put hr_l_put (by rfl) T.g_l_put T.F_l_put.kp T.b_l_put .nil pass0 (pa_cons (pe_ix ix_tup (pv 0) pe_int (fun _ _ => rfl)) (pa_cons (pe_slice sl_tupA (pv 1) (po_some pe_int) po_none) (pa_cons (pv 2) pa_nil)))) pa_nil))))))), ?_⟩
      refine ⟨_, rfl, Nat.zero_le _, fun e he => ?_⟩
      have s_H1 : Same H (upd H e (.tup [])) := same_upd he
      have g_H1 : (upd H e (.tup [])) e = some (.tup []) := upd_same
      generalize upd H e (.tup []) = H1 at s_H1 g_H1 ⊢
      refine eq_unit (seqT s_H1 hb) (SqT.of g_H1) ?_
      cases pl with
      | nil =>
        refine ⟨true, rfl, _, rfl, ?_⟩
        have q := q y H1 s_H1
        rw [Th.put_nil] at q
        exact q (hy.same s_H1)
      | cons k r =>
        refine ⟨false, rfl, ?_⟩
        have hb1 := seqT s_H1 hb
        cases t with
        | lf d => exact hat.elim
        | pr a c =>
          obtain ⟨pa, y0, y1, rfl, hs, h0, h1⟩ := (hd.same s_H1).pr
          have hpl : r.length + 1 < n + 1 := hpl
          rcases hat with ⟨rfl, hat⟩ | ⟨rfl, hat⟩
          · refine ⟨_, rfl, b, _, 0, _, rfl, rfl, hb1, atI_nat (j := 0) rfl, rfl, true, rfl, ?_⟩
            refine ⟨_, rfl, pa, _, 0, y0, rfl, rfl, hs, atI_nat (j := 0) rfl, _, rfl, 1, rfl, b, _, rfl, hb1, (fun e => absurd e no_cut), fun _ b2 hz2 => ?_⟩
            have s_H2 : Same H1 (upd H1 b2 (.tup (cutV ((0 :: r).map V.int) (some 1) none))) := same_upd hz2
            have g_H2 : (upd H1 b2 (.tup (cutV ((0 :: r).map V.int) (some 1) none))) b2 = some (.tup (cutV ((0 :: r).map V.int) (some 1) none)) := upd_same
            generalize upd H1 b2 (.tup (cutV ((0 :: r).map V.int) (some 1) none)) = H2 at s_H2 g_H2 ⊢
            have s2 := s_H2
            have hb2 := cut_int (K := K) g_H2
            refine ⟨_, rfl, y0, a, b2, r, y, u, rfl, h0.same s2, hb2, hy.same (s_H1.trans s2), hat, by omega, fun v H3 s3 hv => ?_⟩
            refine ⟨_, rfl, pa, _, 1, y1, rfl, rfl, seqT (s2.trans s3) hs, atI_nat (j := 1) rfl, (by show 2 ≤ sizeLine; decide), fun z hz => ?_⟩
            have s_H4 : Same H3 (upd H3 z (.tup [v, y1])) := same_upd hz
            have g_H4 : (upd H3 z (.tup [v, y1])) z = some (.tup [v, y1]) := upd_same
            generalize upd H3 z (.tup [v, y1]) = H4 at s_H4 g_H4 ⊢
            exact q _ H4 (s_H1.trans (s2.trans (s3.trans s_H4))) (.tup (SqT.of g_H4) (.cons (hv.same s_H4) (.cons (h1.same (s2.trans (s3.trans s_H4))) .nil)))
          · refine ⟨_, rfl, b, _, 0, _, rfl, rfl, hb1, atI_nat (j := 0) rfl, rfl, false, rfl, ?_⟩
            refine ⟨_, rfl, pa, _, 0, y0, rfl, rfl, hs, atI_nat (j := 0) rfl, _, rfl, pa, _, 1, y1, rfl, rfl, hs, atI_nat (j := 1) rfl, _, rfl, 1, rfl, b, _, rfl, hb1, (fun e => absurd e no_cut), fun _ b2 hz2 => ?_⟩
            have s_H2 : Same H1 (upd H1 b2 (.tup (cutV ((1 :: r).map V.int) (some 1) none))) := same_upd hz2
            have g_H2 : (upd H1 b2 (.tup (cutV ((1 :: r).map V.int) (some 1) none))) b2 = some (.tup (cutV ((1 :: r).map V.int) (some 1) none)) := upd_same
            generalize upd H1 b2 (.tup (cutV ((1 :: r).map V.int) (some 1) none)) = H2 at s_H2 g_H2 ⊢
            have s2 := s_H2
            have hb2 := cut_int (K := K) g_H2
            refine ⟨_, rfl, y1, c, b2, r, y, u, rfl, h1.same s2, hb2, hy.same (s_H1.trans s2), hat, by omega, fun v H3 s3 hv => ?_⟩
            refine ⟨(by show 2 ≤ sizeLine; decide), fun z hz => ?_⟩
            have s_H4 : Same H3 (upd H3 z (.tup [y0, v])) := same_upd hz
            have g_H4 : (upd H3 z (.tup [y0, v])) z = some (.tup [y0, v]) := upd_same
            generalize upd H3 z (.tup [y0, v]) = H4 at s_H4 g_H4 ⊢
            exact q _ H4 (s_H1.trans (s2.trans (s3.trans s_H4))) (.tup (SqT.of g_H4) (.cons (h0.same (s2.trans (s3.trans s_H4))) (.cons (hv.same s_H4) .nil)))
end


/-! ### bad things -/
def isTrip : List PyData → Bool
  | [.int _, .int _, .int _] => true
  | _ => false
mutual
/-- no list of three numbers in it -/
def noTrip : PyData → Bool
  | .none | .bool _ | .int _ | .str _ | .dict _ => true
  | .list ds => !isTrip ds && noTripAll ds
  | .tuple ds => noTripAll ds
def noTripAll : List PyData → Bool
  | [] => true
  | d :: ds => noTrip d && noTripAll ds
end
section
variable {K : PySem.W.Frag} {H H' : Hp} {p : Addr}
theorem ints3 {x y z : Int} {ds : List PyData} (h : DqAll K H [.int x, .int y, .int z] ds) : isTrip ds = true := by
  cases h with
  | cons h1 h =>
    cases h with
    | cons h2 h =>
      cases h with
      | cons h3 h =>
        cases h
        cases h1
        cases h2
        cases h3
        rfl
mutual
theorem Dq.off (hp : Pu H p) (o : Off p H H') : ∀ (d : PyData) (v : V), noTrip d = true → Dq K H v d → Dq K H' v d
  | .none, _, _, h => by
    cases h
    exact .non
  | .bool b, _, _, h => by
    cases h
    exact .bl b
  | .int i, _, _, h => by
    cases h
    exact .int i
  | .str i, _, _, h => by
    cases h
    exact .str i
  | .list ds, _, e, h => by
    obtain ⟨e1, e2⟩ := Bool.and_eq_true_iff.mp (show (!isTrip ds && noTripAll ds) = true from e)
    cases h with
    | @lst a xs _ hq r =>
      refine .lst ?_ (DqAll.off hp o ds _ e2 r)
      obtain ⟨x, y, z, hp⟩ := hp
      rcases hq with (h | ⟨ob, h⟩) | h
      · refine .inl (.inl (o _ _ ?_ h))
        rintro rfl
        rw [hp] at h
        cases h
        rw [ints3 r] at e1
        cases e1
      · refine .inl (.inr ⟨ob, o _ _ ?_ h⟩)
        rintro rfl
        rw [hp] at h
        cases h
      · exact .inr h
  | .dict kvs, _, e, h => by
    cases h with
    | @dct a h =>
      obtain ⟨x, y, z, hp⟩ := hp
      refine .dct (o _ _ ?_ h)
      rintro rfl
      rw [hp] at h
      cases h
  | .tuple ds, _, e, h => by
    cases h with
    | tup h r => exact .tup (hp.tups o _ _ h) (DqAll.off hp o ds _ e r)
theorem DqAll.off (hp : Pu H p) (o : Off p H H') : ∀ (ds : List PyData) (vs : List V), noTripAll ds = true → DqAll K H vs ds → DqAll K H' vs ds
  | [], _, _, h => by
    cases h
    exact .nil
  | d :: ds, _, e, h => by
    cases h with
    | cons h r => exact .cons (Dq.off hp o d _ (Bool.and_eq_true_iff.mp e).1 h) (DqAll.off hp o ds _ (Bool.and_eq_true_iff.mp e).2 r)
end
/-- a bad thing of no great size -/
def BadV (K : PySem.W.Frag) (H : Hp) (v : V) : Prop := ∃ u : Th, Dq K H v u.toD ∧ u.nf ∧ u.okL = false ∧ fine u.toD = true ∧ noTrip u.toD = true ∧ u.toD.bulk ≤ 20 ∧ u.toD.depth ≤ 3
theorem badLf {v : V} (d : PyData) (h : Dq K H v d) (h1 : isPairD d = false) (h2 : singleD d = false) (h3 : fine d = true) (h4 : noTrip d = true) (h5 : d.bulk ≤ 20) (h6 : d.depth ≤ 3) : BadV K H v := ⟨.lf d, h, h1, h2, h3, h4, h5, h6⟩
theorem badPr {v : V} (d e : PyData) (h : Dq K H v (.tuple [d, e])) (h1 : isPairD d = false) (h1' : isPairD e = false) (h2 : (singleD d && singleD e) = false) (h3 : fine (.tuple [d, e]) = true) (h4 : noTrip (.tuple [d, e]) = true) (h5 : (PyData.tuple [d, e]).bulk ≤ 20) (h6 : (PyData.tuple [d, e]).depth ≤ 3) : BadV K H v :=
  ⟨.pr (.lf d) (.lf e), h, ⟨h1, h1'⟩, h2, h3, h4, h5, h6⟩
theorem fine_int {i : Int} (h : i.natAbs < 2 ^ 128) : fine (.int i) = true := decide_eq_true (Nat.lt_of_lt_of_le h (Nat.pow_le_pow_right (by decide) (by decide)))
theorem fine_int1 {i : Int} (h : i.natAbs < 2 ^ 128) : fine (.tuple [.int i]) = true := by
  show (fine (.int i) && true) = true
  rw [fine_int h]
  rfl
end
/-! ### sizes of good terms -/
theorem single_bulk {d : PyData} (h : singleD d = true) : d.bulk ≤ 8 ∧ d.depth ≤ 1 := by
  rcases single_cases h with ⟨z, rfl⟩ | ⟨j, rfl⟩ | ⟨j, rfl, hj⟩
  · refine ⟨?_, Nat.zero_le _⟩
    have h : (isName z || (false || false)) = true := h
    rw [Bool.or_false, Bool.or_false] at h
    unfold isName at h
    have h2 := of_decide_eq_true (Bool.and_eq_true_iff.mp (Bool.and_eq_true_iff.mp h).2).1
    show z.cps.size ≤ 8
    have e : z.length = z.cps.size := rfl
    omega
  · exact ⟨Nat.zero_le _, Nat.zero_le _⟩
  · exact ⟨by show 0 + 1 + 0 ≤ 8; omega, by show max 0 0 + 1 ≤ 1; omega⟩
theorem Th.ok_bulk {t : Th} (h : t.okL = true) : t.toD.bulk ≤ 10 * t.parts ∧ t.toD.depth ≤ t.deep := by
  induction t with
  | lf d =>
    obtain ⟨h1, h2⟩ := single_bulk h
    exact ⟨by show d.bulk ≤ 10 * 1; omega, h2⟩
  | pr a b iha ihb =>
    obtain ⟨h1, h2⟩ := Bool.and_eq_true_iff.mp (show (a.okL && b.okL) = true from h)
    obtain ⟨a1, a2⟩ := iha h1
    obtain ⟨b1, b2⟩ := ihb h2
    have eb : (Th.pr a b).toD.bulk = a.toD.bulk + b.toD.bulk + 2 := bulk2 _ _
    have ed : (Th.pr a b).toD.depth = max a.toD.depth b.toD.depth + 1 := depth2 _ _
    rw [eb, ed]
    refine ⟨?_, ?_⟩
    · show _ ≤ 10 * (1 + a.parts + b.parts)
      omega
    · show _ ≤ 1 + max a.deep b.deep
      omega
/-- a thing that is no term, of no great size -/
def NoT (u : Th) : Prop := OkTh u ∧ u.isTerm = false ∧ u.toD.bulk ≤ 2000 ∧ u.toD.depth ≤ 98

/-! ### how bad things are shown -/
mutual
theorem fine_show : ∀ d : PyData, fine d = true → d.showable = true ∧ d.leavesShort 1001 = true
  | .none, _ => ⟨rfl, rfl⟩
  | .bool _, _ => ⟨rfl, rfl⟩
  | .int i, h => by
    have h : i.natAbs < 2 ^ 1000 := of_decide_eq_true h
    refine ⟨decide_eq_true ?_, decide_eq_true ?_⟩
    · by_cases h0 : i.natAbs = 0
      · rw [h0]
        decide
      · exact Nat.lt_trans ((Nat.log2_lt h0).mpr h) (by decide)
    · show (Str.ofString (toString i)).length ≤ 1001
      rw [PySem.ofString_length]
      exact int_text_length_le10 (k := 1000) (by decide) (Nat.lt_of_lt_of_le h (Nat.pow_le_pow_left (show 2 ≤ 10 by decide) 1000))
  | .str x, h => by
    refine ⟨rfl, ?_⟩
    have h2 := (Bool.and_eq_true_iff.mp (show (decide (x.length ≤ 1000) && x.cps.toList.all (fun c => decide (c < 1114112))) = true from h)).2
    show (x.cps.toList.all fun c => decide (c < 16 ^ 8)) = true
    rw [List.all_eq_true] at h2 ⊢
    exact fun c hc => decide_eq_true (Nat.lt_trans (of_decide_eq_true (h2 c hc)) (by decide))
  | .list ds, h => fine_showAll ds h
  | .tuple ds, h => fine_showAll ds h
  | .dict kvs, h => by
    cases kvs with
    | nil => exact ⟨rfl, rfl⟩
    | cons a b => exact no_ft h
theorem fine_showAll : ∀ ds : List PyData, fineAll ds = true → PyData.showableAll ds = true ∧ PyData.leavesShortAll 1001 ds = true
  | [], _ => ⟨rfl, rfl⟩
  | d :: ds, h => by
    obtain ⟨h1, h2⟩ := Bool.and_eq_true_iff.mp (show (fine d && fineAll ds) = true from h)
    obtain ⟨a1, a2⟩ := fine_show d h1
    obtain ⟨b1, b2⟩ := fine_showAll ds h2
    exact ⟨Bool.and_eq_true_iff.mpr ⟨a1, b1⟩, Bool.and_eq_true_iff.mpr ⟨a2, b2⟩⟩
end
theorem show3 {u : Th} (h : NoT u) : PyData.showable (.list [.bool false, .bool true, u.toD]) = true ∧ (PyData.shown (.list [.bool false, .bool true, u.toD])).length ≤ sizeLine ∧ PyData.depth (.list [.bool false, .bool true, u.toD]) ≤ 190 := by
  obtain ⟨⟨_, hf⟩, _, hb, hd⟩ := h
  obtain ⟨h1, h2⟩ := fine_show _ hf
  refine ⟨?_, ?_, ?_⟩
  · show (true && (true && (u.toD.showable && true))) = true
    rw [h1]
    rfl
  · have hl : PyData.leavesShort 1001 (.list [.bool false, .bool true, u.toD]) = true := by
      show (true && (true && (u.toD.leavesShort 1001 && true))) = true
      rw [h2]
      rfl
    have k := PyData.shown_le_bulk 1001 (by decide) _ hl
    have e : (PyData.list [.bool false, .bool true, u.toD]).bulk = u.toD.bulk + 3 := by
      show 0 + 1 + (0 + 1 + (u.toD.bulk + 1 + 0)) = _
      omega
    rw [e] at k
    rw [sizeLine_eq]
    omega
  · show max 0 (max 0 (max u.toD.depth 0)) + 1 ≤ 190
    omega
theorem kit2 {K : PySem.W.Frag} {t c d : Value} (h1 : PySem.W.kitOne K t c = some false) (h2 : PySem.W.kitOne K t d = some false) : PySem.W.kitAny K t [c, d] = some false := by
  unfold PySem.W.kitAny
  rw [h1]
  show PySem.W.kitAny K t [d] = _
  unfold PySem.W.kitAny
  rw [h2]
  rfl


/-! ### places walked -/
def stepOf : PyData → Option Bool
  | .int i => if i = 0 then some false else if i = 1 then some true else none
  | _ => none
def Th.walk : Th → List PyData → Option Th
  | t, [] => some t
  | .pr a b, d :: r => match stepOf d with
    | some false => a.walk r
    | some true => b.walk r
    | none => none
  | .lf _, _ :: _ => none
def placeOf (t : Th) : PyData → Option Th
  | .tuple ds => t.walk ds
  | _ => none
theorem Th.walk_nil (t : Th) : t.walk [] = some t := by
  cases t <;> rfl
theorem Th.walk_no {t : Th} {d : PyData} {r : List PyData} (h : stepOf d = none) : t.walk (d :: r) = none := by
  cases t with
  | lf _ => rfl
  | pr a b =>
    show (match stepOf d with | some false => a.walk r | some true => b.walk r | none => none) = none
    rw [h]
theorem step_within {d : PyData} : withinD d 0 1 = (stepOf d).isSome := by
  cases d with
  | int i =>
    show (decide (0 ≤ i) && decide (i ≤ 1)) = (if i = 0 then some false else if i = 1 then some true else none).isSome
    by_cases h0 : i = 0
    · subst h0
      rfl
    · by_cases h1 : i = 1
      · subst h1
        rfl
      · rw [if_neg h0, if_neg h1]
        by_cases h2 : 0 ≤ i
        · rw [decide_eq_true h2, decide_eq_false (by omega)]
          rfl
        · rw [decide_eq_false h2]
          rfl
  | _ => rfl
theorem step_some {d : PyData} {b : Bool} (h : stepOf d = some b) : d = .int (if b then 1 else 0) := by
  cases d with
  | int i =>
    have h : (if i = 0 then some false else if i = 1 then some true else none) = some b := h
    by_cases h0 : i = 0
    · rw [if_pos h0] at h
      cases h
      rw [h0]
      rfl
    · rw [if_neg h0] at h
      by_cases h1 : i = 1
      · rw [if_pos h1] at h
        cases h
        rw [h1]
        rfl
      · rw [if_neg h1] at h
        cases h
  | _ => cases h
theorem Th.walk_pr {a b : Th} {d : PyData} {r : List PyData} {k : Bool} (h : stepOf d = some k) : (Th.pr a b).walk (d :: r) = if k then b.walk r else a.walk r := by
  show (match stepOf d with | some false => a.walk r | some true => b.walk r | none => none) = _
  rw [h]
  cases k <;> rfl
theorem Th.walk_some : ∀ (t : Th) (ds : List PyData) (o : Th), t.walk ds = some o → ∃ pl : List Int, ds = pl.map .int ∧ t.At pl ∧ pl.length < t.deep ∧ o ∈ t.pre
  | t, [], o, h => by
    rw [Th.walk_nil] at h
    cases h
    refine ⟨[], rfl, ?_, t.deep_pos, ?_⟩
    · cases t <;> trivial
    · cases t <;> exact List.mem_cons_self
  | .lf _, _ :: _, _, h => by cases h
  | .pr a b, d :: r, o, h => by
    cases e : stepOf d with
    | none =>
      rw [Th.walk_no e] at h
      cases h
    | some k =>
      rw [Th.walk_pr e] at h
      have ed := step_some e
      cases k with
      | false =>
        obtain ⟨pl, h1, h2, h3, h4⟩ := walk_some a r o h
        refine ⟨0 :: pl, ?_, .inl ⟨rfl, h2⟩, ?_, List.mem_cons_of_mem _ (List.mem_append_left _ h4)⟩
        · rw [ed, h1]
          rfl
        · show pl.length + 1 < 1 + max a.deep b.deep
          omega
      | true =>
        obtain ⟨pl, h1, h2, h3, h4⟩ := walk_some b r o h
        refine ⟨1 :: pl, ?_, .inr ⟨rfl, h2⟩, ?_, List.mem_cons_of_mem _ (List.mem_append_right _ h4)⟩
        · rw [ed, h1]
          rfl
        · show pl.length + 1 < 1 + max a.deep b.deep
          omega
theorem Th.walk_app : ∀ (t : Th) (ds es : List PyData), t.walk (ds ++ es) = (t.walk ds).bind (fun u => u.walk es)
  | t, [], es => by
    rw [Th.walk_nil]
    rfl
  | .lf _, _ :: _, _ => rfl
  | .pr a b, d :: r, es => by
    show (Th.pr a b).walk (d :: (r ++ es)) = _
    cases e : stepOf d with
    | none =>
      rw [Th.walk_no e, Th.walk_no e]
      rfl
    | some k =>
      rw [Th.walk_pr e, Th.walk_pr e]
      cases k with
      | false => exact walk_app a r es
      | true => exact walk_app b r es
theorem Th.pls_walk : ∀ (t : Th) (pl : List Int) (p : List Int × Th), p ∈ t.pls pl → ∃ r, p.1 = pl ++ r ∧ t.walk (r.map .int) = some p.2
  | .lf d, pl, p, h => by
    rw [List.mem_singleton.mp h]
    exact ⟨[], (List.append_nil _).symm, rfl⟩
  | .pr a b, pl, p, h => by
    rcases List.mem_cons.mp h with e | h
    · rw [e]
      exact ⟨[], (List.append_nil _).symm, rfl⟩
    · rcases List.mem_append.mp h with h | h
      · obtain ⟨r, e, ha⟩ := pls_walk a _ p h
        refine ⟨0 :: r, ?_, ha⟩
        rw [e, List.append_assoc]
        rfl
      · obtain ⟨r, e, ha⟩ := pls_walk b _ p h
        refine ⟨1 :: r, ?_, ha⟩
        rw [e, List.append_assoc]
        rfl
theorem Th.put_parts : ∀ (t : Th) (pl : List Int) (u o : Th), t.walk (pl.map .int) = some o → (t.put pl u).parts + o.parts = t.parts + u.parts
  | t, [], u, o, h => by
    rw [List.map_nil, Th.walk_nil] at h
    cases h
    rw [Th.put_nil]
    omega
  | .lf _, _ :: _, _, _, h => by cases h
  | .pr a b, k :: r, u, o, h => by
    have h : (Th.pr a b).walk (.int k :: r.map .int) = some o := h
    cases e : stepOf (.int k) with
    | none =>
      rw [Th.walk_no e] at h
      cases h
    | some c =>
      rw [Th.walk_pr e] at h
      have ek := PyData.int.inj (step_some e)
      cases c with
      | false =>
        have ih := put_parts a r u o h
        have e2 : (Th.pr a b).put (k :: r) u = .pr (a.put r u) b := if_pos ek
        rw [e2]
        show 1 + (a.put r u).parts + b.parts + o.parts = 1 + a.parts + b.parts + u.parts
        omega
      | true =>
        have ih := put_parts b r u o h
        have e2 : (Th.pr a b).put (k :: r) u = .pr a (b.put r u) := if_neg (by rw [ek]; decide)
        rw [e2]
        show 1 + a.parts + (b.put r u).parts + o.parts = 1 + a.parts + b.parts + u.parts
        omega
theorem Th.put_good : ∀ (t : Th) (r : List Int) (u : Th), t.At r → t.nf → fine t.toD = true → u.nf → fine u.toD = true →
    (t.put r u).nf ∧ fine (t.put r u).toD = true ∧ (t.put r u).toD.bulk ≤ t.toD.bulk + u.toD.bulk ∧ (t.put r u).toD.depth ≤ t.toD.depth + u.toD.depth
  | t, [], u, _, _, _, hn, hf => by
    rw [Th.put_nil]
    exact ⟨hn, hf, by omega, by omega⟩
  | .lf _, _ :: _, _, h, _, _, _, _ => h.elim
  | .pr a b, k :: r, u, h, hn, hf, un, uf => by
    obtain ⟨fa, fb⟩ := Th.fine_pr hf
    have eb : (Th.pr a b).toD.bulk = a.toD.bulk + b.toD.bulk + 2 := bulk2 _ _
    have ed : (Th.pr a b).toD.depth = max a.toD.depth b.toD.depth + 1 := depth2 _ _
    rcases h with ⟨rfl, h⟩ | ⟨rfl, h⟩
    · obtain ⟨h1, h2, h4, h5⟩ := put_good a r u h hn.1 fa un uf
      show (Th.pr (a.put r u) b).nf ∧ _
      refine ⟨⟨h1, hn.2⟩, ?_, ?_, ?_⟩
      · show (fine (a.put r u).toD && (fine b.toD && true)) = true
        rw [h2, fb]
        rfl
      · have e : (Th.pr (a.put r u) b).toD.bulk = (a.put r u).toD.bulk + b.toD.bulk + 2 := bulk2 _ _
        rw [eb]
        show (Th.pr (a.put r u) b).toD.bulk ≤ _
        omega
      · have e : (Th.pr (a.put r u) b).toD.depth = max (a.put r u).toD.depth b.toD.depth + 1 := depth2 _ _
        rw [ed]
        show (Th.pr (a.put r u) b).toD.depth ≤ _
        omega
    · obtain ⟨h1, h2, h4, h5⟩ := put_good b r u h hn.2 fb un uf
      show (Th.pr a (b.put r u)).nf ∧ _
      refine ⟨⟨hn.1, h1⟩, ?_, ?_, ?_⟩
      · show (fine a.toD && (fine (b.put r u).toD && true)) = true
        rw [h2, fa]
        rfl
      · have e : (Th.pr a (b.put r u)).toD.bulk = a.toD.bulk + (b.put r u).toD.bulk + 2 := bulk2 _ _
        rw [eb]
        show (Th.pr a (b.put r u)).toD.bulk ≤ _
        omega
      · have e : (Th.pr a (b.put r u)).toD.depth = max a.toD.depth (b.put r u).toD.depth + 1 := depth2 _ _
        rw [ed]
        show (Th.pr a (b.put r u)).toD.depth ≤ _
        omega
section
variable {P : Program} {w : World} {K : PySem.W.Frag} {mg : Str → Option Value} {base : Heap}
theorem DqAll.ints {H : Hp} : ∀ (pl : List Int) (xs : List V), DqAll K H xs (pl.map .int) → xs = pl.map V.int
  | [], _, h => by
    cases h
    rfl
  | i :: r, _, h => by
    cases h with
    | cons h1 h2 =>
      cases h1
      rw [DqAll.ints r _ h2]
      rfl
theorem dqInts {H : Hp} : ∀ l : List Int, DqAll K H (l.map V.int) (l.map PyData.int)
  | [] => .nil
  | i :: r => .cons (.int i) (dqInts r)
def sp_at_place (K : PySem.W.Frag) (CT CP : Addr) : Sp := fun vs H Q E => ∃ (x : V) (t : Th) (y : V) (d : PyData), vs = [x, y] ∧ Dq K H x t.toD ∧ OkTh t ∧ Dq K H y d ∧
  (t.isTerm = false → ∀ H' a, Same H H' → H' a = none → E (.ref CT) (some a) (upd H' a (.xd [("found", x)]))) ∧
  (t.isTerm = true → placeOf t d = none → ∀ H' a, Same H H' → H' a = none → E (.ref CP) (some a) (upd H' a (.xd [("found", y)]))) ∧
  (t.isTerm = true → ∀ o, placeOf t d = some o → ∀ v H', Same H H' → Dq K H v o.toD → Q v H')
theorem ok_at_place (T : Env K mg) : FnOk P w K mg base (L2.CX P w) 7 T.a_at_place T.d_at_place ["term", "place"] (sp_at_place K T.a_NoTerm T.a_NoPlace) := by
  have G_need_term : FnOk P w K mg base (L2.CX P w) 6 T.a_need_term T.d_need_term ["thing"] (sp_need_term K T.a_NoTerm) := ok_need_term T
  have G_is_within : FnOk P w K mg base CX0 6 T.a_is_within T.d_is_within ["thing", "low", "high"] (sp_is_within K) := (ok_is_within T).mono (by decide)
  have G_is_pair : FnOk P w K mg base CX0 6 T.a_is_pair T.d_is_pair ["term"] (sp_is_pair K) := (ok_is_pair T).mono (by decide)
  have G_NoPlace : FnOk P w K mg base CX0 5 T.i_NoPlace T.di_NoPlace ["self", "found"] (sp_init1 T.a_NoPlace "found") := (ok_NoPlace T).mono (by decide)
  refine T.F_at_place.okX sc_at_place (fun vs H Q E h => ?_) (fun cdv A outer s H vs Q E hr h => ?_)
  · obtain ⟨x, t, y, d, rfl, _⟩ := h
    rfl
  · obtain ⟨x, t, y, d, rfl, hd, ht, hy, qt, qp, q⟩ := h
    have hr_need_term := hr
    have hr_is_within := hr
    have hr_is_pair := hr
    refine ⟨_, (pss_cons (ps_expr (pe_callS G_need_term hr_need_term (by rfl) T.g_need_term T.F_need_term.kp T.b_need_term (fun σ => passAt (takes_of rfl rfl rfl rfl) σ) (pa_cons (pv 0) pa_nil)))
      (pss_cons (ps_if (pt_not (pt_val (pe_callB call_isi (by rfl) T.m_isinstance PyProof.Rows.boot_isinstance (pa_cons (pv 1) (pa_cons (pe_bltn (v := .ty "tuple") (by rfl) T.m_tuple PyProof.Rows.boot_tuple rfl) pa_nil))))) (pss_one (ps_raise (by rfl) (takes_of rfl rfl rfl rfl) (pmk_oex T.x_NoPlace T.ii_NoPlace T.ti_NoPlace G_NoPlace hr T.bi_NoPlace .nil pass0 (by rfl) T.g_NoPlace (pa_cons (pv 1) pa_nil)))) pss_nil)
      (pss_cons (ps_set (i := 2) sc_at_place.nd rfl (Or.inl rfl) (pv 0))
      (pss_cons (ps_for (passes_of rfl) (by rfl) (pi_tup (pv 1)) (pg_name (i := 3) sc_at_place.nd rfl (Or.inl rfl)) (pss_cons (ps_if (PW.pt (pw_or (pt_not (pt_val (pe_call G_is_within hr_is_within (by rfl) T.g_is_within T.F_is_within.kp T.b_is_within .nil pass0 (pa_cons (pv 3) (pa_cons pe_int (pa_cons pe_int pa_nil)))))) (pw_or1 (pt_not (pt_val (pe_call G_is_pair hr_is_pair (by rfl) T.g_is_pair T.F_is_pair.kp T.b_is_pair .nil pass0 (pa_cons (pv 2) pa_nil))))))) (pss_one (ps_raise (by rfl) (takes_of rfl rfl rfl rfl) (pmk_oex T.x_NoPlace T.ii_NoPlace T.ti_NoPlace G_NoPlace hr T.bi_NoPlace .nil pass0 (by rfl) T.g_NoPlace (pa_cons (pv 1) pa_nil)))) pss_nil)
      (pss_one (ps_set (i := 2) sc_at_place.nd rfl (Or.inl rfl) (pe_ix ix_tup (pv 2) (pv 3) (fun _ _ => rfl))))))
      (pss_one (ps_ret (pv 2))))))), ?_⟩
    refine ⟨_, rfl, x, t, rfl, hd, ht, fun e H1 s1 => ?_, qt⟩
    have qp := qp e
    have q := q e
    have hy1 := hy.same s1
    refine ⟨_, rfl, y, .ty "tuple", _, .type "tuple", _, rfl, .ty _, hy1.knd, kit_tup _, _, rfl, ?_⟩
    cases d with
    | tuple ds =>
      obtain ⟨b, xs, rfl, hs, hr'⟩ := Dq.tupOf (ds := ds) hy1
      refine ⟨_, rfl, ?_⟩
      refine ⟨_, rfl, b, rfl, ⟨_, hs⟩, for_tup (K := K) (a := b) (xs := xs) (fun i σ H' => ∃ (u : Th) (v : V) (z : Option V), σ = [some x, some (.ref b), some v, z] ∧ H' = H1 ∧ Dq K H v u.toD ∧ u.nf ∧ t.walk ds = u.walk (ds.drop i))
        ⟨t, x, none, rfl, rfl, hd, ht.1, rfl⟩ (fun i σ H' _ ⟨_, _, _, _, e, _⟩ => by rw [e]; exact hs) ?_ ?_⟩
      · rintro i sv σ H2 hi ⟨u, v, z, rfl, rfl, hv, hn, ew⟩
        obtain ⟨sd, hsd, hsv⟩ := hr'.get hi
        have ed : ds.drop i = sd :: ds.drop (i + 1) := by
          obtain ⟨hlt, hget⟩ := List.getElem?_eq_some_iff.mp hsd
          rw [List.drop_eq_getElem_cons hlt, hget]
        rw [ed] at ew
        have bad : u.walk (sd :: ds.drop (i + 1)) = none → ∀ dd, H2 dd = none → E (.ref T.a_NoPlace) (some dd) (upd H2 dd (.xd [("found", .ref b)])) := fun en dd hdd => qp (by show t.walk ds = none; rw [ew, en]) H2 dd s1 hdd
        refine ⟨_, rfl, sv, _, 0, 1, rfl, hsv.knd, ?_⟩
        rw [hsv.within, step_within]
        cases est : stepOf sd with
        | none => exact ⟨_, rfl, _, rfl, raise1 (bad (Th.walk_no est))⟩
        | some k =>
          refine ⟨_, rfl, ?_⟩
          refine ⟨_, rfl, v, u.toD, rfl, hv.same s1, _, rfl, ?_⟩
          rw [Th.pairD hn]
          cases u with
          | lf d' => exact ⟨_, rfl, raise1 (bad rfl)⟩
          | pr a c =>
            obtain ⟨pa, y0, y1, rfl, hps, h0, h1⟩ := hv.pr
            have hps1 := seqT s1 hps
            have esd := step_some est
            rw [esd] at hsv
            cases hsv
            rw [Th.walk_pr est] at ew
            cases k with
            | false => exact ⟨_, rfl, _, rfl, pa, _, 0, y0, rfl, rfl, hps1, atI_nat (j := 0) rfl, a, y0, _, rfl, rfl, h0, hn.1, ew⟩
            | true => exact ⟨_, rfl, _, rfl, pa, _, 1, y1, rfl, rfl, hps1, atI_nat (j := 1) rfl, c, y1, _, rfl, rfl, h1, hn.2, ew⟩
      · rintro σ H2 ⟨u, v, z, rfl, rfl, hv, hn, ew⟩
        rw [hr'.length, List.drop_length, Th.walk_nil] at ew
        exact ⟨_, rfl, q u ew v H2 s1 hv⟩
    | _ => exact ⟨_, rfl, raise1 fun dd hdd => qp rfl H1 dd s1 hdd⟩
def sp_put_within (K : PySem.W.Frag) (n : Nat) : Sp := fun vs H Q _ => ∃ (x : V) (t : Th) (b : Addr) (pl : List Int) (y : V) (u : Th), vs = [x, .ref b, y] ∧ Dq K H x t.toD ∧ SqT K H b (pl.map V.int) ∧ Dq K H y u.toD ∧ t.At pl ∧ pl.length < n ∧
  ∀ v H', Same H H' → Dq K H' v (t.put pl u).toD → Q v H'
theorem ok_put_within (T : Env K mg) : ∀ n : Nat, FnOk P w K mg base CX0 (n + 1) T.a_put_within T.d_put_within ["term","place","part"] (sp_put_within K n)
  | 0 => by
    have no : ∀ vs H Q E, ¬ sp_put_within K 0 vs H Q E := fun vs H Q E h => by
      obtain ⟨x, t, b, pl, y, u, _, _, _, _, _, h1, _⟩ := h
      omega
    exact ⟨fun vs H Q E h => absurd h (no vs H Q E), fun A outer s H args us vs Q E _ _ _ _ h => absurd h (no vs H Q E)⟩
  | n + 1 => by
    have G_put_within : FnOk P w K mg base CX0 (n + 1) T.a_put_within T.d_put_within ["term","place","part"] (sp_put_within K n) := ok_put_within T n
    refine T.F_put_within.ok sc_put_within (fun vs H Q E h => ?_) (fun cdv A outer s H vs Q E hr h => ?_)
    · obtain ⟨x, t, b, pl, y, u, rfl, _⟩ := h
      rfl
    · obtain ⟨x, t, b, pl, y, u, rfl, hd, hb, hy, hat, hpl, q⟩ := h
      have hr_put_within := hr
      refine ⟨_, (pss_cons (ps_if (pt_cmpR (op_eqD hr.units) (pv 1) (pe_tup pa_nil) (nomark _)) (pss_one (ps_ret (pv 2))) pss_nil)
      (pss_cons (ps_if (pt_cmpR op_eq (pe_ix ix_tup (pv 1) pe_int (fun _ _ => rfl)) pe_int (nomark _)) (pss_one (ps_ret (pe_tup (pa_cons (pe_call G_put_within hr_put_within (by rfl) T.g_put_within T.F_put_within.kp T.b_put_within .nil pass0 (pa_cons (pe_ix ix_tup (pv 0) pe_int (fun _ _ => rfl)) (pa_cons (pe_slice sl_tupA (pv 1) (po_some pe_int) po_none) (pa_cons (pv 2) pa_nil)))) (pa_cons (pe_ix ix_tup (pv 0) pe_int (fun _ _ => rfl)) pa_nil))))) pss_nil)
      (pss_one (ps_ret (pe_tup (pa_cons (pe_ix ix_tup (pv 0) pe_int (fun _ _ => rfl)) (pa_cons (pe_call G_put_within hr_put_within (by rfl) T.g_put_within T.F_put_within.kp T.b_put_within .nil pass0 (pa_cons (pe_ix ix_tup (pv 0) pe_int (fun _ _ => rfl)) (pa_cons (pe_slice sl_tupA (pv 1) (po_some pe_int) po_none) (pa_cons (pv 2) pa_nil)))) pa_nil))))))), ?_⟩
      refine ⟨_, rfl, Nat.zero_le _, fun e he => ?_⟩
      have s_H1 : Same H (upd H e (.tup [])) := same_upd he
      have g_H1 : (upd H e (.tup [])) e = some (.tup []) := upd_same
      generalize upd H e (.tup []) = H1 at s_H1 g_H1 ⊢
      refine eq_unit (seqT s_H1 hb) (SqT.of g_H1) ?_
      cases pl with
      | nil =>
        refine ⟨true, rfl, _, rfl, ?_⟩
        have q := q y H1 s_H1
        rw [Th.put_nil] at q
        exact q (hy.same s_H1)
      | cons k r =>
        refine ⟨false, rfl, ?_⟩
        have hb1 := seqT s_H1 hb
        cases t with
        | lf d => exact hat.elim
        | pr a c =>
          obtain ⟨pa, y0, y1, rfl, hs, h0, h1⟩ := (hd.same s_H1).pr
          have hpl : r.length + 1 < n + 1 := hpl
          rcases hat with ⟨rfl, hat⟩ | ⟨rfl, hat⟩
          · refine ⟨_, rfl, b, _, 0, _, rfl, rfl, hb1, atI_nat (j := 0) rfl, rfl, true, rfl, ?_⟩
            refine ⟨_, rfl, pa, _, 0, y0, rfl, rfl, hs, atI_nat (j := 0) rfl, _, rfl, 1, rfl, b, _, rfl, hb1, (fun e => absurd e no_cut), fun _ b2 hz2 => ?_⟩
            have s_H2 : Same H1 (upd H1 b2 (.tup (cutV ((0 :: r).map V.int) (some 1) none))) := same_upd hz2
            have g_H2 : (upd H1 b2 (.tup (cutV ((0 :: r).map V.int) (some 1) none))) b2 = some (.tup (cutV ((0 :: r).map V.int) (some 1) none)) := upd_same
            generalize upd H1 b2 (.tup (cutV ((0 :: r).map V.int) (some 1) none)) = H2 at s_H2 g_H2 ⊢
            have s2 := s_H2
            have hb2 := cut_int (K := K) g_H2
            refine ⟨_, rfl, y0, a, b2, r, y, u, rfl, h0.same s2, hb2, hy.same (s_H1.trans s2), hat, by omega, fun v H3 s3 hv => ?_⟩
            refine ⟨_, rfl, pa, _, 1, y1, rfl, rfl, seqT (s2.trans s3) hs, atI_nat (j := 1) rfl, (by show 2 ≤ sizeLine; decide), fun z hz => ?_⟩
            have s_H4 : Same H3 (upd H3 z (.tup [v, y1])) := same_upd hz
            have g_H4 : (upd H3 z (.tup [v, y1])) z = some (.tup [v, y1]) := upd_same
            generalize upd H3 z (.tup [v, y1]) = H4 at s_H4 g_H4 ⊢
            exact q _ H4 (s_H1.trans (s2.trans (s3.trans s_H4))) (.tup (SqT.of g_H4) (.cons (hv.same s_H4) (.cons (h1.same (s2.trans (s3.trans s_H4))) .nil)))
          · refine ⟨_, rfl, b, _, 0, _, rfl, rfl, hb1, atI_nat (j := 0) rfl, rfl, false, rfl, ?_⟩
            refine ⟨_, rfl, pa, _, 0, y0, rfl, rfl, hs, atI_nat (j := 0) rfl, _, rfl, pa, _, 1, y1, rfl, rfl, hs, atI_nat (j := 1) rfl, _, rfl, 1, rfl, b, _, rfl, hb1, (fun e => absurd e no_cut), fun _ b2 hz2 => ?_⟩
            have s_H2 : Same H1 (upd H1 b2 (.tup (cutV ((1 :: r).map V.int) (some 1) none))) := same_upd hz2
            have g_H2 : (upd H1 b2 (.tup (cutV ((1 :: r).map V.int) (some 1) none))) b2 = some (.tup (cutV ((1 :: r).map V.int) (some 1) none)) := upd_same
            generalize upd H1 b2 (.tup (cutV ((1 :: r).map V.int) (some 1) none)) = H2 at s_H2 g_H2 ⊢
            have s2 := s_H2
            have hb2 := cut_int (K := K) g_H2
            refine ⟨_, rfl, y1, c, b2, r, y, u, rfl, h1.same s2, hb2, hy.same (s_H1.trans s2), hat, by omega, fun v H3 s3 hv => ?_⟩
            refine ⟨(by show 2 ≤ sizeLine; decide), fun z hz => ?_⟩
            have s_H4 : Same H3 (upd H3 z (.tup [y0, v])) := same_upd hz
            have g_H4 : (upd H3 z (.tup [y0, v])) z = some (.tup [y0, v]) := upd_same
            generalize upd H3 z (.tup [y0, v]) = H4 at s_H4 g_H4 ⊢
            exact q _ H4 (s_H1.trans (s2.trans (s3.trans s_H4))) (.tup (SqT.of g_H4) (.cons (h0.same (s2.trans (s3.trans s_H4))) (.cons (hv.same s_H4) .nil)))
def sp_put_at (K : PySem.W.Frag) (CT CP CG : Addr) : Sp := fun vs H Q E => ∃ (x : V) (t : Th) (y : V) (d : PyData) (z : V) (u : Th), vs = [x, y, z] ∧ Dq K H x t.toD ∧ OkTh t ∧ Dq K H y d ∧ Dq K H z u.toD ∧ OkTh u ∧
  (t.isTerm = false → ∀ H' a, Same H H' → H' a = none → E (.ref CT) (some a) (upd H' a (.xd [("found", x)]))) ∧
  (t.isTerm = true → placeOf t d = none → ∀ H' a, Same H H' → H' a = none → E (.ref CP) (some a) (upd H' a (.xd [("found", y)]))) ∧
  (t.isTerm = true → ∀ o, placeOf t d = some o → u.isTerm = false → ∀ H' a, Same H H' → H' a = none → E (.ref CT) (some a) (upd H' a (.xd [("found", z)]))) ∧
  (t.isTerm = true → ∀ o, placeOf t d = some o → u.isTerm = true → (100 : Int) < (t.parts : Int) - o.parts + u.parts → ∀ H' a, Same H H' → H' a = none → E (.ref CG) (some a) (upd H' a (.xd [("parts", .int ((t.parts : Int) - o.parts + u.parts))]))) ∧
  (t.isTerm = true → ∀ o, placeOf t d = some o → u.isTerm = true → ¬ (100 : Int) < (t.parts : Int) - o.parts + u.parts → ∀ pl v H', d = .tuple (pl.map .int) → t.At pl → Same H H' → Dq K H' v (t.put pl u).toD → Q v H')
theorem ok_put_at (T : Env K mg) : FnOk P w K mg base (L2.CX P w) 103 T.a_put_at T.d_put_at ["term", "place", "part"] (sp_put_at K T.a_NoTerm T.a_NoPlace T.a_TooGreat) := by
  have G_need_term : FnOk P w K mg base (L2.CX P w) 102 T.a_need_term T.d_need_term ["thing"] (sp_need_term K T.a_NoTerm) := (ok_need_term T).mono (by decide)
  have G_at_place : FnOk P w K mg base (L2.CX P w) 102 T.a_at_place T.d_at_place ["term", "place"] (sp_at_place K T.a_NoTerm T.a_NoPlace) := (ok_at_place T).mono (by decide)
  have G_parts_of : FnOk P w K mg base (L2.CX P w) 102 T.a_parts_of T.d_parts_of ["term"] (sp_parts_of K T.a_NoTerm) := (ok_parts_of T).mono (by decide)
  have G_parts_within : FnOk P w K mg base CX0 102 T.a_parts_within T.d_parts_within ["term"] (sp_parts_within K) := (ok_parts_within T).mono (by decide)
  have G_put_within : FnOk P w K mg base CX0 102 T.a_put_within T.d_put_within ["term", "place", "part"] (sp_put_within K 101) := ok_put_within T 101
  have G_TooGreat : FnOk P w K mg base CX0 101 T.i_TooGreat T.di_TooGreat ["self", "parts"] (sp_init1 T.a_TooGreat "parts") := (ok_TooGreat T).mono (by decide)
  refine T.F_put_at.okX sc_put_at (fun vs H Q E h => ?_) (fun cdv A outer s H vs Q E hr h => ?_)
  · obtain ⟨x, t, y, d, z, u, rfl, _⟩ := h
    rfl
  · obtain ⟨x, t, y, d, z, u, rfl, hd, ht, hy, hz, hu, qt, qp, qu, qg, q⟩ := h
    have hr_need_term := hr
    have hr_at_place := hr
    have hr_parts_of := hr
    have hr_parts_within := hr
    have hr_put_within := hr
    refine ⟨_, (pss_cons (ps_set (i := 3) sc_put_at.nd rfl (Or.inl rfl) (pe_callS G_at_place hr_at_place (by rfl) T.g_at_place T.F_at_place.kp T.b_at_place (fun σ => passAt (takes_of rfl rfl rfl rfl) σ) (pa_cons (pv 0) (pa_cons (pv 1) pa_nil))))
      (pss_cons (ps_expr (pe_callS G_need_term hr_need_term (by rfl) T.g_need_term T.F_need_term.kp T.b_need_term (fun σ => passAt (takes_of rfl rfl rfl rfl) σ) (pa_cons (pv 2) pa_nil)))
      (pss_cons (ps_set (i := 4) sc_put_at.nd rfl (Or.inl rfl) (pe_op op_add (pe_op op_sub (pe_callS G_parts_of hr_parts_of (by rfl) T.g_parts_of T.F_parts_of.kp T.b_parts_of (fun σ => passAt (takes_of rfl rfl rfl rfl) σ) (pa_cons (pv 0) pa_nil)) (pe_callB call_len_seq (by rfl) T.m_len PySem.boot_len (pa_cons (pe_call G_parts_within hr_parts_within (by rfl) T.g_parts_within T.F_parts_within.kp T.b_parts_within .nil pass0 (pa_cons (pv 3) pa_nil)) pa_nil))) (pe_callB call_len_seq (by rfl) T.m_len PySem.boot_len (pa_cons (pe_call G_parts_within hr_parts_within (by rfl) T.g_parts_within T.F_parts_within.kp T.b_parts_within .nil pass0 (pa_cons (pv 2) pa_nil)) pa_nil))))
      (pss_cons (ps_if (pt_cmpR op_gt (pv 4) (pe_glob (v := V.int 100) (by rfl) T.g_MOST_PARTS ⟨_, rfl⟩) (nomark _)) (pss_one (ps_raise (by rfl) (takes_of rfl rfl rfl rfl) (pmk_oex T.x_TooGreat T.ii_TooGreat T.ti_TooGreat G_TooGreat hr T.bi_TooGreat .nil pass0 (by rfl) T.g_TooGreat (pa_cons (pv 4) pa_nil)))) pss_nil)
      (pss_one (ps_ret (pe_call G_put_within hr_put_within (by rfl) T.g_put_within T.F_put_within.kp T.b_put_within .nil pass0 (pa_cons (pv 0) (pa_cons (pv 1) (pa_cons (pv 2) pa_nil)))))))))), ?_⟩
    refine ⟨_, rfl, _, rfl, x, t, y, d, rfl, hd, ht, hy, qt, qp, fun eT o eo v H1 s1 hv => ?_⟩
    have tp := Th.term_parts eT
    have td := t.deep_half
    obtain ⟨pl, epl, hat, hlen, hmem⟩ : ∃ pl : List Int, d = .tuple (pl.map .int) ∧ t.At pl ∧ pl.length < t.deep ∧ o ∈ t.pre := by
      cases d with
      | tuple ds =>
        obtain ⟨pl, h1, h2, h3, h4⟩ := Th.walk_some t ds o eo
        exact ⟨pl, by rw [h1], h2, h3, h4⟩
      | _ => cases eo
    obtain ⟨_, op⟩ := Th.pre_fine ht.2 hmem
    have on := Th.pre_nf ht.1 hmem
    refine ⟨_, rfl, z, u, rfl, hz.same s1, hu, fun eU H2 s2 => ?_, fun eU H2 a s2 ha => qu eT o eo eU H2 a (s1.trans s2) ha⟩
    have up := Th.term_parts eU
    have s02 := s1.trans s2
    refine ⟨_, rfl, x, t, rfl, hd.same s02, ht, fun _ H3 s3 => ?_, fun e => by rw [eT] at e; cases e⟩
    have s03 := s02.trans s3
    refine ⟨_, rfl, v, o, H, rfl, s03, hv, on, by omega, fun l1 ws1 H4 hl1 s4 hL1 hq1 => ?_⟩
    have len1 : ws1.length = o.parts := by
      rw [hq1.length, List.length_map, o.pre_length]
    refine ⟨l1, _, rfl, .inl (SqL.of hL1), _, _, rfl, rfl, ?_⟩
    have s04 := s03.trans s4
    refine ⟨_, rfl, z, u, H, rfl, s04, hz, hu.1, by omega, fun l2 ws2 H5 hl2 s5 hL2 hq2 => ?_⟩
    have len2 : ws2.length = u.parts := by
      rw [hq2.length, List.length_map, u.pre_length]
    refine ⟨l2, _, rfl, .inl (SqL.of hL2), _, _, rfl, rfl, ?_⟩
    have s05 := s04.trans s5
    rw [len1, len2]
    refine ⟨_, rfl, _, _, rfl, rfl, _, rfl, ite2 (fun c => ?_) (fun c => ?_)⟩
    · exact ⟨_, rfl, raise1 fun a ha => qg eT o eo eU (of_decide_eq_true c) H5 a s05 ha⟩
    · have c := of_decide_eq_false (Bool.eq_false_iff.mpr c)
      rw [epl] at hy
      obtain ⟨b, xs, rfl, hs, hr'⟩ := Dq.tupOf (ds := pl.map .int) hy
      have exs := DqAll.ints pl xs hr'
      subst exs
      exact ⟨_, rfl, _, rfl, _, rfl, x, t, b, pl, z, u, rfl, hd.same s05, seqT s05 hs, hz.same s05, hat, by omega, fun v2 H6 s6 hv2 => q eT o eo eU c pl v2 H6 epl hat (s05.trans s6) hv2⟩
end


/-! ### how lists are shown -/
theorem showL {ds : List PyData} (hf : fineAll ds = true) (hb : PyData.bulkAll ds ≤ 10000) (hd : PyData.depthAll ds ≤ 180) : PyData.showable (.list ds) = true ∧ (PyData.shown (.list ds)).length ≤ sizeLine ∧ PyData.depth (.list ds) ≤ 190 := by
  obtain ⟨h1, h2⟩ := fine_showAll ds hf
  refine ⟨h1, ?_, ?_⟩
  · have k := PyData.shown_le_bulk 1001 (by decide) (.list ds) h2
    have e : (PyData.list ds).bulk = PyData.bulkAll ds := rfl
    rw [e] at k
    rw [sizeLine_eq]
    omega
  · show PyData.depthAll ds + 1 ≤ 190
    omega
/-- fine, and of no great size -/
def Sm (d : PyData) : Prop := fine d = true ∧ d.bulk ≤ 3000 ∧ d.depth ≤ 120
theorem Sm.bool (b : Bool) : Sm (.bool b) := ⟨rfl, Nat.zero_le _, Nat.zero_le _⟩
theorem Sm.int {i : Int} (h : i.natAbs < 2 ^ 128) : Sm (.int i) := ⟨fine_int h, Nat.zero_le _, Nat.zero_le _⟩
theorem sm2 {x y : PyData} (hx : Sm x) (hy : Sm y) : PyData.showable (.list [x, y]) = true ∧ (PyData.shown (.list [x, y])).length ≤ sizeLine ∧ PyData.depth (.list [x, y]) ≤ 190 := by
  obtain ⟨a1, a2, a3⟩ := hx
  obtain ⟨b1, b2, b3⟩ := hy
  refine showL ?_ ?_ ?_
  · show (fine x && (fine y && true)) = true
    rw [a1, b1]
    rfl
  · show x.bulk + 1 + (y.bulk + 1 + 0) ≤ 10000
    omega
  · show max x.depth (max y.depth 0) ≤ 180
    omega
theorem sm3 {x y z : PyData} (hx : Sm x) (hy : Sm y) (hz : Sm z) : PyData.showable (.list [x, y, z]) = true ∧ (PyData.shown (.list [x, y, z])).length ≤ sizeLine ∧ PyData.depth (.list [x, y, z]) ≤ 190 := by
  obtain ⟨a1, a2, a3⟩ := hx
  obtain ⟨b1, b2, b3⟩ := hy
  obtain ⟨c1, c2, c3⟩ := hz
  refine showL ?_ ?_ ?_
  · show (fine x && (fine y && (fine z && true))) = true
    rw [a1, b1, c1]
    rfl
  · show x.bulk + 1 + (y.bulk + 1 + (z.bulk + 1 + 0)) ≤ 10000
    omega
  · show max x.depth (max y.depth (max z.depth 0)) ≤ 180
    omega
theorem smTerm {t : Th} (hn : OkTh t) (h : t.isTerm = true) : Sm t.toD ∧ t.toD.bulk ≤ 1000 ∧ t.toD.depth ≤ 50 := by
  have tk : t.okL = true := (Bool.and_eq_true_iff.mp h).1
  have tp := Th.term_parts h
  have td := t.deep_half
  obtain ⟨b1, b2⟩ := Th.ok_bulk tk
  exact ⟨⟨hn.2, by omega, by omega⟩, by omega, by omega⟩
theorem NoT.sm {u : Th} (h : NoT u) : Sm u.toD := ⟨h.1.2, by have := h.2.2.1; omega, by have := h.2.2.2; omega⟩
section
variable {P : Program} {w : World} {K : PySem.W.Frag} {mg : Str → Option Value} {base : Heap}
def intOf : PyData → Int
  | .int i => i
  | _ => 0
/-- what put_at says, as data -/
def putSays (t : Th) (d : PyData) (u : Th) : List PyData :=
  if t.isTerm = true then
    match placeOf t d with
    | none => [.str "place", d, .bool false]
    | some o => if u.isTerm = true then (if (100 : Int) < (t.parts : Int) - o.parts + u.parts then [.str "great", .int ((t.parts : Int) - o.parts + u.parts), .bool false] else [.str "told", (t.put (match d with | .tuple ds => ds.map intOf | _ => []) u).toD]) else [.str "term", u.toD, .bool false]
  else [.str "term", t.toD, .bool false]
theorem unint : ∀ pl : List Int, (pl.map PyData.int).map intOf = pl
  | [] => rfl
  | i :: r => by
    show i :: (r.map PyData.int).map _ = i :: r
    rw [unint r]
def sp_l_said (K : PySem.W.Frag) : Sp := fun vs H Q _ => ∃ (x : V) (t : Th) (y : V) (d : PyData) (z : V) (u : Th), vs = [x, y, z] ∧ Dq K H x t.toD ∧ OkTh t ∧ Dq K H y d ∧ Dq K H z u.toD ∧ OkTh u ∧ Sm t.toD ∧ Sm d ∧ Sm u.toD ∧
  ∀ H', Same H H' → Q (.str (PyData.shown (.list (putSays t d u)))) H'
theorem smS (s : Str) (h : fine (.str s) = true) (h2 : s.cps.size ≤ 3000) : Sm (.str s) := ⟨h, h2, Nat.zero_le _⟩
theorem ok_l_said (T : Env K mg) : FnG P w K mg base CX0 104 T.a_l_said T.d_l_said ["_law_term_here", "_law_place", "_law_part"] (sp_l_said K) := by
  have G_put_at : FnOk P w K mg base (L2.CX P w) 103 T.a_put_at T.d_put_at ["term", "place", "part"] (sp_put_at K T.a_NoTerm T.a_NoPlace T.a_TooGreat) := ok_put_at T
  refine okG T.F_l_said sc_l_said (fun vs H Q E h => ?_) (fun cdv A outer s H vs Q E hr hgd h => ?_)
  · obtain ⟨x, t, y, d, z, u, rfl, _⟩ := h
    rfl
  · obtain ⟨x, t, y, d, z, u, rfl, hx, ht, hy, hz, hu, mt, md, mu, q⟩ := h
    have hr_put_at := hr
    have sT : Sm (.str "term") := smS _ (by decide +kernel) (by decide +kernel)
    have sP : Sm (.str "place") := smS _ (by decide +kernel) (by decide +kernel)
    have sG : Sm (.str "great") := smS _ (by decide +kernel) (by decide +kernel)
    have sO : Sm (.str "told") := smS _ (by decide +kernel) (by decide +kernel)
    refine ⟨_, (pss_cons (ps_set (i := 3) sc_l_said.nd rfl (Or.inl rfl) (pe_lst (pa_cons pe_str pa_nil)))
      (pss_cons (ps_try_mix rfl rfl takes0 (fun W pn xe tk po => (pss_one (ps_set (i := 3) sc_l_said.nd rfl (Or.inl rfl) (pe_lst (pa_cons pe_str (pa_cons (pe_callS G_put_at hr_put_at (by rfl) T.g_put_at T.F_put_at.kp T.b_put_at (fun σ => passAt tk σ) (pa_cons (pv 0) (pa_cons (pv 1) (pa_cons (pv 2) pa_nil)))) pa_nil)))))) (.named (i := 4) ⟨rfl, by decide, .inl T.g_NoTerm⟩ sc_l_said.nd rfl rfl (fun a oe cls d pn hz hf => (pss_one (ps_set (i := 3) sc_l_said.nd rfl (Or.inl rfl) (pe_lst (pa_cons pe_str (pa_cons (pe_xf T.f_NoTerm T.n_NoTerm_found hz hf (pv 4)) (pa_cons (pe_callB (call_isX hz hf) (by rfl) T.m_isinstance PyProof.Rows.boot_isinstance (pa_cons (pv 4) (pa_cons (pe_tup (pa_cons (pe_glob (v := .ref T.a_NoPlace) (by rfl) T.g_NoPlace rfl) (pa_cons (pe_glob (v := .ref T.a_TooGreat) (by rfl) T.g_TooGreat rfl) pa_nil))) pa_nil))) pa_nil))))))) (.named (i := 4) ⟨rfl, by decide, .inl T.g_NoPlace⟩ sc_l_said.nd rfl rfl (fun a oe cls d pn hz hf => (pss_one (ps_set (i := 3) sc_l_said.nd rfl (Or.inl rfl) (pe_lst (pa_cons pe_str (pa_cons (pe_xf T.f_NoPlace T.n_NoPlace_found hz hf (pv 4)) (pa_cons (pe_callB (call_isX hz hf) (by rfl) T.m_isinstance PyProof.Rows.boot_isinstance (pa_cons (pv 4) (pa_cons (pe_tup (pa_cons (pe_glob (v := .ref T.a_NoText) (by rfl) T.g_NoText rfl) (pa_cons (pe_glob (v := .ref T.a_TooGreat) (by rfl) T.g_TooGreat rfl) pa_nil))) pa_nil))) pa_nil))))))) (.named (i := 4) ⟨rfl, by decide, .inl T.g_TooGreat⟩ sc_l_said.nd rfl rfl (fun a oe cls d pn hz hf => (pss_one (ps_set (i := 3) sc_l_said.nd rfl (Or.inl rfl) (pe_lst (pa_cons pe_str (pa_cons (pe_xf T.f_TooGreat T.n_TooGreat_parts hz hf (pv 4)) (pa_cons (pe_callB (call_isX hz hf) (by rfl) T.m_isinstance PyProof.Rows.boot_isinstance (pa_cons (pv 4) (pa_cons (pe_glob (v := .ref T.a_NoText) (by rfl) T.g_NoText rfl) pa_nil))) pa_nil))))))) (.bare ⟨rfl, by decide, .inl T.g_SeekError⟩ (fun a oe cls d pn hz hf => (pss_one (ps_set (i := 3) sc_l_said.nd rfl (Or.inl rfl) (pe_lst (pa_cons pe_str pa_nil))))) .nil)))))
      (pss_one (ps_ret (pe_callB (call_reprL hgd (un2 hr)) (by rfl) T.m_repr PyProof.Rows.boot_repr (pa_cons (pv 3) pa_nil)))))), ?_⟩
    refine ⟨(by show 1 ≤ sizeLine; decide), fun l0 hl0 => ?_⟩
    have s_H0 : Same H (upd H l0 (.lst [.str "other"])) := same_upd hl0
    have g_H0 : (upd H l0 (.lst [.str "other"])) l0 = some (.lst [.str "other"]) := upd_same
    generalize upd H l0 (.lst [.str "other"]) = H0 at s_H0 g_H0 ⊢
    refine ⟨_, rfl, _, rfl, _, rfl, x, t, y, d, z, u, rfl, hx.same s_H0, ht, hy.same s_H0, hz.same s_H0, hu, ?_, ?_, ?_, ?_, ?_⟩
    · intro eT H1 a s1 ha
      have q : ∀ H', Same H H' → Q (.str (PyData.shown (.list [.str "term", t.toD, .bool false]))) H' := by
        unfold putSays at q
        rw [eT] at q
        exact q
      refine ⟨true, T.em_NoTerm_NoTerm, fun _ e he => ?_, fun z => nomatch z⟩
      have s_H2 : Same H1 (upd H1 a (.xd [("found", x)])) := same_upd ha
      have g_H2 : (upd H1 a (.xd [("found", x)])) a = some (.xd [("found", x)]) := upd_same
      generalize upd H1 a (.xd [("found", x)]) = H2 at s_H2 g_H2 ⊢
      refine ⟨_, rfl, rfl, rfl, a, _, x, rfl, g_H2, rfl, ?_⟩
      refine ⟨_, rfl, (by show 2 ≤ sizeLine; decide), fun tp htp => ?_⟩
      have s_H3 : Same H2 (upd H2 tp (.tup [.ref T.a_NoPlace, .ref T.a_TooGreat])) := same_upd htp
      have g_H3 : (upd H2 tp (.tup [.ref T.a_NoPlace, .ref T.a_TooGreat])) tp = some (.tup [.ref T.a_NoPlace, .ref T.a_TooGreat]) := upd_same
      generalize upd H2 tp (.tup [.ref T.a_NoPlace, .ref T.a_TooGreat]) = H3 at s_H3 g_H3 ⊢
      refine ⟨T.a_NoTerm, a, _, false, rfl, rfl, s_H3 _ _ g_H2, T.y_NoTerm, .inr ⟨tp, _, _, rfl, g_H3, .cons (.own _) (.cons (.own _) .nil), kit2 T.km_NoTerm_NoPlace T.km_NoTerm_TooGreat⟩, (by show 3 ≤ sizeLine; decide), fun l hl => ?_⟩
      have s_H4 : Same H3 (upd H3 l (.lst [.str "term", x, .bl false])) := same_upd hl
      have g_H4 : (upd H3 l (.lst [.str "term", x, .bl false])) l = some (.lst [.str "term", x, .bl false]) := upd_same
      generalize upd H3 l (.lst [.str "term", x, .bl false]) = H4 at s_H4 g_H4 ⊢
      have s4 := s_H0.trans (s1.trans (s_H2.trans (s_H3.trans s_H4)))
      obtain ⟨w1, w2, w3⟩ := sm3 sT mt (Sm.bool false)
      exact ⟨_, rfl, l, _, _, rfl, Dq.lst (SqL.of g_H4) (.cons (.str _) (.cons (hx.same s4) (.cons (.bl _) .nil))), w1, w2, w3, q H4 s4⟩
    · intro eT eP H1 a s1 ha
      have q : ∀ H', Same H H' → Q (.str (PyData.shown (.list [.str "place", d, .bool false]))) H' := by
        unfold putSays at q
        rw [if_pos eT, eP] at q
        exact q
      refine ⟨false, T.em_NoPlace_NoTerm, (fun z => nomatch z), fun _ => ⟨true, T.em_NoPlace_NoPlace, fun _ e he => ?_, fun z => nomatch z⟩⟩
      have s_H2 : Same H1 (upd H1 a (.xd [("found", y)])) := same_upd ha
      have g_H2 : (upd H1 a (.xd [("found", y)])) a = some (.xd [("found", y)]) := upd_same
      generalize upd H1 a (.xd [("found", y)]) = H2 at s_H2 g_H2 ⊢
      refine ⟨_, rfl, rfl, rfl, a, _, y, rfl, g_H2, rfl, ?_⟩
      refine ⟨_, rfl, (by show 2 ≤ sizeLine; decide), fun tp htp => ?_⟩
      have s_H3 : Same H2 (upd H2 tp (.tup [.ref T.a_NoText, .ref T.a_TooGreat])) := same_upd htp
      have g_H3 : (upd H2 tp (.tup [.ref T.a_NoText, .ref T.a_TooGreat])) tp = some (.tup [.ref T.a_NoText, .ref T.a_TooGreat]) := upd_same
      generalize upd H2 tp (.tup [.ref T.a_NoText, .ref T.a_TooGreat]) = H3 at s_H3 g_H3 ⊢
      refine ⟨T.a_NoPlace, a, _, false, rfl, rfl, s_H3 _ _ g_H2, T.y_NoPlace, .inr ⟨tp, _, _, rfl, g_H3, .cons (.own _) (.cons (.own _) .nil), kit2 T.km_NoPlace_NoText T.km_NoPlace_TooGreat⟩, (by show 3 ≤ sizeLine; decide), fun l hl => ?_⟩
      have s_H4 : Same H3 (upd H3 l (.lst [.str "place", y, .bl false])) := same_upd hl
      have g_H4 : (upd H3 l (.lst [.str "place", y, .bl false])) l = some (.lst [.str "place", y, .bl false]) := upd_same
      generalize upd H3 l (.lst [.str "place", y, .bl false]) = H4 at s_H4 g_H4 ⊢
      have s4 := s_H0.trans (s1.trans (s_H2.trans (s_H3.trans s_H4)))
      obtain ⟨w1, w2, w3⟩ := sm3 sP md (Sm.bool false)
      exact ⟨_, rfl, l, _, _, rfl, Dq.lst (SqL.of g_H4) (.cons (.str _) (.cons (hy.same s4) (.cons (.bl _) .nil))), w1, w2, w3, q H4 s4⟩
    · intro eT o eo eU H1 a s1 ha
      have q : ∀ H', Same H H' → Q (.str (PyData.shown (.list [.str "term", u.toD, .bool false]))) H' := by
        unfold putSays at q
        rw [if_pos eT, eo] at q
        dsimp only at q
        rw [eU] at q
        exact q
      refine ⟨true, T.em_NoTerm_NoTerm, fun _ e he => ?_, fun z => nomatch z⟩
      have s_H2 : Same H1 (upd H1 a (.xd [("found", z)])) := same_upd ha
      have g_H2 : (upd H1 a (.xd [("found", z)])) a = some (.xd [("found", z)]) := upd_same
      generalize upd H1 a (.xd [("found", z)]) = H2 at s_H2 g_H2 ⊢
      refine ⟨_, rfl, rfl, rfl, a, _, z, rfl, g_H2, rfl, ?_⟩
      refine ⟨_, rfl, (by show 2 ≤ sizeLine; decide), fun tp htp => ?_⟩
      have s_H3 : Same H2 (upd H2 tp (.tup [.ref T.a_NoPlace, .ref T.a_TooGreat])) := same_upd htp
      have g_H3 : (upd H2 tp (.tup [.ref T.a_NoPlace, .ref T.a_TooGreat])) tp = some (.tup [.ref T.a_NoPlace, .ref T.a_TooGreat]) := upd_same
      generalize upd H2 tp (.tup [.ref T.a_NoPlace, .ref T.a_TooGreat]) = H3 at s_H3 g_H3 ⊢
      refine ⟨T.a_NoTerm, a, _, false, rfl, rfl, s_H3 _ _ g_H2, T.y_NoTerm, .inr ⟨tp, _, _, rfl, g_H3, .cons (.own _) (.cons (.own _) .nil), kit2 T.km_NoTerm_NoPlace T.km_NoTerm_TooGreat⟩, (by show 3 ≤ sizeLine; decide), fun l hl => ?_⟩
      have s_H4 : Same H3 (upd H3 l (.lst [.str "term", z, .bl false])) := same_upd hl
      have g_H4 : (upd H3 l (.lst [.str "term", z, .bl false])) l = some (.lst [.str "term", z, .bl false]) := upd_same
      generalize upd H3 l (.lst [.str "term", z, .bl false]) = H4 at s_H4 g_H4 ⊢
      have s4 := s_H0.trans (s1.trans (s_H2.trans (s_H3.trans s_H4)))
      obtain ⟨w1, w2, w3⟩ := sm3 sT mu (Sm.bool false)
      exact ⟨_, rfl, l, _, _, rfl, Dq.lst (SqL.of g_H4) (.cons (.str _) (.cons (hz.same s4) (.cons (.bl _) .nil))), w1, w2, w3, q H4 s4⟩
    · intro eT o eo eU eg H1 a s1 ha
      have q : ∀ H', Same H H' → Q (.str (PyData.shown (.list [.str "great", .int ((t.parts : Int) - o.parts + u.parts), .bool false]))) H' := by
        unfold putSays at q
        rw [if_pos eT, eo] at q
        dsimp only at q
        rw [if_pos eU, if_pos eg] at q
        exact q
      refine ⟨false, T.em_TooGreat_NoTerm, (fun z => nomatch z), fun _ => ⟨false, T.em_TooGreat_NoPlace, (fun z => nomatch z), fun _ => ⟨true, T.em_TooGreat_TooGreat, fun _ e he => ?_, fun z => nomatch z⟩⟩⟩
      have s_H2 : Same H1 (upd H1 a (.xd [("parts", .int ((t.parts : Int) - o.parts + u.parts))])) := same_upd ha
      have g_H2 : (upd H1 a (.xd [("parts", .int ((t.parts : Int) - o.parts + u.parts))])) a = some (.xd [("parts", .int ((t.parts : Int) - o.parts + u.parts))]) := upd_same
      generalize upd H1 a (.xd [("parts", .int ((t.parts : Int) - o.parts + u.parts))]) = H2 at s_H2 g_H2 ⊢
      refine ⟨_, rfl, rfl, rfl, a, _, _, rfl, g_H2, rfl, ?_⟩
      refine ⟨_, rfl, T.a_TooGreat, a, _, false, rfl, rfl, g_H2, T.y_TooGreat, .inl ⟨_, _, rfl, .own _, T.km_TooGreat_NoText⟩, (by show 3 ≤ sizeLine; decide), fun l hl => ?_⟩
      have s_H4 : Same H2 (upd H2 l (.lst [.str "great", .int ((t.parts : Int) - o.parts + u.parts), .bl false])) := same_upd hl
      have g_H4 : (upd H2 l (.lst [.str "great", .int ((t.parts : Int) - o.parts + u.parts), .bl false])) l = some (.lst [.str "great", .int ((t.parts : Int) - o.parts + u.parts), .bl false]) := upd_same
      generalize upd H2 l (.lst [.str "great", .int ((t.parts : Int) - o.parts + u.parts), .bl false]) = H4 at s_H4 g_H4 ⊢
      have s4 := s_H0.trans (s1.trans (s_H2.trans s_H4))
      have tp := Th.term_parts eT
      have up := Th.term_parts eU
      obtain ⟨w1, w2, w3⟩ := sm3 sG (Sm.int (i := (t.parts : Int) - o.parts + u.parts) (Nat.lt_of_le_of_lt (m := 200) (by omega) (by decide))) (Sm.bool false)
      exact ⟨_, rfl, l, _, _, rfl, Dq.lst (SqL.of g_H4) (.cons (.str _) (.cons (.int _) (.cons (.bl _) .nil))), w1, w2, w3, q H4 s4⟩
    · intro eT o eo eU eg pl v H1 epl hat s1 hv
      have q : ∀ H', Same H H' → Q (.str (PyData.shown (.list [.str "told", (t.put pl u).toD]))) H' := by
        unfold putSays at q
        rw [if_pos eT, eo] at q
        dsimp only at q
        rw [if_pos eU, if_neg eg, epl] at q
        dsimp only at q
        rw [unint] at q
        exact q
      refine ⟨(by show 2 ≤ sizeLine; decide), fun l hl => ?_⟩
      have s_H4 : Same H1 (upd H1 l (.lst [.str "told", v])) := same_upd hl
      have g_H4 : (upd H1 l (.lst [.str "told", v])) l = some (.lst [.str "told", v]) := upd_same
      generalize upd H1 l (.lst [.str "told", v]) = H4 at s_H4 g_H4 ⊢
      have s4 := s_H0.trans (s1.trans s_H4)
      obtain ⟨_, t1, t2⟩ := smTerm ht eT
      obtain ⟨_, u1, u2⟩ := smTerm hu eU
      obtain ⟨p1, p2, p3, p4⟩ := Th.put_good t pl u hat ht.1 ht.2 hu.1 hu.2
      obtain ⟨w1, w2, w3⟩ := sm2 sO (show Sm (t.put pl u).toD from ⟨p2, by omega, by omega⟩)
      exact ⟨_, rfl, l, _, _, rfl, Dq.lst (SqL.of g_H4) (.cons (.str _) (.cons (hv.same s_H4) .nil)), w1, w2, w3, q H4 s4⟩
def seeSays (t : Th) (d : PyData) : List PyData :=
  if t.isTerm = true then
    match placeOf t d with
    | none => [.str "place", d]
    | some o => [.str "told", o.toD]
  else [.str "term", t.toD]
def sp_l_seen (K : PySem.W.Frag) : Sp := fun vs H Q _ => ∃ (x : V) (t : Th) (y : V) (d : PyData), vs = [x, y] ∧ Dq K H x t.toD ∧ OkTh t ∧ Dq K H y d ∧ Sm t.toD ∧ Sm d ∧
  ∀ H', Same H H' → Q (.str (PyData.shown (.list (seeSays t d)))) H'
theorem ok_l_seen (T : Env K mg) : FnG P w K mg base CX0 104 T.a_l_seen T.d_l_seen ["_law_term_here", "_law_place"] (sp_l_seen K) := by
  have G_at_place : FnOk P w K mg base (L2.CX P w) 103 T.a_at_place T.d_at_place ["term", "place"] (sp_at_place K T.a_NoTerm T.a_NoPlace) := (ok_at_place T).mono (by decide)
  refine okG T.F_l_seen sc_l_seen (fun vs H Q E h => ?_) (fun cdv A outer s H vs Q E hr hgd h => ?_)
  · obtain ⟨x, t, y, d, rfl, _⟩ := h
    rfl
  · obtain ⟨x, t, y, d, rfl, hx, ht, hy, mt, md, q⟩ := h
    have hr_at_place := hr
    have sT : Sm (.str "term") := smS _ (by decide +kernel) (by decide +kernel)
    have sP : Sm (.str "place") := smS _ (by decide +kernel) (by decide +kernel)
    have sO : Sm (.str "told") := smS _ (by decide +kernel) (by decide +kernel)
    refine ⟨_, (pss_cons (ps_set (i := 2) sc_l_seen.nd rfl (Or.inl rfl) (pe_lst (pa_cons pe_str pa_nil)))
      (pss_cons (ps_try_mix rfl rfl takes0 (fun W pn xe tk po => (pss_one (ps_set (i := 2) sc_l_seen.nd rfl (Or.inl rfl) (pe_lst (pa_cons pe_str (pa_cons (pe_callS G_at_place hr_at_place (by rfl) T.g_at_place T.F_at_place.kp T.b_at_place (fun σ => passAt tk σ) (pa_cons (pv 0) (pa_cons (pv 1) pa_nil))) pa_nil)))))) (.named (i := 3) ⟨rfl, by decide, .inl T.g_NoTerm⟩ sc_l_seen.nd rfl rfl (fun a oe cls d pn hz hf => (pss_one (ps_set (i := 2) sc_l_seen.nd rfl (Or.inl rfl) (pe_lst (pa_cons pe_str (pa_cons (pe_xf T.f_NoTerm T.n_NoTerm_found hz hf (pv 3)) pa_nil)))))) (.named (i := 3) ⟨rfl, by decide, .inl T.g_NoPlace⟩ sc_l_seen.nd rfl rfl (fun a oe cls d pn hz hf => (pss_one (ps_set (i := 2) sc_l_seen.nd rfl (Or.inl rfl) (pe_lst (pa_cons pe_str (pa_cons (pe_xf T.f_NoPlace T.n_NoPlace_found hz hf (pv 3)) pa_nil)))))) (.bare ⟨rfl, by decide, .inl T.g_SeekError⟩ (fun a oe cls d pn hz hf => (pss_one (ps_set (i := 2) sc_l_seen.nd rfl (Or.inl rfl) (pe_lst (pa_cons pe_str pa_nil))))) .nil))))
      (pss_one (ps_ret (pe_callB (call_reprL hgd (un2 hr)) (by rfl) T.m_repr PyProof.Rows.boot_repr (pa_cons (pv 2) pa_nil)))))), ?_⟩
    refine ⟨(by show 1 ≤ sizeLine; decide), fun l0 hl0 => ?_⟩
    have s_H0 : Same H (upd H l0 (.lst [.str "other"])) := same_upd hl0
    have g_H0 : (upd H l0 (.lst [.str "other"])) l0 = some (.lst [.str "other"]) := upd_same
    generalize upd H l0 (.lst [.str "other"]) = H0 at s_H0 g_H0 ⊢
    refine ⟨_, rfl, _, rfl, x, t, y, d, rfl, hx.same s_H0, ht, hy.same s_H0, ?_, ?_, ?_⟩
    · intro eT H1 a s1 ha
      have q : ∀ H', Same H H' → Q (.str (PyData.shown (.list [.str "term", t.toD]))) H' := by
        unfold seeSays at q
        rw [eT] at q
        exact q
      refine ⟨true, T.em_NoTerm_NoTerm, fun _ e he => ?_, fun z => nomatch z⟩
      have s_H2 : Same H1 (upd H1 a (.xd [("found", x)])) := same_upd ha
      have g_H2 : (upd H1 a (.xd [("found", x)])) a = some (.xd [("found", x)]) := upd_same
      generalize upd H1 a (.xd [("found", x)]) = H2 at s_H2 g_H2 ⊢
      refine ⟨_, rfl, rfl, rfl, a, _, x, rfl, g_H2, rfl, (by show 2 ≤ sizeLine; decide), fun l hl => ?_⟩
      have s_H4 : Same H2 (upd H2 l (.lst [.str "term", x])) := same_upd hl
      have g_H4 : (upd H2 l (.lst [.str "term", x])) l = some (.lst [.str "term", x]) := upd_same
      generalize upd H2 l (.lst [.str "term", x]) = H4 at s_H4 g_H4 ⊢
      have s4 := s_H0.trans (s1.trans (s_H2.trans s_H4))
      obtain ⟨w1, w2, w3⟩ := sm2 sT mt
      exact ⟨_, rfl, l, _, _, rfl, Dq.lst (SqL.of g_H4) (.cons (.str _) (.cons (hx.same s4) .nil)), w1, w2, w3, q H4 s4⟩
    · intro eT eP H1 a s1 ha
      have q : ∀ H', Same H H' → Q (.str (PyData.shown (.list [.str "place", d]))) H' := by
        unfold seeSays at q
        rw [if_pos eT, eP] at q
        exact q
      refine ⟨false, T.em_NoPlace_NoTerm, (fun z => nomatch z), fun _ => ⟨true, T.em_NoPlace_NoPlace, fun _ e he => ?_, fun z => nomatch z⟩⟩
      have s_H2 : Same H1 (upd H1 a (.xd [("found", y)])) := same_upd ha
      have g_H2 : (upd H1 a (.xd [("found", y)])) a = some (.xd [("found", y)]) := upd_same
      generalize upd H1 a (.xd [("found", y)]) = H2 at s_H2 g_H2 ⊢
      refine ⟨_, rfl, rfl, rfl, a, _, y, rfl, g_H2, rfl, (by show 2 ≤ sizeLine; decide), fun l hl => ?_⟩
      have s_H4 : Same H2 (upd H2 l (.lst [.str "place", y])) := same_upd hl
      have g_H4 : (upd H2 l (.lst [.str "place", y])) l = some (.lst [.str "place", y]) := upd_same
      generalize upd H2 l (.lst [.str "place", y]) = H4 at s_H4 g_H4 ⊢
      have s4 := s_H0.trans (s1.trans (s_H2.trans s_H4))
      obtain ⟨w1, w2, w3⟩ := sm2 sP md
      exact ⟨_, rfl, l, _, _, rfl, Dq.lst (SqL.of g_H4) (.cons (.str _) (.cons (hy.same s4) .nil)), w1, w2, w3, q H4 s4⟩
    · intro eT o eo v H1 s1 hv
      have q : ∀ H', Same H H' → Q (.str (PyData.shown (.list [.str "told", o.toD]))) H' := by
        unfold seeSays at q
        rw [if_pos eT, eo] at q
        exact q
      have so : Sm o.toD := by
        cases d with
        | tuple ds =>
          obtain ⟨pl, _, _, _, h4⟩ := Th.walk_some t ds o eo
          obtain ⟨f1, f2⟩ := Th.pre_fine ht.2 h4
          have tk : t.okL = true := (Bool.and_eq_true_iff.mp eT).1
          have tp := Th.term_parts eT
          have od := o.deep_half
          obtain ⟨b1, b2⟩ := Th.ok_bulk (Th.ok_pre tk h4)
          exact ⟨f1, by omega, by omega⟩
        | _ => cases eo
      refine ⟨(by show 2 ≤ sizeLine; decide), fun l hl => ?_⟩
      have s_H4 : Same H1 (upd H1 l (.lst [.str "told", v])) := same_upd hl
      have g_H4 : (upd H1 l (.lst [.str "told", v])) l = some (.lst [.str "told", v]) := upd_same
      generalize upd H1 l (.lst [.str "told", v]) = H4 at s_H4 g_H4 ⊢
      have s4 := s_H0.trans (s1.trans s_H4)
      obtain ⟨w1, w2, w3⟩ := sm2 sO so
      exact ⟨_, rfl, l, _, _, rfl, Dq.lst (SqL.of g_H4) (.cons (.str _) (.cons ((hv.same (s1.trans s_H4))) .nil)), w1, w2, w3, q H4 s4⟩
end


/-! ### the heap without the purse -/
def hide (H : Hp) (p : Addr) : Hp := fun a => if a = p then none else H a
theorem hide_get {H : Hp} {p a : Addr} {o : HO} (n : a ≠ p) (h : H a = some o) : hide H p a = some o := (if_neg n).trans h
theorem hide_of {H : Hp} {p a : Addr} {o : HO} (h : hide H p a = some o) : a ≠ p ∧ H a = some o := by
  by_cases e : a = p
  · have h' := (if_pos e).symm.trans h
    cases h'
  · exact ⟨e, (if_neg e).symm.trans h⟩
theorem hide_sub (H : Hp) (p : Addr) : Same (hide H p) H := fun _ _ h => (hide_of h).2
theorem hide_off {H H' : Hp} {p : Addr} (o : Off p H H') : Same (hide H p) (hide H' p) := fun b u h => hide_get (hide_of h).1 (o b u (hide_of h).1 (hide_of h).2)
theorem off_hide {H : Hp} {p : Addr} : Off p H (hide H p) := fun _ _ n h => hide_get n h

section
variable {P : Program} {w : World} {K : PySem.W.Frag} {mg : Str → Option Value} {base : Heap}
theorem BadV.noT {H : Hp} {v : V} {p : Addr} (hp : Pu H p) (h : BadV K H v) : ∃ u, Dq K (hide H p) v u.toD ∧ NoT u := by
  obtain ⟨u, hu, un, uk, uf, ut, ub, ud⟩ := h
  refine ⟨u, Dq.off hp off_hide _ _ ut hu, ⟨un, uf⟩, ?_, by omega, by omega⟩
  show (u.okL && _) = false
  rw [uk]
  rfl
def sp_l_no_term (K : PySem.W.Frag) : Sp := fun vs H Q _ => ∃ (p : Addr), vs = [.ref p] ∧ Pu H p ∧ ∀ v u H', Dq K (hide H' p) v u.toD → NoT u → Off p H H' → Pu H' p → Q v H'
theorem ok_l_no_term (T : Env K mg) : FnOk P w K mg base CX0 2 T.a_l_no_term T.d_l_no_term ["_law_purse_here"] (sp_l_no_term K) := by
  have G_l_take : FnOk P w K mg base CX0 1 T.a_l_take T.d_l_take ["_law_purse_here", "_law_many"] (sp_l_take K) := ok_l_take T
  refine T.F_l_no_term.ok sc_l_no_term (fun vs H Q E h => ?_) (fun cdv A outer s H vs Q E hr h => ?_)
  · obtain ⟨p, rfl, _⟩ := h
    rfl
  · obtain ⟨p, rfl, hp, q⟩ := h
    have hr_l_take := hr
    refine ⟨_, (pss_cons (ps_set (i := 1) sc_l_no_term.nd rfl (Or.inl rfl) (pe_lst (pa_cons pe_non (pa_cons pe_bl (pa_cons (pe_un un_neg pe_int) (pa_cons pe_str (pa_cons pe_str (pa_cons (pe_tup pa_nil) (pa_cons (pe_tup (pa_cons pe_str pa_nil)) (pa_cons (pe_tup (pa_cons pe_str (pa_cons pe_str (pa_cons pe_int pa_nil)))) (pa_cons (pe_lst (pa_cons pe_str (pa_cons pe_str pa_nil))) (pa_cons pe_dnewK (pa_cons (pe_tup (pa_cons pe_int (pa_cons pe_non pa_nil))) (pa_cons (pe_un un_neg pe_int) pa_nil))))))))))))))
      (pss_one (ps_ret (pe_ix ix_list (pv 1) (pe_call G_l_take hr_l_take (by rfl) T.g_l_take T.F_l_take.kp T.b_l_take .nil pass0 (pa_cons (pv 0) (pa_cons pe_int pa_nil))) (fun _ _ => rfl))))), ?_⟩
    refine ⟨_, rfl, Nat.zero_le _, fun t1 ht1 => ?_⟩
    have s_J1 : Same H (upd H t1 (.tup [])) := same_upd ht1
    have g_J1 : (upd H t1 (.tup [])) t1 = some (.tup []) := upd_same
    generalize upd H t1 (.tup []) = J1 at s_J1 g_J1 ⊢
    refine ⟨(by show 1 ≤ sizeLine; decide), fun t2 ht2 => ?_⟩
    have s_J2 : Same J1 (upd J1 t2 (.tup [.str "x"])) := same_upd ht2
    have g_J2 : (upd J1 t2 (.tup [.str "x"])) t2 = some (.tup [.str "x"]) := upd_same
    generalize upd J1 t2 (.tup [.str "x"]) = J2 at s_J2 g_J2 ⊢
    refine ⟨(by show 3 ≤ sizeLine; decide), fun t3 ht3 => ?_⟩
    have s_J3 : Same J2 (upd J2 t3 (.tup [.str "a", .str "b", .int 1])) := same_upd ht3
    have g_J3 : (upd J2 t3 (.tup [.str "a", .str "b", .int 1])) t3 = some (.tup [.str "a", .str "b", .int 1]) := upd_same
    generalize upd J2 t3 (.tup [.str "a", .str "b", .int 1]) = J3 at s_J3 g_J3 ⊢
    refine ⟨(by show 2 ≤ sizeLine; decide), fun l1 hl1 => ?_⟩
    have s_J4 : Same J3 (upd J3 l1 (.lst [.str "a", .str "b"])) := same_upd hl1
    have g_J4 : (upd J3 l1 (.lst [.str "a", .str "b"])) l1 = some (.lst [.str "a", .str "b"]) := upd_same
    generalize upd J3 l1 (.lst [.str "a", .str "b"]) = J4 at s_J4 g_J4 ⊢
    intro d1 hd1
    have s_J5 : Same J4 (upd J4 d1 (.dK [])) := same_upd hd1
    have g_J5 : (upd J4 d1 (.dK [])) d1 = some (.dK []) := upd_same
    generalize upd J4 d1 (.dK []) = J5 at s_J5 g_J5 ⊢
    refine ⟨(by show 2 ≤ sizeLine; decide), fun t4 ht4 => ?_⟩
    have s_J6 : Same J5 (upd J5 t4 (.tup [.int 1, .non])) := same_upd ht4
    have g_J6 : (upd J5 t4 (.tup [.int 1, .non])) t4 = some (.tup [.int 1, .non]) := upd_same
    generalize upd J5 t4 (.tup [.int 1, .non]) = J6 at s_J6 g_J6 ⊢
    refine ⟨_, rfl, (by show 12 ≤ sizeLine; decide), fun L hL => ?_⟩
    have s_J7 : Same J6 (upd J6 L (.lst [.non, .bl true, .int (-1), .str "", .str "same", .ref t1, .ref t2, .ref t3, .ref l1, .ref d1, .ref t4, .int (-7)])) := same_upd hL
    have g_J7 : (upd J6 L (.lst [.non, .bl true, .int (-1), .str "", .str "same", .ref t1, .ref t2, .ref t3, .ref l1, .ref d1, .ref t4, .int (-7)])) L = some (.lst [.non, .bl true, .int (-1), .str "", .str "same", .ref t1, .ref t2, .ref t3, .ref l1, .ref d1, .ref t4, .int (-7)]) := upd_same
    generalize upd J6 L (.lst [.non, .bl true, .int (-1), .str "", .str "same", .ref t1, .ref t2, .ref t3, .ref l1, .ref d1, .ref t4, .int (-7)]) = J7 at s_J7 g_J7 ⊢
    have c6 := s_J7
    have c5 := s_J6.trans c6
    have c4 := s_J5.trans c5
    have c3 := s_J4.trans c4
    have c2 := s_J3.trans c3
    have c1 := s_J2.trans c2
    have c0 := s_J1.trans c1
    have bad : ∀ v ∈ [V.non, .bl true, .int (-1), .str "", .str "same", .ref t1, .ref t2, .ref t3, .ref l1, .ref d1, .ref t4, .int (-7)], BadV K J7 v := by
      intro v hv
      simp only [List.mem_cons, List.not_mem_nil, or_false] at hv
      rcases hv with rfl | rfl | rfl | rfl | rfl | rfl | rfl | rfl | rfl | rfl | rfl | rfl
      · exact badLf _ .non rfl rfl rfl rfl (by decide) (by decide)
      · exact badLf _ (.bl _) rfl rfl rfl rfl (by decide) (by decide)
      · exact badLf _ (.int _) rfl (by decide) (fine_int (by decide)) rfl (by decide) (by decide)
      · exact badLf _ (.str _) rfl (by decide +kernel) (by decide +kernel) rfl (by decide +kernel) (by decide)
      · exact badLf _ (.str _) rfl (by decide +kernel) (by decide +kernel) rfl (by decide +kernel) (by decide)
      · exact badLf _ (.tup (SqT.of (c1 _ _ g_J1)) .nil) rfl rfl rfl rfl (by decide) (by decide)
      · exact badLf _ (.tup (SqT.of (c2 _ _ g_J2)) (.cons (.str _) .nil)) rfl (by decide +kernel) (by decide +kernel) rfl (by decide +kernel) (by decide)
      · exact badLf _ (.tup (SqT.of (c3 _ _ g_J3)) (.cons (.str _) (.cons (.str _) (.cons (.int _) .nil)))) rfl (by decide +kernel) (by decide +kernel) rfl (by decide +kernel) (by decide)
      · exact badLf _ (.lst (SqL.of (c4 _ _ g_J4)) (.cons (.str _) (.cons (.str _) .nil))) rfl (by decide +kernel) (by decide +kernel) rfl (by decide +kernel) (by decide)
      · exact badLf _ (.dct (c5 _ _ g_J5)) rfl rfl rfl rfl (by decide) (by decide)
      · exact badPr _ _ (.tup (SqT.of (c6 _ _ g_J6)) (.cons (.int _) (.cons .non .nil))) rfl rfl (by decide +kernel) (by decide +kernel) rfl (by decide +kernel) (by decide)
      · exact badLf _ (.int _) rfl (by decide) (fine_int (by decide)) rfl (by decide) (by decide)
    have p6 : Pu J6 p := hp.same (s_J1.trans (s_J2.trans (s_J3.trans (s_J4.trans (s_J5.trans s_J6)))))
    have p7 : Pu J7 p := p6.same s_J7
    refine ⟨_, rfl, _, rfl, p, 12, rfl, p7, by decide, lt9000 (by decide), fun r H3 r0 r1 o3 p3 => ?_⟩
    obtain ⟨y, hL3, hy, hm⟩ := lst_at (o3 L _ (p6.nne hL) g_J7) r0 r1
    obtain ⟨u, hu, nu⟩ := (bad y hm).noT p7
    exact ⟨L, _, r, y, rfl, rfl, SqL.of hL3, hy, q y u H3 (hu.same (hide_off o3)) nu ((Off.of c0).trans o3) p3⟩
/-! ### places that are none -/
theorem cat_tup {H : Hp} {b q : Addr} {xs ys : List V} {Q : VK} (hb : SqT K H b xs) (hq : SqT K H q ys) (hl : xs.length + ys.length ≤ 1000) (h : ∀ r H', Same H H' → SqT K H' r (xs ++ ys) → Q (.ref r) H') :
    rCatA K (.ref b) (.ref q) H Q := by
  refine ⟨b, q, _, _, rfl, rfl, hb, hq, sz_le (by omega), fun e => ?_, fun _ e => ?_, fun _ _ p hp => ?_⟩
  · subst e
    exact h q H (Same.refl H) hq
  · subst e
    refine h b H (Same.refl H) ?_
    rw [List.append_nil]
    exact hb
  · exact h p _ (same_upd hp) (SqT.of upd_same)
theorem slice_tup {H : Hp} {b : Addr} {xs : List V} {lo hi : Option Int} {Q : VK} (hb : SqT K H b xs) (h : ∀ q H', Same H H' → SqT K H' q (cutV xs lo hi) → Q (.ref q) H') : rSlA K (.ref b) lo hi H Q := by
  refine ⟨b, _, rfl, hb, fun e => ?_, fun _ p hp => h p _ (same_upd hp) (SqT.of upd_same)⟩
  refine h b H (Same.refl H) ?_
  have e3 : cutV xs lo hi = xs := by
    unfold cutV
    rw [e.1, e.2]
    simp
  rw [e3]
  exact hb
theorem cut_ints (pl : List Int) (lo hi : Option Int) : ∃ pl' : List Int, cutV (pl.map V.int) lo hi = pl'.map V.int ∧ pl'.length ≤ pl.length ∧ ∀ i ∈ pl', i ∈ pl := by
  refine ⟨(pl.drop (HT.sIx (pl.map V.int).length 0 lo)).take (HT.sIx (pl.map V.int).length (pl.map V.int).length hi - HT.sIx (pl.map V.int).length 0 lo), ?_, ?_, fun i hi => List.mem_of_mem_drop (List.mem_of_mem_take hi)⟩
  · unfold cutV
    rw [← List.map_drop, ← List.map_take]
  · rw [List.length_take, List.length_drop]
    omega
/-- leaves' places -/
def PlA (K : PySem.W.Frag) (H : Hp) : List V → List (List Int × Th) → Prop
  | [], [] => True
  | e :: es, p :: ps => (∃ b, e = .ref b ∧ SqT K H b (p.1.map V.int)) ∧ PlA K H es ps
  | _, _ => False
theorem PlA.tups {H H' : Hp} (t : Tups K H H') : ∀ {es : List V} {ps : List (List Int × Th)}, PlA K H es ps → PlA K H' es ps
  | [], [], _ => trivial
  | _ :: _, _ :: _, ⟨⟨b, e, h⟩, r⟩ => ⟨⟨b, e, t _ _ h⟩, PlA.tups t r⟩
theorem PlA.length {H : Hp} : ∀ {es : List V} {ps : List (List Int × Th)}, PlA K H es ps → es.length = ps.length
  | [], [], _ => rfl
  | _ :: _, _ :: _, ⟨_, r⟩ => congrArg Nat.succ (PlA.length r)
theorem PlA.snoc {H : Hp} {e : V} {p : List Int × Th} (h : ∃ b, e = .ref b ∧ SqT K H b (p.1.map V.int)) : ∀ {es : List V} {ps : List (List Int × Th)}, PlA K H es ps → PlA K H (es ++ [e]) (ps ++ [p])
  | [], [], _ => ⟨h, trivial⟩
  | _ :: _, _ :: _, ⟨a, r⟩ => ⟨a, PlA.snoc h r⟩
theorem PlA.mem {H : Hp} {e : V} : ∀ {es : List V} {ps : List (List Int × Th)}, PlA K H es ps → e ∈ es → ∃ p ∈ ps, ∃ b, e = .ref b ∧ SqT K H b (p.1.map V.int)
  | _ :: _, p :: _, ⟨a, r⟩, h => by
    rcases List.mem_cons.mp h with rfl | h
    · exact ⟨p, List.mem_cons_self, a⟩
    · obtain ⟨z, hz, b⟩ := PlA.mem r h
      exact ⟨z, List.mem_cons_of_mem _ hz, b⟩
def leafs (ps : List (List Int × Th)) : List (List Int × Th) := ps.filter fun p => !p.2.isPr
theorem leafs_pos : ∀ (t : Th) (pl : List Int), 0 < (leafs (t.pls pl)).length
  | .lf d, pl => Nat.one_pos
  | .pr a b, pl => by
    have h := leafs_pos a (pl ++ [0])
    have e : leafs ((Th.pr a b).pls pl) = leafs (a.pls (pl ++ [0])) ++ leafs (b.pls (pl ++ [1])) := by
      show leafs ((pl, Th.pr a b) :: (a.pls (pl ++ [0]) ++ b.pls (pl ++ [1]))) = _
      unfold leafs
      rw [List.filter_cons_of_neg (by intro h; cases h), List.filter_append]
    rw [e, List.length_append]
    omega
/-- a place that is none, of no great size -/
def BadP (K : PySem.W.Frag) (H : Hp) (t : Th) (v : V) : Prop := ∃ d, Dq K H v d ∧ placeOf t d = none ∧ Sm d
theorem smInts {l : List Int} (h : ∀ i ∈ l, i.natAbs < 2 ^ 128) (hl : l.length ≤ 1000) : fineAll (l.map .int) = true ∧ PyData.bulkAll (l.map .int) ≤ l.length ∧ PyData.depthAll (l.map .int) = 0 := by
  refine ⟨?_, ?_, depthInts l⟩
  · clear hl
    induction l with
    | nil => rfl
    | cons a r ih =>
      show (fine (.int a) && fineAll (r.map .int)) = true
      rw [fine_int (h a List.mem_cons_self), ih fun i hi => h i (List.mem_cons_of_mem _ hi)]
      rfl
  · clear hl h
    induction l with
    | nil => exact Nat.le_refl _
    | cons a r ih =>
      show 0 + 1 + PyData.bulkAll (r.map .int) ≤ r.length + 1
      omega
theorem fineAll_app : ∀ (a b : List PyData), fineAll a = true → fineAll b = true → fineAll (a ++ b) = true
  | [], _, _, h => h
  | x :: r, b, h, h2 => by
    obtain ⟨h1, h3⟩ := Bool.and_eq_true_iff.mp (show (fine x && fineAll r) = true from h)
    exact Bool.and_eq_true_iff.mpr ⟨h1, fineAll_app r b h3 h2⟩
theorem bulkAll_app : ∀ (a b : List PyData), PyData.bulkAll (a ++ b) = PyData.bulkAll a + PyData.bulkAll b
  | [], _ => (Nat.zero_add _).symm
  | x :: r, b => by
    show x.bulk + 1 + PyData.bulkAll (r ++ b) = x.bulk + 1 + PyData.bulkAll r + PyData.bulkAll b
    rw [bulkAll_app r b]
    omega
theorem depthAll_app : ∀ (a b : List PyData), PyData.depthAll (a ++ b) = max (PyData.depthAll a) (PyData.depthAll b)
  | [], b => (Nat.zero_max (PyData.depthAll b)).symm
  | x :: r, b => by
    show max x.depth (PyData.depthAll (r ++ b)) = max (max x.depth (PyData.depthAll r)) (PyData.depthAll b)
    rw [depthAll_app r b]
    omega
theorem DqAll.app {H : Hp} : ∀ {vs ws : List V} {ds es : List PyData}, DqAll K H vs ds → DqAll K H ws es → DqAll K H (vs ++ ws) (ds ++ es)
  | _, _, _, _, .nil, h => h
  | _, _, _, _, .cons a r, h => .cons a (r.app h)
theorem smSeq {a b : List PyData} (h1 : fineAll a = true) (h2 : PyData.bulkAll a ≤ 1000) (h3 : PyData.depthAll a ≤ 10) (k1 : fineAll b = true) (k2 : PyData.bulkAll b ≤ 1000) (k3 : PyData.depthAll b ≤ 10) : Sm (.tuple (a ++ b)) := by
  refine ⟨fineAll_app a b h1 k1, ?_, ?_⟩
  · show PyData.bulkAll (a ++ b) ≤ 3000
    rw [bulkAll_app]
    omega
  · show PyData.depthAll (a ++ b) + 1 ≤ 120
    rw [depthAll_app]
    omega
theorem Th.At_bits : ∀ (t : Th) (pl : List Int), t.At pl → ∀ i ∈ pl, i.natAbs < 2 ^ 128
  | _, [], _, _, h => by cases h
  | .lf _, _ :: _, h, _, _ => h.elim
  | .pr a b, k :: r, h, i, hi => by
    rcases List.mem_cons.mp hi with rfl | hi
    · rcases h with ⟨rfl, _⟩ | ⟨rfl, _⟩
      · decide
      · decide
    · rcases h with ⟨_, h⟩ | ⟨_, h⟩
      · exact At_bits a r h i hi
      · exact At_bits b r h i hi
def sp_l_bad_place (K : PySem.W.Frag) : Sp := fun vs H Q _ => ∃ (p : Addr) (x : V) (t : Th), vs = [.ref p, x] ∧ Pu H p ∧ Dq K H x t.toD ∧ GoodT t 100 ∧ ∀ v H', BadP K (hide H' p) t v → Off p H H' → Pu H' p → Q v H'
theorem ok_l_bad_place (T : Env K mg) : FnOk P w K mg base CX0 103 T.a_l_bad_place T.d_l_bad_place ["_law_purse_here", "_law_term_here"] (sp_l_bad_place K) := by
  have G_l_take : FnOk P w K mg base CX0 102 T.a_l_take T.d_l_take ["_law_purse_here", "_law_many"] (sp_l_take K) := (ok_l_take T).mono (by decide)
  have G_l_places : FnOk P w K mg base CX0 102 T.a_l_places T.d_l_places ["_law_term_here", "_law_place"] (sp_l_places K 101) := ok_l_places T 101
  refine T.F_l_bad_place.ok sc_l_bad_place (fun vs H Q E h => ?_) (fun cdv A outer s H vs Q E hr h => ?_)
  · obtain ⟨p, x, t, rfl, _⟩ := h
    rfl
  · obtain ⟨p, x, t, rfl, hp, hd, ⟨tn, tk, tf, tp⟩, q⟩ := h
    have hr_l_take := hr
    have hr_l_places := hr
    have tp : t.parts ≤ 100 := by omega
    have td := t.deep_half
    refine ⟨_, (pss_cons (ps_setLc (i := 2) (own := [("_law_place", 3), ("_law_part", 5)]) (g := gTup _ 2 (gCons (gName 3) (gCons (gName 5) gNil)))  (by rfl) sc_l_bad_place.nd rfl rfl (sw_true rfl rfl rfl (by decide +kernel)) (pi_list (pe_call G_l_places hr_l_places (by rfl) T.g_l_places T.F_l_places.kp T.b_l_places .nil pass0 (pa_cons (pv 1) (pa_cons (pe_tup pa_nil) pa_nil)))) (blkOk_by (own := [("_law_place", 3), ("_law_part", 5)]) (N := ["_law_purse_here", "_law_term_here", "_law_some", "_law_place", "_law_bad", "_law_part"]) (sc := defScope s_l_bad_place) (by decide +kernel)) (fun _ _ _ _ _ => (pg_tup (by rfl) (pgs_cons (pg_name (i := 3) sc_l_bad_place.nd rfl (Or.inl rfl)) (pgs_cons (pg_name (i := 5) sc_l_bad_place.nd rfl (Or.inl rfl)) pgs_nil)))) (fun _ _ _ _ _ => (pts_one (PW.pt (pw_or (pt_not (pt_val (pe_callB (call_isi : CallR _ _ (rIsi K)) (by rfl) T.m_isinstance PyProof.Rows.boot_isinstance (pa_cons (pv 5) (pa_cons (pe_bltn (v := .ty "tuple") (by rfl) T.m_tuple PyProof.Rows.boot_tuple rfl) pa_nil))))) (pw_or1 (pt_cmpR op_eq (pe_callB (call_lenS : CallR _ _ (rLenS K)) (by rfl) T.m_len PySem.boot_len (pa_cons (pv 5) pa_nil)) pe_int (nomark _))))))) (fun _ _ _ _ _ => (pv 3)))
      (pss_cons (ps_set (i := 3) sc_l_bad_place.nd rfl (Or.inl rfl) (pe_ix ix_list (pv 2) (pe_call G_l_take hr_l_take (by rfl) T.g_l_take T.F_l_take.kp T.b_l_take .nil pass0 (pa_cons (pv 0) (pa_cons (pe_callB call_len_seq (by rfl) T.m_len PySem.boot_len (pa_cons (pv 2) pa_nil)) pa_nil))) (fun _ _ => rfl)))
      (pss_cons (ps_set (i := 4) sc_l_bad_place.nd rfl (Or.inl rfl) (pe_lst (pa_cons (pe_op op_catA (pv 3) (pe_tup (pa_cons pe_int pa_nil))) (pa_cons (pe_op op_catA (pv 3) (pe_tup (pa_cons pe_int pa_nil))) (pa_cons (pe_op op_catA (pe_slice sl_tupA (pv 3) po_none (po_some (pe_un un_neg pe_int))) (pe_tup (pa_cons pe_int pa_nil))) (pa_cons (pe_op op_catA (pe_slice sl_tupA (pv 3) po_none (po_some (pe_un un_neg pe_int))) (pe_tup (pa_cons (pe_un un_neg pe_int) pa_nil))) (pa_cons (pe_op op_catA (pe_tup (pa_cons pe_bl pa_nil)) (pe_slice sl_tupA (pv 3) (po_some pe_int) po_none)) (pa_cons (pe_callTy call_list_of (by rfl) T.m_list PyProof.Rows.boot_list (pa_cons (pv 3) pa_nil)) (pa_cons pe_non (pa_cons pe_int pa_nil))))))))))
      (pss_one (ps_ret (pe_ix ix_list (pe_op op_cat (pv 4) (pe_lst (pa_cons pe_str (pa_cons (pe_tup (pa_cons pe_non pa_nil)) (pa_cons (pe_tup (pa_cons pe_str pa_nil)) (pa_cons pe_dnewK (pa_cons (pe_tup (pa_cons (pe_tup pa_nil) pa_nil)) (pa_cons (pe_op op_catA (pv 3) (pe_tup (pa_cons pe_bl pa_nil))) pa_nil)))))))) (pe_call G_l_take hr_l_take (by rfl) T.g_l_take T.F_l_take.kp T.b_l_take .nil pass0 (pa_cons (pv 0) (pa_cons pe_int pa_nil))) (fun _ _ => rfl))))))), ?_⟩
    refine ⟨_, rfl, Nat.zero_le _, fun e he => ?_⟩
    have s_H1 : Same H (upd H e (.tup [])) := same_upd he
    have g_H1 : (upd H e (.tup [])) e = some (.tup []) := upd_same
    generalize upd H e (.tup []) = H1 at s_H1 g_H1 ⊢
    refine ⟨x, t, e, [], H, rfl, s_H1, hd, tn, by omega, by decide, by omega, SqT.of g_H1, fun l es H2 hl s2 hL pp => ?_⟩
    have s02 : Same H H2 := s_H1.trans s2
    have len := pp.length
    rw [Th.pls_length] at len
    refine ⟨l, rfl, ⟨_, SqL.of hL⟩, fun D hD => ?_⟩
    have nDl : l ≠ D := ne_of_none hL hD
    have hD0 : H D = none := s02.free hD
    refine lc_list (K := K) (a := l) (xs := es) (fun i H' => Same H H' ∧ H' l = some (.lst es) ∧ PpAll K H H' es (t.pls []) ∧ ∃ ys, H' D = some (.lst ys) ∧ PlA K H' ys (leafs ((t.pls []).take i)))
      ⟨s02.trans (same_upd hD), (upd_ne nDl).trans hL, pp.tups (Tups.of (same_upd hD)), [], upd_same, trivial⟩ (fun i H' _ ⟨_, z, _⟩ => SqL.of z) ?_ ?_
    · rintro i v H3 hi ⟨s3, h3l, pp3, ys, h3D, pl3⟩
      obtain ⟨pr, hpr, a, b, xv, rfl, ha, hb, hx⟩ := pp3.get hi
      have hpu : t.pre[i]? = some pr.2 := by
        rw [← Th.pls_snd t [], List.getElem?_map, hpr]
        rfl
      have hk := Th.ok_pre tk (List.mem_of_getElem? hpu)
      have hx3 := hx.same s3
      have etake : (t.pls []).take (i + 1) = (t.pls []).take i ++ [pr] := by
        obtain ⟨hlt, hget⟩ := List.getElem?_eq_some_iff.mp hpr
        rw [List.take_succ, hpr]
        rfl
      have eleaf : leafs ((t.pls []).take (i + 1)) = leafs ((t.pls []).take i) ++ leafs [pr] := by
        rw [etake]
        unfold leafs
        rw [List.filter_append]
      have ylen : ys.length < 1000000 := by
        rw [pl3.length]
        unfold leafs
        have k1 := List.length_filter_le (fun p : List Int × Th => !p.2.isPr) ((t.pls []).take i)
        rw [List.length_take, Th.pls_length] at k1
        omega
      have keep : pr.2.isPr = false → (∃ acc, H3 D = some (.lst acc) ∧ acc.length < sizeLine ∧ (Same H (upd H3 D (.lst (acc ++ [.ref b]))) ∧ (upd H3 D (.lst (acc ++ [.ref b]))) l = some (.lst es) ∧ PpAll K H (upd H3 D (.lst (acc ++ [.ref b]))) es (t.pls []) ∧ ∃ ys, (upd H3 D (.lst (acc ++ [.ref b]))) D = some (.lst ys) ∧ PlA K (upd H3 D (.lst (acc ++ [.ref b]))) ys (leafs ((t.pls []).take (i + 1))))) := fun hf => by
        have tt : Tups K H3 (upd H3 D (.lst (ys ++ [.ref b]))) := Tups.put h3D
        refine ⟨ys, h3D, sz_lt ylen, same_mut s3 hD0, (upd_ne nDl).trans h3l, pp3.tups tt, _, upd_same, ?_⟩
        rw [eleaf]
        have e1 : leafs [pr] = [pr] := by
          unfold leafs
          rw [List.filter_cons_of_pos (by rw [hf]; rfl)]
          rfl
        rw [e1]
        exact PlA.snoc ⟨b, rfl, tt _ _ hb⟩ (pl3.tups tt)
      refine ⟨a, [.ref b, xv], rfl, ha, rfl, .ref b, [xv], rfl, xv, [], rfl, rfl, rfl, ?_⟩
      refine ⟨xv, rfl, xv, .ty "tuple", _, .type "tuple", _, rfl, .ty _, hx3.knd, kit_tup _, _, rfl, ?_⟩
      obtain ⟨pl, u⟩ := pr
      cases u with
      | pr c d =>
        obtain ⟨pa, y0, y1, rfl, hs, h0, _⟩ := Dq.pr hx3
        refine ⟨_, rfl, pa, _, rfl, .inr hs, rfl, _, rfl, ?_⟩
        refine ⟨s3, h3l, pp3, ys, h3D, ?_⟩
        rw [eleaf]
        have e1 : leafs [(pl, Th.pr c d)] = [] := rfl
        rw [e1, List.append_nil]
        exact pl3
      | lf d =>
        rcases single_cases (show singleD d = true from hk) with ⟨z, rfl⟩ | ⟨j, rfl⟩ | ⟨j, rfl, hj⟩
        · exact ⟨_, rfl, keep rfl⟩
        · exact ⟨_, rfl, keep rfl⟩
        · obtain ⟨pa, xs, rfl, hs, hr'⟩ := Dq.tupOf (ds := [.int j]) hx3
          obtain ⟨w1, rfl, hw⟩ := hr'.one
          exact ⟨_, rfl, pa, _, rfl, .inr hs, rfl, _, rfl, _, rfl, keep rfl⟩
    · rintro H3 ⟨s3, h3l, pp3, ys, h3D, pl3⟩
      have el : es.length = (t.pls []).length := by
        rw [Th.pls_length]
        exact len
      rw [el, List.take_length] at pl3
      have ypos := leafs_pos t []
      rw [← pl3.length] at ypos
      have ylen : ys.length ≤ 100 := by
        rw [pl3.length]
        unfold leafs
        have k1 := List.length_filter_le (fun p : List Int × Th => !p.2.isPr) (t.pls [])
        rw [Th.pls_length] at k1
        omega
      have p3 : Pu H3 p := hp.same s3
      have nDp : D ≠ p := fun e => by
        obtain ⟨_, _, _, h⟩ := hp
        rw [e, h] at hD0
        cases hD0
      refine ⟨_, rfl, _, rfl, _, rfl, D, _, rfl, .inl (SqL.of h3D), p, _, rfl, p3, by omega, lt9000 (Nat.lt_of_le_of_lt (m := 100) (by omega) (by decide)), fun k H4 k0 k1 o4 p4 => ?_⟩
      obtain ⟨y, hL4, hy, hm⟩ := lst_at (o4 D _ nDp h3D) k0 k1
      obtain ⟨pr, hpr, b, rfl, hb⟩ := pl3.mem hm
      obtain ⟨hprm, hleaf⟩ := List.mem_filter.mp hpr
      obtain ⟨r, er, hwk⟩ := Th.pls_walk t [] pr hprm
      rw [List.nil_append] at er
      rw [er] at hb
      obtain ⟨pl0, e0, hat, hrl, _⟩ := Th.walk_some t _ _ hwk
      have e0 : r = pl0 := by
        have := congrArg (List.map intOf) e0
        rw [unint, unint] at this
        exact this
      subst e0
      have rbits := Th.At_bits t r hat
      have hb4 : SqT K H4 b (r.map V.int) := (p3.tups o4) _ _ hb
      have o04 : Off p H H4 := (Off.of s3).trans o4
      refine ⟨D, _, k, _, rfl, rfl, SqL.of hL4, hy, ?_⟩
      have rl : (r.map V.int).length ≤ 100 := by
        rw [List.length_map]
        omega
      have rl0 : r.length ≤ 100 := by omega
      -- place + (0,), place + (1,)
      refine ⟨_, rfl, (by show 1 ≤ sizeLine; decide), fun q1 hq1 => ?_⟩
      have s_J1 : Same H4 (upd H4 q1 (.tup [.int 0])) := same_upd hq1
      have g_J1 : (upd H4 q1 (.tup [.int 0])) q1 = some (.tup [.int 0]) := upd_same
      generalize upd H4 q1 (.tup [.int 0]) = J1 at s_J1 g_J1 ⊢
      refine cat_tup (seqT s_J1 hb4) (SqT.of g_J1) (by show _ + 1 ≤ 1000; omega) fun r1 J2 s_J2 hr1 => ?_
      have a2 := s_J1.trans s_J2
      refine ⟨_, rfl, (by show 1 ≤ sizeLine; decide), fun q2 hq2 => ?_⟩
      have s_J3 : Same J2 (upd J2 q2 (.tup [.int 1])) := same_upd hq2
      have g_J3 : (upd J2 q2 (.tup [.int 1])) q2 = some (.tup [.int 1]) := upd_same
      generalize upd J2 q2 (.tup [.int 1]) = J3 at s_J3 g_J3 ⊢
      refine cat_tup (seqT (a2.trans s_J3) hb4) (SqT.of g_J3) (by show _ + 1 ≤ 1000; omega) fun r2 J4 s_J4 hr2 => ?_
      have a4 := a2.trans (s_J3.trans s_J4)
      -- place[:-1] + (2,), place[:-1] + (-1,)
      obtain ⟨m, em, ml, mm⟩ := cut_ints r none (some (-1))
      have mbits : ∀ i ∈ m, i.natAbs < 2 ^ 128 := fun i hi => rbits i (mm i hi)
      refine ⟨_, rfl, _, rfl, _, rfl, ?_⟩
      refine slice_tup (seqT a4 hb4) fun b3 J5 s_J5 hb3 => ?_
      rw [em] at hb3
      refine ⟨(by show 1 ≤ sizeLine; decide), fun q3 hq3 => ?_⟩
      have s_J6 : Same J5 (upd J5 q3 (.tup [.int 2])) := same_upd hq3
      have g_J6 : (upd J5 q3 (.tup [.int 2])) q3 = some (.tup [.int 2]) := upd_same
      generalize upd J5 q3 (.tup [.int 2]) = J6 at s_J6 g_J6 ⊢
      refine cat_tup (seqT s_J6 hb3) (SqT.of g_J6) (by rw [List.length_map]; show _ + 1 ≤ 1000; omega) fun r3 J7 s_J7 hr3 => ?_
      have a7 := a4.trans (s_J5.trans (s_J6.trans s_J7))
      refine ⟨_, rfl, _, rfl, _, rfl, ?_⟩
      refine slice_tup (seqT a7 hb4) fun b4 J8 s_J8 hb5 => ?_
      rw [em] at hb5
      refine ⟨_, rfl, (by show 1 ≤ sizeLine; decide), fun q4 hq4 => ?_⟩
      have s_J9 : Same J8 (upd J8 q4 (.tup [.int (-1)])) := same_upd hq4
      have g_J9 : (upd J8 q4 (.tup [.int (-1)])) q4 = some (.tup [.int (-1)]) := upd_same
      generalize upd J8 q4 (.tup [.int (-1)]) = J9 at s_J9 g_J9 ⊢
      refine cat_tup (seqT s_J9 hb5) (SqT.of g_J9) (by rw [List.length_map]; show _ + 1 ≤ 1000; omega) fun r4 J10 s_J10 hr4 => ?_
      have a10 := a7.trans (s_J8.trans (s_J9.trans s_J10))
      -- (True,) + place[1:]
      obtain ⟨n, en, nl, nm⟩ := cut_ints r (some 1) none
      have nbits : ∀ i ∈ n, i.natAbs < 2 ^ 128 := fun i hi => rbits i (nm i hi)
      refine ⟨(by show 1 ≤ sizeLine; decide), fun q5 hq5 => ?_⟩
      have s_J11 : Same J10 (upd J10 q5 (.tup [.bl true])) := same_upd hq5
      have g_J11 : (upd J10 q5 (.tup [.bl true])) q5 = some (.tup [.bl true]) := upd_same
      generalize upd J10 q5 (.tup [.bl true]) = J11 at s_J11 g_J11 ⊢
      refine ⟨_, rfl, _, rfl, ?_⟩
      unfold tNoPart
      refine slice_tup (seqT (a10.trans s_J11) hb4) fun b6 J12 s_J12 hb6 => ?_
      rw [en] at hb6
      refine cat_tup (SqT.of (s_J12 _ _ g_J11)) hb6 (by rw [List.length_map]; show 1 + _ ≤ 1000; omega) fun r5 J13 s_J13 hr5 => ?_
      have a13 := a10.trans (s_J11.trans (s_J12.trans s_J13))
      have p13 : Pu J13 p := p4.same a13
      -- list(place)
      refine ⟨_, rfl, b, _, rfl, .inr (seqT a13 hb4), fun lP hlP => ?_⟩
      have nP : lP ≠ p := p13.nne hlP
      have s_J14 : Same J13 (upd J13 lP (.lst (r.map V.int))) := same_upd hlP
      have g_J14 : (upd J13 lP (.lst (r.map V.int))) lP = some (.lst (r.map V.int)) := upd_same
      generalize upd J13 lP (.lst (r.map V.int)) = J14 at s_J14 g_J14 ⊢
      refine ⟨(by show 8 ≤ sizeLine; decide), fun L1 hL1 => ?_⟩
      have s_J15 : Same J14 (upd J14 L1 (.lst [.ref r1, .ref r2, .ref r3, .ref r4, .ref r5, .ref lP, .non, .int 0])) := same_upd hL1
      have g_J15 : (upd J14 L1 (.lst [.ref r1, .ref r2, .ref r3, .ref r4, .ref r5, .ref lP, .non, .int 0])) L1 = some (.lst [.ref r1, .ref r2, .ref r3, .ref r4, .ref r5, .ref lP, .non, .int 0]) := upd_same
      generalize upd J14 L1 (.lst [.ref r1, .ref r2, .ref r3, .ref r4, .ref r5, .ref lP, .non, .int 0]) = J15 at s_J15 g_J15 ⊢
      refine ⟨_, rfl, (by show 1 ≤ sizeLine; decide), fun t1 ht1 => ?_⟩
      have s_J16 : Same J15 (upd J15 t1 (.tup [.non])) := same_upd ht1
      have g_J16 : (upd J15 t1 (.tup [.non])) t1 = some (.tup [.non]) := upd_same
      generalize upd J15 t1 (.tup [.non]) = J16 at s_J16 g_J16 ⊢
      refine ⟨(by show 1 ≤ sizeLine; decide), fun t2 ht2 => ?_⟩
      have s_J17 : Same J16 (upd J16 t2 (.tup [.str "0"])) := same_upd ht2
      have g_J17 : (upd J16 t2 (.tup [.str "0"])) t2 = some (.tup [.str "0"]) := upd_same
      generalize upd J16 t2 (.tup [.str "0"]) = J17 at s_J17 g_J17 ⊢
      intro d1 hd1
      have a17 := a13.trans (s_J14.trans (s_J15.trans (s_J16.trans s_J17)))
      have nD : d1 ≠ p := (p4.same a17).nne hd1
      have s_J18 : Same J17 (upd J17 d1 (.dK [])) := same_upd hd1
      have g_J18 : (upd J17 d1 (.dK [])) d1 = some (.dK []) := upd_same
      generalize upd J17 d1 (.dK []) = J18 at s_J18 g_J18 ⊢
      refine ⟨Nat.zero_le _, fun t3 ht3 => ?_⟩
      have s_J19 : Same J18 (upd J18 t3 (.tup [])) := same_upd ht3
      have g_J19 : (upd J18 t3 (.tup [])) t3 = some (.tup []) := upd_same
      generalize upd J18 t3 (.tup []) = J19 at s_J19 g_J19 ⊢
      refine ⟨(by show 1 ≤ sizeLine; decide), fun t4 ht4 => ?_⟩
      have s_J20 : Same J19 (upd J19 t4 (.tup [.ref t3])) := same_upd ht4
      have g_J20 : (upd J19 t4 (.tup [.ref t3])) t4 = some (.tup [.ref t3]) := upd_same
      generalize upd J19 t4 (.tup [.ref t3]) = J20 at s_J20 g_J20 ⊢
      refine ⟨_, rfl, (by show 1 ≤ sizeLine; decide), fun q6 hq6 => ?_⟩
      have s_J21 : Same J20 (upd J20 q6 (.tup [.bl false])) := same_upd hq6
      have g_J21 : (upd J20 q6 (.tup [.bl false])) q6 = some (.tup [.bl false]) := upd_same
      generalize upd J20 q6 (.tup [.bl false]) = J21 at s_J21 g_J21 ⊢
      have a21 := a17.trans (s_J18.trans (s_J19.trans (s_J20.trans s_J21)))
      refine cat_tup (seqT a21 hb4) (SqT.of g_J21) (by show _ + 1 ≤ 1000; omega) fun r6 J22 s_J22 hr6 => ?_
      refine ⟨(by show 6 ≤ sizeLine; decide), fun L2 hL2 => ?_⟩
      have s_J23 : Same J22 (upd J22 L2 (.lst [.str "", .ref t1, .ref t2, .ref d1, .ref t4, .ref r6])) := same_upd hL2
      have g_J23 : (upd J22 L2 (.lst [.str "", .ref t1, .ref t2, .ref d1, .ref t4, .ref r6])) L2 = some (.lst [.str "", .ref t1, .ref t2, .ref d1, .ref t4, .ref r6]) := upd_same
      generalize upd J22 L2 (.lst [.str "", .ref t1, .ref t2, .ref d1, .ref t4, .ref r6]) = J23 at s_J23 g_J23 ⊢
      have c22 := s_J23
      have c21 := s_J22.trans c22
      have c20 := s_J21.trans c21
      have c19 := s_J20.trans c20
      have c18 := s_J19.trans c19
      have c17 := s_J18.trans c18
      have c16 := s_J17.trans c17
      have c15 := s_J16.trans c16
      have c14 := s_J15.trans c15
      have c13 := s_J14.trans c14
      have c10 := s_J11.trans (s_J12.trans (s_J13.trans c13))
      have c7 := s_J8.trans (s_J9.trans (s_J10.trans c10))
      have c4 := s_J5.trans (s_J6.trans (s_J7.trans c7))
      have c2 := s_J3.trans (s_J4.trans c4)
      have c0 := a2.trans c2
      refine ⟨L1, L2, _, _, rfl, rfl, c15 _ _ g_J15, g_J23, (by show 14 ≤ sizeLine; decide), fun L3 hL3 => ?_⟩
      have p23 : Pu J23 p := p4.same c0
      have tH : Tups K J23 (hide J23 p) := p23.tups off_hide
      have leafN : ∀ e : PyData, t.walk (r.map .int ++ [e]) = none := fun e => by
        rw [Th.walk_app, hwk]
        have hl : pr.2.isPr = false := by
          cases h : pr.2.isPr with
          | false => rfl
          | true =>
            rw [h] at hleaf
            cases hleaf
        cases h : pr.2 with
        | lf _ => rfl
        | pr _ _ =>
          rw [h] at hl
          cases hl
      have stepN : ∀ (z : List PyData) (e : PyData), stepOf e = none → t.walk (z ++ [e]) = none := fun z e he => by
        rw [Th.walk_app]
        cases t.walk z with
        | none => rfl
        | some u => exact Th.walk_no he
      obtain ⟨f1, f2, f3⟩ := smInts (l := r) rbits (by omega)
      obtain ⟨g1, g2, g3⟩ := smInts (l := m) mbits (by omega)
      obtain ⟨k1', k2', k3'⟩ := smInts (l := n) nbits (by omega)
      have bad : ∀ v ∈ [V.ref r1, .ref r2, .ref r3, .ref r4, .ref r5, .ref lP, .non, .int 0] ++ [V.str "", .ref t1, .ref t2, .ref d1, .ref t4, .ref r6], BadP K (hide J23 p) t v := by
        intro v hv
        simp only [List.mem_cons, List.mem_append, List.not_mem_nil, or_false] at hv
        rcases hv with (rfl | rfl | rfl | rfl | rfl | rfl | rfl | rfl) | (rfl | rfl | rfl | rfl | rfl | rfl)
        · exact ⟨_, .tup (tH _ _ (seqT c2 hr1)) ((dqInts r).app (.cons (.int 0) .nil)), leafN _, smSeq f1 (by omega) (by omega) (by decide +kernel) (by decide) (by decide)⟩
        · exact ⟨_, .tup (tH _ _ (seqT c4 hr2)) ((dqInts r).app (.cons (.int 1) .nil)), leafN _, smSeq f1 (by omega) (by omega) (by decide +kernel) (by decide) (by decide)⟩
        · exact ⟨_, .tup (tH _ _ (seqT c7 hr3)) ((dqInts m).app (.cons (.int 2) .nil)), stepN _ _ rfl, smSeq g1 (by omega) (by omega) (by decide +kernel) (by decide) (by decide)⟩
        · exact ⟨_, .tup (tH _ _ (seqT c10 hr4)) ((dqInts m).app (.cons (.int (-1)) .nil)), stepN _ _ rfl, smSeq g1 (by omega) (by omega) (by decide +kernel) (by decide) (by decide)⟩
        · exact ⟨_, .tup (tH _ _ (seqT c13 hr5)) (.cons (.bl true) (dqInts n)), Th.walk_no rfl, smSeq (a := [.bool true]) (b := n.map .int) rfl (by decide) (by decide) k1' (by omega) (by omega)⟩
        · exact ⟨_, .lst (SqL.of (hide_get nP (c14 _ _ g_J14))) (dqInts r), rfl, f1, by show PyData.bulkAll (r.map .int) ≤ 3000; omega, by show PyData.depthAll (r.map .int) + 1 ≤ 120; omega⟩
        · exact ⟨_, .non, rfl, rfl, by decide, by decide⟩
        · exact ⟨_, .int 0, rfl, Sm.int (by decide)⟩
        · exact ⟨_, .str _, rfl, by decide +kernel, by decide +kernel, by decide⟩
        · exact ⟨_, .tup (tH _ _ (SqT.of (c16 _ _ g_J16))) (.cons .non .nil), Th.walk_no rfl, rfl, by decide, by decide⟩
        · exact ⟨_, .tup (tH _ _ (SqT.of (c17 _ _ g_J17))) (.cons (.str _) .nil), Th.walk_no rfl, by decide +kernel, by decide +kernel, by decide⟩
        · exact ⟨_, .dct (hide_get nD (c18 _ _ g_J18)), rfl, rfl, by decide, by decide⟩
        · exact ⟨_, .tup (tH _ _ (SqT.of (c20 _ _ g_J20))) (.cons (.tup (tH _ _ (SqT.of (c19 _ _ g_J19))) .nil) .nil), Th.walk_no rfl, rfl, by decide, by decide⟩
        · exact ⟨_, .tup (tH _ _ (seqT c22 hr6)) ((dqInts r).app (.cons (.bl false) .nil)), leafN _, smSeq f1 (by omega) (by omega) rfl (by decide) (by decide)⟩
      have p24 : Pu (upd J23 L3 (.lst ([V.ref r1, .ref r2, .ref r3, .ref r4, .ref r5, .ref lP, .non, .int 0] ++ [V.str "", .ref t1, .ref t2, .ref d1, .ref t4, .ref r6]))) p := p23.new hL3
      have n3 : L3 ≠ p := p23.nne hL3
      refine ⟨_, rfl, p, 14, rfl, p24, by decide, lt9000 (by decide), fun z H5 z0 z1 o5 p5 => ?_⟩
      obtain ⟨y, hL5, hy5, hm5⟩ := lst_at (o5 L3 _ n3 upd_same) z0 z1
      obtain ⟨d, hd5, dn, dm⟩ := bad y hm5
      refine ⟨L3, _, z, y, rfl, rfl, SqL.of hL5, hy5, q y H5 ⟨d, (hd5.same (hide_off (Off.of (same_upd hL3)))).same (hide_off o5), dn, dm⟩ ?_ p5⟩
      exact (o04.trans (Off.of (c0.trans (same_upd hL3)))).trans o5
end


section
variable {P : Program} {w : World} {K : PySem.W.Frag} {mg : Str → Option Value} {base : Heap}
theorem GoodT.term {t : Th} (h : GoodT t 100) : t.isTerm = true ∧ OkTh t ∧ t.parts ≤ 100 := by
  have hp : t.parts ≤ 100 := by
    have := h.2.2.2
    omega
  refine ⟨?_, ⟨h.1, h.2.2.1⟩, hp⟩
  show (t.okL && decide (t.parts ≤ 100)) = true
  rw [h.2.1, decide_eq_true hp]
  rfl
def sp_l_right (K : PySem.W.Frag) : Sp := fun vs H Q _ => ∃ (p : Addr) (x : V) (t : Th) (z : V) (u : Th), vs = [.ref p, x, z] ∧ Pu H p ∧ Dq K H x t.toD ∧ GoodT t 100 ∧ Dq K H z u.toD ∧ GoodT u 100 ∧ ∀ H', Off p H H' → Pu H' p → Q (.bl true) H'
theorem ok_l_right (T : Env K mg) : FnG P w K mg base CX0 105 T.a_l_right T.d_l_right ["_law_purse_here", "_law_term_here", "_law_part"] (sp_l_right K) := by
  have G_l_take : FnOk P w K mg base CX0 104 T.a_l_take T.d_l_take ["_law_purse_here", "_law_many"] (sp_l_take K) := (ok_l_take T).mono (by decide)
  have G_l_places : FnOk P w K mg base CX0 104 T.a_l_places T.d_l_places ["_law_term_here", "_law_place"] (sp_l_places K 101) := (ok_l_places T 101).mono (by decide)
  have G_l_parts : FnOk P w K mg base CX0 104 T.a_l_parts T.d_l_parts ["_law_term_here"] (sp_l_parts K 101) := (ok_l_parts T 101).mono (by decide)
  have G_l_put : FnOk P w K mg base CX0 104 T.a_l_put T.d_l_put ["_law_term_here", "_law_place", "_law_part"] (sp_l_put K 101) := (ok_l_put T 101).mono (by decide)
  have G_l_said : FnG P w K mg base CX0 104 T.a_l_said T.d_l_said ["_law_term_here", "_law_place", "_law_part"] (sp_l_said K) := ok_l_said T
  have G_l_seen : FnG P w K mg base CX0 104 T.a_l_seen T.d_l_seen ["_law_term_here", "_law_place"] (sp_l_seen K) := ok_l_seen T
  refine okG T.F_l_right sc_l_right (fun vs H Q E h => ?_) (fun cdv A outer s H vs Q E hr hgd h => ?_)
  · obtain ⟨p, x, t, z, u, rfl, _⟩ := h
    rfl
  · obtain ⟨p, x, t, z, u, rfl, hp, hx, gt, hz, gu, q⟩ := h
    have hr_l_take := hr
    have hr_l_places := hr
    have hr_l_parts := hr
    have hr_l_put := hr
    have hr_l_said := hr
    have hr_l_seen := hr
    obtain ⟨tT, tO, tp⟩ := gt.term
    obtain ⟨uT, uO, up⟩ := gu.term
    obtain ⟨tS, tb, tdp⟩ := smTerm tO tT
    obtain ⟨uS, ub, udp⟩ := smTerm uO uT
    have td := t.deep_half
    have ud := u.deep_half
    have tpp := t.parts_pos
    have sG : Sm (.str "great") := smS _ (by decide +kernel) (by decide +kernel)
    have sO : Sm (.str "told") := smS _ (by decide +kernel) (by decide +kernel)
    refine ⟨_, (pss_cons (ps_set (i := 3) sc_l_right.nd rfl (Or.inl rfl) (pe_call G_l_places hr_l_places (by rfl) T.g_l_places T.F_l_places.kp T.b_l_places .nil pass0 (pa_cons (pv 1) (pa_cons (pe_tup pa_nil) pa_nil))))
      (pss_cons (ps_asg (pe_ix ix_list (pv 3) (pe_call G_l_take hr_l_take (by rfl) T.g_l_take T.F_l_take.kp T.b_l_take .nil pass0 (pa_cons (pv 0) (pa_cons (pe_callB call_len_seq (by rfl) T.m_len PySem.boot_len (pa_cons (pv 3) pa_nil)) pa_nil))) (fun _ _ => rfl)) (pg_tup (by rfl) (pgs_cons (pg_name (i := 4) sc_l_right.nd rfl (Or.inl rfl)) (pgs_cons (pg_name (i := 5) sc_l_right.nd rfl (Or.inl rfl)) pgs_nil))))
      (pss_cons (ps_set (i := 6) sc_l_right.nd rfl (Or.inl rfl) (pe_op op_add (pe_op op_sub (pe_call G_l_parts hr_l_parts (by rfl) T.g_l_parts T.F_l_parts.kp T.b_l_parts .nil pass0 (pa_cons (pv 1) pa_nil)) (pe_call G_l_parts hr_l_parts (by rfl) T.g_l_parts T.F_l_parts.kp T.b_l_parts .nil pass0 (pa_cons (pv 5) pa_nil))) (pe_call G_l_parts hr_l_parts (by rfl) T.g_l_parts T.F_l_parts.kp T.b_l_parts .nil pass0 (pa_cons (pv 2) pa_nil))))
      (pss_cons (ps_set (i := 7) sc_l_right.nd rfl (Or.inl rfl) (pe_callB (call_reprL hgd (un2 hr)) (by rfl) T.m_repr PyProof.Rows.boot_repr (pa_cons (pe_lst (pa_cons pe_str (pa_cons (pe_call G_l_put hr_l_put (by rfl) T.g_l_put T.F_l_put.kp T.b_l_put .nil pass0 (pa_cons (pv 1) (pa_cons (pv 4) (pa_cons (pv 2) pa_nil)))) pa_nil))) pa_nil)))
      (pss_cons (ps_if (pt_cmpR op_gt (pv 6) pe_int (nomark _)) (pss_one (ps_set (i := 7) sc_l_right.nd rfl (Or.inl rfl) (pe_callB (call_reprL hgd (un2 hr)) (by rfl) T.m_repr PyProof.Rows.boot_repr (pa_cons (pe_lst (pa_cons pe_str (pa_cons (pv 6) (pa_cons pe_bl pa_nil)))) pa_nil)))) pss_nil)
      (pss_one (ps_ret (pe_and (pe_cmpR op_eq (pe_callG G_l_said hr_l_said hgd (by rfl) T.g_l_said T.F_l_said.kp T.b_l_said pass0 (pa_cons (pv 1) (pa_cons (pv 4) (pa_cons (pv 2) pa_nil)))) (pv 7) (nomark _)) (pe_one (pe_cmpR op_eq (pe_callG G_l_seen hr_l_seen hgd (by rfl) T.g_l_seen T.F_l_seen.kp T.b_l_seen pass0 (pa_cons (pv 1) (pa_cons (pv 4) pa_nil))) (pe_callB (call_reprL hgd (un2 hr)) (by rfl) T.m_repr PyProof.Rows.boot_repr (pa_cons (pe_lst (pa_cons pe_str (pa_cons (pv 5) pa_nil))) pa_nil)) (nomark _))))))))))), ?_⟩
    refine ⟨_, rfl, Nat.zero_le _, fun e he => ?_⟩
    have s_H1 : Same H (upd H e (.tup [])) := same_upd he
    have g_H1 : (upd H e (.tup [])) e = some (.tup []) := upd_same
    generalize upd H e (.tup []) = H1 at s_H1 g_H1 ⊢
    refine ⟨x, t, e, [], H, rfl, s_H1, hx, tO.1, by omega, by decide, by omega, SqT.of g_H1, fun l es H2 hl s2 hL pp => ?_⟩
    have s02 : Same H H2 := s_H1.trans s2
    have len := pp.length
    rw [Th.pls_length] at len
    have p2 : Pu H2 p := hp.same s02
    have hlp : l ≠ p := fun e => by
      obtain ⟨_, _, _, h⟩ := hp.same s_H1
      rw [e, h] at hl
      cases hl
    refine ⟨_, rfl, _, rfl, _, rfl, l, _, rfl, .inl (SqL.of hL), p, _, rfl, p2, by omega, lt9000 (Nat.lt_of_le_of_lt (m := 100) (by omega) (by decide)), fun k H3 k0 k1 o3 p3 => ?_⟩
    obtain ⟨y, hL3, hy, hm⟩ := lst_at (o3 l _ hlp hL) k0 k1
    obtain ⟨i, hi⟩ := List.mem_iff_getElem?.mp hm
    obtain ⟨pr, hpr, a, b, xv, rfl, ha, hb, hxv⟩ := pp.get hi
    have t23 : Tups K H2 H3 := p2.tups o3
    have t03 : Tups K H H3 := (Tups.of s02).trans t23
    have hprm := List.mem_of_getElem? hpr
    obtain ⟨r, er, hwk⟩ := Th.pls_walk t [] pr hprm
    obtain ⟨r', er', hat, hrl⟩ := Th.pls_at t [] pr hprm
    rw [List.nil_append] at er er'
    have err : r' = r := er'.symm.trans er
    subst err
    rw [er] at hb
    obtain ⟨pl1, o⟩ := pr
    have hmem : o ∈ t.pre := by
      rw [← Th.pls_snd t []]
      exact List.mem_map_of_mem (f := Prod.snd) hprm
    have hwk : t.walk (r'.map .int) = some o := hwk
    obtain ⟨of, op⟩ := Th.pre_fine tO.2 hmem
    have onf := Th.pre_nf tO.1 hmem
    have ok := Th.ok_pre gt.2.1 hmem
    have od := o.deep_half
    obtain ⟨ob, odp⟩ := Th.ok_bulk ok
    have oS : Sm o.toD := ⟨of, by omega, by omega⟩
    have hx3 : Dq K H3 x t.toD := Dq.tups t03 _ _ (Th.ok_tup gt.2.1) hx
    have hz3 : Dq K H3 z u.toD := Dq.tups t03 _ _ (Th.ok_tup gu.2.1) hz
    have ho3 : Dq K H3 xv o.toD := Dq.tups t03 _ _ (Th.ok_tup ok) hxv
    have hb3 : SqT K H3 b (r'.map V.int) := t23 _ _ hb
    refine ⟨l, _, k, _, rfl, rfl, SqL.of hL3, hy, a, [.ref b, xv], rfl, t23 _ _ ha, rfl, .ref b, [xv], rfl, xv, [], rfl, rfl, ?_⟩
    have oH3 : Off p H H3 := (Off.of s02).trans o3
    refine ⟨_, rfl, x, t, rfl, hx3, tO.1, by omega, _, rfl, xv, o, rfl, ho3, onf, by omega, _, _, rfl, rfl, _, rfl, z, u, rfl, hz3, uO.1, by omega, _, _, rfl, rfl, ?_⟩
    refine ⟨_, rfl, _, rfl, _, rfl, x, t, b, r', z, u, rfl, hx3, hb3, hz3, hat, by omega, fun v H4 s4 hv => ⟨(by show 2 ≤ sizeLine; decide), fun l4 hl4 => ?_⟩⟩
    have s_H5 : Same H4 (upd H4 l4 (.lst [.str "told", v])) := same_upd hl4
    have g_H5 : (upd H4 l4 (.lst [.str "told", v])) l4 = some (.lst [.str "told", v]) := upd_same
    generalize upd H4 l4 (.lst [.str "told", v]) = H5 at s_H5 g_H5 ⊢
    obtain ⟨f1, f2, f3, f4⟩ := Th.put_good t r' u hat tO.1 tO.2 uO.1 uO.2
    obtain ⟨w1, w2, w3⟩ := sm2 sO (show Sm (t.put r' u).toD from ⟨f2, by omega, by omega⟩)
    refine ⟨l4, _, _, rfl, Dq.lst (SqL.of g_H5) (.cons (.str _) (.cons (hv.same s_H5) .nil)), w1, w2, w3, ?_⟩
    have s35 := s4.trans s_H5
    obtain ⟨i1, i2, i3⟩ := smInts (l := r') (Th.At_bits t r' hat) (by omega)
    have dS : Sm (.tuple (r'.map .int)) := ⟨i1, by show PyData.bulkAll (r'.map .int) ≤ 3000; omega, by show PyData.depthAll (r'.map .int) + 1 ≤ 120; omega⟩
    have hpl : placeOf t (.tuple (r'.map .int)) = some o := hwk
    have eSee : seeSays t (.tuple (r'.map .int)) = [.str "told", o.toD] := by
      unfold seeSays
      rw [if_pos tT, hpl]
    -- the last test
    have last : ∀ H6, Same H3 H6 → ∃ k, V.bl true = .bl k ∧ True := fun _ _ => ⟨_, rfl, trivial⟩
    refine ⟨_, rfl, _, _, rfl, rfl, _, rfl, ite2 (fun c => ?_) (fun c => ?_)⟩
    · have c := of_decide_eq_true c
      refine ⟨_, rfl, (by show 3 ≤ sizeLine; decide), fun l6 hl6 => ?_⟩
      have s_H6 : Same H5 (upd H5 l6 (.lst [.str "great", .int ((t.parts : Int) - o.parts + u.parts), .bl false])) := same_upd hl6
      have g_H6 : (upd H5 l6 (.lst [.str "great", .int ((t.parts : Int) - o.parts + u.parts), .bl false])) l6 = some (.lst [.str "great", .int ((t.parts : Int) - o.parts + u.parts), .bl false]) := upd_same
      generalize upd H5 l6 (.lst [.str "great", .int ((t.parts : Int) - o.parts + u.parts), .bl false]) = H6 at s_H6 g_H6 ⊢
      obtain ⟨w1, w2, w3⟩ := sm3 sG (Sm.int (i := (t.parts : Int) - o.parts + u.parts) (Nat.lt_of_le_of_lt (m := 200) (by omega) (by decide))) (Sm.bool false)
      refine ⟨l6, _, _, rfl, Dq.lst (SqL.of g_H6) (.cons (.str _) (.cons (.int _) (.cons (.bl _) .nil))), w1, w2, w3, ?_⟩
      have eS : putSays t (.tuple (r'.map .int)) u = [.str "great", .int ((t.parts : Int) - o.parts + u.parts), .bool false] := by
        unfold putSays
        rw [if_pos tT, hpl]
        dsimp only
        rw [if_pos uT, if_pos c]
      have s36 := s35.trans s_H6
      refine ⟨_, rfl, _, rfl, _, rfl, x, t, .ref b, _, z, u, rfl, hx3.same s36, tO, .tup (seqT s36 hb3) (dqInts r'), hz3.same s36, uO, tS, dS, uS, fun H7 s7 => ?_⟩
      rw [eS]
      refine ⟨_, rfl, rfl, true, congrArg V.bl (decide_eq_true rfl), ?_⟩
      have s37 := s36.trans s7
      refine ⟨_, rfl, _, rfl, x, t, .ref b, _, rfl, hx3.same s37, tO, .tup (seqT s37 hb3) (dqInts r'), tS, dS, fun H8 s8 => ?_⟩
      rw [eSee]
      refine ⟨_, rfl, (by show 2 ≤ sizeLine; decide), fun l9 hl9 => ?_⟩
      have s_H9 : Same H8 (upd H8 l9 (.lst [.str "told", xv])) := same_upd hl9
      have g_H9 : (upd H8 l9 (.lst [.str "told", xv])) l9 = some (.lst [.str "told", xv]) := upd_same
      generalize upd H8 l9 (.lst [.str "told", xv]) = H9 at s_H9 g_H9 ⊢
      have s39 := s37.trans (s8.trans s_H9)
      obtain ⟨w1, w2, w3⟩ := sm2 sO oS
      refine ⟨l9, _, _, rfl, Dq.lst (SqL.of g_H9) (.cons (.str _) (.cons (ho3.same s39) .nil)), w1, w2, w3, rfl, ?_⟩
      have fin := q H9 (oH3.trans (Off.of s39)) (p3.same s39)
      rw [← (decide_eq_true rfl : decide (V.str (PyData.shown (.list [.str "told", o.toD])) = V.str (PyData.shown (.list [.str "told", o.toD]))) = true)] at fin
      exact fin
    · have c := of_decide_eq_false (Bool.eq_false_iff.mpr c)
      have eS : putSays t (.tuple (r'.map .int)) u = [.str "told", (t.put r' u).toD] := by
        unfold putSays
        rw [if_pos tT, hpl]
        dsimp only
        rw [if_pos uT, if_neg c, unint]
      have s36 := s35
      refine ⟨_, rfl, _, rfl, _, rfl, x, t, .ref b, _, z, u, rfl, hx3.same s36, tO, .tup (seqT s36 hb3) (dqInts r'), hz3.same s36, uO, tS, dS, uS, fun H7 s7 => ?_⟩
      rw [eS]
      refine ⟨_, rfl, rfl, true, congrArg V.bl (decide_eq_true rfl), ?_⟩
      have s37 := s36.trans s7
      refine ⟨_, rfl, _, rfl, x, t, .ref b, _, rfl, hx3.same s37, tO, .tup (seqT s37 hb3) (dqInts r'), tS, dS, fun H8 s8 => ?_⟩
      rw [eSee]
      refine ⟨_, rfl, (by show 2 ≤ sizeLine; decide), fun l9 hl9 => ?_⟩
      have s_H9 : Same H8 (upd H8 l9 (.lst [.str "told", xv])) := same_upd hl9
      have g_H9 : (upd H8 l9 (.lst [.str "told", xv])) l9 = some (.lst [.str "told", xv]) := upd_same
      generalize upd H8 l9 (.lst [.str "told", xv]) = H9 at s_H9 g_H9 ⊢
      have s39 := s37.trans (s8.trans s_H9)
      obtain ⟨w1, w2, w3⟩ := sm2 sO oS
      refine ⟨l9, _, _, rfl, Dq.lst (SqL.of g_H9) (.cons (.str _) (.cons (ho3.same s39) .nil)), w1, w2, w3, rfl, ?_⟩
      have fin := q H9 (oH3.trans (Off.of s39)) (p3.same s39)
      rw [← (decide_eq_true rfl : decide (V.str (PyData.shown (.list [.str "told", o.toD])) = V.str (PyData.shown (.list [.str "told", o.toD]))) = true)] at fin
      exact fin
end


section
variable {P : Program} {w : World} {K : PySem.W.Frag} {mg : Str → Option Value} {base : Heap}
theorem putSays_bad {t : Th} {d : PyData} {u : Th} (h : t.isTerm = false) : putSays t d u = [.str "term", t.toD, .bool false] := by
  unfold putSays
  rw [h]
  rfl
theorem putSays_place {t : Th} {d : PyData} {u : Th} (h : t.isTerm = true) (hp : placeOf t d = none) : putSays t d u = [.str "place", d, .bool false] := by
  unfold putSays
  rw [if_pos h, hp]
theorem putSays_part {t : Th} {u : Th} (h : t.isTerm = true) (hu : u.isTerm = false) : putSays t (.tuple []) u = [.str "term", u.toD, .bool false] := by
  have hp : placeOf t (.tuple []) = some t := Th.walk_nil t
  unfold putSays
  rw [if_pos h, hp]
  dsimp only
  rw [hu]
  rfl
theorem seeSays_bad {t : Th} {d : PyData} (h : t.isTerm = false) : seeSays t d = [.str "term", t.toD] := by
  unfold seeSays
  rw [h]
  rfl
theorem seeSays_place {t : Th} {d : PyData} (h : t.isTerm = true) (hp : placeOf t d = none) : seeSays t d = [.str "place", d] := by
  unfold seeSays
  rw [if_pos h, hp]
theorem seeSays_all {t : Th} (h : t.isTerm = true) : seeSays t (.tuple []) = [.str "told", t.toD] := by
  have hp : placeOf t (.tuple []) = some t := Th.walk_nil t
  unfold seeSays
  rw [if_pos h, hp]
theorem smUnit : Sm (.tuple []) := ⟨rfl, by decide, by decide⟩
def sp_l_refused (K : PySem.W.Frag) : Sp := fun vs H Q _ => ∃ (p : Addr) (x : V) (t : Th) (z : V) (u : Th), vs = [.ref p, x, z] ∧ Pu H p ∧ Dq K H x t.toD ∧ GoodT t 100 ∧ Dq K H z u.toD ∧ GoodT u 100 ∧ ∀ H', Off p H H' → Pu H' p → Q (.bl true) H'
theorem ok_l_refused (T : Env K mg) : FnG P w K mg base CX0 105 T.a_l_refused T.d_l_refused ["_law_purse_here", "_law_term_here", "_law_part"] (sp_l_refused K) := by
  have G_l_bad_place : FnOk P w K mg base CX0 104 T.a_l_bad_place T.d_l_bad_place ["_law_purse_here", "_law_term_here"] (sp_l_bad_place K) := (ok_l_bad_place T).mono (by decide)
  have G_l_no_term : FnOk P w K mg base CX0 104 T.a_l_no_term T.d_l_no_term ["_law_purse_here"] (sp_l_no_term K) := (ok_l_no_term T).mono (by decide)
  have G_l_said : FnG P w K mg base CX0 104 T.a_l_said T.d_l_said ["_law_term_here", "_law_place", "_law_part"] (sp_l_said K) := ok_l_said T
  have G_l_seen : FnG P w K mg base CX0 104 T.a_l_seen T.d_l_seen ["_law_term_here", "_law_place"] (sp_l_seen K) := ok_l_seen T
  refine okG T.F_l_refused sc_l_refused (fun vs H Q E h => ?_) (fun cdv A outer s H vs Q E hr hgd h => ?_)
  · obtain ⟨p, x, t, z, u, rfl, _⟩ := h
    rfl
  · obtain ⟨p, x, t, z, u, rfl, hp, hx, gt, hz, gu, q⟩ := h
    have hr_l_bad_place := hr
    have hr_l_no_term := hr
    have hr_l_said := hr
    have hr_l_seen := hr
    obtain ⟨tT, tO, tp⟩ := gt.term
    obtain ⟨uT, uO, up⟩ := gu.term
    have tS := (smTerm tO tT).1
    have uS := (smTerm uO uT).1
    have sT : Sm (.str "term") := smS _ (by decide +kernel) (by decide +kernel)
    have sP : Sm (.str "place") := smS _ (by decide +kernel) (by decide +kernel)
    refine ⟨_, (pss_cons (ps_set (i := 3) sc_l_refused.nd rfl (Or.inl rfl) (pe_call G_l_bad_place hr_l_bad_place (by rfl) T.g_l_bad_place T.F_l_bad_place.kp T.b_l_bad_place .nil pass0 (pa_cons (pv 0) (pa_cons (pv 1) pa_nil))))
      (pss_cons (ps_set (i := 4) sc_l_refused.nd rfl (Or.inl rfl) (pe_call G_l_no_term hr_l_no_term (by rfl) T.g_l_no_term T.F_l_no_term.kp T.b_l_no_term .nil pass0 (pa_cons (pv 0) pa_nil)))
      (pss_cons (ps_set (i := 5) sc_l_refused.nd rfl (Or.inl rfl) (pe_call G_l_no_term hr_l_no_term (by rfl) T.g_l_no_term T.F_l_no_term.kp T.b_l_no_term .nil pass0 (pa_cons (pv 0) pa_nil)))
      (pss_cons (ps_if (PW.pt (pw_or (pt_cmpR op_ne (pe_callG G_l_said hr_l_said hgd (by rfl) T.g_l_said T.F_l_said.kp T.b_l_said pass0 (pa_cons (pv 4) (pa_cons (pv 3) (pa_cons (pv 5) pa_nil)))) (pe_callB (call_reprL hgd (un2 hr)) (by rfl) T.m_repr PyProof.Rows.boot_repr (pa_cons (pe_lst (pa_cons pe_str (pa_cons (pv 4) (pa_cons pe_bl pa_nil)))) pa_nil)) (nomark _)) (pw_or1 (pt_cmpR op_ne (pe_callG G_l_seen hr_l_seen hgd (by rfl) T.g_l_seen T.F_l_seen.kp T.b_l_seen pass0 (pa_cons (pv 4) (pa_cons (pv 3) pa_nil))) (pe_callB (call_reprL hgd (un2 hr)) (by rfl) T.m_repr PyProof.Rows.boot_repr (pa_cons (pe_lst (pa_cons pe_str (pa_cons (pv 4) pa_nil))) pa_nil)) (nomark _))))) (pss_one (ps_ret pe_bl)) pss_nil)
      (pss_cons (ps_for PassesOwn.never (by rfl) (pi_list (pe_lst (pa_cons (pv 2) (pa_cons (pv 4) pa_nil)))) (pg_name (i := 6) sc_l_refused.nd rfl (Or.inl rfl)) (pss_one (ps_if (pt_cmpR op_ne (pe_callG G_l_said hr_l_said hgd (by rfl) T.g_l_said T.F_l_said.kp T.b_l_said pass0 (pa_cons (pv 1) (pa_cons (pv 3) (pa_cons (pv 6) pa_nil)))) (pe_callB (call_reprL hgd (un2 hr)) (by rfl) T.m_repr PyProof.Rows.boot_repr (pa_cons (pe_lst (pa_cons pe_str (pa_cons (pv 3) (pa_cons pe_bl pa_nil)))) pa_nil)) (nomark _)) (pss_one (ps_ret pe_bl)) pss_nil)))
      (pss_cons (ps_if (pt_cmpR op_ne (pe_callG G_l_seen hr_l_seen hgd (by rfl) T.g_l_seen T.F_l_seen.kp T.b_l_seen pass0 (pa_cons (pv 1) (pa_cons (pv 3) pa_nil))) (pe_callB (call_reprL hgd (un2 hr)) (by rfl) T.m_repr PyProof.Rows.boot_repr (pa_cons (pe_lst (pa_cons pe_str (pa_cons (pv 3) pa_nil))) pa_nil)) (nomark _)) (pss_one (ps_ret pe_bl)) pss_nil)
      (pss_one (ps_ret (pe_cmpR op_eq (pe_callG G_l_said hr_l_said hgd (by rfl) T.g_l_said T.F_l_said.kp T.b_l_said pass0 (pa_cons (pv 1) (pa_cons (pe_tup pa_nil) (pa_cons (pv 5) pa_nil)))) (pe_callB (call_reprL hgd (un2 hr)) (by rfl) T.m_repr PyProof.Rows.boot_repr (pa_cons (pe_lst (pa_cons pe_str (pa_cons (pv 5) (pa_cons pe_bl pa_nil)))) pa_nil)) (nomark _)))))))))), ?_⟩
    refine ⟨_, rfl, _, rfl, p, x, t, rfl, hp, hx, gt, fun y H1 hb1 o1 p1 => ?_⟩
    refine ⟨_, rfl, p, rfl, p1, fun v1 u1 H2 h2 n1 o2 p2 => ?_⟩
    refine ⟨_, rfl, p, rfl, p2, fun v2 u2 H3 h3 n2 o3 p3 => ?_⟩
    obtain ⟨d, hd1, dn, dS⟩ := hb1
    have hy : Dq K H3 y d := ((hd1.same (hide_off o2)).same (hide_off o3)).same (hide_sub H3 p)
    have hv1 : Dq K H3 v1 u1.toD := (h2.same (hide_off o3)).same (hide_sub H3 p)
    have hv2 : Dq K H3 v2 u2.toD := h3.same (hide_sub H3 p)
    have o03 : Off p H H3 := (o1.trans o2).trans o3
    have t03 : Tups K H H3 := hp.tups o03
    have hx3 : Dq K H3 x t.toD := Dq.tups t03 _ _ (Th.ok_tup gt.2.1) hx
    have hz3 : Dq K H3 z u.toD := Dq.tups t03 _ _ (Th.ok_tup gu.2.1) hz
    -- the first test
    refine ⟨_, rfl, _, rfl, _, rfl, v1, u1, y, d, v2, u2, rfl, hv1, n1.1, hy, hv2, n2.1, n1.sm, dS, n2.sm, fun H4 s4 => ?_⟩
    rw [putSays_bad n1.2.1]
    refine ⟨_, rfl, (by show 3 ≤ sizeLine; decide), fun l5 hl5 => ?_⟩
    have s_H5 : Same H4 (upd H4 l5 (.lst [.str "term", v1, .bl false])) := same_upd hl5
    have g_H5 : (upd H4 l5 (.lst [.str "term", v1, .bl false])) l5 = some (.lst [.str "term", v1, .bl false]) := upd_same
    generalize upd H4 l5 (.lst [.str "term", v1, .bl false]) = H5 at s_H5 g_H5 ⊢
    have s35 := s4.trans s_H5
    obtain ⟨w1, w2, w3⟩ := sm3 sT n1.sm (Sm.bool false)
    refine ⟨l5, _, _, rfl, Dq.lst (SqL.of g_H5) (.cons (.str _) (.cons (hv1.same s35) (.cons (.bl _) .nil))), w1, w2, w3, rfl, false, congrArg V.bl (congrArg Bool.not (decide_eq_true rfl)), ?_⟩
    refine ⟨_, rfl, _, rfl, v1, u1, y, d, rfl, hv1.same s35, n1.1, hy.same s35, n1.sm, dS, fun H6 s6 => ?_⟩
    rw [seeSays_bad n1.2.1]
    refine ⟨_, rfl, (by show 2 ≤ sizeLine; decide), fun l7 hl7 => ?_⟩
    have s_H7 : Same H6 (upd H6 l7 (.lst [.str "term", v1])) := same_upd hl7
    have g_H7 : (upd H6 l7 (.lst [.str "term", v1])) l7 = some (.lst [.str "term", v1]) := upd_same
    generalize upd H6 l7 (.lst [.str "term", v1]) = H7 at s_H7 g_H7 ⊢
    have s37 := s35.trans (s6.trans s_H7)
    obtain ⟨w1, w2, w3⟩ := sm2 sT n1.sm
    refine ⟨l7, _, _, rfl, Dq.lst (SqL.of g_H7) (.cons (.str _) (.cons (hv1.same s37) .nil)), w1, w2, w3, rfl, false, congrArg V.bl (congrArg Bool.not (decide_eq_true rfl)), ?_⟩
    -- with both parts
    refine ⟨_, rfl, _, rfl, (by show 2 ≤ sizeLine; decide), fun l8 hl8 => ?_⟩
    have s_H8 : Same H7 (upd H7 l8 (.lst [z, v1])) := same_upd hl8
    have g_H8 : (upd H7 l8 (.lst [z, v1])) l8 = some (.lst [z, v1]) := upd_same
    generalize upd H7 l8 (.lst [z, v1]) = H8 at s_H8 g_H8 ⊢
    have s38 := s37.trans s_H8
    refine ⟨l8, rfl, ⟨_, SqL.of g_H8⟩, for_list (K := K) (a := l8) (xs := [z, v1]) (fun i σ H' => ∃ s6', σ = [some (.ref p), some x, some z, some y, some v1, some v2, s6'] ∧ Same H8 H') ⟨none, rfl, Same.refl H8⟩ (fun i σ H' _ ⟨_, _, sm⟩ => sm.seq (SqL.of g_H8)) ?_ ?_⟩
    · rintro i wv σ H9 hi ⟨s6', rfl, s9⟩
      have s39 := s38.trans s9
      have hw : ∃ uw, Dq K H3 wv uw.toD ∧ OkTh uw ∧ Sm uw.toD := by
        have hm := List.mem_of_getElem? hi
        simp only [List.mem_cons, List.not_mem_nil, or_false] at hm
        rcases hm with rfl | rfl
        · exact ⟨u, hz3, uO, uS⟩
        · exact ⟨u1, hv1, n1.1, n1.sm⟩
      obtain ⟨uw, hw, wO, wS⟩ := hw
      refine ⟨_, rfl, _, rfl, _, rfl, x, t, y, d, wv, uw, rfl, hx3.same s39, tO, hy.same s39, hw.same s39, wO, tS, dS, wS, fun H10 s10 => ?_⟩
      rw [putSays_place tT dn]
      refine ⟨_, rfl, (by show 3 ≤ sizeLine; decide), fun l11 hl11 => ?_⟩
      have s_H11 : Same H10 (upd H10 l11 (.lst [.str "place", y, .bl false])) := same_upd hl11
      have g_H11 : (upd H10 l11 (.lst [.str "place", y, .bl false])) l11 = some (.lst [.str "place", y, .bl false]) := upd_same
      generalize upd H10 l11 (.lst [.str "place", y, .bl false]) = H11 at s_H11 g_H11 ⊢
      have s9b := s9.trans (s10.trans s_H11)
      obtain ⟨w1, w2, w3⟩ := sm3 sP dS (Sm.bool false)
      refine ⟨l11, _, _, rfl, Dq.lst (SqL.of g_H11) (.cons (.str _) (.cons (hy.same (s38.trans s9b)) (.cons (.bl _) .nil))), w1, w2, w3, rfl, false, congrArg V.bl (congrArg Bool.not (decide_eq_true rfl)), ?_⟩
      exact ⟨_, rfl, s9b⟩
    · rintro σ H9 ⟨s6', rfl, s9⟩
      have s39 := s38.trans s9
      refine ⟨_, rfl, _, rfl, x, t, y, d, rfl, hx3.same s39, tO, hy.same s39, tS, dS, fun H10 s10 => ?_⟩
      rw [seeSays_place tT dn]
      refine ⟨_, rfl, (by show 2 ≤ sizeLine; decide), fun l11 hl11 => ?_⟩
      have s_H11 : Same H10 (upd H10 l11 (.lst [.str "place", y])) := same_upd hl11
      have g_H11 : (upd H10 l11 (.lst [.str "place", y])) l11 = some (.lst [.str "place", y]) := upd_same
      generalize upd H10 l11 (.lst [.str "place", y]) = H11 at s_H11 g_H11 ⊢
      have s3b := s39.trans (s10.trans s_H11)
      obtain ⟨w1, w2, w3⟩ := sm2 sP dS
      refine ⟨l11, _, _, rfl, Dq.lst (SqL.of g_H11) (.cons (.str _) (.cons (hy.same s3b) .nil)), w1, w2, w3, rfl, false, congrArg V.bl (congrArg Bool.not (decide_eq_true rfl)), ?_⟩
      refine ⟨_, rfl, Nat.zero_le _, fun e12 he12 => ?_⟩
      have s_H12 : Same H11 (upd H11 e12 (.tup [])) := same_upd he12
      have g_H12 : (upd H11 e12 (.tup [])) e12 = some (.tup []) := upd_same
      generalize upd H11 e12 (.tup []) = H12 at s_H12 g_H12 ⊢
      have s3c := s3b.trans s_H12
      refine ⟨_, rfl, x, t, .ref e12, .tuple [], v2, u2, rfl, hx3.same s3c, tO, .tup (SqT.of g_H12) .nil, hv2.same s3c, n2.1, tS, smUnit, n2.sm, fun H13 s13 => ?_⟩
      rw [putSays_part tT n2.2.1]
      refine ⟨_, rfl, (by show 3 ≤ sizeLine; decide), fun l14 hl14 => ?_⟩
      have s_H14 : Same H13 (upd H13 l14 (.lst [.str "term", v2, .bl false])) := same_upd hl14
      have g_H14 : (upd H13 l14 (.lst [.str "term", v2, .bl false])) l14 = some (.lst [.str "term", v2, .bl false]) := upd_same
      generalize upd H13 l14 (.lst [.str "term", v2, .bl false]) = H14 at s_H14 g_H14 ⊢
      have s3d := s3c.trans (s13.trans s_H14)
      obtain ⟨w1, w2, w3⟩ := sm3 sT n2.sm (Sm.bool false)
      refine ⟨l14, _, _, rfl, Dq.lst (SqL.of g_H14) (.cons (.str _) (.cons (hv2.same s3d) (.cons (.bl _) .nil))), w1, w2, w3, rfl, ?_⟩
      have fin := q H14 (o03.trans (Off.of s3d)) (p3.same s3d)
      rw [← (decide_eq_true rfl : decide (V.str (PyData.shown (.list [.str "term", u2.toD, .bool false])) = V.str (PyData.shown (.list [.str "term", u2.toD, .bool false]))) = true)] at fin
      exact fin
/-- the law's row of numbers -/
def Th.full : Nat → Th
  | 0 => .lf (.str "a")
  | n + 1 => .pr (.lf (.int n)) (Th.full n)
theorem Th.full_nf : ∀ n, (Th.full n).nf
  | 0 => rfl
  | n + 1 => ⟨rfl, full_nf n⟩
def sp_law (K : PySem.W.Frag) : Sp := fun vs H Q _ => ∃ (a : Addr) (ns : List Int), vs = [.ref a] ∧ SqL K H a (ns.map V.int) ∧ ns.length ≤ 63 ∧ ∀ H', Q (.bl true) H'
theorem ok_law (T : Env K mg) : FnG P w K mg base CX0 106 T.a_law T.d_law ["_law_script"] (sp_law K) := by
  have G_l_cell : FnOk P w K mg base CX0 105 T.a_l_cell T.d_l_cell ["_law_script", "_law_k"] (sp_l_cell K) := (ok_l_cell T).mono (by decide)
  have G_l_purse : FnOk P w K mg base CX0 105 T.a_l_purse T.d_l_purse ["_law_cell_here"] (sp_l_purse K) := (ok_l_purse T).mono (by decide)
  have G_l_room : FnOk P w K mg base CX0 105 T.a_l_room T.d_l_room ["_law_purse_here"] (sp_l_room K) := (ok_l_room T).mono (by decide)
  have G_l_term : FnOk P w K mg base CX0 105 T.a_l_term T.d_l_term ["_law_purse_here", "_law_room_here"] (sp_l_term K 100) := (ok_l_term T 100).mono (by decide)
  have G_l_right : FnG P w K mg base CX0 105 T.a_l_right T.d_l_right ["_law_purse_here", "_law_term_here", "_law_part"] (sp_l_right K) := ok_l_right T
  have G_l_refused : FnG P w K mg base CX0 105 T.a_l_refused T.d_l_refused ["_law_purse_here", "_law_term_here", "_law_part"] (sp_l_refused K) := ok_l_refused T
  have G_l_said : FnG P w K mg base CX0 105 T.a_l_said T.d_l_said ["_law_term_here", "_law_place", "_law_part"] (sp_l_said K) := (ok_l_said T).mono (by decide)
  have G_l_seen : FnG P w K mg base CX0 105 T.a_l_seen T.d_l_seen ["_law_term_here", "_law_place"] (sp_l_seen K) := (ok_l_seen T).mono (by decide)
  refine okG T.F_law sc_law (fun vs H Q E h => ?_) (fun cdv A outer s H vs Q E hr hgd h => ?_)
  · obtain ⟨a, ns, rfl, _⟩ := h
    rfl
  · obtain ⟨a, ns, rfl, hS, hn, q⟩ := h
    have hr_l_cell := hr
    have hr_l_purse := hr
    have hr_l_room := hr
    have hr_l_term := hr
    have hr_l_right := hr
    have hr_l_refused := hr
    have hr_l_said := hr
    have hr_l_seen := hr
    refine ⟨_, (pss_cons (ps_for PassesOwn.never (by rfl) (pi_list (pe_op op_cat (pe_slice sl_list (pv 0) po_none (po_some pe_int)) (pe_lst (pa_cons (pe_call G_l_cell hr_l_cell (by rfl) T.g_l_cell T.F_l_cell.kp T.b_l_cell .nil pass0 (pa_cons (pv 0) (pa_cons pe_int pa_nil))) pa_nil)))) (pg_name (i := 1) sc_law.nd rfl (Or.inl rfl)) (pss_cons (ps_set (i := 2) sc_law.nd rfl (Or.inl rfl) (pe_call G_l_purse hr_l_purse (by rfl) T.g_l_purse T.F_l_purse.kp T.b_l_purse .nil pass0 (pa_cons (pv 1) pa_nil)))
      (pss_cons (ps_set (i := 3) sc_law.nd rfl (Or.inl rfl) (pe_call G_l_term hr_l_term (by rfl) T.g_l_term T.F_l_term.kp T.b_l_term .nil pass0 (pa_cons (pv 2) (pa_cons (pe_call G_l_room hr_l_room (by rfl) T.g_l_room T.F_l_room.kp T.b_l_room .nil pass0 (pa_cons (pv 2) pa_nil)) pa_nil))))
      (pss_cons (ps_set (i := 4) sc_law.nd rfl (Or.inl rfl) (pe_call G_l_term hr_l_term (by rfl) T.g_l_term T.F_l_term.kp T.b_l_term .nil pass0 (pa_cons (pv 2) (pa_cons (pe_call G_l_room hr_l_room (by rfl) T.g_l_room T.F_l_room.kp T.b_l_room .nil pass0 (pa_cons (pv 2) pa_nil)) pa_nil))))
      (pss_cons (ps_set (i := 5) sc_law.nd rfl (Or.inl rfl) (pe_callB (call_reprL hgd (un2 hr)) (by rfl) T.m_repr PyProof.Rows.boot_repr (pa_cons (pe_lst (pa_cons (pv 3) (pa_cons (pv 4) pa_nil))) pa_nil)))
      (pss_cons (ps_for PassesOwn.never (by rfl) (pi_range1 (by rfl) T.m_range (pa_cons pe_int pa_nil)) (pg_name (i := 6) sc_law.nd rfl (Or.inl rfl)) (pss_one (ps_if (PW.pt (pw_or (pt_not (pt_val (pe_callG G_l_right hr_l_right hgd (by rfl) T.g_l_right T.F_l_right.kp T.b_l_right pass0 (pa_cons (pv 2) (pa_cons (pv 3) (pa_cons (pv 4) pa_nil)))))) (pw_or1 (pt_not (pt_val (pe_callG G_l_refused hr_l_refused hgd (by rfl) T.g_l_refused T.F_l_refused.kp T.b_l_refused pass0 (pa_cons (pv 2) (pa_cons (pv 3) (pa_cons (pv 4) pa_nil))))))))) (pss_one (ps_ret pe_bl)) pss_nil)))
      (pss_one (ps_if (pt_cmpR op_ne (pe_callB (call_reprL hgd (un2 hr)) (by rfl) T.m_repr PyProof.Rows.boot_repr (pa_cons (pe_lst (pa_cons (pv 3) (pa_cons (pv 4) pa_nil))) pa_nil)) (pv 5) (nomark _)) (pss_one (ps_ret pe_bl)) pss_nil))))))))
      (pss_cons (ps_set (i := 7) sc_law.nd rfl (Or.inl rfl) pe_str)
      (pss_cons (ps_for PassesOwn.never (by rfl) (pi_range1 (by rfl) T.m_range (pa_cons pe_int pa_nil)) (pg_name (i := 8) sc_law.nd rfl (Or.inl rfl)) (pss_one (ps_set (i := 7) sc_law.nd rfl (Or.inl rfl) (pe_tup (pa_cons (pv 8) (pa_cons (pv 7) pa_nil))))))
      (pss_cons (ps_if (pt_cmpR op_ne (pe_callG G_l_said hr_l_said hgd (by rfl) T.g_l_said T.F_l_said.kp T.b_l_said pass0 (pa_cons (pv 7) (pa_cons (pe_tup (pa_cons pe_int pa_nil)) (pa_cons (pe_tup (pa_cons pe_str (pa_cons pe_int pa_nil))) pa_nil)))) (pe_callB (call_reprL hgd (un2 hr)) (by rfl) T.m_repr PyProof.Rows.boot_repr (pa_cons (pe_lst (pa_cons pe_str (pa_cons pe_int (pa_cons pe_bl pa_nil)))) pa_nil)) (nomark _)) (pss_one (ps_ret pe_bl)) pss_nil)
      (pss_one (ps_ret (pe_cmpR op_eq (pe_callG G_l_seen hr_l_seen hgd (by rfl) T.g_l_seen T.F_l_seen.kp T.b_l_seen pass0 (pa_cons (pv 7) (pa_cons (pe_tup pa_nil) pa_nil))) (pe_callB (call_reprL hgd (un2 hr)) (by rfl) T.m_repr PyProof.Rows.boot_repr (pa_cons (pe_lst (pa_cons pe_str (pa_cons (pv 7) pa_nil))) pa_nil)) (nomark _)))))))), ?_⟩
    refine ⟨_, rfl, 10, rfl, a, _, rfl, hS, fun p1 hp1 => ?_⟩
    refine ⟨_, rfl, a, ns, 10, rfl, (same_upd hp1).seq hS, by decide, fun c => ⟨(by show 1 ≤ sizeLine; decide), fun p2 hp2 => ?_⟩⟩
    have n12 : p1 ≠ p2 := ne_of_none upd_same hp2
    refine ⟨p1, p2, _, _, rfl, rfl, (upd_ne n12).trans upd_same, upd_same, ?_, fun p3 hp3 => ?_⟩
    · have e := cutV_length (ns.map V.int) none (some 10)
      rw [List.length_map] at e
      refine sz_le ?_
      rw [List.length_singleton]
      omega
    obtain ⟨xs, ex⟩ : ∃ xs, xs = cutV (ns.map V.int) none (some 10) ++ [V.int c] := ⟨_, rfl⟩
    rw [← ex]
    have hx : ∀ x ∈ xs, ∃ i : Int, x = .int i := fun x hx => by
      rw [ex] at hx
      rcases List.mem_append.mp hx with h | h
      · obtain ⟨n, _, rfl⟩ := List.mem_map.mp (cutV_mem h)
        exact ⟨n, rfl⟩
      · exact ⟨c, List.mem_singleton.mp h⟩
    have h3 : (upd (upd (upd H p1 (HO.lst (cutV (ns.map V.int) none (some 10)))) p2 (HO.lst [V.int c])) p3 (HO.lst xs)) p3 = some (.lst xs) := upd_same
    refine ⟨p3, rfl, ⟨_, SqL.of h3⟩, ?_⟩
    generalize (upd (upd (upd H p1 (HO.lst (cutV (ns.map V.int) none (some 10)))) p2 (HO.lst [V.int c])) p3 (HO.lst xs)) = H0 at h3 ⊢
    refine for_list (K := K) (a := p3) (xs := xs) (fun i σ H' => ∃ v1 v2 v3 v4 v5 v6, σ = [some (.ref a), v1, v2, v3, v4, v5, v6, none, none] ∧ Same H0 H') ⟨none, none, none, none, none, none, rfl, Same.refl H0⟩ (fun i σ H' _ ⟨_, _, _, _, _, _, _, sm⟩ => sm.seq (SqL.of h3)) ?_ ?_
    · rintro i x σ H1 hi ⟨v1, v2, v3, v4, v5, v6, rfl, s1⟩
      obtain ⟨c, rfl⟩ := hx x (List.mem_of_getElem? hi)
      refine ⟨_, rfl, c, rfl, fun p H2 np s2 p2 => ?_⟩
      have f0 : H0 p = none := s1.free np
      refine ⟨_, rfl, _, rfl, p, rfl, p2, fun r H3 r1 r2 o3 p3 => ?_⟩
      refine ⟨p, r, rfl, p3, r1, by omega, by omega, fun v t H4 hv ht o4 p4 => ?_⟩
      refine ⟨_, rfl, _, rfl, p, rfl, p4, fun r' H5 r1' r2' o5 p5 => ?_⟩
      refine ⟨p, r', rfl, p5, r1', by omega, by omega, fun z u H6 hz hu o6 p6 => ?_⟩
      have gt : GoodT t 100 := ⟨ht.1, ht.2.1, ht.2.2.1, by have := ht.2.2.2; omega⟩
      have gu : GoodT u 100 := ⟨hu.1, hu.2.1, hu.2.2.1, by have := hu.2.2.2; omega⟩
      have tS := (smTerm gt.term.2.1 gt.term.1).1
      have uS := (smTerm gu.term.2.1 gu.term.1).1
      have hv6 : Dq K H6 v t.toD := Dq.tups (p4.tups (o5.trans o6)) _ _ (Th.ok_tup ht.2.1) hv
      refine ⟨_, rfl, _, rfl, (by show 2 ≤ sizeLine; decide), fun l7 hl7 => ?_⟩
      have s_H7 : Same H6 (upd H6 l7 (.lst [v, z])) := same_upd hl7
      have g_H7 : (upd H6 l7 (.lst [v, z])) l7 = some (.lst [v, z]) := upd_same
      generalize upd H6 l7 (.lst [v, z]) = H7 at s_H7 g_H7 ⊢
      obtain ⟨w1, w2, w3⟩ := sm2 tS uS
      refine ⟨l7, _, _, rfl, Dq.lst (SqL.of g_H7) (.cons (hv6.same s_H7) (.cons (hz.same s_H7) .nil)), w1, w2, w3, ?_⟩
      have p7 : Pu H7 p := p6.same s_H7
      have s07 : Same H0 H7 := (Off.same (s1.trans s2) f0 ((o3.trans o4).trans (o5.trans o6))).trans s_H7
      refine ⟨3, rfl, by decide, by decide, for_range (fun i σ H' => ∃ y, σ = [some (.ref a), some (.int c), some (.ref p), some v, some z, some (.str (PyData.shown (.list [t.toD, u.toD]))), y, none, none] ∧ Off p H7 H' ∧ Pu H' p) ⟨_, rfl, Off.refl p H7, p7⟩ ?_ ?_⟩
      · rintro j σ H8 hj ⟨y, rfl, o8, p8⟩
        have t8 : Tups K H7 H8 := p7.tups o8
        have hv8 : Dq K H8 v t.toD := Dq.tups t8 _ _ (Th.ok_tup ht.2.1) (hv6.same s_H7)
        have hz8 : Dq K H8 z u.toD := Dq.tups t8 _ _ (Th.ok_tup hu.2.1) (hz.same s_H7)
        refine ⟨_, rfl, _, rfl, _, rfl, p, v, t, z, u, rfl, p8, hv8, gt, hz8, gu, fun H9 o9 p9 => ⟨_, rfl, ?_⟩⟩
        have t9 : Tups K H8 H9 := p8.tups o9
        refine ⟨_, rfl, _, rfl, _, rfl, p, v, t, z, u, rfl, p9, Dq.tups t9 _ _ (Th.ok_tup ht.2.1) hv8, gt, Dq.tups t9 _ _ (Th.ok_tup hu.2.1) hz8, gu, fun H10 o10 p10 => ⟨_, rfl, ?_⟩⟩
        exact ⟨_, rfl, (o8.trans o9).trans o10, p10⟩
      · rintro σ H8 ⟨y, rfl, o8, p8⟩
        have t8 : Tups K H7 H8 := p7.tups o8
        have hv8 : Dq K H8 v t.toD := Dq.tups t8 _ _ (Th.ok_tup ht.2.1) (hv6.same s_H7)
        have hz8 : Dq K H8 z u.toD := Dq.tups t8 _ _ (Th.ok_tup hu.2.1) (hz.same s_H7)
        refine ⟨_, rfl, _, rfl, (by show 2 ≤ sizeLine; decide), fun l9 hl9 => ?_⟩
        have s_H9 : Same H8 (upd H8 l9 (.lst [v, z])) := same_upd hl9
        have g_H9 : (upd H8 l9 (.lst [v, z])) l9 = some (.lst [v, z]) := upd_same
        generalize upd H8 l9 (.lst [v, z]) = H9 at s_H9 g_H9 ⊢
        refine ⟨l9, _, _, rfl, Dq.lst (SqL.of g_H9) (.cons (hv8.same s_H9) (.cons (hz8.same s_H9) .nil)), w1, w2, w3, ?_⟩
        refine ⟨_, rfl, rfl, false, congrArg V.bl (congrArg Bool.not (decide_eq_true rfl)), ?_⟩
        exact ⟨_, _, _, _, _, _, rfl, (Off.same s07 f0 o8).trans s_H9⟩
    · rintro σ H1 ⟨v1, v2, v3, v4, v5, v6, rfl, s1⟩
      refine ⟨49, rfl, by decide, by decide, for_range (fun i σ H' => ∃ v y, σ = [some (.ref a), v1, v2, v3, v4, v5, v6, some v, y] ∧ Dq K H' v (Th.full i).toD) ⟨_, _, rfl, .str _⟩ ?_ ?_⟩
      · rintro i σ H2 hi ⟨v, y, rfl, hv⟩
        refine ⟨_, rfl, _, rfl, (by show 2 ≤ sizeLine; decide), fun t ht => ?_⟩
        rw [Int.zero_add]
        have s_H3 : Same H2 (upd H2 t (.tup [.int i, v])) := same_upd ht
        have g_H3 : (upd H2 t (.tup [.int i, v])) t = some (.tup [.int i, v]) := upd_same
        generalize upd H2 t (.tup [.int i, v]) = H3 at s_H3 g_H3 ⊢
        exact ⟨_, _, rfl, .tup (SqT.of g_H3) (.cons (.int _) (.cons (hv.same s_H3) .nil))⟩
      · rintro σ H2 ⟨v, y, rfl, hv⟩
        have hv : Dq K H2 v (Th.full 49).toD := hv
        have fT : (Th.full 49).isTerm = true := by decide +kernel
        have fO : OkTh (Th.full 49) := ⟨Th.full_nf 49, by decide +kernel⟩
        have fS := (smTerm fO fT).1
        refine ⟨_, rfl, (by show 1 ≤ sizeLine; decide), fun t3 ht3 => ?_⟩
        have s_H3 : Same H2 (upd H2 t3 (.tup [.int 0])) := same_upd ht3
        have g_H3 : (upd H2 t3 (.tup [.int 0])) t3 = some (.tup [.int 0]) := upd_same
        generalize upd H2 t3 (.tup [.int 0]) = H3 at s_H3 g_H3 ⊢
        refine ⟨(by show 2 ≤ sizeLine; decide), fun t4 ht4 => ?_⟩
        have s_H4 : Same H3 (upd H3 t4 (.tup [.str "a", .int 1])) := same_upd ht4
        have g_H4 : (upd H3 t4 (.tup [.str "a", .int 1])) t4 = some (.tup [.str "a", .int 1]) := upd_same
        generalize upd H3 t4 (.tup [.str "a", .int 1]) = H4 at s_H4 g_H4 ⊢
        have s24 := s_H3.trans s_H4
        have d3 : Dq K H4 (.ref t3) (.tuple [.int 0]) := .tup (SqT.of (s_H4 _ _ g_H3)) (.cons (.int 0) .nil)
        have d4 : Dq K H4 (.ref t4) (Th.pr (.lf (.str "a")) (.lf (.int 1))).toD := .tup (SqT.of g_H4) (.cons (.str _) (.cons (.int 1) .nil))
        have gO : OkTh (Th.pr (.lf (.str "a")) (.lf (.int 1))) := ⟨⟨rfl, rfl⟩, by decide +kernel⟩
        have gT : (Th.pr (.lf (.str "a")) (.lf (.int 1))).isTerm = true := by decide +kernel
        have eS : putSays (Th.full 49) (.tuple [.int 0]) (Th.pr (.lf (.str "a")) (.lf (.int 1))) = [.str "great", .int 101, .bool false] := by
          have hp : placeOf (Th.full 49) (.tuple [.int 0]) = some (.lf (.int 48)) := rfl
          unfold putSays
          rw [if_pos fT, hp]
          dsimp only
          rw [if_pos gT]
          have e1 : ((Th.full 49).parts : Int) - (Th.lf (.int 48)).parts + (Th.pr (.lf (.str "a")) (.lf (.int 1))).parts = 101 := by decide +kernel
          rw [e1, if_pos (by decide)]
        refine ⟨_, _, _, _, _, _, rfl, hv.same s24, fO, d3, d4, gO, fS, ⟨by decide +kernel, by decide, by decide⟩, (smTerm gO gT).1, fun H5 s5 => ?_⟩
        rw [eS]
        refine ⟨(by show 3 ≤ sizeLine; decide), fun l6 hl6 => ?_⟩
        have s_H6 : Same H5 (upd H5 l6 (.lst [.str "great", .int 101, .bl false])) := same_upd hl6
        have g_H6 : (upd H5 l6 (.lst [.str "great", .int 101, .bl false])) l6 = some (.lst [.str "great", .int 101, .bl false]) := upd_same
        generalize upd H5 l6 (.lst [.str "great", .int 101, .bl false]) = H6 at s_H6 g_H6 ⊢
        obtain ⟨w1, w2, w3⟩ := sm3 (smS "great" (by decide +kernel) (by decide +kernel)) (Sm.int (i := 101) (by decide)) (Sm.bool false)
        refine ⟨l6, _, _, rfl, Dq.lst (SqL.of g_H6) (.cons (.str _) (.cons (.int _) (.cons (.bl _) .nil))), w1, w2, w3, rfl, false, congrArg V.bl (congrArg Bool.not (decide_eq_true rfl)), ?_⟩
        refine ⟨_, rfl, Nat.zero_le _, fun t7 ht7 => ?_⟩
        have s_H7 : Same H6 (upd H6 t7 (.tup [])) := same_upd ht7
        have g_H7 : (upd H6 t7 (.tup [])) t7 = some (.tup []) := upd_same
        generalize upd H6 t7 (.tup []) = H7 at s_H7 g_H7 ⊢
        have s27 := s24.trans (s5.trans (s_H6.trans s_H7))
        refine ⟨_, _, _, _, rfl, hv.same s27, fO, .tup (SqT.of g_H7) .nil, fS, smUnit, fun H8 s8 => ?_⟩
        rw [seeSays_all fT]
        refine ⟨_, rfl, (by show 2 ≤ sizeLine; decide), fun l9 hl9 => ?_⟩
        have s_H9 : Same H8 (upd H8 l9 (.lst [.str "told", v])) := same_upd hl9
        have g_H9 : (upd H8 l9 (.lst [.str "told", v])) l9 = some (.lst [.str "told", v]) := upd_same
        generalize upd H8 l9 (.lst [.str "told", v]) = H9 at s_H9 g_H9 ⊢
        obtain ⟨w1, w2, w3⟩ := sm2 (smS "told" (by decide +kernel) (by decide +kernel)) fS
        refine ⟨l9, _, _, rfl, Dq.lst (SqL.of g_H9) (.cons (.str _) (.cons (hv.same (s27.trans (s8.trans s_H9))) .nil)), w1, w2, w3, rfl, ?_⟩
        have fin := q H9
        rw [← (decide_eq_true rfl : decide (V.str (PyData.shown (.list [.str "told", (Th.full 49).toD])) = V.str (PyData.shown (.list [.str "told", (Th.full 49).toD]))) = true)] at fin
        exact fin
end


set_option maxHeartbeats 0 in
theorem all_mk {l : PySem.W.OpenLaw} {w : World} {K : PySem.W.Frag} {h : Heap} {mg : Str → Option Value} {fa f_is_whole f_is_within f_is_name f_is_unknown f_is_pair f_is_single f_is_term f_need_term f_parts_within f_parts_of f_at_place f_put_within f_put_at f_l_cell f_l_purse f_l_take f_l_single f_l_term f_l_room f_l_parts f_l_places f_l_put f_l_said f_l_seen f_l_bad_place f_l_no_term f_l_right f_l_refused f_law : Addr} (X : K.In h) (G : h.Ns mainGlobals mg) (hfa : mg "law" = some (.ref fa))
    {oc_is_whole kV_is_whole dc_is_whole pm_is_whole cd_is_whole ct_is_whole : Value} {od_is_whole an_is_whole : Option Addr} {sl_is_whole : Array (Option Value)}
    {oc_is_within kV_is_within dc_is_within pm_is_within cd_is_within ct_is_within : Value} {od_is_within an_is_within : Option Addr} {sl_is_within : Array (Option Value)}
    {oc_is_name kV_is_name dc_is_name pm_is_name cd_is_name ct_is_name : Value} {od_is_name an_is_name : Option Addr} {sl_is_name : Array (Option Value)}
    {oc_is_unknown kV_is_unknown dc_is_unknown pm_is_unknown cd_is_unknown ct_is_unknown : Value} {od_is_unknown an_is_unknown : Option Addr} {sl_is_unknown : Array (Option Value)}
    {oc_is_pair kV_is_pair dc_is_pair pm_is_pair cd_is_pair ct_is_pair : Value} {od_is_pair an_is_pair : Option Addr} {sl_is_pair : Array (Option Value)}
    {oc_is_single kV_is_single dc_is_single pm_is_single cd_is_single ct_is_single : Value} {od_is_single an_is_single : Option Addr} {sl_is_single : Array (Option Value)}
    {oc_is_term kV_is_term dc_is_term pm_is_term cd_is_term ct_is_term : Value} {od_is_term an_is_term : Option Addr} {sl_is_term : Array (Option Value)}
    {oc_need_term kV_need_term dc_need_term pm_need_term cd_need_term ct_need_term : Value} {od_need_term an_need_term : Option Addr} {sl_need_term : Array (Option Value)}
    {oc_parts_within kV_parts_within dc_parts_within pm_parts_within cd_parts_within ct_parts_within : Value} {od_parts_within an_parts_within : Option Addr} {sl_parts_within : Array (Option Value)}
    {oc_parts_of kV_parts_of dc_parts_of pm_parts_of cd_parts_of ct_parts_of : Value} {od_parts_of an_parts_of : Option Addr} {sl_parts_of : Array (Option Value)}
    {oc_at_place kV_at_place dc_at_place pm_at_place cd_at_place ct_at_place : Value} {od_at_place an_at_place : Option Addr} {sl_at_place : Array (Option Value)}
    {oc_put_within kV_put_within dc_put_within pm_put_within cd_put_within ct_put_within : Value} {od_put_within an_put_within : Option Addr} {sl_put_within : Array (Option Value)}
    {oc_put_at kV_put_at dc_put_at pm_put_at cd_put_at ct_put_at : Value} {od_put_at an_put_at : Option Addr} {sl_put_at : Array (Option Value)}
    {oc_l_cell kV_l_cell dc_l_cell pm_l_cell cd_l_cell ct_l_cell : Value} {od_l_cell an_l_cell : Option Addr} {sl_l_cell : Array (Option Value)}
    {oc_l_purse kV_l_purse dc_l_purse pm_l_purse cd_l_purse ct_l_purse : Value} {od_l_purse an_l_purse : Option Addr} {sl_l_purse : Array (Option Value)}
    {oc_l_take kV_l_take dc_l_take pm_l_take cd_l_take ct_l_take : Value} {od_l_take an_l_take : Option Addr} {sl_l_take : Array (Option Value)}
    {oc_l_single kV_l_single dc_l_single pm_l_single cd_l_single ct_l_single : Value} {od_l_single an_l_single : Option Addr} {sl_l_single : Array (Option Value)}
    {oc_l_term kV_l_term dc_l_term pm_l_term cd_l_term ct_l_term : Value} {od_l_term an_l_term : Option Addr} {sl_l_term : Array (Option Value)}
    {oc_l_room kV_l_room dc_l_room pm_l_room cd_l_room ct_l_room : Value} {od_l_room an_l_room : Option Addr} {sl_l_room : Array (Option Value)}
    {oc_l_parts kV_l_parts dc_l_parts pm_l_parts cd_l_parts ct_l_parts : Value} {od_l_parts an_l_parts : Option Addr} {sl_l_parts : Array (Option Value)}
    {oc_l_places kV_l_places dc_l_places pm_l_places cd_l_places ct_l_places : Value} {od_l_places an_l_places : Option Addr} {sl_l_places : Array (Option Value)}
    {oc_l_put kV_l_put dc_l_put pm_l_put cd_l_put ct_l_put : Value} {od_l_put an_l_put : Option Addr} {sl_l_put : Array (Option Value)}
    {oc_l_said kV_l_said dc_l_said pm_l_said cd_l_said ct_l_said : Value} {od_l_said an_l_said : Option Addr} {sl_l_said : Array (Option Value)}
    {oc_l_seen kV_l_seen dc_l_seen pm_l_seen cd_l_seen ct_l_seen : Value} {od_l_seen an_l_seen : Option Addr} {sl_l_seen : Array (Option Value)}
    {oc_l_bad_place kV_l_bad_place dc_l_bad_place pm_l_bad_place cd_l_bad_place ct_l_bad_place : Value} {od_l_bad_place an_l_bad_place : Option Addr} {sl_l_bad_place : Array (Option Value)}
    {oc_l_no_term kV_l_no_term dc_l_no_term pm_l_no_term cd_l_no_term ct_l_no_term : Value} {od_l_no_term an_l_no_term : Option Addr} {sl_l_no_term : Array (Option Value)}
    {oc_l_right kV_l_right dc_l_right pm_l_right cd_l_right ct_l_right : Value} {od_l_right an_l_right : Option Addr} {sl_l_right : Array (Option Value)}
    {oc_l_refused kV_l_refused dc_l_refused pm_l_refused cd_l_refused ct_l_refused : Value} {od_l_refused an_l_refused : Option Addr} {sl_l_refused : Array (Option Value)}
    {oc_law kV_law dc_law pm_law cd_law ct_law : Value} {od_law an_law : Option Addr} {sl_law : Array (Option Value)}
    (a_is_whole : PySem.W.nsIn K mainGlobals "is_whole" = some (some (.ref f_is_whole)))
    (l_is_whole : K.lookup f_is_whole = some ⟨oc_is_whole, od_is_whole, .func (PySem.W.fnOf "is_whole" "is_whole" (defArgs s_is_whole) (defBody s_is_whole) (defScope s_is_whole) .none kV_is_whole dc_is_whole pm_is_whole an_is_whole cd_is_whole ct_is_whole), sl_is_whole⟩)
    (c_is_whole : PySem.W.codeIn K cd_is_whole "is_whole" = true)
    (k_is_whole : PySem.W.keepIn K (.ref f_is_whole) = true)
    (a_is_within : PySem.W.nsIn K mainGlobals "is_within" = some (some (.ref f_is_within)))
    (l_is_within : K.lookup f_is_within = some ⟨oc_is_within, od_is_within, .func (PySem.W.fnOf "is_within" "is_within" (defArgs s_is_within) (defBody s_is_within) (defScope s_is_within) .none kV_is_within dc_is_within pm_is_within an_is_within cd_is_within ct_is_within), sl_is_within⟩)
    (c_is_within : PySem.W.codeIn K cd_is_within "is_within" = true)
    (k_is_within : PySem.W.keepIn K (.ref f_is_within) = true)
    (a_is_name : PySem.W.nsIn K mainGlobals "is_name" = some (some (.ref f_is_name)))
    (l_is_name : K.lookup f_is_name = some ⟨oc_is_name, od_is_name, .func (PySem.W.fnOf "is_name" "is_name" (defArgs s_is_name) (defBody s_is_name) (defScope s_is_name) .none kV_is_name dc_is_name pm_is_name an_is_name cd_is_name ct_is_name), sl_is_name⟩)
    (c_is_name : PySem.W.codeIn K cd_is_name "is_name" = true)
    (k_is_name : PySem.W.keepIn K (.ref f_is_name) = true)
    (a_is_unknown : PySem.W.nsIn K mainGlobals "is_unknown" = some (some (.ref f_is_unknown)))
    (l_is_unknown : K.lookup f_is_unknown = some ⟨oc_is_unknown, od_is_unknown, .func (PySem.W.fnOf "is_unknown" "is_unknown" (defArgs s_is_unknown) (defBody s_is_unknown) (defScope s_is_unknown) .none kV_is_unknown dc_is_unknown pm_is_unknown an_is_unknown cd_is_unknown ct_is_unknown), sl_is_unknown⟩)
    (c_is_unknown : PySem.W.codeIn K cd_is_unknown "is_unknown" = true)
    (k_is_unknown : PySem.W.keepIn K (.ref f_is_unknown) = true)
    (a_is_pair : PySem.W.nsIn K mainGlobals "is_pair" = some (some (.ref f_is_pair)))
    (l_is_pair : K.lookup f_is_pair = some ⟨oc_is_pair, od_is_pair, .func (PySem.W.fnOf "is_pair" "is_pair" (defArgs s_is_pair) (defBody s_is_pair) (defScope s_is_pair) .none kV_is_pair dc_is_pair pm_is_pair an_is_pair cd_is_pair ct_is_pair), sl_is_pair⟩)
    (c_is_pair : PySem.W.codeIn K cd_is_pair "is_pair" = true)
    (k_is_pair : PySem.W.keepIn K (.ref f_is_pair) = true)
    (a_is_single : PySem.W.nsIn K mainGlobals "is_single" = some (some (.ref f_is_single)))
    (l_is_single : K.lookup f_is_single = some ⟨oc_is_single, od_is_single, .func (PySem.W.fnOf "is_single" "is_single" (defArgs s_is_single) (defBody s_is_single) (defScope s_is_single) .none kV_is_single dc_is_single pm_is_single an_is_single cd_is_single ct_is_single), sl_is_single⟩)
    (c_is_single : PySem.W.codeIn K cd_is_single "is_single" = true)
    (k_is_single : PySem.W.keepIn K (.ref f_is_single) = true)
    (a_is_term : PySem.W.nsIn K mainGlobals "is_term" = some (some (.ref f_is_term)))
    (l_is_term : K.lookup f_is_term = some ⟨oc_is_term, od_is_term, .func (PySem.W.fnOf "is_term" "is_term" (defArgs s_is_term) (defBody s_is_term) (defScope s_is_term) .none kV_is_term dc_is_term pm_is_term an_is_term cd_is_term ct_is_term), sl_is_term⟩)
    (c_is_term : PySem.W.codeIn K cd_is_term "is_term" = true)
    (k_is_term : PySem.W.keepIn K (.ref f_is_term) = true)
    (a_need_term : PySem.W.nsIn K mainGlobals "need_term" = some (some (.ref f_need_term)))
    (l_need_term : K.lookup f_need_term = some ⟨oc_need_term, od_need_term, .func (PySem.W.fnOf "need_term" "need_term" (defArgs s_need_term) (defBody s_need_term) (defScope s_need_term) .none kV_need_term dc_need_term pm_need_term an_need_term cd_need_term ct_need_term), sl_need_term⟩)
    (c_need_term : PySem.W.codeIn K cd_need_term "need_term" = true)
    (k_need_term : PySem.W.keepIn K (.ref f_need_term) = true)
    (a_parts_within : PySem.W.nsIn K mainGlobals "parts_within" = some (some (.ref f_parts_within)))
    (l_parts_within : K.lookup f_parts_within = some ⟨oc_parts_within, od_parts_within, .func (PySem.W.fnOf "parts_within" "parts_within" (defArgs s_parts_within) (defBody s_parts_within) (defScope s_parts_within) .none kV_parts_within dc_parts_within pm_parts_within an_parts_within cd_parts_within ct_parts_within), sl_parts_within⟩)
    (c_parts_within : PySem.W.codeIn K cd_parts_within "parts_within" = true)
    (k_parts_within : PySem.W.keepIn K (.ref f_parts_within) = true)
    (a_parts_of : PySem.W.nsIn K mainGlobals "parts_of" = some (some (.ref f_parts_of)))
    (l_parts_of : K.lookup f_parts_of = some ⟨oc_parts_of, od_parts_of, .func (PySem.W.fnOf "parts_of" "parts_of" (defArgs s_parts_of) (defBody s_parts_of) (defScope s_parts_of) .none kV_parts_of dc_parts_of pm_parts_of an_parts_of cd_parts_of ct_parts_of), sl_parts_of⟩)
    (c_parts_of : PySem.W.codeIn K cd_parts_of "parts_of" = true)
    (k_parts_of : PySem.W.keepIn K (.ref f_parts_of) = true)
    (a_at_place : PySem.W.nsIn K mainGlobals "at_place" = some (some (.ref f_at_place)))
    (l_at_place : K.lookup f_at_place = some ⟨oc_at_place, od_at_place, .func (PySem.W.fnOf "at_place" "at_place" (defArgs s_at_place) (defBody s_at_place) (defScope s_at_place) .none kV_at_place dc_at_place pm_at_place an_at_place cd_at_place ct_at_place), sl_at_place⟩)
    (c_at_place : PySem.W.codeIn K cd_at_place "at_place" = true)
    (k_at_place : PySem.W.keepIn K (.ref f_at_place) = true)
    (a_put_within : PySem.W.nsIn K mainGlobals "put_within" = some (some (.ref f_put_within)))
    (l_put_within : K.lookup f_put_within = some ⟨oc_put_within, od_put_within, .func (PySem.W.fnOf "put_within" "put_within" (defArgs s_put_within) (defBody s_put_within) (defScope s_put_within) .none kV_put_within dc_put_within pm_put_within an_put_within cd_put_within ct_put_within), sl_put_within⟩)
    (c_put_within : PySem.W.codeIn K cd_put_within "put_within" = true)
    (k_put_within : PySem.W.keepIn K (.ref f_put_within) = true)
    (a_put_at : PySem.W.nsIn K mainGlobals "put_at" = some (some (.ref f_put_at)))
    (l_put_at : K.lookup f_put_at = some ⟨oc_put_at, od_put_at, .func (PySem.W.fnOf "put_at" "put_at" (defArgs s_put_at) (defBody s_put_at) (defScope s_put_at) .none kV_put_at dc_put_at pm_put_at an_put_at cd_put_at ct_put_at), sl_put_at⟩)
    (c_put_at : PySem.W.codeIn K cd_put_at "put_at" = true)
    (k_put_at : PySem.W.keepIn K (.ref f_put_at) = true)
    (a_l_cell : PySem.W.nsIn K mainGlobals "_law_cell" = some (some (.ref f_l_cell)))
    (l_l_cell : K.lookup f_l_cell = some ⟨oc_l_cell, od_l_cell, .func (PySem.W.fnOf "_law_cell" "_law_cell" (defArgs s_l_cell) (defBody s_l_cell) (defScope s_l_cell) .none kV_l_cell dc_l_cell pm_l_cell an_l_cell cd_l_cell ct_l_cell), sl_l_cell⟩)
    (c_l_cell : PySem.W.codeIn K cd_l_cell "_law_cell" = true)
    (k_l_cell : PySem.W.keepIn K (.ref f_l_cell) = true)
    (a_l_purse : PySem.W.nsIn K mainGlobals "_law_purse" = some (some (.ref f_l_purse)))
    (l_l_purse : K.lookup f_l_purse = some ⟨oc_l_purse, od_l_purse, .func (PySem.W.fnOf "_law_purse" "_law_purse" (defArgs s_l_purse) (defBody s_l_purse) (defScope s_l_purse) .none kV_l_purse dc_l_purse pm_l_purse an_l_purse cd_l_purse ct_l_purse), sl_l_purse⟩)
    (c_l_purse : PySem.W.codeIn K cd_l_purse "_law_purse" = true)
    (k_l_purse : PySem.W.keepIn K (.ref f_l_purse) = true)
    (a_l_take : PySem.W.nsIn K mainGlobals "_law_take" = some (some (.ref f_l_take)))
    (l_l_take : K.lookup f_l_take = some ⟨oc_l_take, od_l_take, .func (PySem.W.fnOf "_law_take" "_law_take" (defArgs s_l_take) (defBody s_l_take) (defScope s_l_take) .none kV_l_take dc_l_take pm_l_take an_l_take cd_l_take ct_l_take), sl_l_take⟩)
    (c_l_take : PySem.W.codeIn K cd_l_take "_law_take" = true)
    (k_l_take : PySem.W.keepIn K (.ref f_l_take) = true)
    (a_l_single : PySem.W.nsIn K mainGlobals "_law_single" = some (some (.ref f_l_single)))
    (l_l_single : K.lookup f_l_single = some ⟨oc_l_single, od_l_single, .func (PySem.W.fnOf "_law_single" "_law_single" (defArgs s_l_single) (defBody s_l_single) (defScope s_l_single) .none kV_l_single dc_l_single pm_l_single an_l_single cd_l_single ct_l_single), sl_l_single⟩)
    (c_l_single : PySem.W.codeIn K cd_l_single "_law_single" = true)
    (k_l_single : PySem.W.keepIn K (.ref f_l_single) = true)
    (a_l_term : PySem.W.nsIn K mainGlobals "_law_term" = some (some (.ref f_l_term)))
    (l_l_term : K.lookup f_l_term = some ⟨oc_l_term, od_l_term, .func (PySem.W.fnOf "_law_term" "_law_term" (defArgs s_l_term) (defBody s_l_term) (defScope s_l_term) .none kV_l_term dc_l_term pm_l_term an_l_term cd_l_term ct_l_term), sl_l_term⟩)
    (c_l_term : PySem.W.codeIn K cd_l_term "_law_term" = true)
    (k_l_term : PySem.W.keepIn K (.ref f_l_term) = true)
    (a_l_room : PySem.W.nsIn K mainGlobals "_law_room" = some (some (.ref f_l_room)))
    (l_l_room : K.lookup f_l_room = some ⟨oc_l_room, od_l_room, .func (PySem.W.fnOf "_law_room" "_law_room" (defArgs s_l_room) (defBody s_l_room) (defScope s_l_room) .none kV_l_room dc_l_room pm_l_room an_l_room cd_l_room ct_l_room), sl_l_room⟩)
    (c_l_room : PySem.W.codeIn K cd_l_room "_law_room" = true)
    (k_l_room : PySem.W.keepIn K (.ref f_l_room) = true)
    (a_l_parts : PySem.W.nsIn K mainGlobals "_law_parts" = some (some (.ref f_l_parts)))
    (l_l_parts : K.lookup f_l_parts = some ⟨oc_l_parts, od_l_parts, .func (PySem.W.fnOf "_law_parts" "_law_parts" (defArgs s_l_parts) (defBody s_l_parts) (defScope s_l_parts) .none kV_l_parts dc_l_parts pm_l_parts an_l_parts cd_l_parts ct_l_parts), sl_l_parts⟩)
    (c_l_parts : PySem.W.codeIn K cd_l_parts "_law_parts" = true)
    (k_l_parts : PySem.W.keepIn K (.ref f_l_parts) = true)
    (a_l_places : PySem.W.nsIn K mainGlobals "_law_places" = some (some (.ref f_l_places)))
    (l_l_places : K.lookup f_l_places = some ⟨oc_l_places, od_l_places, .func (PySem.W.fnOf "_law_places" "_law_places" (defArgs s_l_places) (defBody s_l_places) (defScope s_l_places) .none kV_l_places dc_l_places pm_l_places an_l_places cd_l_places ct_l_places), sl_l_places⟩)
    (c_l_places : PySem.W.codeIn K cd_l_places "_law_places" = true)
    (k_l_places : PySem.W.keepIn K (.ref f_l_places) = true)
    (a_l_put : PySem.W.nsIn K mainGlobals "_law_put" = some (some (.ref f_l_put)))
    (l_l_put : K.lookup f_l_put = some ⟨oc_l_put, od_l_put, .func (PySem.W.fnOf "_law_put" "_law_put" (defArgs s_l_put) (defBody s_l_put) (defScope s_l_put) .none kV_l_put dc_l_put pm_l_put an_l_put cd_l_put ct_l_put), sl_l_put⟩)
    (c_l_put : PySem.W.codeIn K cd_l_put "_law_put" = true)
    (k_l_put : PySem.W.keepIn K (.ref f_l_put) = true)
    (a_l_said : PySem.W.nsIn K mainGlobals "_law_said" = some (some (.ref f_l_said)))
    (l_l_said : K.lookup f_l_said = some ⟨oc_l_said, od_l_said, .func (PySem.W.fnOf "_law_said" "_law_said" (defArgs s_l_said) (defBody s_l_said) (defScope s_l_said) .none kV_l_said dc_l_said pm_l_said an_l_said cd_l_said ct_l_said), sl_l_said⟩)
    (c_l_said : PySem.W.codeIn K cd_l_said "_law_said" = true)
    (k_l_said : PySem.W.keepIn K (.ref f_l_said) = true)
    (a_l_seen : PySem.W.nsIn K mainGlobals "_law_seen" = some (some (.ref f_l_seen)))
    (l_l_seen : K.lookup f_l_seen = some ⟨oc_l_seen, od_l_seen, .func (PySem.W.fnOf "_law_seen" "_law_seen" (defArgs s_l_seen) (defBody s_l_seen) (defScope s_l_seen) .none kV_l_seen dc_l_seen pm_l_seen an_l_seen cd_l_seen ct_l_seen), sl_l_seen⟩)
    (c_l_seen : PySem.W.codeIn K cd_l_seen "_law_seen" = true)
    (k_l_seen : PySem.W.keepIn K (.ref f_l_seen) = true)
    (a_l_bad_place : PySem.W.nsIn K mainGlobals "_law_bad_place" = some (some (.ref f_l_bad_place)))
    (l_l_bad_place : K.lookup f_l_bad_place = some ⟨oc_l_bad_place, od_l_bad_place, .func (PySem.W.fnOf "_law_bad_place" "_law_bad_place" (defArgs s_l_bad_place) (defBody s_l_bad_place) (defScope s_l_bad_place) .none kV_l_bad_place dc_l_bad_place pm_l_bad_place an_l_bad_place cd_l_bad_place ct_l_bad_place), sl_l_bad_place⟩)
    (c_l_bad_place : PySem.W.codeIn K cd_l_bad_place "_law_bad_place" = true)
    (k_l_bad_place : PySem.W.keepIn K (.ref f_l_bad_place) = true)
    (a_l_no_term : PySem.W.nsIn K mainGlobals "_law_no_term" = some (some (.ref f_l_no_term)))
    (l_l_no_term : K.lookup f_l_no_term = some ⟨oc_l_no_term, od_l_no_term, .func (PySem.W.fnOf "_law_no_term" "_law_no_term" (defArgs s_l_no_term) (defBody s_l_no_term) (defScope s_l_no_term) .none kV_l_no_term dc_l_no_term pm_l_no_term an_l_no_term cd_l_no_term ct_l_no_term), sl_l_no_term⟩)
    (c_l_no_term : PySem.W.codeIn K cd_l_no_term "_law_no_term" = true)
    (k_l_no_term : PySem.W.keepIn K (.ref f_l_no_term) = true)
    (a_l_right : PySem.W.nsIn K mainGlobals "_law_right" = some (some (.ref f_l_right)))
    (l_l_right : K.lookup f_l_right = some ⟨oc_l_right, od_l_right, .func (PySem.W.fnOf "_law_right" "_law_right" (defArgs s_l_right) (defBody s_l_right) (defScope s_l_right) .none kV_l_right dc_l_right pm_l_right an_l_right cd_l_right ct_l_right), sl_l_right⟩)
    (c_l_right : PySem.W.codeIn K cd_l_right "_law_right" = true)
    (k_l_right : PySem.W.keepIn K (.ref f_l_right) = true)
    (a_l_refused : PySem.W.nsIn K mainGlobals "_law_refused" = some (some (.ref f_l_refused)))
    (l_l_refused : K.lookup f_l_refused = some ⟨oc_l_refused, od_l_refused, .func (PySem.W.fnOf "_law_refused" "_law_refused" (defArgs s_l_refused) (defBody s_l_refused) (defScope s_l_refused) .none kV_l_refused dc_l_refused pm_l_refused an_l_refused cd_l_refused ct_l_refused), sl_l_refused⟩)
    (c_l_refused : PySem.W.codeIn K cd_l_refused "_law_refused" = true)
    (k_l_refused : PySem.W.keepIn K (.ref f_l_refused) = true)
    (a_law : PySem.W.nsIn K mainGlobals "law" = some (some (.ref f_law)))
    (l_law : K.lookup f_law = some ⟨oc_law, od_law, .func (PySem.W.fnOf "law" "law" (defArgs s_law) (defBody s_law) (defScope s_law) .none kV_law dc_law pm_law an_law cd_law ct_law), sl_law⟩)
    (c_law : PySem.W.codeIn K cd_law "law" = true)
    (k_law : PySem.W.keepIn K (.ref f_law) = true)
    {ac_NoTerm ai_NoTerm N_NoTerm : Addr} {nm_NoTerm q_NoTerm : Str} {bs_NoTerm bm_NoTerm : List Value} {sn_NoTerm : List Str} {sub_NoTerm : List Value} {ab_NoTerm : Bool} {col_NoTerm : Option Bool} {dd_NoTerm : Option Addr} {k0_NoTerm k1_NoTerm k2_NoTerm k3_NoTerm k5_NoTerm : Option Value}
    {oc_NoTerm_i kV_NoTerm_i dc_NoTerm_i pm_NoTerm_i cd_NoTerm_i ct_NoTerm_i : Value} {od_NoTerm_i an_NoTerm_i : Option Addr} {sl_NoTerm_i : Array (Option Value)}
    (v_NoTerm : PySem.W.nsIn K mainGlobals "NoTerm" = some (some (.ref ac_NoTerm)))
    (xl_NoTerm : K.lookup ac_NoTerm = some (excClassObj nm_NoTerm q_NoTerm ac_NoTerm N_NoTerm bs_NoTerm bm_NoTerm true sn_NoTerm sub_NoTerm ab_NoTerm col_NoTerm dd_NoTerm k0_NoTerm k1_NoTerm k2_NoTerm k3_NoTerm k5_NoTerm "ValueError.__new__"))
    (xr_NoTerm : PySem.HandSPX.refsVE bm_NoTerm = true)
    (xsa_NoTerm : PySem.W.findIn K (.ref ac_NoTerm) "__setattr__" = some (some (.builtin "object.__setattr__")))
    (xhg_NoTerm : PySem.W.findIn K (.ref ac_NoTerm) "__getattribute__" = some (some (.builtin "BaseException.__getattribute__")))
    (xhk_NoTerm : PySem.W.findIn K (.ref ac_NoTerm) "__getattr__" = some none)
    (xha_NoTerm : PySem.W.findIn K (.ref ac_NoTerm) "__class__" = some (some (.builtin "object.__class__")))
    (xii_NoTerm : PySem.W.findIn K (.ref ac_NoTerm) "__init__" = some (some (.ref ai_NoTerm)))
    (xex_NoTerm : PySem.W.subIn K (.ref ac_NoTerm) (.type "BaseException") = some true)
    (xty_NoTerm : PySem.W.typeIn K (.ref ac_NoTerm) = some (.type "type"))
    (xk_NoTerm : PySem.W.keepIn K (.ref ac_NoTerm) = true)
    (xhd_NoTerm : PySem.W.hasDictIn K ac_NoTerm = true)
    (xhm_NoTerm : PySem.W.mroIn K ac_NoTerm (.type "object") = some true)
    (xti_NoTerm : PySem.W.typeIn K (.ref ai_NoTerm) = some (.type "function"))
    (xkv_NoTerm : PySem.W.subIn K (.ref ac_NoTerm) (.type "ValueError") = some true)
    (xn_NoTerm_found : PySem.W.findIn K (.ref ac_NoTerm) "found" = some none)
    (xil_NoTerm : K.lookup ai_NoTerm = some ⟨oc_NoTerm_i, od_NoTerm_i, .func (PySem.W.fnOf "__init__" "NoTerm.__init__" (defArgs s_NoTerm_init) (defBody s_NoTerm_init) (defScope s_NoTerm_init) .none kV_NoTerm_i dc_NoTerm_i pm_NoTerm_i an_NoTerm_i cd_NoTerm_i ct_NoTerm_i), sl_NoTerm_i⟩)
    (xic_NoTerm : PySem.W.codeIn K cd_NoTerm_i "NoTerm.__init__" = true)
    (xik_NoTerm : PySem.W.keepIn K (.ref ai_NoTerm) = true)
    {ac_NoPlace ai_NoPlace N_NoPlace : Addr} {nm_NoPlace q_NoPlace : Str} {bs_NoPlace bm_NoPlace : List Value} {sn_NoPlace : List Str} {sub_NoPlace : List Value} {ab_NoPlace : Bool} {col_NoPlace : Option Bool} {dd_NoPlace : Option Addr} {k0_NoPlace k1_NoPlace k2_NoPlace k3_NoPlace k5_NoPlace : Option Value}
    {oc_NoPlace_i kV_NoPlace_i dc_NoPlace_i pm_NoPlace_i cd_NoPlace_i ct_NoPlace_i : Value} {od_NoPlace_i an_NoPlace_i : Option Addr} {sl_NoPlace_i : Array (Option Value)}
    (v_NoPlace : PySem.W.nsIn K mainGlobals "NoPlace" = some (some (.ref ac_NoPlace)))
    (xl_NoPlace : K.lookup ac_NoPlace = some (excClassObj nm_NoPlace q_NoPlace ac_NoPlace N_NoPlace bs_NoPlace bm_NoPlace true sn_NoPlace sub_NoPlace ab_NoPlace col_NoPlace dd_NoPlace k0_NoPlace k1_NoPlace k2_NoPlace k3_NoPlace k5_NoPlace "ValueError.__new__"))
    (xr_NoPlace : PySem.HandSPX.refsVE bm_NoPlace = true)
    (xsa_NoPlace : PySem.W.findIn K (.ref ac_NoPlace) "__setattr__" = some (some (.builtin "object.__setattr__")))
    (xhg_NoPlace : PySem.W.findIn K (.ref ac_NoPlace) "__getattribute__" = some (some (.builtin "BaseException.__getattribute__")))
    (xhk_NoPlace : PySem.W.findIn K (.ref ac_NoPlace) "__getattr__" = some none)
    (xha_NoPlace : PySem.W.findIn K (.ref ac_NoPlace) "__class__" = some (some (.builtin "object.__class__")))
    (xii_NoPlace : PySem.W.findIn K (.ref ac_NoPlace) "__init__" = some (some (.ref ai_NoPlace)))
    (xex_NoPlace : PySem.W.subIn K (.ref ac_NoPlace) (.type "BaseException") = some true)
    (xty_NoPlace : PySem.W.typeIn K (.ref ac_NoPlace) = some (.type "type"))
    (xk_NoPlace : PySem.W.keepIn K (.ref ac_NoPlace) = true)
    (xhd_NoPlace : PySem.W.hasDictIn K ac_NoPlace = true)
    (xhm_NoPlace : PySem.W.mroIn K ac_NoPlace (.type "object") = some true)
    (xti_NoPlace : PySem.W.typeIn K (.ref ai_NoPlace) = some (.type "function"))
    (xkv_NoPlace : PySem.W.subIn K (.ref ac_NoPlace) (.type "ValueError") = some true)
    (xn_NoPlace_found : PySem.W.findIn K (.ref ac_NoPlace) "found" = some none)
    (xil_NoPlace : K.lookup ai_NoPlace = some ⟨oc_NoPlace_i, od_NoPlace_i, .func (PySem.W.fnOf "__init__" "NoPlace.__init__" (defArgs s_NoPlace_init) (defBody s_NoPlace_init) (defScope s_NoPlace_init) .none kV_NoPlace_i dc_NoPlace_i pm_NoPlace_i an_NoPlace_i cd_NoPlace_i ct_NoPlace_i), sl_NoPlace_i⟩)
    (xic_NoPlace : PySem.W.codeIn K cd_NoPlace_i "NoPlace.__init__" = true)
    (xik_NoPlace : PySem.W.keepIn K (.ref ai_NoPlace) = true)
    {ac_NoText ai_NoText N_NoText : Addr} {nm_NoText q_NoText : Str} {bs_NoText bm_NoText : List Value} {sn_NoText : List Str} {sub_NoText : List Value} {ab_NoText : Bool} {col_NoText : Option Bool} {dd_NoText : Option Addr} {k0_NoText k1_NoText k2_NoText k3_NoText k5_NoText : Option Value}
    {oc_NoText_i kV_NoText_i dc_NoText_i pm_NoText_i cd_NoText_i ct_NoText_i : Value} {od_NoText_i an_NoText_i : Option Addr} {sl_NoText_i : Array (Option Value)}
    (v_NoText : PySem.W.nsIn K mainGlobals "NoText" = some (some (.ref ac_NoText)))
    (xl_NoText : K.lookup ac_NoText = some (excClassObj nm_NoText q_NoText ac_NoText N_NoText bs_NoText bm_NoText true sn_NoText sub_NoText ab_NoText col_NoText dd_NoText k0_NoText k1_NoText k2_NoText k3_NoText k5_NoText "ValueError.__new__"))
    (xr_NoText : PySem.HandSPX.refsVE bm_NoText = true)
    (xsa_NoText : PySem.W.findIn K (.ref ac_NoText) "__setattr__" = some (some (.builtin "object.__setattr__")))
    (xhg_NoText : PySem.W.findIn K (.ref ac_NoText) "__getattribute__" = some (some (.builtin "BaseException.__getattribute__")))
    (xhk_NoText : PySem.W.findIn K (.ref ac_NoText) "__getattr__" = some none)
    (xha_NoText : PySem.W.findIn K (.ref ac_NoText) "__class__" = some (some (.builtin "object.__class__")))
    (xii_NoText : PySem.W.findIn K (.ref ac_NoText) "__init__" = some (some (.ref ai_NoText)))
    (xex_NoText : PySem.W.subIn K (.ref ac_NoText) (.type "BaseException") = some true)
    (xty_NoText : PySem.W.typeIn K (.ref ac_NoText) = some (.type "type"))
    (xk_NoText : PySem.W.keepIn K (.ref ac_NoText) = true)
    (xhd_NoText : PySem.W.hasDictIn K ac_NoText = true)
    (xhm_NoText : PySem.W.mroIn K ac_NoText (.type "object") = some true)
    (xti_NoText : PySem.W.typeIn K (.ref ai_NoText) = some (.type "function"))
    (xkv_NoText : PySem.W.subIn K (.ref ac_NoText) (.type "ValueError") = some true)
    (xn_NoText_at : PySem.W.findIn K (.ref ac_NoText) "at" = some none)
    (xil_NoText : K.lookup ai_NoText = some ⟨oc_NoText_i, od_NoText_i, .func (PySem.W.fnOf "__init__" "NoText.__init__" (defArgs s_NoText_init) (defBody s_NoText_init) (defScope s_NoText_init) .none kV_NoText_i dc_NoText_i pm_NoText_i an_NoText_i cd_NoText_i ct_NoText_i), sl_NoText_i⟩)
    (xic_NoText : PySem.W.codeIn K cd_NoText_i "NoText.__init__" = true)
    (xik_NoText : PySem.W.keepIn K (.ref ai_NoText) = true)
    {ac_TooGreat ai_TooGreat N_TooGreat : Addr} {nm_TooGreat q_TooGreat : Str} {bs_TooGreat bm_TooGreat : List Value} {sn_TooGreat : List Str} {sub_TooGreat : List Value} {ab_TooGreat : Bool} {col_TooGreat : Option Bool} {dd_TooGreat : Option Addr} {k0_TooGreat k1_TooGreat k2_TooGreat k3_TooGreat k5_TooGreat : Option Value}
    {oc_TooGreat_i kV_TooGreat_i dc_TooGreat_i pm_TooGreat_i cd_TooGreat_i ct_TooGreat_i : Value} {od_TooGreat_i an_TooGreat_i : Option Addr} {sl_TooGreat_i : Array (Option Value)}
    (v_TooGreat : PySem.W.nsIn K mainGlobals "TooGreat" = some (some (.ref ac_TooGreat)))
    (xl_TooGreat : K.lookup ac_TooGreat = some (excClassObj nm_TooGreat q_TooGreat ac_TooGreat N_TooGreat bs_TooGreat bm_TooGreat true sn_TooGreat sub_TooGreat ab_TooGreat col_TooGreat dd_TooGreat k0_TooGreat k1_TooGreat k2_TooGreat k3_TooGreat k5_TooGreat "ValueError.__new__"))
    (xr_TooGreat : PySem.HandSPX.refsVE bm_TooGreat = true)
    (xsa_TooGreat : PySem.W.findIn K (.ref ac_TooGreat) "__setattr__" = some (some (.builtin "object.__setattr__")))
    (xhg_TooGreat : PySem.W.findIn K (.ref ac_TooGreat) "__getattribute__" = some (some (.builtin "BaseException.__getattribute__")))
    (xhk_TooGreat : PySem.W.findIn K (.ref ac_TooGreat) "__getattr__" = some none)
    (xha_TooGreat : PySem.W.findIn K (.ref ac_TooGreat) "__class__" = some (some (.builtin "object.__class__")))
    (xii_TooGreat : PySem.W.findIn K (.ref ac_TooGreat) "__init__" = some (some (.ref ai_TooGreat)))
    (xex_TooGreat : PySem.W.subIn K (.ref ac_TooGreat) (.type "BaseException") = some true)
    (xty_TooGreat : PySem.W.typeIn K (.ref ac_TooGreat) = some (.type "type"))
    (xk_TooGreat : PySem.W.keepIn K (.ref ac_TooGreat) = true)
    (xhd_TooGreat : PySem.W.hasDictIn K ac_TooGreat = true)
    (xhm_TooGreat : PySem.W.mroIn K ac_TooGreat (.type "object") = some true)
    (xti_TooGreat : PySem.W.typeIn K (.ref ai_TooGreat) = some (.type "function"))
    (xkv_TooGreat : PySem.W.subIn K (.ref ac_TooGreat) (.type "ValueError") = some true)
    (xn_TooGreat_parts : PySem.W.findIn K (.ref ac_TooGreat) "parts" = some none)
    (xil_TooGreat : K.lookup ai_TooGreat = some ⟨oc_TooGreat_i, od_TooGreat_i, .func (PySem.W.fnOf "__init__" "TooGreat.__init__" (defArgs s_TooGreat_init) (defBody s_TooGreat_init) (defScope s_TooGreat_init) .none kV_TooGreat_i dc_TooGreat_i pm_TooGreat_i an_TooGreat_i cd_TooGreat_i ct_TooGreat_i), sl_TooGreat_i⟩)
    (xic_TooGreat : PySem.W.codeIn K cd_TooGreat_i "TooGreat.__init__" = true)
    (xik_TooGreat : PySem.W.keepIn K (.ref ai_TooGreat) = true)
    (xhn : PySem.W.specialIn K (.builtin "object.__class__") "__get__" = some (some (.builtin "getset_descriptor.__get__")))
    (xht : PySem.W.takesIn K (.builtin "object.__class__") = some true)
    {ac_SeekError : Addr}
    (v_SeekError : PySem.W.nsIn K mainGlobals "SeekError" = some (some (.ref ac_SeekError)))
    (sga : PySem.W.specialIn K (.ref ac_SeekError) "__getattribute__" = some (some (.builtin "type.__getattribute__")))
    (srd : PySem.W.readsIn K ac_SeekError (.type "type") = true)
    (svi : PySem.W.findCls K (.ref ac_SeekError) (.type "type") "__init__" = some (.val (.builtin "ValueError.__init__")))
    (xex_SeekError : PySem.W.subIn K (.ref ac_SeekError) (.type "BaseException") = some true)
    (xty_SeekError : PySem.W.typeIn K (.ref ac_SeekError) = some (.type "type"))
    (xhd_SeekError : PySem.W.hasDictIn K ac_SeekError = true)
    (ks_NoTerm_NoTerm : PySem.W.subIn K (.ref ac_NoTerm) (.ref ac_NoTerm) = some true)
    (ks_NoTerm_NoPlace : PySem.W.subIn K (.ref ac_NoTerm) (.ref ac_NoPlace) = some false)
    (ks_NoTerm_NoText : PySem.W.subIn K (.ref ac_NoTerm) (.ref ac_NoText) = some false)
    (ks_NoTerm_TooGreat : PySem.W.subIn K (.ref ac_NoTerm) (.ref ac_TooGreat) = some false)
    (ks_NoPlace_NoTerm : PySem.W.subIn K (.ref ac_NoPlace) (.ref ac_NoTerm) = some false)
    (ks_NoPlace_NoPlace : PySem.W.subIn K (.ref ac_NoPlace) (.ref ac_NoPlace) = some true)
    (ks_NoPlace_NoText : PySem.W.subIn K (.ref ac_NoPlace) (.ref ac_NoText) = some false)
    (ks_NoPlace_TooGreat : PySem.W.subIn K (.ref ac_NoPlace) (.ref ac_TooGreat) = some false)
    (ks_NoText_NoTerm : PySem.W.subIn K (.ref ac_NoText) (.ref ac_NoTerm) = some false)
    (ks_NoText_NoPlace : PySem.W.subIn K (.ref ac_NoText) (.ref ac_NoPlace) = some false)
    (ks_NoText_NoText : PySem.W.subIn K (.ref ac_NoText) (.ref ac_NoText) = some true)
    (ks_NoText_TooGreat : PySem.W.subIn K (.ref ac_NoText) (.ref ac_TooGreat) = some false)
    (ks_TooGreat_NoTerm : PySem.W.subIn K (.ref ac_TooGreat) (.ref ac_NoTerm) = some false)
    (ks_TooGreat_NoPlace : PySem.W.subIn K (.ref ac_TooGreat) (.ref ac_NoPlace) = some false)
    (ks_TooGreat_NoText : PySem.W.subIn K (.ref ac_TooGreat) (.ref ac_NoText) = some false)
    (ks_TooGreat_TooGreat : PySem.W.subIn K (.ref ac_TooGreat) (.ref ac_TooGreat) = some true)
    (ks_NoTerm_SeekError : PySem.W.subIn K (.ref ac_NoTerm) (.ref ac_SeekError) = some true)
    (ks_NoPlace_SeekError : PySem.W.subIn K (.ref ac_NoPlace) (.ref ac_SeekError) = some true)
    (ks_NoText_SeekError : PySem.W.subIn K (.ref ac_NoText) (.ref ac_SeekError) = some true)
    (ks_TooGreat_SeekError : PySem.W.subIn K (.ref ac_TooGreat) (.ref ac_SeekError) = some true)
    (z_ValueError : PySem.W.nsIn K mainGlobals "ValueError" = some none)
    (z_all : PySem.W.nsIn K mainGlobals "all" = some none)
    (z_len : PySem.W.nsIn K mainGlobals "len" = some none)
    (z_repr : PySem.W.nsIn K mainGlobals "repr" = some none)
    (z_range : PySem.W.nsIn K mainGlobals "range" = some none)
    (z_isinstance : PySem.W.nsIn K mainGlobals "isinstance" = some none)
    (z_int : PySem.W.nsIn K mainGlobals "int" = some none)
    (z_tuple : PySem.W.nsIn K mainGlobals "tuple" = some none)
    (z_max : PySem.W.nsIn K mainGlobals "max" = some none)
    (z_list : PySem.W.nsIn K mainGlobals "list" = some none)
    (z_bool : PySem.W.nsIn K mainGlobals "bool" = some none)
    (z_str : PySem.W.nsIn K mainGlobals "str" = some none)
    {tt_LETTERS : Tok}
    (v_LETTERS : PySem.W.nsIn K mainGlobals "LETTERS" = some (some (Value.str "abcdefghijklmnopqrstuvwxyz" tt_LETTERS)))
    {tt_LONGEST : Tok}
    (v_LONGEST : PySem.W.nsIn K mainGlobals "LONGEST" = some (some (Value.int 8 tt_LONGEST)))
    {ac_OWN_WORDS : Addr} {dd_OWN_WORDS : Option Addr} {nn_OWN_WORDS : Nat} {ss_OWN_WORDS : Array (Option Value)} {u_OWN_WORDS_0 u_OWN_WORDS_1 u_OWN_WORDS_2 u_OWN_WORDS_3 u_OWN_WORDS_4 u_OWN_WORDS_5 u_OWN_WORDS_6 u_OWN_WORDS_7 : Tok}
    (v_OWN_WORDS : PySem.W.nsIn K mainGlobals "OWN_WORDS" = some (some (.ref ac_OWN_WORDS)))
    (y_OWN_WORDS : K.lookup ac_OWN_WORDS = some ⟨.type "tuple", dd_OWN_WORDS, .seq #[Value.str "rel" u_OWN_WORDS_0, Value.str "same" u_OWN_WORDS_1, Value.str "unlike" u_OWN_WORDS_2, Value.str "one" u_OWN_WORDS_3, Value.str "both" u_OWN_WORDS_4, Value.str "fresh" u_OWN_WORDS_5, Value.str "call" u_OWN_WORDS_6, Value.str "not" u_OWN_WORDS_7] nn_OWN_WORDS, ss_OWN_WORDS⟩)
    {tt_MOST_PARTS : Tok}
    (v_MOST_PARTS : PySem.W.nsIn K mainGlobals "MOST_PARTS" = some (some (Value.int 100 tt_MOST_PARTS)))
    {tt_MOST_UNKNOWN : Tok}
    (v_MOST_UNKNOWN : PySem.W.nsIn K mainGlobals "MOST_UNKNOWN" = some (some (Value.int 999999999 tt_MOST_UNKNOWN)))
    {tt_GREATEST : Tok}
    (v_GREATEST : PySem.W.nsIn K mainGlobals "GREATEST" = some (some (Value.int 999999999999999999999999999999 tt_GREATEST)))
    : ∃ fd : FuncData, (∀ (s : Shared) (v : Value), BindsTo s fd ⟨[v], []⟩ [("_law_script", v)]) ∧ ∀ base : Heap, K.In base → base.Ns mainGlobals mg → FnG l.prog w K mg base CX0 106 fa fd ["_law_script"] (sp_law K) := by
  have e : f_law = fa := (Value.ref.inj (Option.some.inj (hfa.symm.trans (PySem.W.mg_of X G a_law)))).symm
  subst e
  have F_is_whole := fun_mk (st := s_is_whole) l_is_whole c_is_whole k_is_whole
  have b_is_whole := F_is_whole.binds (ps := ["thing"]) fun _ _ _ _ _ _ us hl => match us, hl with | [_], _ => rfl
  have F_is_within := fun_mk (st := s_is_within) l_is_within c_is_within k_is_within
  have b_is_within := F_is_within.binds (ps := ["thing", "low", "high"]) fun _ _ _ _ _ _ us hl => match us, hl with | [_, _, _], _ => rfl
  have F_is_name := fun_mk (st := s_is_name) l_is_name c_is_name k_is_name
  have b_is_name := F_is_name.binds (ps := ["thing"]) fun _ _ _ _ _ _ us hl => match us, hl with | [_], _ => rfl
  have F_is_unknown := fun_mk (st := s_is_unknown) l_is_unknown c_is_unknown k_is_unknown
  have b_is_unknown := F_is_unknown.binds (ps := ["thing"]) fun _ _ _ _ _ _ us hl => match us, hl with | [_], _ => rfl
  have F_is_pair := fun_mk (st := s_is_pair) l_is_pair c_is_pair k_is_pair
  have b_is_pair := F_is_pair.binds (ps := ["term"]) fun _ _ _ _ _ _ us hl => match us, hl with | [_], _ => rfl
  have F_is_single := fun_mk (st := s_is_single) l_is_single c_is_single k_is_single
  have b_is_single := F_is_single.binds (ps := ["thing"]) fun _ _ _ _ _ _ us hl => match us, hl with | [_], _ => rfl
  have F_is_term := fun_mk (st := s_is_term) l_is_term c_is_term k_is_term
  have b_is_term := F_is_term.binds (ps := ["thing"]) fun _ _ _ _ _ _ us hl => match us, hl with | [_], _ => rfl
  have F_need_term := fun_mk (st := s_need_term) l_need_term c_need_term k_need_term
  have b_need_term := F_need_term.binds (ps := ["thing"]) fun _ _ _ _ _ _ us hl => match us, hl with | [_], _ => rfl
  have F_parts_within := fun_mk (st := s_parts_within) l_parts_within c_parts_within k_parts_within
  have b_parts_within := F_parts_within.binds (ps := ["term"]) fun _ _ _ _ _ _ us hl => match us, hl with | [_], _ => rfl
  have F_parts_of := fun_mk (st := s_parts_of) l_parts_of c_parts_of k_parts_of
  have b_parts_of := F_parts_of.binds (ps := ["term"]) fun _ _ _ _ _ _ us hl => match us, hl with | [_], _ => rfl
  have F_at_place := fun_mk (st := s_at_place) l_at_place c_at_place k_at_place
  have b_at_place := F_at_place.binds (ps := ["term", "place"]) fun _ _ _ _ _ _ us hl => match us, hl with | [_, _], _ => rfl
  have F_put_within := fun_mk (st := s_put_within) l_put_within c_put_within k_put_within
  have b_put_within := F_put_within.binds (ps := ["term", "place", "part"]) fun _ _ _ _ _ _ us hl => match us, hl with | [_, _, _], _ => rfl
  have F_put_at := fun_mk (st := s_put_at) l_put_at c_put_at k_put_at
  have b_put_at := F_put_at.binds (ps := ["term", "place", "part"]) fun _ _ _ _ _ _ us hl => match us, hl with | [_, _, _], _ => rfl
  have F_l_cell := fun_mk (st := s_l_cell) l_l_cell c_l_cell k_l_cell
  have b_l_cell := F_l_cell.binds (ps := ["_law_script", "_law_k"]) fun _ _ _ _ _ _ us hl => match us, hl with | [_, _], _ => rfl
  have F_l_purse := fun_mk (st := s_l_purse) l_l_purse c_l_purse k_l_purse
  have b_l_purse := F_l_purse.binds (ps := ["_law_cell_here"]) fun _ _ _ _ _ _ us hl => match us, hl with | [_], _ => rfl
  have F_l_take := fun_mk (st := s_l_take) l_l_take c_l_take k_l_take
  have b_l_take := F_l_take.binds (ps := ["_law_purse_here", "_law_many"]) fun _ _ _ _ _ _ us hl => match us, hl with | [_, _], _ => rfl
  have F_l_single := fun_mk (st := s_l_single) l_l_single c_l_single k_l_single
  have b_l_single := F_l_single.binds (ps := ["_law_purse_here"]) fun _ _ _ _ _ _ us hl => match us, hl with | [_], _ => rfl
  have F_l_term := fun_mk (st := s_l_term) l_l_term c_l_term k_l_term
  have b_l_term := F_l_term.binds (ps := ["_law_purse_here", "_law_room_here"]) fun _ _ _ _ _ _ us hl => match us, hl with | [_, _], _ => rfl
  have F_l_room := fun_mk (st := s_l_room) l_l_room c_l_room k_l_room
  have b_l_room := F_l_room.binds (ps := ["_law_purse_here"]) fun _ _ _ _ _ _ us hl => match us, hl with | [_], _ => rfl
  have F_l_parts := fun_mk (st := s_l_parts) l_l_parts c_l_parts k_l_parts
  have b_l_parts := F_l_parts.binds (ps := ["_law_term_here"]) fun _ _ _ _ _ _ us hl => match us, hl with | [_], _ => rfl
  have F_l_places := fun_mk (st := s_l_places) l_l_places c_l_places k_l_places
  have b_l_places := F_l_places.binds (ps := ["_law_term_here", "_law_place"]) fun _ _ _ _ _ _ us hl => match us, hl with | [_, _], _ => rfl
  have F_l_put := fun_mk (st := s_l_put) l_l_put c_l_put k_l_put
  have b_l_put := F_l_put.binds (ps := ["_law_term_here", "_law_place", "_law_part"]) fun _ _ _ _ _ _ us hl => match us, hl with | [_, _, _], _ => rfl
  have F_l_said := fun_mk (st := s_l_said) l_l_said c_l_said k_l_said
  have b_l_said := F_l_said.binds (ps := ["_law_term_here", "_law_place", "_law_part"]) fun _ _ _ _ _ _ us hl => match us, hl with | [_, _, _], _ => rfl
  have F_l_seen := fun_mk (st := s_l_seen) l_l_seen c_l_seen k_l_seen
  have b_l_seen := F_l_seen.binds (ps := ["_law_term_here", "_law_place"]) fun _ _ _ _ _ _ us hl => match us, hl with | [_, _], _ => rfl
  have F_l_bad_place := fun_mk (st := s_l_bad_place) l_l_bad_place c_l_bad_place k_l_bad_place
  have b_l_bad_place := F_l_bad_place.binds (ps := ["_law_purse_here", "_law_term_here"]) fun _ _ _ _ _ _ us hl => match us, hl with | [_, _], _ => rfl
  have F_l_no_term := fun_mk (st := s_l_no_term) l_l_no_term c_l_no_term k_l_no_term
  have b_l_no_term := F_l_no_term.binds (ps := ["_law_purse_here"]) fun _ _ _ _ _ _ us hl => match us, hl with | [_], _ => rfl
  have F_l_right := fun_mk (st := s_l_right) l_l_right c_l_right k_l_right
  have b_l_right := F_l_right.binds (ps := ["_law_purse_here", "_law_term_here", "_law_part"]) fun _ _ _ _ _ _ us hl => match us, hl with | [_, _, _], _ => rfl
  have F_l_refused := fun_mk (st := s_l_refused) l_l_refused c_l_refused k_l_refused
  have b_l_refused := F_l_refused.binds (ps := ["_law_purse_here", "_law_term_here", "_law_part"]) fun _ _ _ _ _ _ us hl => match us, hl with | [_, _, _], _ => rfl
  have F_law := fun_mk (st := s_law) l_law c_law k_law
  have b_law := F_law.binds (ps := ["_law_script"]) fun _ _ _ _ _ _ us hl => match us, hl with | [_], _ => rfl
  have Fi_NoTerm := fun_mk (st := s_NoTerm_init) xil_NoTerm xic_NoTerm xik_NoTerm
  have bi_NoTerm := Fi_NoTerm.binds (ps := ["self", "found"]) fun _ _ _ _ _ _ us hl => match us, hl with | [_, _], _ => rfl
  have Fi_NoPlace := fun_mk (st := s_NoPlace_init) xil_NoPlace xic_NoPlace xik_NoPlace
  have bi_NoPlace := Fi_NoPlace.binds (ps := ["self", "found"]) fun _ _ _ _ _ _ us hl => match us, hl with | [_, _], _ => rfl
  have Fi_NoText := fun_mk (st := s_NoText_init) xil_NoText xic_NoText xik_NoText
  have bi_NoText := Fi_NoText.binds (ps := ["self", "at"]) fun _ _ _ _ _ _ us hl => match us, hl with | [_, _], _ => rfl
  have Fi_TooGreat := fun_mk (st := s_TooGreat_init) xil_TooGreat xic_TooGreat xik_TooGreat
  have bi_TooGreat := Fi_TooGreat.binds (ps := ["self", "parts"]) fun _ _ _ _ _ _ us hl => match us, hl with | [_, _], _ => rfl
  refine ⟨PySem.W.fnOf "law" "law" (defArgs s_law) (defBody s_law) (defScope s_law) .none kV_law dc_law pm_law an_law cd_law ct_law, fun s v => .of_eq rfl, fun base _ _ => ok_law (P := l.prog) (w := w) (base := base) (K := K) (mg := mg) {
    a_is_whole := f_is_whole, d_is_whole := _, F_is_whole := F_is_whole, b_is_whole := b_is_whole, g_is_whole := PySem.W.mg_of X G a_is_whole,
    a_is_within := f_is_within, d_is_within := _, F_is_within := F_is_within, b_is_within := b_is_within, g_is_within := PySem.W.mg_of X G a_is_within,
    a_is_name := f_is_name, d_is_name := _, F_is_name := F_is_name, b_is_name := b_is_name, g_is_name := PySem.W.mg_of X G a_is_name,
    a_is_unknown := f_is_unknown, d_is_unknown := _, F_is_unknown := F_is_unknown, b_is_unknown := b_is_unknown, g_is_unknown := PySem.W.mg_of X G a_is_unknown,
    a_is_pair := f_is_pair, d_is_pair := _, F_is_pair := F_is_pair, b_is_pair := b_is_pair, g_is_pair := PySem.W.mg_of X G a_is_pair,
    a_is_single := f_is_single, d_is_single := _, F_is_single := F_is_single, b_is_single := b_is_single, g_is_single := PySem.W.mg_of X G a_is_single,
    a_is_term := f_is_term, d_is_term := _, F_is_term := F_is_term, b_is_term := b_is_term, g_is_term := PySem.W.mg_of X G a_is_term,
    a_need_term := f_need_term, d_need_term := _, F_need_term := F_need_term, b_need_term := b_need_term, g_need_term := PySem.W.mg_of X G a_need_term,
    a_parts_within := f_parts_within, d_parts_within := _, F_parts_within := F_parts_within, b_parts_within := b_parts_within, g_parts_within := PySem.W.mg_of X G a_parts_within,
    a_parts_of := f_parts_of, d_parts_of := _, F_parts_of := F_parts_of, b_parts_of := b_parts_of, g_parts_of := PySem.W.mg_of X G a_parts_of,
    a_at_place := f_at_place, d_at_place := _, F_at_place := F_at_place, b_at_place := b_at_place, g_at_place := PySem.W.mg_of X G a_at_place,
    a_put_within := f_put_within, d_put_within := _, F_put_within := F_put_within, b_put_within := b_put_within, g_put_within := PySem.W.mg_of X G a_put_within,
    a_put_at := f_put_at, d_put_at := _, F_put_at := F_put_at, b_put_at := b_put_at, g_put_at := PySem.W.mg_of X G a_put_at,
    a_l_cell := f_l_cell, d_l_cell := _, F_l_cell := F_l_cell, b_l_cell := b_l_cell, g_l_cell := PySem.W.mg_of X G a_l_cell,
    a_l_purse := f_l_purse, d_l_purse := _, F_l_purse := F_l_purse, b_l_purse := b_l_purse, g_l_purse := PySem.W.mg_of X G a_l_purse,
    a_l_take := f_l_take, d_l_take := _, F_l_take := F_l_take, b_l_take := b_l_take, g_l_take := PySem.W.mg_of X G a_l_take,
    a_l_single := f_l_single, d_l_single := _, F_l_single := F_l_single, b_l_single := b_l_single, g_l_single := PySem.W.mg_of X G a_l_single,
    a_l_term := f_l_term, d_l_term := _, F_l_term := F_l_term, b_l_term := b_l_term, g_l_term := PySem.W.mg_of X G a_l_term,
    a_l_room := f_l_room, d_l_room := _, F_l_room := F_l_room, b_l_room := b_l_room, g_l_room := PySem.W.mg_of X G a_l_room,
    a_l_parts := f_l_parts, d_l_parts := _, F_l_parts := F_l_parts, b_l_parts := b_l_parts, g_l_parts := PySem.W.mg_of X G a_l_parts,
    a_l_places := f_l_places, d_l_places := _, F_l_places := F_l_places, b_l_places := b_l_places, g_l_places := PySem.W.mg_of X G a_l_places,
    a_l_put := f_l_put, d_l_put := _, F_l_put := F_l_put, b_l_put := b_l_put, g_l_put := PySem.W.mg_of X G a_l_put,
    a_l_said := f_l_said, d_l_said := _, F_l_said := F_l_said, b_l_said := b_l_said, g_l_said := PySem.W.mg_of X G a_l_said,
    a_l_seen := f_l_seen, d_l_seen := _, F_l_seen := F_l_seen, b_l_seen := b_l_seen, g_l_seen := PySem.W.mg_of X G a_l_seen,
    a_l_bad_place := f_l_bad_place, d_l_bad_place := _, F_l_bad_place := F_l_bad_place, b_l_bad_place := b_l_bad_place, g_l_bad_place := PySem.W.mg_of X G a_l_bad_place,
    a_l_no_term := f_l_no_term, d_l_no_term := _, F_l_no_term := F_l_no_term, b_l_no_term := b_l_no_term, g_l_no_term := PySem.W.mg_of X G a_l_no_term,
    a_l_right := f_l_right, d_l_right := _, F_l_right := F_l_right, b_l_right := b_l_right, g_l_right := PySem.W.mg_of X G a_l_right,
    a_l_refused := f_l_refused, d_l_refused := _, F_l_refused := F_l_refused, b_l_refused := b_l_refused, g_l_refused := PySem.W.mg_of X G a_l_refused,
    a_law := f_law, d_law := _, F_law := F_law, b_law := b_law, g_law := PySem.W.mg_of X G a_law,
    a_NoTerm := ac_NoTerm, g_NoTerm := PySem.W.mg_of X G v_NoTerm, x_NoTerm := ⟨⟨_, _, _, _, _, _, _, _, _, _, _, _, _, _, _, xl_NoTerm, xr_NoTerm⟩, xsa_NoTerm, xex_NoTerm, xty_NoTerm, xk_NoTerm⟩,
    y_NoTerm := ⟨xhg_NoTerm, xhk_NoTerm, xex_NoTerm, xhd_NoTerm, xha_NoTerm, xhn, xht, xhm_NoTerm⟩, f_NoTerm := ⟨xhg_NoTerm, xhk_NoTerm, xex_NoTerm, xhd_NoTerm⟩,
    i_NoTerm := ai_NoTerm, di_NoTerm := _, Fi_NoTerm := Fi_NoTerm, bi_NoTerm := bi_NoTerm, ii_NoTerm := xii_NoTerm, ti_NoTerm := xti_NoTerm, kv_NoTerm := kit_tyE xkv_NoTerm (by decide +kernel),
    n_NoTerm_found := xn_NoTerm_found,
    a_NoPlace := ac_NoPlace, g_NoPlace := PySem.W.mg_of X G v_NoPlace, x_NoPlace := ⟨⟨_, _, _, _, _, _, _, _, _, _, _, _, _, _, _, xl_NoPlace, xr_NoPlace⟩, xsa_NoPlace, xex_NoPlace, xty_NoPlace, xk_NoPlace⟩,
    y_NoPlace := ⟨xhg_NoPlace, xhk_NoPlace, xex_NoPlace, xhd_NoPlace, xha_NoPlace, xhn, xht, xhm_NoPlace⟩, f_NoPlace := ⟨xhg_NoPlace, xhk_NoPlace, xex_NoPlace, xhd_NoPlace⟩,
    i_NoPlace := ai_NoPlace, di_NoPlace := _, Fi_NoPlace := Fi_NoPlace, bi_NoPlace := bi_NoPlace, ii_NoPlace := xii_NoPlace, ti_NoPlace := xti_NoPlace, kv_NoPlace := kit_tyE xkv_NoPlace (by decide +kernel),
    n_NoPlace_found := xn_NoPlace_found,
    a_NoText := ac_NoText, g_NoText := PySem.W.mg_of X G v_NoText, x_NoText := ⟨⟨_, _, _, _, _, _, _, _, _, _, _, _, _, _, _, xl_NoText, xr_NoText⟩, xsa_NoText, xex_NoText, xty_NoText, xk_NoText⟩,
    y_NoText := ⟨xhg_NoText, xhk_NoText, xex_NoText, xhd_NoText, xha_NoText, xhn, xht, xhm_NoText⟩, f_NoText := ⟨xhg_NoText, xhk_NoText, xex_NoText, xhd_NoText⟩,
    i_NoText := ai_NoText, di_NoText := _, Fi_NoText := Fi_NoText, bi_NoText := bi_NoText, ii_NoText := xii_NoText, ti_NoText := xti_NoText, kv_NoText := kit_tyE xkv_NoText (by decide +kernel),
    n_NoText_at := xn_NoText_at,
    a_TooGreat := ac_TooGreat, g_TooGreat := PySem.W.mg_of X G v_TooGreat, x_TooGreat := ⟨⟨_, _, _, _, _, _, _, _, _, _, _, _, _, _, _, xl_TooGreat, xr_TooGreat⟩, xsa_TooGreat, xex_TooGreat, xty_TooGreat, xk_TooGreat⟩,
    y_TooGreat := ⟨xhg_TooGreat, xhk_TooGreat, xex_TooGreat, xhd_TooGreat, xha_TooGreat, xhn, xht, xhm_TooGreat⟩, f_TooGreat := ⟨xhg_TooGreat, xhk_TooGreat, xex_TooGreat, xhd_TooGreat⟩,
    i_TooGreat := ai_TooGreat, di_TooGreat := _, Fi_TooGreat := Fi_TooGreat, bi_TooGreat := bi_TooGreat, ii_TooGreat := xii_TooGreat, ti_TooGreat := xti_TooGreat, kv_TooGreat := kit_tyE xkv_TooGreat (by decide +kernel),
    n_TooGreat_parts := xn_TooGreat_parts,
    a_SeekError := ac_SeekError, g_SeekError := PySem.W.mg_of X G v_SeekError, sga := sga, srd := srd, svi := svi,
    km_NoTerm_NoTerm := kit_refE xhd_NoTerm xty_NoTerm ks_NoTerm_NoTerm (fun e => rfl), em_NoTerm_NoTerm := PySem.W.exm_ref xex_NoTerm xhd_NoTerm xty_NoTerm ks_NoTerm_NoTerm,
    km_NoTerm_NoPlace := kit_refE xhd_NoPlace xty_NoPlace ks_NoTerm_NoPlace (fun e => (by rw [e, ks_NoPlace_NoPlace] at ks_NoTerm_NoPlace; exact ks_NoTerm_NoPlace)), em_NoTerm_NoPlace := PySem.W.exm_ref xex_NoPlace xhd_NoPlace xty_NoPlace ks_NoTerm_NoPlace,
    km_NoTerm_NoText := kit_refE xhd_NoText xty_NoText ks_NoTerm_NoText (fun e => (by rw [e, ks_NoText_NoText] at ks_NoTerm_NoText; exact ks_NoTerm_NoText)), em_NoTerm_NoText := PySem.W.exm_ref xex_NoText xhd_NoText xty_NoText ks_NoTerm_NoText,
    km_NoTerm_TooGreat := kit_refE xhd_TooGreat xty_TooGreat ks_NoTerm_TooGreat (fun e => (by rw [e, ks_TooGreat_TooGreat] at ks_NoTerm_TooGreat; exact ks_NoTerm_TooGreat)), em_NoTerm_TooGreat := PySem.W.exm_ref xex_TooGreat xhd_TooGreat xty_TooGreat ks_NoTerm_TooGreat,
    km_NoPlace_NoTerm := kit_refE xhd_NoTerm xty_NoTerm ks_NoPlace_NoTerm (fun e => (by rw [e, ks_NoTerm_NoTerm] at ks_NoPlace_NoTerm; exact ks_NoPlace_NoTerm)), em_NoPlace_NoTerm := PySem.W.exm_ref xex_NoTerm xhd_NoTerm xty_NoTerm ks_NoPlace_NoTerm,
    km_NoPlace_NoPlace := kit_refE xhd_NoPlace xty_NoPlace ks_NoPlace_NoPlace (fun e => rfl), em_NoPlace_NoPlace := PySem.W.exm_ref xex_NoPlace xhd_NoPlace xty_NoPlace ks_NoPlace_NoPlace,
    km_NoPlace_NoText := kit_refE xhd_NoText xty_NoText ks_NoPlace_NoText (fun e => (by rw [e, ks_NoText_NoText] at ks_NoPlace_NoText; exact ks_NoPlace_NoText)), em_NoPlace_NoText := PySem.W.exm_ref xex_NoText xhd_NoText xty_NoText ks_NoPlace_NoText,
    km_NoPlace_TooGreat := kit_refE xhd_TooGreat xty_TooGreat ks_NoPlace_TooGreat (fun e => (by rw [e, ks_TooGreat_TooGreat] at ks_NoPlace_TooGreat; exact ks_NoPlace_TooGreat)), em_NoPlace_TooGreat := PySem.W.exm_ref xex_TooGreat xhd_TooGreat xty_TooGreat ks_NoPlace_TooGreat,
    km_NoText_NoTerm := kit_refE xhd_NoTerm xty_NoTerm ks_NoText_NoTerm (fun e => (by rw [e, ks_NoTerm_NoTerm] at ks_NoText_NoTerm; exact ks_NoText_NoTerm)), em_NoText_NoTerm := PySem.W.exm_ref xex_NoTerm xhd_NoTerm xty_NoTerm ks_NoText_NoTerm,
    km_NoText_NoPlace := kit_refE xhd_NoPlace xty_NoPlace ks_NoText_NoPlace (fun e => (by rw [e, ks_NoPlace_NoPlace] at ks_NoText_NoPlace; exact ks_NoText_NoPlace)), em_NoText_NoPlace := PySem.W.exm_ref xex_NoPlace xhd_NoPlace xty_NoPlace ks_NoText_NoPlace,
    km_NoText_NoText := kit_refE xhd_NoText xty_NoText ks_NoText_NoText (fun e => rfl), em_NoText_NoText := PySem.W.exm_ref xex_NoText xhd_NoText xty_NoText ks_NoText_NoText,
    km_NoText_TooGreat := kit_refE xhd_TooGreat xty_TooGreat ks_NoText_TooGreat (fun e => (by rw [e, ks_TooGreat_TooGreat] at ks_NoText_TooGreat; exact ks_NoText_TooGreat)), em_NoText_TooGreat := PySem.W.exm_ref xex_TooGreat xhd_TooGreat xty_TooGreat ks_NoText_TooGreat,
    km_TooGreat_NoTerm := kit_refE xhd_NoTerm xty_NoTerm ks_TooGreat_NoTerm (fun e => (by rw [e, ks_NoTerm_NoTerm] at ks_TooGreat_NoTerm; exact ks_TooGreat_NoTerm)), em_TooGreat_NoTerm := PySem.W.exm_ref xex_NoTerm xhd_NoTerm xty_NoTerm ks_TooGreat_NoTerm,
    km_TooGreat_NoPlace := kit_refE xhd_NoPlace xty_NoPlace ks_TooGreat_NoPlace (fun e => (by rw [e, ks_NoPlace_NoPlace] at ks_TooGreat_NoPlace; exact ks_TooGreat_NoPlace)), em_TooGreat_NoPlace := PySem.W.exm_ref xex_NoPlace xhd_NoPlace xty_NoPlace ks_TooGreat_NoPlace,
    km_TooGreat_NoText := kit_refE xhd_NoText xty_NoText ks_TooGreat_NoText (fun e => (by rw [e, ks_NoText_NoText] at ks_TooGreat_NoText; exact ks_TooGreat_NoText)), em_TooGreat_NoText := PySem.W.exm_ref xex_NoText xhd_NoText xty_NoText ks_TooGreat_NoText,
    km_TooGreat_TooGreat := kit_refE xhd_TooGreat xty_TooGreat ks_TooGreat_TooGreat (fun e => rfl), em_TooGreat_TooGreat := PySem.W.exm_ref xex_TooGreat xhd_TooGreat xty_TooGreat ks_TooGreat_TooGreat,
    km_NoTerm_SeekError := kit_refE xhd_SeekError xty_SeekError ks_NoTerm_SeekError (fun e => rfl), em_NoTerm_SeekError := PySem.W.exm_ref xex_SeekError xhd_SeekError xty_SeekError ks_NoTerm_SeekError,
    km_NoPlace_SeekError := kit_refE xhd_SeekError xty_SeekError ks_NoPlace_SeekError (fun e => rfl), em_NoPlace_SeekError := PySem.W.exm_ref xex_SeekError xhd_SeekError xty_SeekError ks_NoPlace_SeekError,
    km_NoText_SeekError := kit_refE xhd_SeekError xty_SeekError ks_NoText_SeekError (fun e => rfl), em_NoText_SeekError := PySem.W.exm_ref xex_SeekError xhd_SeekError xty_SeekError ks_NoText_SeekError,
    km_TooGreat_SeekError := kit_refE xhd_SeekError xty_SeekError ks_TooGreat_SeekError (fun e => rfl), em_TooGreat_SeekError := PySem.W.exm_ref xex_SeekError xhd_SeekError xty_SeekError ks_TooGreat_SeekError,
    m_ValueError := PySem.W.mg_none_of X G z_ValueError,
    m_all := PySem.W.mg_none_of X G z_all,
    m_len := PySem.W.mg_none_of X G z_len,
    m_repr := PySem.W.mg_none_of X G z_repr,
    m_range := PySem.W.mg_none_of X G z_range,
    m_isinstance := PySem.W.mg_none_of X G z_isinstance,
    m_int := PySem.W.mg_none_of X G z_int,
    m_tuple := PySem.W.mg_none_of X G z_tuple,
    m_max := PySem.W.mg_none_of X G z_max,
    m_list := PySem.W.mg_none_of X G z_list,
    m_bool := PySem.W.mg_none_of X G z_bool,
    m_str := PySem.W.mg_none_of X G z_str,
    t_LETTERS := tt_LETTERS, g_LETTERS := PySem.W.mg_of X G v_LETTERS,
    t_LONGEST := tt_LONGEST, g_LONGEST := PySem.W.mg_of X G v_LONGEST,
    a_OWN_WORDS := ac_OWN_WORDS, g_OWN_WORDS := PySem.W.mg_of X G v_OWN_WORDS, q_OWN_WORDS := fun _ => .inr ⟨_, _, _, y_OWN_WORDS, rfl, rfl, (by show 8 ≤ sizeLine; decide), (.cons ⟨_, rfl⟩ (.cons ⟨_, rfl⟩ (.cons ⟨_, rfl⟩ (.cons ⟨_, rfl⟩ (.cons ⟨_, rfl⟩ (.cons ⟨_, rfl⟩ (.cons ⟨_, rfl⟩ (.cons ⟨_, rfl⟩ .nil))))))))⟩,
    t_MOST_PARTS := tt_MOST_PARTS, g_MOST_PARTS := PySem.W.mg_of X G v_MOST_PARTS,
    t_MOST_UNKNOWN := tt_MOST_UNKNOWN, g_MOST_UNKNOWN := PySem.W.mg_of X G v_MOST_UNKNOWN,
    t_GREATEST := tt_GREATEST, g_GREATEST := PySem.W.mg_of X G v_GREATEST }⟩
end Fs
open PySem PySem.W PyProof.Rows
set_option maxRecDepth 100000 in
set_option maxHeartbeats 0 in
theorem PySem.Challenge.cw_fairseek_k04_parts_put_holds : PySem.Challenge.rw_fairseek_k04_parts_put.Holds := by
  w_on; o_law; k_head; (case hw => w_witness2)
  k_fill
  refine Fs.walkG (l := PySem.Challenge.rw_fairseek_k04_parts_put) (n := 63) (k := 106) (x := "_law_script") (sp := Fs.sp_law) rfl (by decide) rfl ⟨rfl, by decide, by decide⟩ (fun w h Y => PySem.W.kIn_of Y) ?F (fun _ _ a ns hl hS => ⟨a, ns, rfl, hS, hl, fun _ => rfl⟩)
  case F =>
    intro w mg fa h KX G hmg
    refine' Fs.all_mk KX G hmg ?a_is_whole ?l_is_whole ?c_is_whole ?k_is_whole ?a_is_within ?l_is_within ?c_is_within ?k_is_within ?a_is_name ?l_is_name ?c_is_name ?k_is_name ?a_is_unknown ?l_is_unknown ?c_is_unknown ?k_is_unknown ?a_is_pair ?l_is_pair ?c_is_pair ?k_is_pair ?a_is_single ?l_is_single ?c_is_single ?k_is_single ?a_is_term ?l_is_term ?c_is_term ?k_is_term ?a_need_term ?l_need_term ?c_need_term ?k_need_term ?a_parts_within ?l_parts_within ?c_parts_within ?k_parts_within ?a_parts_of ?l_parts_of ?c_parts_of ?k_parts_of ?a_at_place ?l_at_place ?c_at_place ?k_at_place ?a_put_within ?l_put_within ?c_put_within ?k_put_within ?a_put_at ?l_put_at ?c_put_at ?k_put_at ?a_l_cell ?l_l_cell ?c_l_cell ?k_l_cell ?a_l_purse ?l_l_purse ?c_l_purse ?k_l_purse ?a_l_take ?l_l_take ?c_l_take ?k_l_take ?a_l_single ?l_l_single ?c_l_single ?k_l_single ?a_l_term ?l_l_term ?c_l_term ?k_l_term ?a_l_room ?l_l_room ?c_l_room ?k_l_room ?a_l_parts ?l_l_parts ?c_l_parts ?k_l_parts ?a_l_places ?l_l_places ?c_l_places ?k_l_places ?a_l_put ?l_l_put ?c_l_put ?k_l_put ?a_l_said ?l_l_said ?c_l_said ?k_l_said ?a_l_seen ?l_l_seen ?c_l_seen ?k_l_seen ?a_l_bad_place ?l_l_bad_place ?c_l_bad_place ?k_l_bad_place ?a_l_no_term ?l_l_no_term ?c_l_no_term ?k_l_no_term ?a_l_right ?l_l_right ?c_l_right ?k_l_right ?a_l_refused ?l_l_refused ?c_l_refused ?k_l_refused ?a_law ?l_law ?c_law ?k_law ?v_NoTerm ?xl_NoTerm ?xr_NoTerm ?xsa_NoTerm ?xhg_NoTerm ?xhk_NoTerm ?xha_NoTerm ?xii_NoTerm ?xex_NoTerm ?xty_NoTerm ?xk_NoTerm ?xhd_NoTerm ?xhm_NoTerm ?xti_NoTerm ?xkv_NoTerm ?xn_NoTerm_found ?xil_NoTerm ?xic_NoTerm ?xik_NoTerm ?v_NoPlace ?xl_NoPlace ?xr_NoPlace ?xsa_NoPlace ?xhg_NoPlace ?xhk_NoPlace ?xha_NoPlace ?xii_NoPlace ?xex_NoPlace ?xty_NoPlace ?xk_NoPlace ?xhd_NoPlace ?xhm_NoPlace ?xti_NoPlace ?xkv_NoPlace ?xn_NoPlace_found ?xil_NoPlace ?xic_NoPlace ?xik_NoPlace ?v_NoText ?xl_NoText ?xr_NoText ?xsa_NoText ?xhg_NoText ?xhk_NoText ?xha_NoText ?xii_NoText ?xex_NoText ?xty_NoText ?xk_NoText ?xhd_NoText ?xhm_NoText ?xti_NoText ?xkv_NoText ?xn_NoText_at ?xil_NoText ?xic_NoText ?xik_NoText ?v_TooGreat ?xl_TooGreat ?xr_TooGreat ?xsa_TooGreat ?xhg_TooGreat ?xhk_TooGreat ?xha_TooGreat ?xii_TooGreat ?xex_TooGreat ?xty_TooGreat ?xk_TooGreat ?xhd_TooGreat ?xhm_TooGreat ?xti_TooGreat ?xkv_TooGreat ?xn_TooGreat_parts ?xil_TooGreat ?xic_TooGreat ?xik_TooGreat ?xhn ?xht ?v_SeekError ?sga ?srd ?svi ?xex_SeekError ?xty_SeekError ?xhd_SeekError ?ks_NoTerm_NoTerm ?ks_NoTerm_NoPlace ?ks_NoTerm_NoText ?ks_NoTerm_TooGreat ?ks_NoPlace_NoTerm ?ks_NoPlace_NoPlace ?ks_NoPlace_NoText ?ks_NoPlace_TooGreat ?ks_NoText_NoTerm ?ks_NoText_NoPlace ?ks_NoText_NoText ?ks_NoText_TooGreat ?ks_TooGreat_NoTerm ?ks_TooGreat_NoPlace ?ks_TooGreat_NoText ?ks_TooGreat_TooGreat ?ks_NoTerm_SeekError ?ks_NoPlace_SeekError ?ks_NoText_SeekError ?ks_TooGreat_SeekError ?z_ValueError ?z_all ?z_len ?z_repr ?z_range ?z_isinstance ?z_int ?z_tuple ?z_max ?z_list ?z_bool ?z_str ?v_LETTERS ?v_LONGEST ?v_OWN_WORDS ?y_OWN_WORDS ?v_MOST_PARTS ?v_MOST_UNKNOWN ?v_GREATEST
    (case a_is_whole => k_is)
    (case l_is_whole => k_is)
    (case c_is_whole => k_is)
    (case k_is_whole => k_is)
    (case a_is_within => k_is)
    (case l_is_within => k_is)
    (case c_is_within => k_is)
    (case k_is_within => k_is)
    (case a_is_name => k_is)
    (case l_is_name => k_is)
    (case c_is_name => k_is)
    (case k_is_name => k_is)
    (case a_is_unknown => k_is)
    (case l_is_unknown => k_is)
    (case c_is_unknown => k_is)
    (case k_is_unknown => k_is)
    (case a_is_pair => k_is)
    (case l_is_pair => k_is)
    (case c_is_pair => k_is)
    (case k_is_pair => k_is)
    (case a_is_single => k_is)
    (case l_is_single => k_is)
    (case c_is_single => k_is)
    (case k_is_single => k_is)
    (case a_is_term => k_is)
    (case l_is_term => k_is)
    (case c_is_term => k_is)
    (case k_is_term => k_is)
    (case a_need_term => k_is)
    (case l_need_term => k_is)
    (case c_need_term => k_is)
    (case k_need_term => k_is)
    (case a_parts_within => k_is)
    (case l_parts_within => k_is)
    (case c_parts_within => k_is)
    (case k_parts_within => k_is)
    (case a_parts_of => k_is)
    (case l_parts_of => k_is)
    (case c_parts_of => k_is)
    (case k_parts_of => k_is)
    (case a_at_place => k_is)
    (case l_at_place => k_is)
    (case c_at_place => k_is)
    (case k_at_place => k_is)
    (case a_put_within => k_is)
    (case l_put_within => k_is)
    (case c_put_within => k_is)
    (case k_put_within => k_is)
    (case a_put_at => k_is)
    (case l_put_at => k_is)
    (case c_put_at => k_is)
    (case k_put_at => k_is)
    (case a_l_cell => k_is)
    (case l_l_cell => k_is)
    (case c_l_cell => k_is)
    (case k_l_cell => k_is)
    (case a_l_purse => k_is)
    (case l_l_purse => k_is)
    (case c_l_purse => k_is)
    (case k_l_purse => k_is)
    (case a_l_take => k_is)
    (case l_l_take => k_is)
    (case c_l_take => k_is)
    (case k_l_take => k_is)
    (case a_l_single => k_is)
    (case l_l_single => k_is)
    (case c_l_single => k_is)
    (case k_l_single => k_is)
    (case a_l_term => k_is)
    (case l_l_term => k_is)
    (case c_l_term => k_is)
    (case k_l_term => k_is)
    (case a_l_room => k_is)
    (case l_l_room => k_is)
    (case c_l_room => k_is)
    (case k_l_room => k_is)
    (case a_l_parts => k_is)
    (case l_l_parts => k_is)
    (case c_l_parts => k_is)
    (case k_l_parts => k_is)
    (case a_l_places => k_is)
    (case l_l_places => k_is)
    (case c_l_places => k_is)
    (case k_l_places => k_is)
    (case a_l_put => k_is)
    (case l_l_put => k_is)
    (case c_l_put => k_is)
    (case k_l_put => k_is)
    (case a_l_said => k_is)
    (case l_l_said => k_is)
    (case c_l_said => k_is)
    (case k_l_said => k_is)
    (case a_l_seen => k_is)
    (case l_l_seen => k_is)
    (case c_l_seen => k_is)
    (case k_l_seen => k_is)
    (case a_l_bad_place => k_is)
    (case l_l_bad_place => k_is)
    (case c_l_bad_place => k_is)
    (case k_l_bad_place => k_is)
    (case a_l_no_term => k_is)
    (case l_l_no_term => k_is)
    (case c_l_no_term => k_is)
    (case k_l_no_term => k_is)
    (case a_l_right => k_is)
    (case l_l_right => k_is)
    (case c_l_right => k_is)
    (case k_l_right => k_is)
    (case a_l_refused => k_is)
    (case l_l_refused => k_is)
    (case c_l_refused => k_is)
    (case k_l_refused => k_is)
    (case a_law => k_is)
    (case l_law => k_is)
    (case c_law => k_is)
    (case k_law => k_is)
    (case v_NoTerm => k_is)
    (case xl_NoTerm => k_is)
    (case xr_NoTerm => decide +kernel)
    (case xsa_NoTerm => k_is)
    (case xhg_NoTerm => k_is)
    (case xhk_NoTerm => k_is)
    (case xha_NoTerm => k_is)
    (case xii_NoTerm => k_is)
    (case xex_NoTerm => k_is)
    (case xty_NoTerm => k_is)
    (case xk_NoTerm => k_is)
    (case xhd_NoTerm => k_is)
    (case xhm_NoTerm => k_is)
    (case xti_NoTerm => k_is)
    (case xkv_NoTerm => k_is)
    (case xn_NoTerm_found => k_is)
    (case xil_NoTerm => k_is)
    (case xic_NoTerm => k_is)
    (case xik_NoTerm => k_is)
    (case v_NoPlace => k_is)
    (case xl_NoPlace => k_is)
    (case xr_NoPlace => decide +kernel)
    (case xsa_NoPlace => k_is)
    (case xhg_NoPlace => k_is)
    (case xhk_NoPlace => k_is)
    (case xha_NoPlace => k_is)
    (case xii_NoPlace => k_is)
    (case xex_NoPlace => k_is)
    (case xty_NoPlace => k_is)
    (case xk_NoPlace => k_is)
    (case xhd_NoPlace => k_is)
    (case xhm_NoPlace => k_is)
    (case xti_NoPlace => k_is)
    (case xkv_NoPlace => k_is)
    (case xn_NoPlace_found => k_is)
    (case xil_NoPlace => k_is)
    (case xic_NoPlace => k_is)
    (case xik_NoPlace => k_is)
    (case v_NoText => k_is)
    (case xl_NoText => k_is)
    (case xr_NoText => decide +kernel)
    (case xsa_NoText => k_is)
    (case xhg_NoText => k_is)
    (case xhk_NoText => k_is)
    (case xha_NoText => k_is)
    (case xii_NoText => k_is)
    (case xex_NoText => k_is)
    (case xty_NoText => k_is)
    (case xk_NoText => k_is)
    (case xhd_NoText => k_is)
    (case xhm_NoText => k_is)
    (case xti_NoText => k_is)
    (case xkv_NoText => k_is)
    (case xn_NoText_at => k_is)
    (case xil_NoText => k_is)
    (case xic_NoText => k_is)
    (case xik_NoText => k_is)
    (case v_TooGreat => k_is)
    (case xl_TooGreat => k_is)
    (case xr_TooGreat => decide +kernel)
    (case xsa_TooGreat => k_is)
    (case xhg_TooGreat => k_is)
    (case xhk_TooGreat => k_is)
    (case xha_TooGreat => k_is)
    (case xii_TooGreat => k_is)
    (case xex_TooGreat => k_is)
    (case xty_TooGreat => k_is)
    (case xk_TooGreat => k_is)
    (case xhd_TooGreat => k_is)
    (case xhm_TooGreat => k_is)
    (case xti_TooGreat => k_is)
    (case xkv_TooGreat => k_is)
    (case xn_TooGreat_parts => k_is)
    (case xil_TooGreat => k_is)
    (case xic_TooGreat => k_is)
    (case xik_TooGreat => k_is)
    (case xhn => k_is)
    (case xht => k_is)
    (case v_SeekError => k_is)
    (case sga => k_is)
    (case srd => k_is)
    (case svi => k_is)
    (case xex_SeekError => k_is)
    (case xty_SeekError => k_is)
    (case xhd_SeekError => k_is)
    (case ks_NoTerm_NoTerm => k_is)
    (case ks_NoTerm_NoPlace => k_is)
    (case ks_NoTerm_NoText => k_is)
    (case ks_NoTerm_TooGreat => k_is)
    (case ks_NoPlace_NoTerm => k_is)
    (case ks_NoPlace_NoPlace => k_is)
    (case ks_NoPlace_NoText => k_is)
    (case ks_NoPlace_TooGreat => k_is)
    (case ks_NoText_NoTerm => k_is)
    (case ks_NoText_NoPlace => k_is)
    (case ks_NoText_NoText => k_is)
    (case ks_NoText_TooGreat => k_is)
    (case ks_TooGreat_NoTerm => k_is)
    (case ks_TooGreat_NoPlace => k_is)
    (case ks_TooGreat_NoText => k_is)
    (case ks_TooGreat_TooGreat => k_is)
    (case ks_NoTerm_SeekError => k_is)
    (case ks_NoPlace_SeekError => k_is)
    (case ks_NoText_SeekError => k_is)
    (case ks_TooGreat_SeekError => k_is)
    (case z_ValueError => k_is)
    (case z_all => k_is)
    (case z_len => k_is)
    (case z_repr => k_is)
    (case z_range => k_is)
    (case z_isinstance => k_is)
    (case z_int => k_is)
    (case z_tuple => k_is)
    (case z_max => k_is)
    (case z_list => k_is)
    (case z_bool => k_is)
    (case z_str => k_is)
    (case v_LETTERS => k_is)
    (case v_LONGEST => k_is)
    (case v_OWN_WORDS => k_is)
    (case y_OWN_WORDS => k_is)
    (case v_MOST_PARTS => k_is)
    (case v_MOST_UNKNOWN => k_is)
    (case v_GREATEST => k_is)
#print axioms PySem.Challenge.cw_fairseek_k04_parts_put_holds
