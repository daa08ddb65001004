import PyProof.Rows.All
import Wide.All
import OpenK.AllK
import Wide.FinOn
import HandS.ForMost
import HandS.Rev
import HandS.RevTup
import HandS.EndBits
import PyProof.ReprRoads
import PyProof.FString2
import PyProof.FactsAll.bool_2
import PyProof.FactsAll.str_2
import HandS.TupAny
import HandS.TupMul
import HandS.WideBits
import HandS.Style
import HandS.Deep
import HandS.IsInst
import HandS.WordsDict
import HandS.RaiseMore
import HandS.Flow
import PyProof.StrBlock2
import HandS.Codes
import HandS.Walk
import HandS.Small
import HandS.Zip
import HandS.RevRange
import PyProof.StrBlockL
import PySem.Challenge.RW_chancetongue_k06_names
set_option Elab.async false
set_option linter.all false
set_option maxRecDepth 100000
set_option maxHeartbeats 4000000
/-! list(reversed(xs)), xs a list -/
namespace Ct
open PySem PySem.Spec PyProof.Rows L2
section
variable {prog : Program} {w : World} {A : Around} {E : Value → Shared → Prop} {s : Shared}
theorem extend_rev {R : Result → Shared → Prop} {it l : Addr} {items : Array Value} (hh : A.handled = none) (hit : s.heap.IsRevIter it l ((items.size : Int) - 1)) (hl : s.heap.IsList l items) (hne : l ≠ it) (hn : items.size ≤ sizeLine)
    (S : Addr) (res : Value) (c₀ : Nat) (hSi : S ≠ it) (hSl : S ≠ l) (hS : s.heap.get? S = some { cls := .type "list", data := .seq #[] c₀ })
    (hR : ∀ h' tk acc' c', (∀ b o, b ≠ S → b ≠ it → s.heap.get? b = some o → h'.get? b = some o) → h'.get? S = some { cls := .type "list", dict := none, data := .seq acc' c', slots := #[] } → ItemsOf (fun i v => items[items.size - 1 - i]? = some v) acc' items.size → R (.ok (.ret res)) { s with heap := h', toks := tk }) :
    wpAny (model prog w) A.in1 (Builtin.List.listExtendWith (.ref S) (.ref it) res)
      (fun fin s' => match fin with | .done f => R (.ok f) s' | .again c' => c'.quiet = true ∧ codeAny (model prog w) A c' R s') (fun e s' => R (.error e) s') s := by
  have hT : s.TypeIs (.ref it) "list_reverseiterator" := Heap.IsRevIter.typeIs hit
  have hSf : S ∉ [it, l] := by simp only [List.mem_cons, List.not_mem_nil, or_false, not_or]; exact ⟨hSi, hSl⟩
  have h1 : Builtin.List.listSameRef (.ref S) (.ref it) = false := by simp [Builtin.List.listSameRef, hSi]
  have W := (Walks.listRev (prog := prog) (w := w) (A := A.in1) hh it l hne items).toS
  have e0 : ((items.size : Nat) : Int) - 1 - ((0 : Nat) : Int) = (items.size : Int) - 1 := by omega
  unfold Builtin.List.listExtendWith
  refine wpAny_bind (wpAny_typeOf hT ?_)
  rw [if_neg (by rw [h1]; decide)]
  refine wpAny_bind (wpAny_pyIter_revIter hit ?_)
  refine wpAny_bind (wpAny_holding ?_)
  unfold Builtin.List.listLengthHint
  refine wpAny_bind (wpAny_specialOf hT RT.nolen_lri ?_)
  show wpAny _ A.in1 (specialOf (Value.ref it) (Str.ofString "__length_hint__") >>= _) _ _ _
  refine wpAny_bind (wpAny_specialOf hT RT.hint_lri ?_)
  generalize hid : ("list_reverseiterator.__length_hint__" : String) = id0
  wp_delta
  rw [show splitId id0 = some ("list_reverseiterator", "__length_hint__") from by subst hid; decide +kernel]
  subst hid
  refine wpAny_bind (wpAny_isInstance (b := true) hT (by rw [isSubtype_type]; kernel_rfl) ?_)
  refine wpAny_pure ?_
  rw [if_neg (by decide)]
  refine wpAny_pure ⟨plainId_quiet PySem.F.plain_extend_loop _, codeAny_extend_loopS W hn _ hSf _ items.size 0 _ _ _ rfl (Nat.zero_le _) ⟨Nat.zero_le _, by rw [e0]; exact hit, hl⟩ hS (ItemsOf.nil _) fun s' acc' c' hm hS' hacc => ?_⟩
  rw [Moved.eq_with hm]
  refine hR s'.heap s'.toks acc' c' (fun b o hb hb2 e => hm.heap b o (fun hmem => ?_) e) hS' hacc
  rcases List.mem_cons.mp hmem with e' | hmem
  · exact hb e'
  · exact hb2 (List.mem_singleton.mp hmem)
theorem init_rev {R : Result → Shared → Prop} {it l : Addr} {items : Array Value} (hh : A.handled = none) (hit : s.heap.IsRevIter it l ((items.size : Int) - 1)) (hl : s.heap.IsList l items) (hne : l ≠ it) (hn : items.size ≤ sizeLine)
    (S : Addr) (hSi : S ≠ it) (hSl : S ≠ l) (hS : s.heap.get? S = some { cls := .type "list", data := .seq #[] })
    (hR : ∀ h' tk acc' c', (∀ b o, b ≠ S → b ≠ it → s.heap.get? b = some o → h'.get? b = some o) → h'.get? S = some { cls := .type "list", dict := none, data := .seq acc' c', slots := #[] } → ItemsOf (fun i v => items[items.size - 1 - i]? = some v) acc' items.size → R (.ok (.ret .none)) { s with heap := h', toks := tk }) :
    wpAny (model prog w) A.in1 (Builtin.«list.__init__» ⟨[.ref S, .ref it], []⟩)
      (fun fin s' => match fin with | .done f => R (.ok f) s' | .again c' => c'.quiet = true ∧ codeAny (model prog w) A c' R s') (fun e s' => R (.error e) s') s := by
  show wpAny _ A.in1 (do let old ← Builtin.List.listItems (.ref S); Builtin.List.listUpdate (.ref S) (fun _ => #[]); letGo old.toList.reverse; Builtin.List.listExtendWith (.ref S) (.ref it) .none) _ _ s
  refine wpAny_bind ?_
  unfold Builtin.List.listItems
  refine wpAny_bind (wpAny_seqItems hS rfl (wpAny_pure ?_))
  show wpAny _ A.in1 (updateSeq S (fun _ => #[]) >>= fun _ => letGo (#[] : Array Value).toList.reverse >>= fun _ => Builtin.List.listExtendWith (.ref S) (.ref it) .none) _ _ s
  refine wpAny_bind (wpAny_updateSeq hS rfl ?_)
  have hS₂ := Heap.get?_update_self (Obj.mapSeq (fun _ => (#[] : Array Value))) hS rfl
  have oth : ∀ b o, b ≠ S → s.heap.get? b = some o → (s.heap.update S (Obj.mapSeq (fun _ => (#[] : Array Value)))).get? b = some o :=
    fun b o hb e => (Heap.get?_update_other _ _ (Ne.symm hb)).trans e
  refine wpAny_bind (wpAny_letGo ?_)
  have hl2 : (s.heap.update S (Obj.mapSeq (fun _ => (#[] : Array Value)))).IsList l items := by
    obtain ⟨o, ho, r⟩ := hl
    exact ⟨o, oth _ _ hSl.symm ho, r⟩
  refine extend_rev (s := { s with heap := s.heap.update S (Obj.mapSeq (fun _ => (#[] : Array Value))) }) hh (hit.at fun o e => oth _ _ hSi.symm e) hl2 hne hn S .none _ hSi hSl hS₂ fun h' tk acc' c' hk hS' hacc => ?_
  exact hR h' tk acc' c' (fun b o hb hb2 e => hk b o hb hb2 (oth b o hb e)) hS' hacc
theorem call_list_rev {it l : Addr} {items : Array Value} {Q : Value → Shared → Prop} (hh : A.handled = none) (hit : s.heap.IsRevIter it l ((items.size : Int) - 1)) (hl : s.heap.IsList l items) (hne : l ≠ it) (hn : items.size ≤ sizeLine)
    (hQ : ∀ h' tk acc' c', (∀ b o, b ≠ it → s.heap.get? b = some o → h'.get? b = some o) → h'.get? s.heap.objs.size = some { cls := .type "list", dict := none, data := .seq acc' c', slots := #[] } → ItemsOf (fun i v => items[items.size - 1 - i]? = some v) acc' items.size → Q (.ref s.heap.objs.size) { s with heap := h', toks := tk }) :
    wpAny (model prog w) A (call (.type "list") [.ref it]) Q E s := by
  refine callType_codes (Q₁ := fun obj s₁ => obj = .ref s.heap.objs.size ∧ s₁ = { s with heap := s.heap.push { cls := .type "list", data := .seq #[] } }) PySem.F.called_list (PySem.F.typeCall_list_1 _) PySem.F.entry_list_init
    (code_list_new _ ⟨rfl, rfl⟩) fun obj s₁ h₁ => ?_
  obtain ⟨rfl, rfl⟩ := h₁
  have hS : (s.heap.push { cls := .type "list", data := .seq #[] }).get? s.heap.objs.size = some { cls := .type "list", data := .seq #[] } := Heap.get?_push_size _ rfl
  have hlt1 : it < s.heap.objs.size := by obtain ⟨o, ho, _⟩ := hit; exact Heap.lt_size ho
  have hlt2 : l < s.heap.objs.size := by obtain ⟨o, ho, _⟩ := id hl; exact Heap.lt_size ho
  refine ⟨⟨_, hS, rfl⟩, PySem.F.args_list_init_2 _ _, init_rev (A := A.in1) (s := { s with heap := s.heap.push { cls := .type "list", data := .seq #[] } }) hh (hit.at fun o e => Heap.get?_push_of_some _ e) (hl.push _) hne hn _ (Nat.ne_of_gt hlt1) (Nat.ne_of_gt hlt2) hS (fun h' tk acc' c' hk hS' hacc => ?_)⟩
  exact ⟨rfl, hQ h' tk acc' c' (fun b o hb e => hk b o (Nat.ne_of_lt (Heap.lt_size e)) hb (Heap.get?_push_of_some _ e)) hS' hacc⟩
end
section
variable {X : Cx}
/-- list(reversed(x)), x a list: a new list -/
def tListRev (K : PySem.W.Frag) (te : TE) : TE := fun σ H Q => te σ H fun v H1 => ∃ (a : Addr) (xs : List V), v = .ref a ∧ SqL K H1 a xs ∧ ∀ q, H1 q = none → Q (.ref q) (upd H1 q (.lst xs.reverse))
theorem pe_listRev {e : Expr} {te : TE} {p p2 pos pos2 : Pos} (hc : X.calm = true) (hg : Gl X "list") (hm : X.mg "list" = none) (hg2 : Gl X "reversed") (hm2 : X.mg "reversed" = none) (he : PE X e te)
    (hs : starEach [e] X.env = (false, eval e X.env) :: starEach [] X.env := by rfl)
    (hs2 : starEach [.Call (.Name "reversed" p2) [e] [] pos2] X.env = (false, eval (.Call (.Name "reversed" p2) [e] [] pos2) X.env) :: starEach [] X.env := by rfl) :
    PE X (.Call (.Name "list" p) [.Call (.Name "reversed" p2) [e] [] pos2] [] pos) (tListRev X.K te) := by
  refine ⟨fun pins s σ H Q I h => ?_⟩
  refine Call_ (ld_blt I hg hm PyProof.Rows.boot_list (PyProof.Rows.callWith_type1 (args_cons (Call_ (ld_blt I hg2 hm2 PyProof.Rows.boot_reversed (PyProof.Rows.callWith_type1 (args_cons (thn (he.run pins s σ H _ I h) fun u s1 ⟨v, H1, I1, r1, q1⟩ => args_nil ?_) hs) hs rfl))) hs2) hs2 rfl))
  obtain ⟨a, xs, ev, hq, q⟩ := q1
  subst ev
  obtain rfl : u = Value.ref a := r1
  obtain ⟨its, rv, p', hz⟩ := I1.list hq
  refine call_reversed_list p'.isList (args_nil ?_)
  have hl := p'.isList
  obtain ⟨ol, hol, _⟩ := id hl
  have hne : a ≠ s1.heap.objs.size := Nat.ne_of_lt (Heap.lt_size hol)
  have hn : its.toArray.size ≤ sizeLine := by rw [List.size_toArray, ← rv.length]; exact hz
  refine call_list_rev (s := { s1 with heap := s1.heap.push (revObj a ((its.toArray.size : Int) - 1)) }) (I1.ok.hd hc) ⟨_, Heap.get?_push_size _ rfl, rfl, rfl⟩ (hl.push _) hne hn fun h' tk acc c' hk hS hi => ?_
  have old : ∀ b o, s1.heap.get? b = some o → h'.get? b = some o := fun b o e => hk b o (Nat.ne_of_lt (Heap.lt_size e)) (Heap.get?_push_of_some _ e)
  have ns : s1.heap.objs.size ≤ (s1.heap.push (revObj a ((its.toArray.size : Int) - 1))).objs.size := by rw [Heap.size_push]; exact Nat.le_succ _
  refine ⟨.ref (s1.heap.push (revObj a ((its.toArray.size : Int) - 1))).objs.size, upd H1 _ (.lst xs.reverse), I1.laid (t' := tk) old ns (show ObjOk X.prog X.w _ _ _ (.lst xs.reverse) from ⟨by rw [List.length_reverse]; exact hz, acc.toList, c', RT.vals_rev rv hi, ?_⟩), rfl, q _ (I1.hok.fresh ns)⟩
  rw [Array.toArray_toList]
  exact hS
end
end Ct
/-! defs that are called where no display is under way (repr of lists wants it) -/
namespace Ct
open PySem PySem.Spec PyProof.Rows L2
/-- the promise of a def, asked only where no repr is under way -/
structure FnG (P : Program) (w : World) (K : PySem.W.Frag) (mg : Str → Option Value) (base : Heap) (CX : CXT) (k : Nat) (f : Addr) (fd : FuncData) (ps : List Str) (sp : Sp) : Prop where
  len : ∀ vs H Q E, sp vs H Q E → vs.length = ps.length
  go : ∀ (B : Around) (out : List Env) (t : Shared) (H : Hp) (ar : Args) (us : List Value) (vs : List V) (Q : VK) (E : XK),
    B.guards = some [] → Room k B → Env0 P w K mg base B out t H → BindsTo t fd ar (ps.zip us) → Vals vs us → sp vs H Q E →
    codeAny (model P w) B (.call (.ref f) ar) (CR CX out P w H t Q E) t
section
variable {P : Program} {w : World} {K : PySem.W.Frag} {mg : Str → Option Value} {base : Heap} {CX : CXT} {k : Nat} {f : Addr} {fd : FuncData} {ps : List Str} {sp : Sp}
theorem FnG.of (F : FnOk P w K mg base CX k f fd ps sp) : FnG P w K mg base CX k f fd ps sp :=
  ⟨F.len, fun B out t H ar us vs Q E _ hr => F.run B out t H ar us vs Q E hr⟩
/-- by its body -/
theorem fnG_of {name qual : Str} {params : Arguments} {body : List Stmt} {scope : Scope} {dV kV doc pm cdv ct oc : Value} {an od : Option Addr} {osl : Array (Option Value)} {N : List Str}
    (lk : K.lookup f = some ⟨oc, od, .func (PySem.W.fnOf name qual params body scope dV kV doc pm an cdv ct), osl⟩) (hcd : PySem.W.codeIn K cdv qual = true) (S : FnScope N ps scope) (len : ∀ vs H Q E, sp vs H Q E → vs.length = ps.length)
    (bd : ∀ (B : Around) (out : List Env) (t : Shared) (H : Hp) (vs : List V) (Q : VK) (E : XK), B.guards = some [] → Room k (B.deeper (envOfC qual scope t.heap.objs.size f cdv)) → sp vs H Q E →
      ∃ r, PSs (cxOf CX P w K mg base N qual scope f cdv B out t H E) body r ∧ r { nx := fun _ H' => Q .non H', rt := Q } (start N vs) H) :
    FnG P w K mg base CX (k + 1) f (PySem.W.fnOf name qual params body scope dV kV doc pm an cdv ct) ps sp := by
  refine ⟨len, fun B out t H ar us vs Q E hgd hr e0 hb rr hs => ?_⟩
  have hl : vs.length = ps.length := len _ _ _ _ hs
  have KX : K.In t.heap := e0.mod.kin.keeps fun c o z => (e0.bs c o z).1
  have nl : t.heap.NoLimit := e0.mod.nolimit.keeps fun c o z => (e0.bs c o z).1
  have kn : ∀ y ∈ ps.zip us, scope.names.lookup y.1 = some .local ∨ (scope.names.lookup y.1 = some .cell ∧ ((cellsFrom (t.heap.objs.size + 1) scope.names []).lookup y.1).isSome = true) := by
    rintro ⟨n, v⟩ hy
    rcases S.par n (List.of_mem_zip hy).1 with z | z
    · exact .inl z
    · exact .inr ⟨z, PySem.W.cellsFrom_some _ _ _ (.inl z)⟩
  refine codeAny_call_function hr.depth (KX _ _ lk) rfl S.co S.gen rfl (PySem.W.codeRec_of KX hcd) (hb _ _ _ _ (wpAny_newFunctionEnv_cells S.kind kn fun ev hev t1 x => ?_))
  subst hev
  refine ⟨nl.keeps x.toInCall.keep, codeAny_func ?_⟩
  obtain ⟨r, hrd, hq⟩ := bd B out t H vs Q E hgd (hr.deeper _) hs
  have I := inv_start (CX := CX) (cd := cdv) (E := E) S hr.hd e0 hl rr x
  refine wpAny_mono (hrd.run [] t1 (start N vs) H _ I hq) (fun fl t2 h2 => ?_) fun _ _ h2 => h2
  cases fl with
  | ret u =>
    obtain ⟨v, σ', H', J, rv, q⟩ := h2
    exact ⟨v, H', J.os, J.bare, J.base, J.hok, rv, q⟩
  | next =>
    obtain ⟨σ', H', J, q⟩ := h2
    exact ⟨V.non, H', J.os, J.bare, J.base, J.hok, rfl, q⟩
  | brk =>
    obtain ⟨_, _, _, q⟩ := h2
    exact q.elim
  | cont =>
    obtain ⟨_, _, _, q⟩ := h2
    exact q.elim
theorem okG {x qual : Str} {st : Stmt} {N : List Str} (F : Fun K x qual st f fd) (S : FnScope N ps (defScope st)) (len : ∀ vs H Q E, sp vs H Q E → vs.length = ps.length)
    (bd : ∀ (cdv : Value) (B : Around) (out : List Env) (t : Shared) (H : Hp) (vs : List V) (Q : VK) (E : XK), B.guards = some [] → Room k (B.deeper (envOfC qual (defScope st) t.heap.objs.size f cdv)) → sp vs H Q E →
      ∃ r, PSs (cxOf CX0 P w K mg base N qual (defScope st) f cdv B out t H E).nox (defBody st) r ∧ r { nx := fun _ H' => Q .non H', rt := Q } (start N vs) H) : FnG P w K mg base CX0 (k + 1) f fd ps sp := by
  obtain ⟨oc, od, kV, doc, pm, an, cdv, ct, osl, rfl, lk, hcd⟩ := F.ex
  refine fnG_of lk hcd S len fun B out t H vs Q E hgd hr hs => ?_
  obtain ⟨r, h, q⟩ := bd cdv B out t H vs Q E hgd hr hs
  exact ⟨r, h.nox, q⟩
end
section
variable {X : Cx} {CX : CXT} {k : Nat} {f : Addr} {fd : FuncData} {ps : List Str} {sp : Sp} {dvs : List V} {ds : List Value} {E : XK} {x : Str} {p pos : Pos} {e : Expr} {es : List Expr} {t : TA}
theorem runG {pins : List (Addr × Obj)} {σ : L2.St} {H : Hp} {s : Shared} {Q : VK} {us : List Value} {vs : List V} (F : FnG X.prog X.w X.K X.mg X.base CX k f fd ps sp) (hgd : X.A.guards = some []) (hr : Room k X.A) (hb : Binds X.K fd ps ds) (hd : Vals dvs ds) (hx : Passes CX X E)
    (I : Inv X pins σ H s) (r : Vals vs us) (h : sp (vs ++ dvs) H Q E) : wpAny (model X.prog X.w) X.A (call (.ref f) us) (EP X pins σ Q) X.xe s := by
  have r2 := r.append hd
  have hl : (us ++ ds).length = ps.length := r2.length.symm.trans (F.len _ _ _ _ h)
  refine wpAny_call (codeAny_mono (F.go X.A X.stack s H ⟨us, []⟩ (us ++ ds) (vs ++ dvs) Q E hgd hr I.env0 (hb s us I.kIn hl) r2 h) fun y s' hq => ?_)
  cases y with
  | error e => exact hx pins σ H s e s' I hq
  | ok fl => cases fl <;> first | exact I.after hq | exact hq.elim
theorem pe_callG (F : FnG X.prog X.w X.K X.mg X.base CX k f fd ps sp) (hgd : X.A.guards = some []) (hr : Room k X.A) (hg : Gl X x) (hm : X.mg x = some (.ref f)) (hk : PySem.W.keepIn X.K (.ref f) = true) (hb : Binds X.K fd ps ds) (hd : Vals dvs ds) (hx : Passes CX X E)
    (ha : PA X (e :: es) t) (hdb : (x == ("__debug__" : Str)) = false := by decide) (he : starEach (e :: es) X.env = (false, eval e X.env) :: starEach es X.env := by rfl) (hpl : (backTo pos (starEach es X.env)).any (·.1) = false := by rfl) :
    PE X (.Call (.Name x p) (e :: es) [] pos) (tCall sp dvs E t) :=
  ⟨fun pins s σ H Q I h => wpAny_Call_Name_kw (ld_glob I hg hm (PySem.W.callWith_K (h₀ := X.base) I.ok.mod.kin hk (thn (ha.run pos pins s σ H _ I h) fun us s1 ⟨vs, H1, I1, r, q⟩ => ⟨I1.kIn, runG F hgd hr hb hd hx I1 r q⟩) he hpl) hdb)⟩
theorem pe_callG0 (F : FnG X.prog X.w X.K X.mg X.base CX k f fd ps sp) (hgd : X.A.guards = some []) (hr : Room k X.A) (hg : Gl X x) (hm : X.mg x = some (.ref f)) (hk : PySem.W.keepIn X.K (.ref f) = true) (hb : Binds X.K fd ps ds) (hd : Vals dvs ds) (hx : Passes CX X E)
    (hdb : (x == ("__debug__" : Str)) = false := by decide) : PE X (.Call (.Name x p) [] [] pos) (tCall sp dvs E tNil) :=
  ⟨fun pins s σ H Q I h => wpAny_Call_Name_kw (ld_glob I hg hm (PySem.W.callWith_K0 I.kIn hk (runG (us := []) F hgd hr hb hd hx I .nil h)) hdb)⟩
end
/-! ### the law's own end -/
section
variable {P : Program} {w : World} {K : PySem.W.Frag} {mg mb : Str → Option Value} {CX : CXT} {k : Nat} {fa a : Addr} {fd : FuncData} {x : Str} {sp : Sp} {t : Shared} {vs : List Value} {ns : List Int}
/-- the same, from an abstract heap in which nothing but the script may be tracked -/
theorem law_core (hns : t.heap.Ns mainGlobals mg) (hb : t.heap.Ns builtinsNs mb) (hbb : ∀ x : Str, x ≠ "__name__" → mb x = bootBuiltins x) (hlim : t.heap.NoLimit) (hg : t.gens = #[])
    (ha : t.heap.get? a = some { cls := .type "list", data := .seq vs.toArray }) (KX : K.In t.heap) (hr : Room k callerA)
    (F : ∀ base : Heap, K.In base → base.Ns mainGlobals mg → FnG P w K mg base CX k fa fd [x] sp) (hbind : ∀ (s : Shared) (u : Value), BindsTo s fd ⟨[u], []⟩ [(x, u)])
    (hCX : ∀ H e s', CX [] H t (fun _ _ _ => False) e s' → False) (H : Hp) (hO : Only H) (hok : HOk P w H t.heap) (hA : ∀ b, H b ≠ none → b = a) (hK : H a ≠ none → K.lookup a = none)
    (hsp : sp [.ref a] H (fun v _ => v = .bl true) fun _ _ _ => False) :
    codeAny (model P w) callerA (.call (.ref fa) ⟨[.ref a], []⟩) (fun r s' => r = .ok (.ret (.bool true)) ∧ OldK t.heap s'.heap ∧ s'.os = t.os ∧ AllBare s'.gens) t := by
  have at_ : ∀ {b : Addr} {o : Obj}, t.heap.get? b = some o → H b = none → (hidT t.heap H).get? b = some o := fun e n => hidT_get e n
  have ofdict : ∀ {b : Addr} {o : Obj} {es : Array DictEntry} {ep : Nat}, t.heap.get? b = some o → o.data = .dict es ep → H b = none := by
    intro b o es ep e d
    cases q : H b with
    | none => rfl
    | some u =>
      have eb := hA b (by rw [q]; exact Option.some_ne_none u)
      subst eb
      rw [ha] at e
      cases e
      exact nomatch d
  have ns' : ∀ {b : Addr} {m : Str → Option Value}, t.heap.Ns b m → (hidT t.heap H).Ns b m := fun {b m} ⟨o, es, ep, e, d, r⟩ => ⟨o, es, ep, at_ e (ofdict e d), d, r⟩
  have KB : K.In (hidT t.heap H) := by
    intro b o e
    refine at_ (KX b o e) ?_
    cases q : H b with
    | none => rfl
    | some u =>
      have eb := hA b (by rw [q]; exact Option.some_ne_none u)
      subst eb
      have := hK (by rw [q]; exact Option.some_ne_none u)
      rw [this] at e
      cases e
  have hM : Mod K mg (hidT t.heap H) := ⟨KB, ns' hns, ⟨mb, ns' hb, hbb⟩, let ⟨mc, h1, h2⟩ := hlim; ⟨mc, ns' h1, h2⟩⟩
  have e0 : Env0 P w K mg (hidT t.heap H) callerA [] t H := ⟨rfl, hM, fun _ _ e => of_hidT e, Nat.le_of_eq (hidT_size _ _), trivial, fun _ z => (List.not_mem_nil z).elim, hok, .of_eq hg⟩
  refine codeAny_mono ((F _ KB (ns' hns)).go callerA [] t H ⟨[.ref a], []⟩ [.ref a] [.ref a] _ _ rfl hr e0 (hbind t (.ref a)) (.cons rfl .nil) hsp) fun r s' h => ?_
  cases r with
  | error e => exact (hCX H e s' h).elim
  | ok fl =>
    cases fl with
    | next => exact h.elim
    | brk => exact h.elim
    | cont => exact h.elim
    | ret u =>
      obtain ⟨v, H', os, bare, un, hok', rv, q⟩ := h
      obtain rfl : v = .bl true := q
      obtain rfl : u = Value.bool true := rv
      refine ⟨rfl, OldK.of_keep fun b o e => ?_, os, bare⟩
      cases q : H b with
      | none => exact un.keep b o e q (List.not_mem_nil) (List.not_mem_nil)
      | some u =>
        rcases hO b with z | ⟨ob, xs, z⟩
        · rw [q] at z
          cases z
        · obtain ⟨e1, _⟩ := hok b _ z
          obtain ⟨e2, _⟩ := hok' b _ (un.frzs b ob _ z)
          rw [e] at e1
          cases e1
          exact e2
theorem law_callG (KX : K.In t.heap) (hns : t.heap.Ns mainGlobals mg) (hb : t.heap.Ns builtinsNs mb) (hbb : ∀ x : Str, x ≠ "__name__" → mb x = bootBuiltins x) (hlim : t.heap.NoLimit) (hg : t.gens = #[])
    (ha : t.heap.get? a = some { cls := .type "list", data := .seq vs.toArray }) (hi : IntsAre vs ns) (hl : ns.length ≤ sizeLine) (hr : Room k callerA)
    (F : ∀ base : Heap, K.In base → base.Ns mainGlobals mg → FnG P w K mg base CX k fa fd [x] sp) (hbind : ∀ (s : Shared) (u : Value), BindsTo s fd ⟨[u], []⟩ [(x, u)])
    (hsp : ∀ H : Hp, Only H → SqL K H a (ns.map V.int) → sp [.ref a] H (fun v _ => v = .bl true) fun _ _ _ => False)
    (hCX : ∀ H e s', CX [] H t (fun _ _ _ => False) e s' → False) :
    codeAny (model P w) callerA (.call (.ref fa) ⟨[.ref a], []⟩) (fun r s' => r = .ok (.ret (.bool true)) ∧ OldK t.heap s'.heap ∧ s'.os = t.os ∧ AllBare s'.gens) t := by
  have rv := vals_ints hi
  have lenV := hi.length
  cases hk : K.lookup a with
  | some o =>
    have e := KX a o hk
    rw [ha] at e
    cases e
    have sq : SqL K (fun _ => none) a (ns.map V.int) := .inr ⟨_, vs.toArray, _, hk, rfl, rfl, rfl, by rw [List.size_toArray, lenV]; exact hl, by simpa using rv⟩
    exact law_core hns hb hbb hlim hg ha KX hr F hbind hCX (fun _ => none) (fun _ => .inl rfl) (fun _ _ z => nomatch z) (fun _ z => absurd rfl z) (fun z => absurd rfl z) (hsp _ (fun _ => .inl rfl) sq)
  | none =>
    let G : Hp := fun b => if b = a then some (.frz { cls := .type "list", data := .seq vs.toArray } (.lst (ns.map V.int))) else none
    have here : G a = some (.frz { cls := .type "list", data := .seq vs.toArray } (.lst (ns.map V.int))) := if_pos rfl
    have away : ∀ b, b ≠ a → G b = none := fun b hb => if_neg hb
    have only : Only G := fun b => by
      by_cases hb : b = a
      · subst hb
        exact .inr ⟨_, _, here⟩
      · exact .inl (away b hb)
    refine law_core hns hb hbb hlim hg ha KX hr F hbind hCX G only (fun b u z => ?_) (fun b z => ?_) (fun _ => hk) (hsp _ only (.inl (.inr ⟨_, here⟩)))
    · by_cases hb : b = a
      · subst hb
        rw [here] at z
        cases z
        exact ⟨ha, by rw [List.length_map]; exact hl, vs, _, rv, ha⟩
      · rw [away b hb] at z
        cases z
    · by_cases hb : b = a
      · exact hb
      · exact absurd (away b hb) z
end
/-- what the head leaves of a law, from its promise -/
theorem walk_ofG {l : PySem.W.OpenLaw} {n k : Nat} {q : Program} {loose : List Str} {XP : (Str → Option Value) → Heap → Prop} {YP : World → Heap → Prop} {d : DefRec} {K : Params → PySem.W.Frag} {CX : World → CXT} {sp : World → Sp} {x : Str}
    (hn : l.most = some n) (hn2 : n ≤ sizeLine) (hdf : d.params.defaults = []) (hr : Room k callerA) (hY : ∀ (w : World) (h : Heap), YP w h → (K w.params).In h)
    (F : ∀ (w : World) (mg : Str → Option Value) (fa : Addr) (h : Heap), (K w.params).In h → h.Ns mainGlobals mg → mg d.name = some (.ref fa) →
      ∃ fd : FuncData, (∀ (s : Shared) (u : Value), BindsTo s fd ⟨[u], []⟩ [(x, u)]) ∧ ∀ base : Heap, (K w.params).In base → base.Ns mainGlobals mg → FnG l.prog w (K w.params) mg base (CX w) k fa fd [x] (sp w))
    (hsp : ∀ (w : World) (H : Hp) (a : Addr) (ns : List Int), ns.length ≤ n → (∀ i ∈ ns, Builtin.Int.intBits i ≤ 1048576) → Only H → SqL (K w.params) H a (ns.map V.int) → sp w [.ref a] H (fun v _ => v = .bl true) fun _ _ _ => False)
    (hCX : ∀ (w : World) (H : Hp) (s : Shared) (e : Value) (s' : Shared), CX w [] H s (fun _ _ _ => False) e s' → False) :
    PySem.W.WalkO q loose XP YP l.row.toRowW d [] (fun f vs => PySem.call f vs) := by
  refine Att.attach_callB hn hdf fun w s₀ s₁ mg mb fa o pm cd doc a vs ns G Y ho hd hcd hmg hobj hints hlen hbits hg => ?_
  obtain ⟨fd, hb, hF⟩ := F w mg fa _ (hY w _ Y) G.T.g hmg
  exact law_callG (hY w _ Y) G.T.g G.T.b G.T.builtins G.T.nolimit hg hobj hints (Nat.le_trans hlen hn2) hr hF hb (fun H hO hS => hsp w H a ns hlen hbits hO hS) fun H e s' => hCX w H s₁ e s'
end Ct
/-! repr of data -/
namespace Ct
open PySem PySem.Spec PyProof.Rows L2
theorem bool_shown (b : Bool) : (PyData.bool b).shown = (if b then "True" else "False" : Str) := by cases b <;> rfl
section
variable {prog : Program} {w : World} {A : Around} {E : Value → Shared → Prop} {s : Shared} {Q : Value → Shared → Prop}
theorem repr_bool (b : Bool) (h : Q (.str (PyData.bool b).shown s.toks) { s with toks := s.toks + 1 }) : wpAny (model prog w) A (call (.builtin "repr") [.bool b]) Q E s :=
  call_repr_gives (x := (PyData.bool b).shown) (T := "bool") rfl PySem.F.slot_bool_repr PySem.F.entry_bool_repr (PySem.F.args_bool_repr_1 _) (by
    have g := gives_bool_repr b
    cases b <;> exact g) h rfl (by cases b <;> (show _ ≤ sizeLine; decide))
theorem repr_str (x : Str) (t : Tok) (hz : (reprText x).length ≤ sizeLine) (h : Q (.str (reprText x) s.toks) { s with toks := s.toks + 1 }) : wpAny (model prog w) A (call (.builtin "repr") [.str x t]) Q E s :=
  call_repr_gives (x := reprText x) (T := "str") rfl PySem.F.slot_str_repr PySem.F.entry_str_repr (PySem.F.args_str_repr_1 _) (gives_str_repr x t) h rfl hz
end
/-- what repr of data asks -/
def ShowOk (d : PyData) : Prop := d.showable = true ∧ d.hasDict = false ∧ d.depth ≤ 100 ∧ d.shown.length ≤ sizeLine
def rRepr (K : PySem.W.Frag) : List V → Hp → VK → Prop := fun xs H Q => ∃ x d, xs = [x] ∧ x ≠ .non ∧ Dp K H x d ∧ ShowOk d ∧ Q (.str d.shown) H
section
variable {X : Cx}
theorem call_repr (hg : X.A.guards = some []) (hu : X.A.units + 120 < cLine) : CallR X (.builtin "repr") (rRepr X.K) := by
  intro pins s σ H xs us Q I r h
  obtain ⟨x, d, rfl, hn, hd, ⟨h1, h2, h3, h4⟩, q⟩ := h
  obtain ⟨u, rfl, rx⟩ := vals1 r
  have inv : ∀ t, Inv X pins σ H { s with toks := t } := fun t => I.tok t
  have rd := Dp.reads I d x u hd rx
  cases hd with
  | non => exact absurd rfl hn
  | bl b =>
    obtain rfl : u = Value.bool b := rx
    exact repr_bool b ⟨.str _, H, I.tok _, ⟨_, rfl⟩, q⟩
  | int i =>
    obtain ⟨t, rfl⟩ := rx
    have hz : i.natAbs.log2 < 1920 := by simpa [PyData.showable] using h1
    exact PySem.P.repr_of_int hz ⟨.str _, H, I.tok _, ⟨_, rfl⟩, q⟩
  | str y =>
    obtain ⟨t, rfl⟩ := rx
    exact repr_str y t h4 ⟨.str _, H, I.tok _, ⟨_, rfl⟩, q⟩
  | lst hs ha =>
    obtain rfl := rx
    obtain ⟨as, r1⟩ := rd
    exact repr_of_reads' r1 h1 (PyData.noDict_hsm h2) hg (by omega) (fun _ _ e => e) (fun h' u tk hk => ⟨.str _, H, I.kept (t' := tk) hk, ⟨u, rfl⟩, q⟩) h4
  | tup hs ha =>
    obtain rfl := rx
    obtain ⟨as, r1⟩ := rd
    exact repr_of_reads' r1 h1 (PyData.noDict_hsm h2) hg (by omega) (fun _ _ e => e) (fun h' u tk hk => ⟨.str _, H, I.kept (t' := tk) hk, ⟨u, rfl⟩, q⟩) h4
end
end Ct
/-! operators by values, whatever the values are -/
namespace Ct
open PySem PySem.Spec PyProof.Rows L2
section
variable {X : Cx}
/-! ### sums, products, .. -/
def rAddA (K : PySem.W.Frag) : R2 := fun x y H Q => rI0 (fun i j => .int (i + j)) x y H Q ∨ (∃ i j, x = .str i ∧ y = .str j ∧ i.length + j.length ≤ sizeLine ∧ Q (.str (i ++ j)) H) ∨ rCat x y H Q ∨ rCatA K x y H Q
theorem op_addA : OpR X (binaryOp .Add) (rAddA X.K) := op_add.or (op_add_str.or (op_cat.or op_catA))
def rMulS : R2 := fun x y H Q => ∃ z n, x = .str z ∧ y = .int n ∧ MulOk z n ∧ Q (.str (Txt.mul z n)) H
theorem op_mulS : OpR X (binaryOp .Mult) rMulS := by
  intro pins s σ H x y v u Q I rx ry h
  obtain ⟨z, n, rfl, rfl, hk, q⟩ := h
  obtain ⟨t, rfl⟩ := rx
  obtain ⟨t', rfl⟩ := ry
  exact PySem.SB.mul hk fun t2 k => ⟨.str _, H, I.tok _, ⟨t2, rfl⟩, q⟩
def rMulA (K : PySem.W.Frag) : R2 := fun x y H Q => rI CMul (fun i j => .int (i * j)) x y H Q ∨ rI CMulX (fun i j => .int (i * j)) x y H Q ∨ rMulS x y H Q ∨ rRep x y H Q ∨ rRepT K x y H Q
theorem op_mulA : OpR X (binaryOp .Mult) (rMulA X.K) := op_mul.or (op_mulX.or (op_mulS.or (op_rep.or op_repT)))
/-- i // j, the sizes such that the plain division does it -/
def CDivA (i j : Int) : Prop := j ≠ 0 ∧ Builtin.divisionGoesByPylong i j = false
theorem op_fdivA : OpR X (binaryOp .FloorDiv) (rI CDivA fun i j => .int (i.fdiv j)) := opI fun i j _ _ _ _ _ hc q => floordiv_int hc.1 q (.inl hc.2)
theorem op_modA : OpR X (binaryOp .Mod) (rI (fun _ j => j ≠ 0) fun i j => .int (i.fmod j)) := op_modN
/-! ### comparisons -/
def rEqA (K : PySem.W.Frag) : R2 := fun x y H Q => rEq x y H Q ∨ rEqD K x y H Q
def rNeA (K : PySem.W.Frag) : R2 := fun x y H Q => rNe x y H Q ∨ rNeD K x y H Q
theorem op_eqA (hu : X.A.units + 64 < cLine) : OpR X (compareOp .Eq) (rEqA X.K) := op_eq.or (op_eqD hu)
theorem op_neA (hu : X.A.units + 64 < cLine) : OpR X (compareOp .NotEq) (rNeA X.K) := op_ne.or (op_neD hu)
def rLtA : R2 := fun x y H Q => rI0 (fun i j => .bl (decide (i < j))) x y H Q ∨ (∃ i j, x = .str i ∧ y = .str j ∧ Q (.bl (decide (i.cps.toList < j.cps.toList))) H)
def rGtA : R2 := fun x y H Q => rI0 (fun i j => .bl (decide (j < i))) x y H Q ∨ (∃ i j, x = .str i ∧ y = .str j ∧ Q (.bl (decide (j.cps.toList < i.cps.toList))) H)
theorem op_ltA : OpR X (compareOp .Lt) rLtA := op_lt.or op_lt_str
theorem op_gtA : OpR X (compareOp .Gt) rGtA := op_gt.or op_gt_str
abbrev rLe : R2 := rI0 fun i j => .bl (decide (i ≤ j))
abbrev rGe : R2 := rI0 fun i j => .bl (decide (j ≤ i))
theorem op_leA : OpR X (compareOp .LtE) rLe := op_le
theorem op_geA : OpR X (compareOp .GtE) rGe := op_ge
def rInD' : R2 := fun y x H Q => ∃ a o, x = .ref a ∧ DGet H a y o ∧ Q (.bl o.isSome) H
def rNiD' : R2 := fun y x H Q => ∃ a o, x = .ref a ∧ DGet H a y o ∧ Q (.bl (!o.isSome)) H
theorem op_inDi (hu : X.A.units + 1 < cLine) : OpR X (compareOp .In) rInD' := by
  intro pins s σ H x y v u Q I rx ry h
  obtain ⟨a, o, rfl, g, q⟩ := h
  obtain rfl : u = Value.ref a := ry
  exact d_in hu I g rx fun s3 I3 => ⟨.bl o.isSome, H, I3, rfl, q⟩
theorem op_niDi (hu : X.A.units + 1 < cLine) : OpR X (compareOp .NotIn) rNiD' := by
  intro pins s σ H x y v u Q I rx ry h
  obtain ⟨a, o, rfl, g, q⟩ := h
  obtain rfl : u = Value.ref a := ry
  exact d_notIn hu I g rx fun s3 I3 => ⟨.bl (!o.isSome), H, I3, rfl, q⟩
def rSignIn : R2 := fun x y H Q => ∃ (c : Nat) (z : Str), x = .str ⟨#[c]⟩ ∧ y = .str z ∧ Q (.bl (decide (c ∈ z.cps.toList))) H
def rSignNi : R2 := fun x y H Q => ∃ (c : Nat) (z : Str), x = .str ⟨#[c]⟩ ∧ y = .str z ∧ Q (.bl (!decide (c ∈ z.cps.toList))) H
def rInA (K : PySem.W.Frag) : R2 := fun x y H Q => rSignIn x y H Q ∨ rIn K false x y H Q ∨ rInD K x y H Q ∨ rInD' x y H Q
def rNiA (K : PySem.W.Frag) : R2 := fun x y H Q => rSignNi x y H Q ∨ rIn K true x y H Q ∨ rNotInD K x y H Q ∨ rNiD' x y H Q
theorem op_inA (hu : X.A.units + 65 < cLine) : OpR X (compareOp .In) (rInA X.K) := OpR.or op_in_sign (op_in_seq.or ((op_inD hu).or (op_inDi (by omega))))
theorem op_niA (hu : X.A.units + 65 < cLine) : OpR X (compareOp .NotIn) (rNiA X.K) := OpR.or op_notIn_sign (op_notIn_seq.or ((op_notInD hu).or (op_niDi (by omega))))
def rIsN : R2 := fun x y H Q => y = .non ∧ Q (.bl (decide (x = .non))) H
def rNotN : R2 := fun x y H Q => y = .non ∧ Q (.bl (!decide (x = .non))) H
def rIsA : R2 := fun x y H Q => rIsN x y H Q ∨ rIsB x y H Q
def rNotA : R2 := fun x y H Q => rNotN x y H Q ∨ rNotB x y H Q
theorem op_isA : OpR X (compareOp .Is) rIsA := OpR.or op_isN op_isBl
theorem op_notA : OpR X (compareOp .IsNot) rNotA := OpR.or op_notN op_notBl
/-! ### subscripts, slices -/
def rIxDi : R2 := fun x y H Q => ∃ a v, x = .ref a ∧ DGet H a y (some v) ∧ Q v H
theorem ix_dict (hu : X.A.units + 1 < cLine) : IxR X rIxDi := by
  intro value slice pins s σ H x y v u Q I rx ry h hs
  obtain ⟨a, w, rfl, g, q⟩ := h
  obtain rfl : v = Value.ref a := rx
  have hT := dict_typeIs I g
  unfold subscriptTail
  refine wpAny_bind ?_
  rw [getitemInPython_of_ne hT.not_modules]
  refine wpAny_bind (wpAny_specialOf hT PySem.F.slot_dict_getitem.lookup ?_)
  have fin : wpAny (model X.prog X.w) X.A (subscripted slice false (.ref a) u) (fun r s₃ => wpAny (model X.prog X.w) X.A (letTemporaryGo value (.ref a) r >>= fun _ => pure r) (EP X pins σ Q) X.xe s₃) X.xe s := by
    rw [hs]
    exact wpAny_operating (d_getItem hu I g ry fun w' s3 I3 rw' => wpAny_bind (wpAny_letTemporaryGo (wpAny_pure ⟨w, H, I3, rw', q⟩)))
  first
    | exact wpAny_pure (wpAny_bind fin)
    | exact wpAny_bind (wpAny_pure (wpAny_bind fin))
    | exact wpAny_bind fin
def rIxA (K : PySem.W.Frag) : R2 := fun x y H Q => rIx K x y H Q ∨ rIxDi x y H Q
theorem ix_any (hu : X.A.units + 1 < cLine) : IxR X (rIxA X.K) := ix_seq.or (ix_dict hu)
def rSlAny (K : PySem.W.Frag) : V → Option Int → Option Int → Hp → VK → Prop := fun x lo hi H Q => rSlL K x lo hi H Q ∨ rSlA K x lo hi H Q ∨ rSlS x lo hi H Q
theorem sl_any : SlR X (rSlAny X.K) := sl_list.or (sl_tupA.or sl_str)
/-! ### calls -/
def rLenA (K : PySem.W.Frag) : List V → Hp → VK → Prop := fun xs H Q => (∃ x n, xs = [x] ∧ LenV K x H n ∧ Q (.int n) H) ∨ ∃ a kvs, xs = [V.ref a] ∧ H a = some (.dK kvs) ∧ Q (.int kvs.length) H
theorem call_lenA : CallR X (.builtin "len") (rLenA X.K) := call_len.or call_lenD
def rIntA : List V → Hp → VK → Prop := fun xs H Q => ((∃ i, xs = [.int i] ∧ Q (.int i) H) ∨ ∃ k, xs = [.bl k] ∧ Q (.int (if k then 1 else 0)) H) ∨ ∃ a n, xs = [.str a] ∧ PySem.intText? a = some n ∧ a.length ≤ 640 ∧ Q (.int n) H
theorem call_intA : CallR X (.type "int") rIntA := call_int1.or call_int_str
def rStrA : List V → Hp → VK → Prop := fun xs H Q => (∃ i, xs = [.int i] ∧ i.natAbs.log2 < 1920 ∧ Q (.str (toString i)) H) ∨ ∃ a, xs = [.str a] ∧ Q (.str a) H
theorem call_strA : CallR X (.type "str") rStrA := call_str_int.or SkE.call_str_str
def rMax2' : List V → Hp → VK → Prop := fun xs H Q => ∃ i j, xs = [.int i, .int j] ∧ Q (.int (if j > i then j else i)) H
def rMin2' : List V → Hp → VK → Prop := fun xs H Q => ∃ i j, xs = [.int i, .int j] ∧ Q (.int (if j < i then j else i)) H
theorem call_max2' (hc : X.calm = true) : CallR X (.builtin "max") rMax2' := call_max2 hc
theorem call_min2' (hc : X.calm = true) : CallR X (.builtin "min") rMin2' := call_min2 hc
def rAbs' : List V → Hp → VK → Prop := fun xs H Q => ∃ i, xs = [.int i] ∧ Q (.int (if i < 0 then -i else i)) H
theorem call_abs' : CallR X (.builtin "abs") rAbs' := call_abs
def rListOf (K : PySem.W.Frag) : List V → Hp → VK → Prop := fun xs H Q => ∃ p ys, xs = [.ref p] ∧ (SqL K H p ys ∨ SqT K H p ys) ∧ ∀ l, H l = none → Q (.ref l) (upd H l (.lst ys))
theorem call_listOf : CallR X (.type "list") (rListOf X.K) := call_list_of
def rTupOf (K : PySem.W.Frag) : List V → Hp → VK → Prop := fun xs H Q => ∃ p ys, xs = [.ref p] ∧ ((SqL K H p ys ∧ ∀ l, H l = none → Q (.ref l) (upd H l (.tup ys))) ∨ (SqT K H p ys ∧ Q (.ref p) H))
theorem call_tupOf : CallR X (.type "tuple") (rTupOf X.K) := call_tuple_of
/-! ### what a for walks: a list, a tuple, a text -/
def wSeq (K : PySem.W.Frag) (x : V) (H : Hp) (R : It → Hp → Prop) : Prop :=
  (∃ a, x = .ref a ∧ (∃ xs, SqL K H a xs) ∧ R (Itl K a) H) ∨ (∃ a, x = .ref a ∧ (∃ xs, SqT K H a xs) ∧ R (Itt K a) H) ∨ ∃ z, x = .str z ∧ R (Its z) H
def iSeq (K : PySem.W.Frag) (tl : TE) : TI := fun σ H R => tl σ H fun x H1 => wSeq K x H1 R
theorem pi_seq {tg l : Expr} {tl : TE} (hl : PE X l tl) : PI X tg l (iSeq X.K tl) := by
  refine ⟨fun pins s σ H R I h => thn (hl.run pins s σ H _ I h) fun v s1 ⟨x, H1, I1, r1, q1⟩ => ?_⟩
  rcases q1 with ⟨a, rfl, ⟨xs, hq⟩, q⟩ | ⟨a, rfl, ⟨xs, hq⟩, q⟩ | ⟨z, rfl, q⟩
  · obtain rfl : v = Value.ref a := r1
    obtain ⟨its, rv, p, hz⟩ := I1.list hq
    exact wpAny_pyIter_list p.isList (pi_one (tk := s1.toks) I1 _ (turn_list a _) ⟨_, Heap.get?_push_size _ rfl, rfl, rfl⟩ q)
  · obtain rfl : v = Value.ref a := r1
    obtain ⟨its, rv, p, hz⟩ := I1.tuple hq
    exact wpAny_pyIter_tuple (show s1.heap.IsTuple a its.toArray from p) (pi_one (tk := s1.toks) I1 _ (turn_tuple a _) ⟨_, Heap.get?_push_size _ rfl, rfl, rfl⟩ q)
  · obtain ⟨t, rfl⟩ := r1
    by_cases ha : z.cps.all (· < 128) = true
    · exact wpAny_pyIter_ascii ha (pi_one (tk := s1.toks) I1 _ (turn_str _ z t "str_ascii_iterator" (.inl rfl)) ⟨_, Heap.get?_push_size _ rfl, rfl, rfl⟩ q)
    · exact wpAny_pyIter_wide (by simpa using ha) (pi_one (tk := s1.toks) I1 _ (turn_str _ z t "str_iterator" (.inr rfl)) ⟨_, Heap.get?_push_size _ rfl, rfl, rfl⟩ q)
end
end Ct
/-! what is known of the heap, in one fact -/
namespace Ct
open PySem PySem.Spec PyProof.Rows L2
/-- a fact of a heap -/
abbrev Kn := Hp → Prop
abbrev Cells := List (Addr × HO)
/-- Γ: facts that stay whatever comes; L: cells of one's own, which may change; G: what stays -/
def WW (Γ : List Kn) (L : Cells) (H : Hp) : Prop :=
  ∃ G : Hp, Same G H ∧ (∀ c ∈ L, H c.1 = some c.2 ∧ G c.1 = none) ∧ (L.map (·.1)).Nodup ∧ ∀ k ∈ Γ, ∀ G', Same G G' → k G'
/-- the same, with further cells of which M alone is known -/
def WR (M : Cells → Prop) (Γ : List Kn) (L : Cells) (H : Hp) : Prop := ∃ L0, M L0 ∧ WW Γ (L0 ++ L) H
def noM : Cells → Prop := fun L => L = []
theorem same_new {H : Hp} {p : Addr} {o : HO} (h : H p = none) : Same H (upd H p o) := fun b u e => by
  rw [upd_ne (ne_of_none e h)]
  exact e
section
variable {M : Cells → Prop} {Γ Γ' : List Kn} {L L' L0 : Cells} {H H' : Hp} {p q : Addr} {o o' : HO} {k : Kn}
theorem WW.get (w : WW Γ L H) (h : k ∈ Γ) : k H := by
  obtain ⟨G, g, _, _, f⟩ := w
  exact f k h H g
theorem WW.cell (w : WW Γ L H) (h : (p, o) ∈ L) : H p = some o := by
  obtain ⟨G, _, f, _⟩ := w
  exact (f _ h).1
theorem WW.know (w : WW Γ L H) (o : HO) (h : H p = none) : WW ((fun G => G p = some o) :: Γ) L (upd H p o) := by
  obtain ⟨G, g, f, n, t⟩ := w
  have hG : G p = none := g.free h
  refine ⟨upd G p o, fun b u e => ?_, fun c hc => ?_, n, fun k hk G' s => ?_⟩
  · by_cases hb : b = p
    · subst hb
      rw [upd_same] at e ⊢
      exact e
    · rw [upd_ne hb] at e ⊢
      exact g b u e
  · have hne : c.1 ≠ p := ne_of_none (f c hc).1 h
    rw [upd_ne hne, upd_ne hne]
    exact f c hc
  · cases hk with
    | head => exact s p o upd_same
    | tail _ hk => exact t k hk G' (Same.trans (same_new hG) s)
theorem WW.new (w : WW Γ L H) (o : HO) (h : H p = none) : WW Γ ((p, o) :: L) (upd H p o) := by
  obtain ⟨G, g, f, n, t⟩ := w
  have hG : G p = none := g.free h
  have out : ∀ c ∈ L, c.1 ≠ p := fun c hc => ne_of_none (f c hc).1 h
  refine ⟨G, Same.trans g (same_new h), fun c hc => ?_, ?_, t⟩
  · cases hc with
    | head => exact ⟨upd_same, hG⟩
    | tail _ hc =>
      rw [upd_ne (out c hc)]
      exact f c hc
  · rw [List.map_cons, List.nodup_cons]
    refine ⟨fun hm => ?_, n⟩
    obtain ⟨c, hc, e⟩ := List.mem_map.mp hm
    exact out c hc e
theorem nodup_at {α β : Type} : ∀ {l : List (α × β)} {i j : Nat} {x y : α × β}, (l.map (·.1)).Nodup → l[i]? = some x → l[j]? = some y → x.1 = y.1 → i = j := by
  intro l i j x y n hi hj e
  have h1 : (l.map (·.1))[i]? = some x.1 := by rw [List.getElem?_map, hi] <;> rfl
  have h2 : (l.map (·.1))[j]? = some x.1 := by rw [List.getElem?_map, hj, e] <;> rfl
  obtain ⟨b1, e1⟩ := List.getElem?_eq_some_iff.mp h1
  obtain ⟨b2, e2⟩ := List.getElem?_eq_some_iff.mp h2
  exact (List.getElem_inj n).mp (e1.trans e2.symm)
theorem WW.put (w : WW Γ L H) (i : Nat) (o' : HO) (h : L[i]? = some (p, o)) : WW Γ (L.set i (p, o')) (upd H p o') := by
  obtain ⟨G, g, f, n, t⟩ := w
  have hm : (p, o) ∈ L := List.mem_of_getElem? h
  have hG : G p = none := (f _ hm).2
  refine ⟨G, fun b u e => ?_, fun c hc => ?_, ?_, t⟩
  · rw [upd_ne (ne_of_none e hG)]
    exact g b u e
  · obtain ⟨j, hj⟩ := List.mem_iff_getElem?.mp hc
    by_cases e : i = j
    · subst e
      have hl : i < L.length := (List.getElem?_eq_some_iff.mp h).1
      rw [List.getElem?_set_self hl] at hj
      cases hj
      exact ⟨upd_same, hG⟩
    · rw [List.getElem?_set_ne e] at hj
      have hc' := List.mem_of_getElem? hj
      have hne : c.1 ≠ p := fun z => e (nodup_at n h hj z.symm)
      rw [upd_ne hne]
      exact f c hc'
  · have e : (L.set i (p, o')).map (·.1) = L.map (·.1) := by
      rw [List.map_set]
      refine List.ext_getElem? fun j => ?_
      by_cases ej : i = j
      · subst ej
        have hl : i < L.length := (List.getElem?_eq_some_iff.mp h).1
        rw [List.getElem?_set_self (by rw [List.length_map]; exact hl), List.getElem?_map, h] <;> rfl
      · rw [List.getElem?_set_ne ej]
    rw [e]
    exact n
theorem WW.fix (w : WW Γ ((p, o) :: L) H) : WW ((fun G => G p = some o) :: Γ) L H := by
  obtain ⟨G, g, f, n, t⟩ := w
  obtain ⟨hp, hG⟩ := f (p, o) List.mem_cons_self
  rw [List.map_cons, List.nodup_cons] at n
  refine ⟨upd G p o, fun b u e => ?_, fun c hc => ?_, n.2, fun k hk G' s => ?_⟩
  · by_cases hb : b = p
    · subst hb
      rw [upd_same] at e
      cases e
      exact hp
    · rw [upd_ne hb] at e
      exact g b u e
  · have hne : c.1 ≠ p := fun z => n.1 (List.mem_map.mpr ⟨c, hc, z⟩)
    rw [upd_ne hne]
    exact f c (List.mem_cons_of_mem _ hc)
  · cases hk with
    | head => exact s p o upd_same
    | tail _ hk => exact t k hk G' (Same.trans (same_new hG) s)
theorem WW.perm (w : WW Γ L H) (h : L'.Perm L) : WW Γ L' H := by
  obtain ⟨G, g, f, n, t⟩ := w
  exact ⟨G, g, fun c hc => f c (h.mem_iff.mp hc), (h.map _).nodup_iff.mpr n, t⟩
theorem WW.sub (w : WW Γ L H) (h : ∀ k ∈ Γ', k ∈ Γ) : WW Γ' L H := by
  obtain ⟨G, g, f, n, t⟩ := w
  exact ⟨G, g, f, n, fun k hk => t k (h k hk)⟩
theorem WW.drop (w : WW Γ (L0 ++ L) H) : WW Γ L H := by
  obtain ⟨G, g, f, n, t⟩ := w
  rw [List.map_append, List.nodup_append] at n
  exact ⟨G, g, fun c hc => f c (List.mem_append_right _ hc), n.2.1, t⟩
theorem WW.more (w : WW Γ L H) (k : Kn) (h : ∀ G, (∀ k ∈ Γ, k G) → k G) : WW (k :: Γ) L H := by
  obtain ⟨G, g, f, n, t⟩ := w
  refine ⟨G, g, f, n, fun k' hk G' s => ?_⟩
  cases hk with
  | head => exact h G' fun k hk => t k hk G' s
  | tail _ hk => exact t k' hk G' s
theorem WW.same (w : WW Γ L H) (h : Same H H') : WW Γ L H' := by
  obtain ⟨G, g, f, n, t⟩ := w
  exact ⟨G, Same.trans g h, fun c hc => ⟨h _ _ (f c hc).1, (f c hc).2⟩, n, t⟩
theorem WW.all (w : WW Γ L H) : ∀ k ∈ Γ, k H := fun k h => w.get h
/-- two cells of one's own stand apart -/
theorem WW.ne (w : WW Γ L H) {i j : Nat} (hi : L[i]? = some (p, o)) (hj : L[j]? = some (q, o')) (h : i ≠ j) : p ≠ q := by
  obtain ⟨G, g, f, n, t⟩ := w
  exact fun e => h (nodup_at n hi hj e)
theorem WW.of {H : Hp} {Γ : List Kn} (h : ∀ k ∈ Γ, ∀ G, Same H G → k G) : WW Γ [] H := ⟨H, Same.refl H, fun _ hc => (List.not_mem_nil hc).elim, List.nodup_nil, h⟩
/-! ### the same of WR -/
theorem WR.of (w : WW Γ L H) : WR noM Γ L H := ⟨[], rfl, w⟩
theorem WR.get (w : WR M Γ L H) (h : k ∈ Γ) : k H := by
  obtain ⟨_, _, w⟩ := w
  exact w.get h
theorem WR.all (w : WR M Γ L H) : ∀ k ∈ Γ, k H := fun k h => w.get h
theorem WR.cell (w : WR M Γ L H) (h : (p, o) ∈ L) : H p = some o := by
  obtain ⟨_, _, w⟩ := w
  exact w.cell (List.mem_append_right _ h)
theorem WR.know (w : WR M Γ L H) (o : HO) (h : H p = none) : WR M ((fun G => G p = some o) :: Γ) L (upd H p o) := by
  obtain ⟨L0, m, w⟩ := w
  exact ⟨L0, m, w.know o h⟩
theorem WR.new (w : WR M Γ L H) (o : HO) (h : H p = none) : WR M Γ ((p, o) :: L) (upd H p o) := by
  obtain ⟨L0, m, w⟩ := w
  exact ⟨L0, m, (w.new o h).perm List.perm_middle⟩
theorem WR.put (w : WR M Γ L H) (i : Nat) (o' : HO) (h : L[i]? = some (p, o)) : WR M Γ (L.set i (p, o')) (upd H p o') := by
  obtain ⟨L0, m, w⟩ := w
  refine ⟨L0, m, ?_⟩
  have x := w.put (L0.length + i) o' (by rw [List.getElem?_append_right (Nat.le_add_right _ _), Nat.add_sub_cancel_left]; exact h)
  rw [List.set_append_right _ _ (Nat.le_add_right _ _), Nat.add_sub_cancel_left] at x
  exact x
theorem WR.put0 (w : WR M Γ ((p, o) :: L) H) (o' : HO) : WR M Γ ((p, o') :: L) (upd H p o') := w.put 0 o' rfl
theorem WR.put1 {c : Addr × HO} (w : WR M Γ (c :: (p, o) :: L) H) (o' : HO) : WR M Γ (c :: (p, o') :: L) (upd H p o') := w.put 1 o' rfl
theorem WR.put2 {c d : Addr × HO} (w : WR M Γ (c :: d :: (p, o) :: L) H) (o' : HO) : WR M Γ (c :: d :: (p, o') :: L) (upd H p o') := w.put 2 o' rfl
theorem WR.fix (w : WR M Γ ((p, o) :: L) H) : WR M ((fun G => G p = some o) :: Γ) L H := by
  obtain ⟨L0, m, w⟩ := w
  exact ⟨L0, m, (w.perm List.perm_middle.symm).fix⟩
theorem WR.sub (w : WR M Γ L H) (h : ∀ k ∈ Γ', k ∈ Γ) : WR M Γ' L H := by
  obtain ⟨L0, m, w⟩ := w
  exact ⟨L0, m, w.sub h⟩
theorem WR.more (w : WR M Γ L H) (k : Kn) (h : ∀ G, (∀ k ∈ Γ, k G) → k G) : WR M (k :: Γ) L H := by
  obtain ⟨L0, m, w⟩ := w
  exact ⟨L0, m, w.more k h⟩
theorem WR.same (w : WR M Γ L H) (h : Same H H') : WR M Γ L H' := by
  obtain ⟨L0, m, w⟩ := w
  exact ⟨L0, m, w.same h⟩
theorem WR.perm (w : WR M Γ L H) (h : L'.Perm L) : WR M Γ L' H := by
  obtain ⟨L0, m, w⟩ := w
  exact ⟨L0, m, w.perm ((List.Perm.refl L0).append h)⟩
theorem WR.drop1 {c : Addr × HO} (w : WR M Γ (c :: L) H) : WR M Γ L H := by
  obtain ⟨L0, m, w⟩ := w
  refine ⟨L0, m, WW.drop (L0 := [c]) (w.perm (show (c :: (L0 ++ L)).Perm (L0 ++ c :: L) from (List.perm_middle (a := c) (l₁ := L0) (l₂ := L)).symm))⟩
theorem WR.tail (w : WR M (k :: Γ) L H) : WR M Γ L H := w.sub fun _ h => List.mem_cons_of_mem _ h
end
/-! ### what lists and tuples are -/
section
variable {K : PySem.W.Frag} {H : Hp} {a : Addr} {xs : List V} {v : V} {vs : List V} {d : PyData} {ds : List PyData}
theorem sqL (h : H a = some (.lst xs)) : SqL K H a xs := .inl (.inl h)
theorem sqT (h : H a = some (.tup xs)) : SqT K H a xs := .inl (.inl h)
/-- a written tuple -/
def KT (K : PySem.W.Frag) (a : Addr) (xs : List V) : Prop := ∀ H, SqT K H a xs
end
/-! ### readings, step by step -/
section
variable {K : PySem.W.Frag} {σ : L2.St} {H : Hp} {Q : VK} {D : Ends} {i : Nat} {v x y : V} {ta tb te : TE} {r : R2} {t u : TS} {n m : Int} {z w : Str} {c c' : Bool} {tt tt' : TT} {QB : Bool → Hp → Prop}
theorem g_seq (q : t { D with nx := u D } σ H) : tSeq t u D σ H := q
theorem g_next (q : D.nx σ H) : tNext D σ H := q
theorem g_set (q : te σ H fun x H1 => D.nx (σ.set i (some x)) H1) : tAsg te (gName i) D σ H := q
theorem g_ret (q : te σ H D.rt) : tRet te D σ H := q
theorem g_retN (q : D.rt .non H) : tRetN D σ H := q
theorem g_drop (q : te σ H fun _ H1 => D.nx σ H1) : tDrop te D σ H := q
theorem g_if (q : tt σ H fun b H1 => if b = true then t D σ H1 else u D σ H1) : tIfS tt t u D σ H := q
theorem g_var (h : σ[i]? = some (some v)) (q : Q v H) : tVar i σ H Q := ⟨v, h, q⟩
theorem g_c (q : Q v H) : tC v σ H Q := q
theorem g_op (q : ta σ H fun x H1 => tb σ H1 fun y H2 => r x y H2 Q) : tOp r ta tb σ H Q := q
theorem g_un {r : V → Hp → VK → Prop} (q : ta σ H fun x H1 => r x H1 Q) : tUn r ta σ H Q := q
theorem g_neg (q : Q (.int (-n)) H) : rU (fun i => .int (-i)) (.int n) H Q := ⟨n, rfl, q⟩
theorem g_test (q : te σ H fun x H' => ∃ k, x = .bl k ∧ QB k H') : tTest te σ H QB := q
theorem g_B (q : te σ H fun x H1 => ∃ c, x = .bl c ∧ QB c H1) : tB te σ H QB := q
theorem g_bl {P : Bool → Prop} (q : P c) : ∃ k, V.bl c = .bl k ∧ P k := ⟨c, rfl, q⟩
theorem g_and (q : tt σ H fun c H1 => if c = true then tt' σ H1 QB else QB false H1) : tAnd tt tt' σ H QB := q
theorem g_or (q : tt σ H fun c H1 => if c = true then QB true H1 else tt' σ H1 QB) : tOr tt tt' σ H QB := q
theorem g_not (q : tt σ H fun c H1 => QB (!c) H1) : tNot tt σ H QB := q
theorem g_andV (q : ta σ H fun x H1 => ∃ c, x = .bl c ∧ if c = true then tb σ H1 Q else Q (.bl false) H1) : tAndV ta tb σ H Q := q
theorem g_orV (q : ta σ H fun x H1 => ∃ c, x = .bl c ∧ if c = true then Q (.bl true) H1 else tb σ H1 Q) : tOrV ta tb σ H Q := q
theorem g_notV (q : ta σ H fun x H1 => ∃ c, x = .bl c ∧ Q (.bl (!c)) H1) : tNotV ta σ H Q := q
theorem g_ifE (q : tt σ H fun c H1 => if c = true then ta σ H1 Q else tb σ H1 Q) : tIf tt ta tb σ H Q := q
theorem g_chain {r r' : R2} {tc : TE} (q : ta σ H fun x H1 => tb σ H1 fun y H2 => r x y H2 fun z H3 => ∃ k, z = .bl k ∧ (if k = true then tc σ H3 fun w' H4 => r' y w' H4 Q else Q (.bl false) H3)) : tChain r r' ta tb tc σ H Q := q
theorem g_nil {Q : List V → Hp → Prop} (q : Q [] H) : tNil σ H Q := q
theorem g_cons {tr : TA} {Q : List V → Hp → Prop} (q : ta σ H fun x H1 => tr σ H1 fun xs H2 => Q (x :: xs) H2) : tCons ta tr σ H Q := q
theorem g_tup {t : TA} (q : t σ H fun xs H1 => xs.length ≤ sizeLine ∧ ∀ p, H1 p = none → Q (.ref p) (upd H1 p (.tup xs))) : tTup t σ H Q := q
theorem g_lst {t : TA} (q : t σ H fun xs H1 => xs.length ≤ sizeLine ∧ ∀ p, H1 p = none → Q (.ref p) (upd H1 p (.lst xs))) : tLst t σ H Q := q
theorem g_cb {r : List V → Hp → VK → Prop} {t : TA} (q : t σ H fun vs H1 => r vs H1 Q) : tCB r t σ H Q := q
theorem g_call {sp : Sp} {dvs : List V} {E : XK} {t : TA} (q : t σ H fun vs H1 => sp (vs ++ dvs) H1 Q E) : tCall sp dvs E t σ H Q := q
theorem g_nop {Q : Option Int → Hp → Prop} (q : Q none H) : tNoPart σ H Q := q
theorem g_part {Q : Option Int → Hp → Prop} (q : te σ H fun x H1 => ∃ i, x = .int i ∧ Q (some i) H1) : tPart te σ H Q := q
theorem g_int {P : Int → Prop} (q : P n) : ∃ i, V.int n = .int i ∧ P i := ⟨n, rfl, q⟩
theorem g_sl {r : V → Option Int → Option Int → Hp → VK → Prop} {tl th : TO} (q : te σ H fun x H1 => tl σ H1 fun lo H2 => th σ H2 fun hi H3 => r x lo hi H3 Q) : tSl r te tl th σ H Q := q
theorem g_bm0 {T : String} {r : V → List V → Hp → VK → Prop} (q : ta σ H fun x H1 => tyV K T x H1 ∧ r x [] H1 Q) : tBM0 K T r ta σ H Q := q
theorem g_bm {T : String} {r : V → List V → Hp → VK → Prop} {t : TA} (q : ta σ H fun x H1 => tyV K T x H1 ∧ t σ H1 fun xs H2 => r x xs H2 Q) : tBM K T r ta t σ H Q := q
theorem g_m0 {r : V → List V → Hp → VK → Prop} (q : ta σ H fun x H1 => (∃ a, x = .str a) ∧ r x [] H1 Q) : tM0 r ta σ H Q := q
theorem g_m1 {r : V → List V → Hp → VK → Prop} (q : ta σ H fun x H1 => (∃ a, x = .str a) ∧ te σ H1 fun y H2 => r x [y] H2 Q) : tM1 r ta te σ H Q := q
/-! #### values -/
theorem g_addI (q : Q (.int (n + m)) H) : rAddA K (.int n) (.int m) H Q := .inl ⟨n, m, rfl, rfl, q⟩
theorem g_addS (h : z.length + w.length ≤ sizeLine) (q : Q (.str (z ++ w)) H) : rAddA K (.str z) (.str w) H Q := .inr (.inl ⟨z, w, rfl, rfl, h, q⟩)
theorem g_addL {a b : Addr} {xs ys : List V} (ha : H a = some (.lst xs)) (hb : H b = some (.lst ys)) (hl : xs.length + ys.length ≤ sizeLine) (q : ∀ p, H p = none → Q (.ref p) (upd H p (.lst (xs ++ ys)))) : rAddA K (.ref a) (.ref b) H Q := .inr (.inr (.inl ⟨a, b, xs, ys, rfl, rfl, ha, hb, hl, q⟩))
theorem g_subI (q : Q (.int (n - m)) H) : rI0 (fun i j => .int (i - j)) (.int n) (.int m) H Q := ⟨n, m, rfl, rfl, q⟩
theorem g_mulI (h : CMul n m ∨ CMulX n m) (q : Q (.int (n * m)) H) : rMulA K (.int n) (.int m) H Q := h.elim (fun h => .inl ⟨n, m, rfl, rfl, h, q⟩) fun h => .inr (.inl ⟨n, m, rfl, rfl, h, q⟩)
theorem g_mulS (h : MulOk z n) (q : Q (.str (Txt.mul z n)) H) : rMulA K (.str z) (.int n) H Q := .inr (.inr (.inl ⟨z, n, rfl, rfl, h, q⟩))
theorem g_divI (h : CDivA n m) (q : Q (.int (n.fdiv m)) H) : rI CDivA (fun i j => .int (i.fdiv j)) (.int n) (.int m) H Q := ⟨n, m, rfl, rfl, h, q⟩
theorem g_modI (h : 0 < m) (q : Q (.int (n % m)) H) : rI (fun _ j => j ≠ 0) (fun i j => .int (i.fmod j)) (.int n) (.int m) H Q := ⟨n, m, rfl, rfl, by omega, by (show Q (.int (n.fmod m)) H); rw [Int.fmod_eq_emod_of_nonneg n (by omega)]; exact q⟩
theorem g_powI (h : CPow n m) (q : Q (.int (n ^ m.toNat)) H) : rI CPow (fun i j => .int (i ^ j.toNat)) (.int n) (.int m) H Q := ⟨n, m, rfl, rfl, h, q⟩
theorem g_eqI (q : Q (.bl (decide (n = m))) H) : rEqA K (.int n) (.int m) H Q := .inl ⟨rfl, by rw [show decide (V.int n = V.int m) = decide (n = m) from decide_eq_decide.mpr ⟨fun e => V.int.inj e, fun e => by rw [e]⟩]; exact q⟩
theorem g_neI (q : Q (.bl (!decide (n = m))) H) : rNeA K (.int n) (.int m) H Q := .inl ⟨rfl, by rw [show decide (V.int n = V.int m) = decide (n = m) from decide_eq_decide.mpr ⟨fun e => V.int.inj e, fun e => by rw [e]⟩]; exact q⟩
theorem g_eqS (q : Q (.bl (decide (z = w))) H) : rEqA K (.str z) (.str w) H Q := .inl ⟨rfl, by rw [show decide (V.str z = V.str w) = decide (z = w) from decide_eq_decide.mpr ⟨fun e => V.str.inj e, fun e => by rw [e]⟩]; exact q⟩
theorem g_neS (q : Q (.bl (!decide (z = w))) H) : rNeA K (.str z) (.str w) H Q := .inl ⟨rfl, by rw [show decide (V.str z = V.str w) = decide (z = w) from decide_eq_decide.mpr ⟨fun e => V.str.inj e, fun e => by rw [e]⟩]; exact q⟩
theorem g_eqB (q : Q (.bl (decide (c = c'))) H) : rEqA K (.bl c) (.bl c') H Q := .inl ⟨rfl, by rw [show decide (V.bl c = V.bl c') = decide (c = c') from decide_eq_decide.mpr ⟨fun e => V.bl.inj e, fun e => by rw [e]⟩]; exact q⟩
theorem g_neB (q : Q (.bl (!decide (c = c'))) H) : rNeA K (.bl c) (.bl c') H Q := .inl ⟨rfl, by rw [show decide (V.bl c = V.bl c') = decide (c = c') from decide_eq_decide.mpr ⟨fun e => V.bl.inj e, fun e => by rw [e]⟩]; exact q⟩
theorem g_eqD {d e : PyData} (h1 : Dp K H x d) (h2 : Dp K H y e) (s1 : SeqAt.shaped d = true) (s2 : SeqAt.shaped e = true) (q : Q (.bl (PyData.eqv d e)) H) : rEqA K x y H Q := .inr ⟨d, e, h1, h2, s1, s2, q⟩
theorem g_neD {d e : PyData} (h1 : Dp K H x d) (h2 : Dp K H y e) (s1 : SeqAt.shaped d = true) (s2 : SeqAt.shaped e = true) (q : Q (.bl (!PyData.eqv d e)) H) : rNeA K x y H Q := .inr ⟨d, e, h1, h2, s1, s2, q⟩
theorem g_ltI (q : Q (.bl (decide (n < m))) H) : rLtA (.int n) (.int m) H Q := .inl ⟨n, m, rfl, rfl, q⟩
theorem g_gtI (q : Q (.bl (decide (m < n))) H) : rGtA (.int n) (.int m) H Q := .inl ⟨n, m, rfl, rfl, q⟩
theorem g_leI (q : Q (.bl (decide (n ≤ m))) H) : rLe (.int n) (.int m) H Q := ⟨n, m, rfl, rfl, q⟩
theorem g_geI (q : Q (.bl (decide (m ≤ n))) H) : rGe (.int n) (.int m) H Q := ⟨n, m, rfl, rfl, q⟩
theorem g_inS {s : Nat} (q : Q (.bl (decide (s ∈ z.cps.toList))) H) : rInA K (.str ⟨#[s]⟩) (.str z) H Q := .inl ⟨s, z, rfl, rfl, q⟩
theorem g_niS {s : Nat} (q : Q (.bl (!decide (s ∈ z.cps.toList))) H) : rNiA K (.str ⟨#[s]⟩) (.str z) H Q := .inl ⟨s, z, rfl, rfl, q⟩
theorem g_inQ {a : Addr} {xs : List V} (h : SqL K H a xs ∨ SqT K H a xs) (h1 : flatV x = true) (h2 : xs.all flatV = true) (q : Q (.bl (inV x xs)) H) : rInA K x (.ref a) H Q := .inr (.inl ⟨a, xs, rfl, h, h1, h2, q⟩)
theorem g_niQ {a : Addr} {xs : List V} (h : SqL K H a xs ∨ SqT K H a xs) (h1 : flatV x = true) (h2 : xs.all flatV = true) (q : Q (.bl (!inV x xs)) H) : rNiA K x (.ref a) H Q := .inr (.inl ⟨a, xs, rfl, h, h1, h2, q⟩)
theorem g_inDc {a : Addr} {o : Option V} (h : DGet H a x o) (q : Q (.bl o.isSome) H) : rInA K x (.ref a) H Q := .inr (.inr (.inr ⟨a, o, rfl, h, q⟩))
theorem g_niDc {a : Addr} {o : Option V} (h : DGet H a x o) (q : Q (.bl (!o.isSome)) H) : rNiA K x (.ref a) H Q := .inr (.inr (.inr ⟨a, o, rfl, h, q⟩))
theorem g_isN (q : Q (.bl (decide (x = .non))) H) : rIsA x .non H Q := .inl ⟨rfl, q⟩
theorem g_notN (q : Q (.bl (!decide (x = .non))) H) : rNotA x .non H Q := .inl ⟨rfl, q⟩
theorem g_isB (q : Q (.bl (decide (c = c'))) H) : rIsA (.bl c) (.bl c') H Q := .inr ⟨c, c', rfl, rfl, q⟩
theorem g_notB (q : Q (.bl (!decide (c = c'))) H) : rNotA (.bl c) (.bl c') H Q := .inr ⟨c, c', rfl, rfl, q⟩
theorem g_ixL {a : Addr} {xs : List V} (h : SqL K H a xs) (ha : atI xs n = some v) (q : Q v H) : rIxA K (.ref a) (.int n) H Q := .inl (.inl ⟨a, xs, n, v, rfl, rfl, h, ha, q⟩)
theorem g_ixT {a : Addr} {xs : List V} (h : SqT K H a xs) (ha : atI xs n = some v) (q : Q v H) : rIxA K (.ref a) (.int n) H Q := .inl (.inr (.inl ⟨a, xs, n, v, rfl, rfl, h, ha, q⟩))
theorem g_ixS {s : Nat} (h : z.length ≤ sizeLine) (ha : atI z.cps.toList n = some s) (q : Q (.str ⟨#[s]⟩) H) : rIxA K (.str z) (.int n) H Q := .inl (.inr (.inr ⟨z, n, s, rfl, rfl, h, ha, q⟩))
theorem g_ixD {a : Addr} (h : DGet H a x (some v)) (q : Q v H) : rIxA K (.ref a) x H Q := .inr ⟨a, v, rfl, h, q⟩
theorem g_slL {a : Addr} {xs : List V} {lo hi : Option Int} (h : SqL K H a xs) (q : ∀ p, H p = none → Q (.ref p) (upd H p (.lst (cutV xs lo hi)))) : rSlAny K (.ref a) lo hi H Q := .inl ⟨a, xs, rfl, h, q⟩
theorem g_slS {lo hi : Option Int} (h : z.length ≤ sizeLine) (q : Q (.str (cutS z lo hi)) H) : rSlAny K (.str z) lo hi H Q := .inr (.inr ⟨z, rfl, h, q⟩)
theorem g_lenS (h : z.length ≤ sizeLine) (q : Q (.int z.length) H) : rLenA K [.str z] H Q := .inl ⟨.str z, z.length, rfl, ⟨h, rfl⟩, q⟩
theorem g_lenL {a : Addr} {xs : List V} (h : SqL K H a xs) (q : Q (.int xs.length) H) : rLenA K [.ref a] H Q := .inl ⟨.ref a, xs.length, rfl, .inl ⟨xs, h, rfl⟩, q⟩
theorem g_lenT {a : Addr} {xs : List V} (h : SqT K H a xs) (q : Q (.int xs.length) H) : rLenA K [.ref a] H Q := .inl ⟨.ref a, xs.length, rfl, .inr ⟨xs, h, rfl⟩, q⟩
theorem g_lenD {a : Addr} {kvs : List (Key × V)} (h : H a = some (.dK kvs)) (q : Q (.int kvs.length) H) : rLenA K [.ref a] H Q := .inr ⟨a, kvs, rfl, h, q⟩
theorem g_intB (q : Q (.int (if c then 1 else 0)) H) : rIntA [.bl c] H Q := .inl (.inr ⟨c, rfl, q⟩)
theorem g_intI (q : Q (.int n) H) : rIntA [.int n] H Q := .inl (.inl ⟨n, rfl, q⟩)
theorem g_intS (h : PySem.intText? z = some n) (hl : z.length ≤ 640) (q : Q (.int n) H) : rIntA [.str z] H Q := .inr ⟨z, n, rfl, h, hl, q⟩
theorem g_max (q : Q (.int (if m > n then m else n)) H) : rMax2' [.int n, .int m] H Q := ⟨n, m, rfl, q⟩
theorem g_min (q : Q (.int (if m < n then m else n)) H) : rMin2' [.int n, .int m] H Q := ⟨n, m, rfl, q⟩
theorem g_abs (q : Q (.int (if n < 0 then -n else n)) H) : rAbs' [.int n] H Q := ⟨n, rfl, q⟩
theorem g_repr {d : PyData} (hx : x ≠ .non) (h : Dp K H x d) (hs : ShowOk d) (q : Q (.str d.shown) H) : rRepr K [x] H Q := ⟨x, d, rfl, hx, h, hs, q⟩
/-! #### tests -/
theorem g_ite {A B : Prop} (h1 : c = true → A) (h2 : c = false → B) : if c = true then A else B := by
  cases c with
  | true => exact iteT (h1 rfl)
  | false => exact iteF (h2 rfl)
theorem g_nF {A B : Prop} (h : A) : if (!false) = true then A else B := iteT h
theorem g_nT {A B : Prop} (h : B) : if (!true) = true then A else B := iteF h
theorem g_iteD {P : Prop} [Decidable P] {A B : Prop} (h1 : P → A) (h2 : ¬ P → B) : if decide P = true then A else B := by
  by_cases h : P
  · rw [if_pos (decide_eq_true h)]
    exact h1 h
  · rw [decide_eq_false h]
    exact iteF (h2 h)
theorem g_iteN {P : Prop} [Decidable P] {A B : Prop} (h1 : ¬ P → A) (h2 : P → B) : if (!decide P) = true then A else B := by
  by_cases h : P
  · rw [decide_eq_true h]
    exact iteF (h2 h)
  · rw [decide_eq_false h]
    exact iteT (h1 h)
end
end Ct
/-! stores, room, loops, comprehensions -/
namespace Ct
open PySem PySem.Spec PyProof.Rows L2
theorem hu1 {k : Nat} {A : Around} (r : Room k A) : A.units + 1 < cLine := by have := r.un; omega
theorem hu64 {k : Nat} {A : Around} (r : Room k A) : A.units + 64 < cLine := by have := r.un; omega
theorem hu65 {k : Nat} {A : Around} (r : Room k A) : A.units + 65 < cLine := by have := r.un; omega
theorem hu120 {k : Nat} {A : Around} (r : Room k A) : A.units + 120 < cLine := by have := r.un; omega
section
variable {X : Cx}
def rSetA : TSet := fun o i v H Q => rSetL o i v H Q ∨ rSetD o i v H Q
theorem set_any (hu : X.A.units + 1 < cLine) : PSet X rSetA := by
  intro pins s σ H o i v ov iv u Q I ro ri rv h
  rcases h with h | h
  · exact set_list pins s σ H o i v ov iv u Q I ro ri rv h
  · exact set_dict hu pins s σ H o i v ov iv u Q I ro ri rv h
def rAugA : TIp := fun x y H Q => (ipI fun i j => i + j) x y H Q ∨ ∃ i j, x = .str i ∧ y = .str j ∧ i.length + j.length ≤ sizeLine ∧ Q (.str (i ++ j)) H
theorem ip_addA : PIp X .Add rAugA := by
  intro pins s σ H x y v u Q I rx ry h
  rcases h with h | h
  · exact ip_add pins s σ H x y v u Q I rx ry h
  · exact iop_add_str pins s σ H x y v u Q I rx ry h
end
abbrev rSplit : V → List V → Hp → VK → Prop := fun x xs H Q => ∃ a b, x = .str a ∧ xs = [.str b] ∧ (b.length == 0) = false ∧ a.length + 2 ≤ sizeLine ∧ rNewStrs (Txt.split a b) H Q
abbrev rJoin (K : PySem.W.Frag) : V → List V → Hp → VK → Prop := fun x xs H Q => ∃ a p, ∃ ys : List Str, x = .str a ∧ xs = [.ref p] ∧ (SqL K H p (ys.map V.str) ∨ SqT K H p (ys.map V.str)) ∧ (ys.map (·.length)).sum + ys.length * a.length ≤ 16777216 ∧ Q (.str (Txt.join a ys)) H
section
variable {K : PySem.W.Frag} {σ : L2.St} {H : Hp} {Q : VK} {D : Ends} {x y v : V} {z w : Str} {a : Addr} {xs : List V} {n m : Int} {k : Key} {kvs : List (Key × V)}
theorem g_setI {o i : V} {QH : Hp → Prop} {j : Nat} (h : H a = some (.lst xs)) (hj : ixN xs.length n = some j) (q : QH (upd H a (.lst (xs.set j v)))) : rSetA (.ref a) (.int n) v H QH := .inl ⟨a, xs, n, j, rfl, rfl, h, hj, q⟩
theorem g_setK {QH : Hp → Prop} (k : Key) (h : H a = some (.dK kvs)) (hl : kvs.length < sizeLine) (q : QH (upd H a (.dK (putK kvs k v)))) : rSetA (.ref a) (kV k) v H QH := .inr ⟨a, _, rfl, DPut.k h hl, q⟩
theorem g_augI (q : Q (.int (n + m)) H) : rAugA (.int n) (.int m) H Q := .inl ⟨n, m, rfl, rfl, q⟩
theorem g_augS (h : z.length + w.length ≤ sizeLine) (q : Q (.str (z ++ w)) H) : rAugA (.str z) (.str w) H Q := .inr ⟨z, w, rfl, rfl, h, q⟩
theorem g_split (h : (w.length == 0) = false) (hl : z.length + 2 ≤ sizeLine) (q : ∀ p, H p = none → Q (.ref p) (upd H p (.lst ((Txt.split z w).map V.str)))) : rSplit (.str z) [.str w] H Q := ⟨z, w, rfl, rfl, h, hl, q⟩
theorem g_join {ys : List Str} (h : SqL K H a (ys.map V.str) ∨ SqT K H a (ys.map V.str)) (hl : (ys.map (·.length)).sum + ys.length * z.length ≤ 16777216) (q : Q (.str (Txt.join z ys)) H) : rJoin K (.str z) [.ref a] H Q := ⟨z, a, ys, rfl, rfl, h, hl, q⟩
theorem g_pop (h : H a = some (.lst xs)) (hx : xs[xs.length - 1]? = some y) (q : Q y (upd H a (.lst xs.dropLast))) : rPop (.ref a) [] H Q := ⟨a, xs, y, rfl, rfl, h, hx, q⟩
theorem g_app (h : H a = some (.lst xs)) (hl : xs.length < sizeLine) (q : Q .non (upd H a (.lst (xs ++ [y])))) : rAppend (.ref a) [y] H Q := ⟨a, xs, y, rfl, rfl, h, hl, q⟩
theorem g_all {bs : List Bool} (h : SqL K H a (bs.map V.bl)) (q : Q (.bl (bs.all id)) H) : rAll K [.ref a] H Q := ⟨a, bs, rfl, h, q⟩
theorem g_any {bs : List Bool} (h : SqL K H a (bs.map V.bl)) (q : Q (.bl (bs.any id)) H) : rAny K [.ref a] H Q := ⟨a, bs, rfl, h, q⟩
theorem g_tyL (h : SqL K H a xs) : tyV K "list" (.ref a) H := .inl ⟨rfl, _, h⟩
theorem g_lrev {te : TE} (q : te σ H fun v H1 => ∃ (a : Addr) (xs : List V), v = .ref a ∧ SqL K H1 a xs ∧ ∀ q, H1 q = none → Q (.ref q) (upd H1 q (.lst xs.reverse))) : tListRev K te σ H Q := q
theorem g_par {i j : Nat} {ta : TA} (q : ta σ H fun vs H1 => ∃ v w, vs = [v, w] ∧ D.nx ((σ.set i (some v)).set j (some w)) H1) : tPar i j ta D σ H := q
theorem g_par3 {i j l : Nat} {ta : TA} (q : ta σ H fun vs H1 => ∃ u v w, vs = [u, v, w] ∧ D.nx (((σ.set i (some u)).set j (some v)).set l (some w)) H1) : tPar3 i j l ta D σ H := q
theorem g_asg {te : TE} {g : TG} (q : te σ H fun x H1 => g x σ H1 D.nx) : tAsg te g D σ H := q
theorem g_sub {to ti : TE} {t : TSet} {QS : L2.St → Hp → Prop} (q : to σ H fun o H1 => ti σ H1 fun i H2 => t o i v H2 fun H3 => QS σ H3) : gSub to ti t v σ H QS := q
theorem g_name {i : Nat} {QS : L2.St → Hp → Prop} (q : QS (σ.set i (some v)) H) : gName i v σ H QS := q
theorem g_aug {i : Nat} {te : TE} {ti : TIp} (h : σ[i]? = some (some x)) (q : te σ H fun y H1 => ti x y H1 fun z H2 => D.nx (σ.set i (some z)) H2) : tAug i te ti D σ H := ⟨x, h, q⟩
/-! ### loops: W, the invariant; B, what holds behind -/
theorem l_while {c : TT} {tb : TS} (W : Nat → L2.St → Hp → Prop) (B : L2.St → Hp → Prop) (h0 : ∃ m, W m σ H)
    (hs : ∀ X : L2.St → Hp → Prop, (∀ σ H, B σ H → X σ H) → ∀ m σ H, W m σ H → c σ H fun b H1 => if b = true then ∃ N : L2.St → Hp → Prop, (∀ σ' H', N σ' H' → ∃ m', m' < m ∧ W m' σ' H') ∧ tb { D with nx := N, ct := N, bk := X } σ H1 else X σ H1)
    (hd : ∀ σ H, B σ H → D.nx σ H) : tWhile c tb D σ H := ⟨W, h0, hs D.nx hd⟩
theorem g_turn {W : Nat → L2.St → Hp → Prop} {k : Nat} {P : (L2.St → Hp → Prop) → Prop} (q : P fun σ' H' => ∃ m', m' < k ∧ W m' σ' H') : ∃ N : L2.St → Hp → Prop, (∀ σ' H', N σ' H' → ∃ m', m' < k ∧ W m' σ' H') ∧ P N := ⟨_, fun _ _ h => h, q⟩
def LcGo (J : It) (g : TG) (tt : TT) (te : TE) (vs : List Nat) (σ : L2.St) (H : Hp) (Q : VK) : Prop :=
  ∀ D, H D = none → ∃ W : Nat → Nat → Hp → Prop, (∃ m, W 0 m (upd H D (.lst []))) ∧ ∀ i m H, W i m H →
      (J.stop i H ∧ Q (.ref D) H) ∨ (J.go i H ∧ ∃ Nx : Hp → Prop, (∀ H', Nx H' → ∃ m', m' < m ∧ W (i + 1) m' H') ∧ ∀ x H', J.yld i H x H' → g x (wipe σ vs) H' fun σ2 H2 => wipe σ2 vs = wipe σ vs ∧ tt σ2 H2 fun b H3 =>
        if b = true then te σ2 H3 fun y H4 => ∃ acc, H4 D = some (.lst acc) ∧ acc.length < sizeLine ∧ Nx (upd H4 D (.lst (acc ++ [y]))) else Nx H3)
def ForGo (J : It) (g : TG) (tb : TS) (D : Ends) (σ : L2.St) (H : Hp) : Prop :=
  ∃ W : Nat → Nat → L2.St → Hp → Prop, (∃ m, W 0 m σ H) ∧ ∀ i m σ H, W i m σ H →
      (J.stop i H ∧ D.nx σ H) ∨ (J.go i H ∧ ∃ N : L2.St → Hp → Prop, (∀ σ' H', N σ' H' → ∃ m', m' < m ∧ W (i + 1) m' σ' H') ∧ ∀ x H', J.yld i H x H' → g x σ H' fun σ2 H2 => tb { D with nx := N, ct := N, bk := D.nx } σ2 H2)
/-! ### comprehensions: R, what is known of the list so far behind i turns -/
theorem c_lc {M : Cells → Prop} {Γ : List Kn} {L : Cells} {J : It} {n : Nat} {G : Hp → Prop} {Y : Nat → Hp → V → Hp → Prop} {g : TG} {tt : TT} {te : TE} {vs : List Nat} (wk : Walk J n G Y) (w : WR M Γ L H) (R : Nat → List V → Hp → Prop)
    (r0 : ∀ G, R 0 [] G) (hz : ∀ i acc G, i < n → R i acc G → acc.length < sizeLine) (hG : ∀ i acc D H, i ≤ n → WR M (R i acc :: Γ) ((D, .lst acc) :: L) H → G H)
    (hs : ∀ i x D acc H H' (N : V → Hp → Prop) (N0 : Hp → Prop), i < n → WR M (R i acc :: Γ) ((D, .lst acc) :: L) H → Y i H x H' →
      (∀ y H4, WR M (R (i + 1) (acc ++ [y]) :: R i acc :: Γ) ((D, .lst acc) :: L) H4 → N y H4) → (∀ H3, WR M (R (i + 1) acc :: R i acc :: Γ) ((D, .lst acc) :: L) H3 → N0 H3) →
      g x (wipe σ vs) H' fun σ2 H2 => wipe σ2 vs = wipe σ vs ∧ tt σ2 H2 fun b H3 => if b = true then te σ2 H3 N else N0 H3)
    (hd : ∀ D acc H, WR M (R n acc :: Γ) ((D, .lst acc) :: L) H → Q (.ref D) H) :
    LcGo J g tt te vs σ H Q := by
  intro D hD
  refine lc_it wk (fun i H => ∃ acc, WR M (R i acc :: Γ) ((D, .lst acc) :: L) H) ⟨[], (w.new (.lst []) hD).more _ fun G _ => r0 G⟩ (fun i H hi ⟨acc, w⟩ => hG i acc D H hi w) ?_ (fun H ⟨acc, w⟩ => hd D acc H w)
  rintro i x H H' hi ⟨acc, w⟩ y
  have two : ∀ {k : Kn} {L' : Cells} {H' : Hp}, WR M (k :: R i acc :: Γ) L' H' → WR M (k :: Γ) L' H' := fun w => w.sub fun k hk => by
    cases hk with
    | head => exact .head _
    | tail _ hk => exact .tail _ (.tail _ hk)
  exact hs i x D acc H H' _ _ hi w y (fun v H4 w4 => ⟨acc, w4.cell (.head _), hz i acc H4 hi (w4.get (.tail _ (.head _))), acc ++ [v], two (w4.put0 _)⟩) (fun H3 w3 => ⟨acc, two w3⟩)
theorem g_lc {wi : TI} {g : TG} {tt : TT} {te : TE} {vs : List Nat} (q : wi σ H fun J H1 => LcGo J g tt te vs σ H1 Q) : tLc wi g tt te vs σ H Q := q
theorem g_for {wi : TI} {g : TG} {tb : TS} (q : wi σ H fun J H1 => ForGo J g tb D σ H1) : tFor wi g tb D σ H := q
/-- a for: J and Y as the walk tells -/
theorem c_for {J : It} {n : Nat} {G : Hp → Prop} {Y : Nat → Hp → V → Hp → Prop} {g : TG} {tb : TS} (wk : Walk J n G Y) (Pv : Nat → L2.St → Hp → Prop) (B : L2.St → Hp → Prop) (h0 : Pv 0 σ H) (hG : ∀ i σ H, i ≤ n → Pv i σ H → G H)
    (hs : ∀ X : L2.St → Hp → Prop, (∀ σ H, B σ H → X σ H) → ∀ i x σ H H', i < n → Pv i σ H → Y i H x H' → g x σ H' fun σ2 H2 => tb { D with nx := Pv (i + 1), ct := Pv (i + 1), bk := X } σ2 H2) (he : ∀ σ H, Pv n σ H → B σ H) (hd : ∀ σ H, B σ H → D.nx σ H) :
    ForGo J g tb D σ H :=
  for_it wk Pv h0 hG (hs D.nx hd) fun σ H p => hd σ H (he σ H p)
/-! ### what is walked -/
theorem g_seqI {tl : TE} {R : It → Hp → Prop} (q : tl σ H fun x H1 => wSeq K x H1 R) : iSeq K tl σ H R := q
theorem g_inL {R : It → Hp → Prop} (h : SqL K H a xs) (q : R (Itl K a) H) : wSeq K (.ref a) H R := .inl ⟨a, rfl, ⟨_, h⟩, q⟩
theorem g_inT {R : It → Hp → Prop} (h : SqT K H a xs) (q : R (Itt K a) H) : wSeq K (.ref a) H R := .inr (.inl ⟨a, rfl, ⟨_, h⟩, q⟩)
theorem g_inStr {R : It → Hp → Prop} (q : R (Its z) H) : wSeq K (.str z) H R := .inr (.inr ⟨z, rfl, q⟩)
theorem g_rng {ta : TA} {R : It → Hp → Prop} (q : ta σ H fun vs H1 => ∃ j : Int, vs = [.int j] ∧ -(2 ^ 62) ≤ j ∧ j < 2 ^ 62 ∧ R (Itr 0 j.toNat) H1) : iRng1 ta σ H R := q
theorem g_rngI {R : It → Hp → Prop} (h1 : -(2 ^ 62) ≤ n) (h2 : n < 2 ^ 62) (q : R (Itr 0 n.toNat) H) : ∃ j : Int, [V.int n] = [.int j] ∧ -(2 ^ 62) ≤ j ∧ j < 2 ^ 62 ∧ R (Itr 0 j.toNat) H := ⟨n, rfl, h1, h2, q⟩
theorem g_yes {QB : Bool → Hp → Prop} (q : QB true H) : tYes σ H QB := q
theorem g_cut {t u : TS} (M : L2.St → Hp → Prop) (h1 : t { D with nx := M } σ H) (h2 : ∀ σ' H', M σ' H' → u D σ' H') : C8.tCut t u D σ H := ⟨M, h1, h2⟩
theorem g_gtup {k : Nat} {t : TGs} {QS : L2.St → Hp → Prop} (h : SqT K H a xs) (hl : xs.length = k) (q : t xs σ H QS) : gTup K k t (.ref a) σ H QS := ⟨a, xs, rfl, h, hl, q⟩
theorem g_gcons {t : TG} {u : TGs} {vs : List V} {QS : L2.St → Hp → Prop} (q : t v σ H fun σ' H' => u vs σ' H' QS) : gCons t u (v :: vs) σ H QS := ⟨v, vs, rfl, q⟩
theorem g_gnil {QS : L2.St → Hp → Prop} (q : QS σ H) : gNil [] σ H QS := ⟨rfl, q⟩
theorem at_in {α : Type} {l : List α} {r : Int} (h0 : 0 ≤ r) (h1 : r < (l.length : Int)) : ∃ x, atI l r = some x ∧ x ∈ l ∧ l[r.toNat]? = some x := by
  obtain ⟨j, rfl⟩ : ∃ j : Nat, r = (j : Int) := ⟨r.toNat, by omega⟩
  have hj : j < l.length := by omega
  exact ⟨l[j], atI_nat (List.getElem?_eq_getElem hj), List.getElem_mem hj, by simp [hj]⟩
theorem g_disp {trs : List (TE × TE)} (q : ∀ p, H p = none → tPairs trs σ (upd H p (.dK [])) fun ps H2 => H2 p = some (.dK []) ∧ ∃ kvs : List (Key × V), ps = kvs.map (fun kv => (kV kv.1, kv.2)) ∧ kvs.length ≤ 15 ∧ Q (.ref p) (upd H2 p (.dK (mergeK [] kvs)))) : tDisp trs σ H Q := q
theorem g_pairs {tk tv : TE} {r : List (TE × TE)} {Q : List (V × V) → Hp → Prop} (q : tk σ H fun x H1 => tv σ H1 fun y H2 => tPairs r σ H2 fun ps H3 => Q ((x, y) :: ps) H3) : tPairs ((tk, tv) :: r) σ H Q := q
theorem g_pairs0 {Q : List (V × V) → Hp → Prop} (q : Q [] H) : tPairs [] σ H Q := q
theorem cut_map {α : Type} (f : α → V) (xs : List α) (lo hi : Option Int) : ∃ ys : List α, cutV (xs.map f) lo hi = ys.map f ∧ (∀ y ∈ ys, y ∈ xs) ∧ ys.length ≤ xs.length := by
  refine ⟨(xs.drop (HT.sIx xs.length 0 lo)).take (HT.sIx xs.length xs.length hi - HT.sIx xs.length 0 lo), ?_, fun y hy => List.mem_of_mem_drop (List.mem_of_mem_take hy), ?_⟩
  · unfold cutV
    rw [List.map_take, List.map_drop, List.length_map]
  · rw [List.length_take, List.length_drop]
    omega
theorem sz {n : Nat} (h : n ≤ 1000000) : n ≤ sizeLine := Nat.le_trans h (by decide)
theorem szl {n : Nat} (h : n ≤ 1000000) : n < sizeLine := Nat.lt_of_le_of_lt h (by decide)
theorem at_map {α : Type} {f : α → V} {xs : List α} {i : Nat} {v : V} (h : (xs.map f)[i]? = some v) : ∃ x, xs[i]? = some x ∧ v = f x := by
  rw [List.getElem?_map] at h
  cases e : xs[i]? with
  | none =>
    rw [e] at h
    cases h
  | some x =>
    rw [e] at h
    exact ⟨x, rfl, (Option.some.inj h).symm⟩
end
end Ct
/-! texts: their sizes and signs -/
namespace Ct
open PySem PySem.Spec PyProof.Rows L2
/-- at most n signs, all of them below 128 -/
def TX (n : Nat) (z : Str) : Prop := z.length ≤ n ∧ ∀ c ∈ z.cps.toList, c < 128
theorem TX.mono {n m : Nat} {z : Str} (h : TX n z) (l : n ≤ m) : TX m z := ⟨Nat.le_trans h.1 l, h.2⟩
theorem cps_app (a b : Str) : (a ++ b).cps.toList = a.cps.toList ++ b.cps.toList := by rw [Str.cps_append, Array.toList_append]
theorem len_app (a b : Str) : (a ++ b).length = a.length + b.length := Str.length_append a b
theorem len_list (z : Str) : z.cps.toList.length = z.length := Array.length_toList
theorem TX.app {n m : Nat} {a b : Str} (h : TX n a) (h' : TX m b) : TX (n + m) (a ++ b) := by
  refine ⟨by rw [len_app]; exact Nat.add_le_add h.1 h'.1, fun c hc => ?_⟩
  rw [cps_app] at hc
  rcases List.mem_append.mp hc with hc | hc
  · exact h.2 c hc
  · exact h'.2 c hc
theorem TX.cut {n : Nat} {z : Str} (h : TX n z) (lo hi : Option Int) : TX n (cutS z lo hi) := by
  refine ⟨Nat.le_trans (cutS_length z lo hi) h.1, fun c hc => h.2 c ?_⟩
  have hc' : c ∈ (z.cps.toList.drop (HT.sIx z.length 0 lo)).take (HT.sIx z.length z.length hi - HT.sIx z.length 0 lo) := by simpa [cutS] using hc
  exact List.mem_of_mem_drop (List.mem_of_mem_take hc')
theorem cut_len (z : Str) (k : Nat) : (cutS z none (some (k : Int))).length ≤ k := by
  unfold cutS
  show ((((z.cps.toList.drop (HT.sIx z.length 0 none)).take (HT.sIx z.length z.length (some (k : Int)) - HT.sIx z.length 0 none)).toArray)).size ≤ k
  rw [HT.sIx_nat, HT.sIx_none, List.size_toArray, List.length_take]
  omega
theorem TX.cutN {n : Nat} {z : Str} (h : TX n z) (k : Nat) : TX k (cutS z none (some (k : Int))) := ⟨cut_len z k, (h.cut none (some (k : Int))).2⟩
theorem TX.sign {n : Nat} {z : Str} {c : Nat} (h : TX n z) (hc : c ∈ z.cps.toList) : TX 1 ⟨#[c]⟩ := ⟨Nat.le_refl 1, fun d hd => by
  have e : d = c := by simpa using hd
  subst e
  exact h.2 d hc⟩
theorem reps_list (c : Array Nat) : ∀ (k : Nat) (acc : Array Nat) (x : Nat), x ∈ ((List.replicate k c).foldl (· ++ ·) acc).toList → x ∈ acc.toList ∨ x ∈ c.toList
  | 0, acc, x, h => .inl h
  | k + 1, acc, x, h => by
    rw [List.replicate_succ, List.foldl_cons] at h
    rcases reps_list c k (acc ++ c) x h with h | h
    · rw [Array.toList_append] at h
      exact List.mem_append.mp h
    · exact .inr h
theorem mul_ok {z : Str} {k : Int} {n : Nat} (h : z.length ≤ n) (hn : n ≤ 10000) (h0 : 0 ≤ k) (h1 : k ≤ 1000) : MulOk z k := by
  refine ⟨?_, fun a b => ?_, fun a b => ?_⟩
  · rw [decide_eq_false (by omega), decide_eq_false (by omega)] <;> rfl
  · have hk : 0 < k := by omega
    have e0 : (9223372036854775 : Int) * k ≤ 9223372036854775 * 1000 := Int.mul_le_mul_of_nonneg_left h1 (by decide)
    have e : (9223372036854775 : Int) ≤ ((2 : Int) ^ 63 - 1) / k := (Int.le_ediv_iff_mul_le hk).mpr (by omega)
    omega
  · show decide (z.length * k.toNat > sizeLine) = false
    refine decide_eq_false ?_
    have e : z.length * k.toNat ≤ 10000 * 1000 := Nat.mul_le_mul (by omega) (by omega)
    have e2 : (10000 * 1000 : Nat) ≤ sizeLine := by decide
    omega
theorem TX.mul {n m : Nat} {z : Str} {k : Int} (h : TX n z) (h1 : k ≤ m) : TX (n * m) (Txt.mul z k) := by
  unfold Txt.mul
  split
  · exact ⟨Nat.zero_le _, fun c hc => absurd hc (List.not_mem_nil)⟩
  · rename_i hk
    have hm : 1 ≤ m := by omega
    split
    · exact ⟨Nat.le_trans h.1 (Nat.le_mul_of_pos_right _ hm), h.2⟩
    · refine ⟨?_, fun c hc => ?_⟩
      · show ((List.replicate k.toNat z.cps).foldl (· ++ ·) #[]).size ≤ n * m
        rw [size_reps]
        have e1 : k.toNat * z.cps.size ≤ m * n := Nat.mul_le_mul (by omega) h.1
        rw [Nat.mul_comm n m]
        simpa using e1
      · rcases reps_list z.cps k.toNat #[] c hc with hc | hc
        · exact absurd hc (by simp)
        · exact h.2 c hc
theorem joinL (sep : Str) : ∀ (ys : List Str) (c : Nat), c ∈ (Str.join sep ys).cps.toList → c ∈ sep.cps.toList ∨ ∃ y ∈ ys, c ∈ y.cps.toList
  | [], c, h => absurd h (by simp [Str.join, Str.empty])
  | [x], c, h => .inr ⟨x, .head _, h⟩
  | x :: y :: r, c, h => by
    have e : Str.join sep (x :: y :: r) = x ++ sep ++ Str.join sep (y :: r) := rfl
    rw [e, cps_app, cps_app] at h
    rcases List.mem_append.mp h with h | h
    · rcases List.mem_append.mp h with h | h
      · exact .inr ⟨x, .head _, h⟩
      · exact .inl h
    · rcases joinL sep (y :: r) c h with h | ⟨u, hu, h⟩
      · exact .inl h
      · exact .inr ⟨u, .tail _ hu, h⟩
theorem sum_le {n : Nat} : ∀ (ys : List Str), (∀ y ∈ ys, TX n y) → (ys.map (·.length)).sum ≤ n * ys.length
  | [], _ => Nat.zero_le _
  | y :: r, h => by
    rw [List.map_cons, List.sum_cons, List.length_cons, Nat.mul_succ]
    have h1 := (h y (.head _)).1
    have h2 := sum_le r fun z hz => h z (.tail _ hz)
    omega
theorem TX.join {n m k : Nat} {sep : Str} {ys : List Str} (hs : TX k sep) (h : ∀ y ∈ ys, TX n y) (hl : ys.length ≤ m) : TX (n * m + m * k) (Txt.join sep ys) := by
  have e : Txt.join sep ys = Str.join sep ys := StrLaws.glued_eq_join sep ys
  rw [e]
  refine ⟨Nat.le_trans (StrLaws.join_length_le sep ys) (Nat.add_le_add (Nat.le_trans (sum_le ys h) (Nat.mul_le_mul_left n hl)) (Nat.mul_le_mul hl hs.1)), fun c hc => ?_⟩
  rcases joinL sep ys c hc with hc | ⟨y, hy, hc⟩
  · exact hs.2 c hc
  · exact (h y hy).2 c hc
theorem join_fits {n m k : Nat} {sep : Str} {ys : List Str} (hs : TX k sep) (h : ∀ y ∈ ys, TX n y) (hl : ys.length ≤ m) (hz : n * m + m * k ≤ 16777216) : (ys.map (·.length)).sum + ys.length * sep.length ≤ 16777216 :=
  Nat.le_trans (Nat.add_le_add (Nat.le_trans (sum_le ys h) (Nat.mul_le_mul_left n hl)) (Nat.mul_le_mul hl hs.1)) hz
theorem tx_lit {n : Nat} {z : Str} (h : (decide (z.length ≤ n) && z.cps.toList.all fun c => decide (c < 128)) = true) : TX n z := by
  simp only [Bool.and_eq_true, decide_eq_true_eq, List.all_eq_true] at h
  exact h
theorem tx_lits {n : Nat} {zs : List Str} (h : (zs.all fun z => decide (z.length ≤ n) && z.cps.toList.all fun c => decide (c < 128)) = true) : ∀ z ∈ zs, TX n z := fun z hz => tx_lit (List.all_eq_true.mp h z hz)
theorem TX.ok {n : Nat} {z : Str} (h : TX n z) : PyData.strOk z = true := by
  unfold PyData.strOk
  rw [Array.all_eq_true_iff_forall_mem]
  intro c hc
  have := h.2 c (by simpa using hc)
  exact decide_eq_true (by omega)
/-! ### words in lists of words -/
theorem inV_str (z : Str) : ∀ ws : List Str, inV (.str z) (ws.map V.str) = decide (z ∈ ws)
  | [] => rfl
  | w :: r => by
    have ih := inV_str z r
    show (eqV (.str w) (.str z) || inV (.str z) (r.map V.str)) = _
    rw [ih]
    show ((w == z) || _) = _
    by_cases e : z = w
    · subst e
      simp
    · have e' : ¬ w = z := fun q => e q.symm
      simp [e, e']
theorem flat_strs : ∀ ws : List Str, (ws.map V.str).all flatV = true
  | [] => rfl
  | w :: r => flat_strs r
/-! ### data -/
theorem dp_strs {K : PySem.W.Frag} {H : Hp} : ∀ ws : List Str, DpAll K H (ws.map V.str) (ws.map PyData.str)
  | [] => .nil
  | w :: r => .cons (.str w) (dp_strs r)
theorem lay_strs : ∀ ws : List Str, (∀ w ∈ ws, PyData.strOk w = true) → PyData.canLayAll0 (ws.map PyData.str) = true
  | [], _ => rfl
  | w :: r, h => by
    have ih := lay_strs r fun z hz => h z (.tail _ hz)
    show (PyData.strOk w && PyData.canLayAll0 (r.map PyData.str)) = true
    rw [h w (.head _), ih] <;> rfl
theorem dep_strs : ∀ ws : List Str, PyData.depthAll (ws.map PyData.str) = 0
  | [] => rfl
  | w :: r => by
    show max 0 (PyData.depthAll (r.map PyData.str)) = 0
    rw [dep_strs r] <;> rfl
theorem shaped_strs {ws : List Str} (h : ∀ w ∈ ws, PyData.strOk w = true) : SeqAt.shaped (.list (ws.map PyData.str)) = true := by
  unfold SeqAt.shaped
  have e1 : PyData.canLay0 (.list (ws.map PyData.str)) = true := lay_strs ws h
  have e2 : PyData.depth (.list (ws.map PyData.str)) = 1 := by
    show PyData.depthAll (ws.map PyData.str) + 1 = 1
    rw [dep_strs]
  rw [e1, e2] <;> rfl
theorem g_neRefl {K : PySem.W.Frag} {H : Hp} {Q : VK} {z : Str} (q : Q (.bl false) H) : rNeA K (.str z) (.str z) H Q := g_neS (by
  rw [show (!decide (z = z)) = false by simp]
  exact q)
theorem show_bool (b : Bool) : ShowOk (.bool b) := by
  cases b <;> exact ⟨rfl, rfl, by decide, by decide⟩
end Ct
namespace Ct
open PySem PySem.Spec PyProof.Rows L2
local macro_rules | `(tactic| walk_at "g") => `(tactic| first
  | with_reducible refine g_seq ?_
  | with_reducible refine g_set ?_
  | with_reducible refine g_asg ?_
  | with_reducible refine g_sub ?_
  | with_reducible refine g_name ?_
  | with_reducible refine g_ret ?_
  | with_reducible refine g_if ?_
  | ((with_reducible refine' g_var ?gh ?_); (case gh => rfl))
  | with_reducible refine g_c ?_
  | with_reducible refine g_op ?_
  | with_reducible refine g_test ?_
  | with_reducible refine g_bl ?_
  | with_reducible refine g_int ?_
  | with_reducible refine g_cons ?_
  | with_reducible refine g_nil ?_
  | with_reducible refine g_call ?_
  | with_reducible refine g_cb ?_
  | with_reducible refine g_and ?_
  | with_reducible refine g_or ?_
  | with_reducible refine g_not ?_
  | with_reducible refine g_B ?_
  | with_reducible refine g_un ?_
  | with_reducible refine g_neg ?_
  | with_reducible refine g_chain ?_
  | with_reducible refine g_drop ?_
  | with_reducible refine g_par ?_
  | with_reducible refine g_par3 ?_
  | with_reducible refine g_tup ?_
  | with_reducible refine g_lst ?_
  | with_reducible refine g_sl ?_
  | with_reducible refine g_nop ?_
  | with_reducible refine g_part ?_
  | with_reducible refine g_bm0 ?_
  | with_reducible refine g_bm ?_
  | with_reducible refine g_m0 ?_
  | with_reducible refine g_m1 ?_
  | with_reducible refine g_lrev ?_
  | with_reducible refine g_ifE ?_
  | with_reducible refine g_andV ?_
  | with_reducible refine g_orV ?_
  | with_reducible refine g_notV ?_
  | with_reducible refine g_addI ?_
  | with_reducible refine g_subI ?_
  | with_reducible refine g_eqI ?_
  | with_reducible refine g_neI ?_
  | with_reducible refine g_eqS ?_
  | with_reducible refine g_neS ?_
  | with_reducible refine g_eqB ?_
  | with_reducible refine g_neB ?_
  | with_reducible refine g_ltI ?_
  | with_reducible refine g_gtI ?_
  | with_reducible refine g_leI ?_
  | with_reducible refine g_geI ?_
  | with_reducible refine g_inS ?_
  | with_reducible refine g_niS ?_
  | with_reducible refine g_max ?_
  | with_reducible refine g_min ?_
  | with_reducible refine g_abs ?_
  | with_reducible refine g_isN ?_
  | with_reducible refine g_notN ?_
  | with_reducible refine g_isB ?_
  | with_reducible refine g_notB ?_
  | with_reducible refine g_intB ?_
  | with_reducible refine g_intI ?_
  | with_reducible refine g_lc ?_
  | with_reducible refine g_for ?_
  | with_reducible refine g_seqI ?_
  | with_reducible refine g_inStr ?_
  | with_reducible refine g_rng ?_
  | with_reducible refine g_yes ?_
  | with_reducible refine g_pairs ?_
  | with_reducible refine g_pairs0 ?_
  | with_reducible refine iteT ?_
  | with_reducible refine iteF ?_
  | with_reducible refine g_nF ?_
  | with_reducible refine g_nT ?_
  | with_reducible refine g_gcons ?_
  | with_reducible refine g_gnil ?_
  | with_reducible refine g_next ?_
  | ((with_reducible refine' g_mulI ?gh ?_); (case gh => first | exact .inl (.inl ⟨by omega, by omega⟩) | exact .inl (.inr ⟨by omega, by omega⟩)))
  | ((with_reducible refine' g_modI ?gh ?_); (case gh => omega)))
local macro_rules | `(tactic| walk_at "gg") => `(tactic| (repeat walk_at "g"))
theorem st_of {N : List Str} {vs : List V} {n : Nat} (h : N.length = n) : L2.start N vs = vs.map some ++ List.replicate (n - vs.length) none := by
  unfold L2.start
  rw [h]
theorem cdiv_small {n m : Int} (h0 : 0 < m) (h1 : m < 2 ^ 60) : CDivA n m := by
  refine ⟨by omega, ?_⟩
  have e : m.natAbs < 2 ^ 60 := by omega
  have h2 : m.natAbs.log2 < 60 := (Nat.log2_lt (by omega)).mpr e
  have hm : (m == 0) = false := by simp; omega
  unfold Builtin.divisionGoesByPylong
  simp only [hm, Bool.false_eq_true, if_false, Bool.and_eq_false_iff, decide_eq_false_iff_not]
  left
  omega
/-- the dict of draws -/
def dealK (s n : Int) (l : Addr) : List (Key × V) := [(.inr "seed", .int s), (.inr "number", .int n), (.inr "left", .ref l)]
theorem dealK_len {s n : Int} {l : Addr} : (dealK s n l).length < sizeLine := (by decide : 3 < 16777216)
theorem dealK_seed {s n : Int} {l : Addr} : valV (dealK s n l) (.inr "seed") = some (.int s) := rfl
theorem dealK_number {s n : Int} {l : Addr} : valV (dealK s n l) (.inr "number") = some (.int n) := rfl
theorem dealK_left {s n : Int} {l : Addr} : valV (dealK s n l) (.inr "left") = some (.ref l) := rfl
theorem dealK_putN {s n m : Int} {l : Addr} : putK (dealK s n l) (.inr "number") (.int m) = dealK s m l := rfl
theorem dealK_putS {s n m : Int} {l : Addr} : putK (dealK s n l) (.inr "seed") (.int m) = dealK m n l := rfl
/-- where draws come from: a dict at d, its list at l -/
structure DealOk (s n : Int) (ns : List Int) : Prop where
  s0 : 0 ≤ s
  s1 : s < 2147483647
  n0 : 0 ≤ n
  nn : ∀ x ∈ ns, 0 ≤ x
  ln : ns.length ≤ 1000
def dealM (d l : Addr) : Cells → Prop := fun L => ∃ s n ns, DealOk s n ns ∧ L = [(d, .dK (dealK s n l)), (l, .lst (ns.map V.int))]

section
variable {K : PySem.W.Frag} {H : Hp} {Q : VK} {d l : Addr} {s n m : Int}
theorem dg_seed (h : H d = some (.dK (dealK s n l))) (q : Q (.int s) H) : rIxA K (.ref d) (.str "seed") H Q := g_ixD (DGet.k (k := .inr "seed") h) q
theorem dg_number (h : H d = some (.dK (dealK s n l))) (q : Q (.int n) H) : rIxA K (.ref d) (.str "number") H Q := g_ixD (DGet.k (k := .inr "number") h) q
theorem dg_left (h : H d = some (.dK (dealK s n l))) (q : Q (.ref l) H) : rIxA K (.ref d) (.str "left") H Q := g_ixD (DGet.k (k := .inr "left") h) q
theorem dp_number {QH : Hp → Prop} (h : H d = some (.dK (dealK s n l))) (q : QH (upd H d (.dK (dealK s m l)))) : rSetA (.ref d) (.str "number") (.int m) H QH := g_setK (.inr "number") h dealK_len q
theorem dp_seed {QH : Hp → Prop} (h : H d = some (.dK (dealK s n l))) (q : QH (upd H d (.dK (dealK m n l)))) : rSetA (.ref d) (.str "seed") (.int m) H QH := g_setK (.inr "seed") h dealK_len q
end
local macro_rules | `(tactic| walk_at "g") => `(tactic| first
  | ((with_reducible refine' dg_seed ?gh ?_); (case gh => assumption))
  | ((with_reducible refine' dg_number ?gh ?_); (case gh => assumption))
  | ((with_reducible refine' dg_left ?gh ?_); (case gh => assumption))
  | ((with_reducible refine' dp_number ?gh ?_); (case gh => assumption))
  | ((with_reducible refine' dp_seed ?gh ?_); (case gh => assumption)))
def t_law_draw (K : PySem.W.Frag) (ad : String → Addr) : TS := (tSeq (tWhile (tAnd (tTest (tOp (rEqA K) (tOp (rIxA K) (tVar 0) (tC (.str "number"))) (tC (.int 0)))) (tTest (tOp rGtA (tCB (rLenA K) (tCons (tOp (rIxA K) (tVar 0) (tC (.str "left"))) tNil)) (tC (.int 0))))) (tAsg (tBM0 K "list" rPop (tOp (rIxA K) (tVar 0) (tC (.str "left")))) (gSub (tVar 0) (tC (.str "number")) rSetA))) (tSeq (tAsg (tOp (rIxA K) (tVar 0) (tC (.str "number"))) (gName 2)) (tSeq (tIfS (tTest (tOp rGtA (tVar 2) (tC (.int 0)))) (tSeq (tAsg (tOp (rI CDivA fun i j => .int (i.fdiv j)) (tVar 2) (tVar 1)) (gSub (tVar 0) (tC (.str "number")) rSetA)) (tRet (tOp (rI (fun _ j => j ≠ 0) fun i j => .int (i.fmod j)) (tVar 2) (tVar 1)))) tNext) (tSeq (tAsg (tOp (rI (fun _ j => j ≠ 0) fun i j => .int (i.fmod j)) (tOp (rAddA K) (tOp (rMulA K) (tOp (rIxA K) (tVar 0) (tC (.str "seed"))) (tC (.int 48271))) (tC (.int 7919))) (tC (.int 2147483647))) (gName 3)) (tSeq (tAsg (tOp (rI (fun _ j => j ≠ 0) fun i j => .int (i.fmod j)) (tOp (rAddA K) (tOp (rMulA K) (tVar 3) (tC (.int 40692))) (tC (.int 104729))) (tC (.int 2147483399))) (gSub (tVar 0) (tC (.str "seed")) rSetA)) (tSeq (tAsg (tOp (rI (fun _ j => j ≠ 0) fun i j => .int (i.fmod j)) (tOp (rMulA K) (tOp (rIxA K) (tVar 0) (tC (.str "seed"))) (tOp (rIxA K) (tVar 0) (tC (.str "seed")))) (tC (.int 2147483563))) (gName 4)) (tRet (tOp (rI (fun _ j => j ≠ 0) fun i j => .int (i.fmod j)) (tOp (rAddA K) (tOp (rMulA K) (tOp (rI (fun _ j => j ≠ 0) fun i j => .int (i.fmod j)) (tOp (rMulA K) (tVar 3) (tVar 3)) (tC (.int 2147483629))) (tC (.int 2147483563))) (tVar 4)) (tVar 1)))))))))
def sp_law_draw (K : PySem.W.Frag) (ad : String → Addr) : Sp := fun vs H Q _ => ∃ (d l : Addr) (m : Int) (Γ : List Kn) (L : Cells), vs = [.ref d, .int m] ∧ 0 < m ∧ m < 2 ^ 60 ∧ WR (dealM d l) Γ L H ∧
  ∀ r H', 0 ≤ r → r < m → WR (dealM d l) Γ L H' → Q (.int r) H'
theorem ln_law_draw {K : PySem.W.Frag} {ad : String → Addr} : ∀ vs H Q E, sp_law_draw K ad vs H Q E → vs.length = 2 := by
  rintro vs H Q E ⟨d, l, m, Γ, L, rfl, _⟩
  rfl
theorem rd_law_draw {K : PySem.W.Frag} {ad : String → Addr} (N : List Str) (hN : N.length = 5) : ∀ vs H Q E, sp_law_draw K ad vs H Q E → t_law_draw K ad { nx := fun _ H' => Q .non H', rt := Q } (L2.start N vs) H := by
  rintro vs H Q E ⟨d, l, m, Γ, L, rfl, m0, m1, w, q⟩
  rw [st_of hN]
  unfold t_law_draw
  obtain ⟨L0, ⟨s, n, ns, ok, rfl⟩, w⟩ := w
  walk_at "g"
  refine l_while (fun k σ H => ∃ n ns, σ = [some (.ref d), some (.int m), none, none, none] ∧ DealOk s n ns ∧ ns.length = k ∧ WW Γ ((d, .dK (dealK s n l)) :: (l, .lst (ns.map V.int)) :: L) H)
    (fun σ H => ∃ n ns, σ = [some (.ref d), some (.int m), none, none, none] ∧ DealOk s n ns ∧ WW Γ ((d, .dK (dealK s n l)) :: (l, .lst (ns.map V.int)) :: L) H) ⟨_, n, ns, rfl, ok, rfl, w⟩ ?_ ?_
  · rintro X hX k σ H ⟨n, ns, rfl, ok, rfl, w⟩
    have cd : H d = some (.dK (dealK s n l)) := w.cell (.head _)
    have cl : H l = some (.lst (ns.map V.int)) := w.cell (.tail _ (.head _))
    walk_at "gg"
    refine g_iteD (fun e => ?_) (fun e => hX _ _ ⟨n, ns, rfl, ok, w⟩)
    walk_at "gg"
    refine g_lenL (sqL cl) ?_
    walk_at "gg"
    refine g_iteD (fun e1 => ?_) (fun e1 => hX _ _ ⟨n, ns, rfl, ok, w⟩)
    refine g_turn ?_
    walk_at "gg"
    refine ⟨g_tyL (sqL cl), ?_⟩
    obtain ⟨ms, z, rfl⟩ : ∃ ms z, ns = ms ++ [z] := by
      refine ⟨ns.dropLast, ns.getLast ?_, (List.dropLast_concat_getLast _).symm⟩
      rintro rfl
      simp at e1
    refine g_pop cl (y := .int z) (by simp) ?_
    have w1 := w.put 1 (.lst (ms.map V.int)) rfl
    have cd1 : (upd H l (.lst ((ms ++ [z]).map V.int).dropLast)) d = some (.dK (dealK s n l)) := by
      rw [upd_ne (w.ne (i := 0) (j := 1) rfl rfl (by decide))]
      exact cd
    walk_at "gg"
    have w2 := w1.put 0 (.dK (dealK s z l)) rfl
    have hz : (((ms ++ [z]).map V.int).dropLast) = ms.map V.int := by simp
    rw [hz]
    have zn : 0 ≤ z := ok.nn z (by simp)
    exact ⟨ms.length, by simp, z, ms, rfl, ⟨ok.s0, ok.s1, zn, fun x hx => ok.nn x (by simp [hx]), by have := ok.ln; simp at this; omega⟩, rfl, w2⟩
  · rintro σ H ⟨n, ns, rfl, ok, w⟩
    have cd : H d = some (.dK (dealK s n l)) := w.cell (.head _)
    have cl : H l = some (.lst (ns.map V.int)) := w.cell (.tail _ (.head _))
    have s0 := ok.s0
    have s1 := ok.s1
    walk_at "gg"
    refine g_iteD (fun hn => ?_) (fun hn => ?_)
    · walk_at "gg"
      refine g_divI (cdiv_small m0 m1) ?_
      walk_at "gg"
      refine q _ _ (Int.emod_nonneg _ (by omega)) (Int.emod_lt_of_pos _ m0) ⟨_, ⟨_, _, _, ⟨ok.s0, ok.s1, ?_, ok.nn, ok.ln⟩, rfl⟩, w.put 0 _ rfl⟩
      rw [Int.fdiv_eq_ediv_of_nonneg n (by omega)]
      exact Int.ediv_nonneg (by omega) (by omega)
    · walk_at "gg"
      have a0 : 0 ≤ (s * 48271 + 7919) % 2147483647 := Int.emod_nonneg _ (by decide)
      have a1 : (s * 48271 + 7919) % 2147483647 < 2147483647 := Int.emod_lt_of_pos _ (by decide)
      generalize (s * 48271 + 7919) % 2147483647 = a at a0 a1 ⊢
      walk_at "gg"
      have b0 : 0 ≤ (a * 40692 + 104729) % 2147483399 := Int.emod_nonneg _ (by decide)
      have b1 : (a * 40692 + 104729) % 2147483399 < 2147483399 := Int.emod_lt_of_pos _ (by decide)
      generalize (a * 40692 + 104729) % 2147483399 = b at b0 b1 ⊢
      have w2 := w.put 0 (.dK (dealK b n l)) rfl
      have cd2 := w2.cell (.head _)
      walk_at "gg"
      have c0 : 0 ≤ a * a % 2147483629 := Int.emod_nonneg _ (by decide)
      have c1 : a * a % 2147483629 < 2147483629 := Int.emod_lt_of_pos _ (by decide)
      walk_at "gg"
      exact q _ _ (Int.emod_nonneg _ (by omega)) (Int.emod_lt_of_pos _ m0) ⟨_, ⟨_, _, _, ⟨b0, by omega, ok.n0, ok.nn, ok.ln⟩, rfl⟩, w2⟩
def t_law_deal (K : PySem.W.Frag) (ad : String → Addr) : TS := (tSeq (tAsg (tLc (iSeq K (tSl (rSlAny K) (tVar 0) (tPart (tVar 1)) (tPart (tC (.int 63))))) (gName 2) tYes (tCB rMax2' (tCons (tVar 2) (tCons (tOp (rI0 fun i j => .int (i - j)) (tC (.int 0)) (tVar 2)) tNil))) [2]) (gName 3)) (tSeq (tAsg (tOp (rAddA K) (tC (.int 7919)) (tVar 1)) (gName 4)) (tSeq (tFor (iSeq K (tVar 3)) (gName 2) (tAsg (tOp (rI (fun _ j => j ≠ 0) fun i j => .int (i.fmod j)) (tOp (rAddA K) (tOp (rMulA K) (tVar 4) (tC (.int 48271))) (tOp (rI (fun _ j => j ≠ 0) fun i j => .int (i.fmod j)) (tVar 2) (tC (.int 2147483629)))) (tC (.int 2147483647))) (gName 4))) (tRet (tDisp [((tC (.str "seed")), (tVar 4)), ((tC (.str "number")), (tC (.int 0))), ((tC (.str "left")), (tListRev K (tLc (iSeq K (tVar 3)) (gName 2) (tTest (tOp rGe (tVar 2) (tOp (rI CPow fun i j => .int (i ^ j.toNat)) (tC (.int 10)) (tC (.int 18))))) (tVar 2) [2])))])))))
def sp_law_deal (K : PySem.W.Frag) (ad : String → Addr) : Sp := fun vs H Q _ => ∃ (a : Addr) (ns : List Int) (b : Int) (Γ : List Kn), vs = [.ref a, .int b] ∧ ns.length ≤ 1000 ∧ 0 ≤ b ∧ b ≤ 1000 ∧ WR noM ((fun G => SqL K G a (ns.map V.int)) :: Γ) [] H ∧
  ∀ d l H', WR (dealM d l) ((fun G => SqL K G a (ns.map V.int)) :: Γ) [] H' → Q (.ref d) H'
theorem ln_law_deal {K : PySem.W.Frag} {ad : String → Addr} : ∀ vs H Q E, sp_law_deal K ad vs H Q E → vs.length = 2 := by
  rintro vs H Q E ⟨a, ns, b, Γ, rfl, _⟩
  rfl
/-- a list of whole numbers, none below 0 -/
def Rnn : Nat → List V → Hp → Prop := fun i acc _ => ∃ ks : List Int, acc = ks.map V.int ∧ ks.length ≤ i ∧ ∀ k ∈ ks, 0 ≤ k
theorem rd_law_deal {K : PySem.W.Frag} {ad : String → Addr} (N : List Str) (hN : N.length = 5) : ∀ vs H Q E, sp_law_deal K ad vs H Q E → t_law_deal K ad { nx := fun _ H' => Q .non H', rt := Q } (L2.start N vs) H := by
  rintro vs H Q E ⟨a, ns, b, Γ, rfl, hl, hb0, hb1, w, q⟩
  rw [st_of hN]
  show t_law_deal K ad _ [some (.ref a), some (.int b), none, none, none] H
  unfold t_law_deal
  have ha := w.get (.head _)
  walk_at "gg"
  refine g_slL ha fun p np => ?_
  obtain ⟨ms, em, hm, hml⟩ := cut_map V.int ns (some b) (some 63)
  rw [em]
  have w1 := w.know (.lst (ms.map V.int)) np
  refine g_inL (sqL (w1.get (.head _))) ?_
  refine c_lc (walk_list (xs := ms.map V.int)) w1 Rnn (fun _ => ⟨[], rfl, by simp, by simp⟩) ?_ ?_ ?_ ?_
  · rintro i acc G hi ⟨ks, rfl, h, _⟩
    rw [List.length_map] at hi ⊢
    exact szl (by omega)
  · intro i acc D H hi w
    exact sqL (w.get (.tail _ (.head _)))
  · rintro i x D acc H H' N N0 hi w ⟨rfl, hx⟩ k k0
    obtain ⟨z, hz, rfl⟩ := at_map hx
    walk_at "g"
    refine ⟨rfl, ?_⟩
    walk_at "gg"
    refine k _ _ (w.more _ fun G hG => ?_)
    obtain ⟨ks, rfl, h1, h2⟩ := hG _ (.head _)
    refine ⟨ks ++ [if 0 - z > z then 0 - z else z], by simp, by simp; omega, ?_⟩
    intro y hy
    rcases List.mem_append.mp hy with hy | hy
    · exact h2 y hy
    · simp only [List.mem_singleton] at hy
      subst hy
      split <;> omega
  · intro p2 acc H w
    obtain ⟨ks, rfl, h1, h2⟩ := w.get (.head _)
    rw [List.length_map] at h1
    have w := w.fix
    walk_at "gg"
    refine g_inL (sqL (w.get (.head _))) ?_
    refine c_for (walk_list (xs := ks.map V.int)) (fun i σ H => ∃ y s, σ = [some (.ref a), some (.int b), y, some (.ref p2), some (.int s)] ∧ 0 ≤ s ∧ s < 2147483647 ∧ WR noM ((fun G => G p2 = some (.lst (ks.map V.int))) :: (fun G => SqL K G a (ns.map V.int)) :: Γ) [] H)
      (fun σ H => ∃ y s, σ = [some (.ref a), some (.int b), y, some (.ref p2), some (.int s)] ∧ 0 ≤ s ∧ s < 2147483647 ∧ WR noM ((fun G => G p2 = some (.lst (ks.map V.int))) :: (fun G => SqL K G a (ns.map V.int)) :: Γ) [] H)
      ⟨_, _, rfl, by omega, by omega, w.sub fun k hk => ?_⟩ ?_ ?_ (fun _ _ h => h) ?_
    · rcases hk with _ | ⟨_, _ | ⟨_, hk⟩⟩
      · exact .head _
      · exact .tail _ (.tail _ (.tail _ (.head _)))
      · exact .tail _ (.tail _ (.tail _ (.tail _ hk)))
    · rintro i σ H _ ⟨_, _, _, _, _, w⟩
      exact sqL (w.get (.head _))
    · rintro X hX i x σ H H' hi ⟨y, s, rfl, s0, s1, w⟩ ⟨rfl, hx⟩
      obtain ⟨z, hz, rfl⟩ := at_map hx
      have zm : 0 ≤ z % 2147483629 := Int.emod_nonneg _ (by decide)
      walk_at "gg"
      exact ⟨_, _, rfl, Int.emod_nonneg _ (by decide), Int.emod_lt_of_pos _ (by decide), w⟩
    · rintro σ H ⟨y, s, rfl, s0, s1, w⟩
      walk_at "gg"
      refine g_disp fun d nd => ?_
      have w := w.new (.dK []) nd
      walk_at "gg"
      refine g_inL (sqL (w.get (.head _))) ?_
      refine c_lc (walk_list (xs := ks.map V.int)) w Rnn (fun _ => ⟨[], rfl, by simp, by simp⟩) ?_ ?_ ?_ ?_
      · rintro i acc G hi ⟨ks, rfl, h, _⟩
        rw [List.length_map] at hi ⊢
        exact szl (by omega)
      · intro i acc D H hi w
        exact sqL (w.get (.tail _ (.head _)))
      · rintro i x D acc H H' N N0 hi w ⟨rfl, hx⟩ k k0
        obtain ⟨z, hz, rfl⟩ := at_map hx
        walk_at "g"
        refine ⟨rfl, ?_⟩
        walk_at "gg"
        refine g_powI ⟨by decide, by decide, by decide⟩ ?_
        walk_at "gg"
        have hzk : 0 ≤ z := h2 z (List.mem_of_getElem? hz)
        refine g_iteD (fun _ => ?_) (fun _ => ?_)
        · walk_at "gg"
          refine k _ _ (w.more _ fun G hG => ?_)
          obtain ⟨us, rfl, h3, h4⟩ := hG _ (.head _)
          refine ⟨us ++ [z], by simp, by simp; omega, ?_⟩
          intro y hy
          rcases List.mem_append.mp hy with hy | hy
          · exact h4 y hy
          · simp only [List.mem_singleton] at hy
            subst hy
            exact hzk
        · refine k0 _ (w.more _ fun G hG => ?_)
          obtain ⟨us, rfl, h3, h4⟩ := hG _ (.head _)
          exact ⟨us, rfl, by omega, h4⟩
      · intro p4 acc H w
        obtain ⟨us, rfl, h3, h4⟩ := w.get (.head _)
        rw [List.length_map] at h3
        refine ⟨p4, us.map V.int, rfl, sqL (w.cell (.head _)), fun l nl => ?_⟩
        have w := w.drop1.new (.lst (us.map V.int).reverse) nl
        walk_at "gg"
        refine ⟨w.cell (.tail _ (.head _)), [(.inr "seed", .int s), (.inr "number", .int 0), (.inr "left", .ref l)], rfl, (by decide : 3 ≤ 15), ?_⟩
        have w := w.put1 (.dK (dealK s 0 l))
        have w := (w.perm (List.Perm.swap _ _ _)).sub (Γ' := (fun G => SqL K G a (ns.map V.int)) :: Γ) fun k hk => by
          rcases hk with _ | ⟨_, hk⟩
          · exact .tail _ (.tail _ (.head _))
          · exact .tail _ (.tail _ (.tail _ hk))
        obtain ⟨L0, m0, w⟩ := w
        obtain rfl : L0 = [] := m0
        refine q d l _ ⟨_, ⟨s, 0, us.reverse, ⟨s0, s1, by decide, fun x hx => h4 x (by simpa using hx), by rw [List.length_reverse]; omega⟩, rfl⟩, ?_⟩
        rw [List.map_reverse]
        exact w
end Ct
namespace Ct
open PySem PySem.Spec PyProof.Rows L2
local macro_rules | `(tactic| walk_at "g") => `(tactic| first
  | with_reducible refine g_seq ?_
  | with_reducible refine g_set ?_
  | with_reducible refine g_asg ?_
  | with_reducible refine g_sub ?_
  | with_reducible refine g_name ?_
  | with_reducible refine g_ret ?_
  | with_reducible refine g_if ?_
  | ((with_reducible refine' g_var ?gh ?_); (case gh => rfl))
  | with_reducible refine g_c ?_
  | with_reducible refine g_op ?_
  | with_reducible refine g_test ?_
  | with_reducible refine g_bl ?_
  | with_reducible refine g_int ?_
  | with_reducible refine g_cons ?_
  | with_reducible refine g_nil ?_
  | with_reducible refine g_call ?_
  | with_reducible refine g_cb ?_
  | with_reducible refine g_and ?_
  | with_reducible refine g_or ?_
  | with_reducible refine g_not ?_
  | with_reducible refine g_B ?_
  | with_reducible refine g_un ?_
  | with_reducible refine g_neg ?_
  | with_reducible refine g_chain ?_
  | with_reducible refine g_drop ?_
  | with_reducible refine g_par ?_
  | with_reducible refine g_par3 ?_
  | with_reducible refine g_tup ?_
  | with_reducible refine g_lst ?_
  | with_reducible refine g_sl ?_
  | with_reducible refine g_nop ?_
  | with_reducible refine g_part ?_
  | with_reducible refine g_bm0 ?_
  | with_reducible refine g_bm ?_
  | with_reducible refine g_m0 ?_
  | with_reducible refine g_m1 ?_
  | with_reducible refine g_lrev ?_
  | with_reducible refine g_ifE ?_
  | with_reducible refine g_andV ?_
  | with_reducible refine g_orV ?_
  | with_reducible refine g_notV ?_
  | with_reducible refine g_addI ?_
  | with_reducible refine g_subI ?_
  | with_reducible refine g_eqI ?_
  | with_reducible refine g_neI ?_
  | with_reducible refine g_eqS ?_
  | with_reducible refine g_neS ?_
  | with_reducible refine g_eqB ?_
  | with_reducible refine g_neB ?_
  | with_reducible refine g_ltI ?_
  | with_reducible refine g_gtI ?_
  | with_reducible refine g_leI ?_
  | with_reducible refine g_geI ?_
  | with_reducible refine g_inS ?_
  | with_reducible refine g_niS ?_
  | with_reducible refine g_max ?_
  | with_reducible refine g_min ?_
  | with_reducible refine g_abs ?_
  | with_reducible refine g_isN ?_
  | with_reducible refine g_notN ?_
  | with_reducible refine g_isB ?_
  | with_reducible refine g_notB ?_
  | with_reducible refine g_intB ?_
  | with_reducible refine g_intI ?_
  | with_reducible refine g_lc ?_
  | with_reducible refine g_for ?_
  | with_reducible refine g_seqI ?_
  | with_reducible refine g_inStr ?_
  | with_reducible refine g_rng ?_
  | with_reducible refine g_yes ?_
  | with_reducible refine g_pairs ?_
  | with_reducible refine g_pairs0 ?_
  | with_reducible refine iteT ?_
  | with_reducible refine iteF ?_
  | with_reducible refine g_nF ?_
  | with_reducible refine g_nT ?_
  | with_reducible refine g_gcons ?_
  | with_reducible refine g_gnil ?_
  | with_reducible refine g_next ?_
  | ((with_reducible refine' g_mulI ?gh ?_); (case gh => first | exact .inl (.inl ⟨by omega, by omega⟩) | exact .inl (.inr ⟨by omega, by omega⟩)))
  | ((with_reducible refine' g_modI ?gh ?_); (case gh => omega)))
local macro_rules | `(tactic| walk_at "gg") => `(tactic| (repeat walk_at "g"))

/-- the words that are no names -/
def keptW : List Str := ["unknown", "fields", "draw", "from", "set", "see", "if", "else", "end", "times", "not", "ask", "at", "given"]
def bookW : List Str := ["unknown", "fields", "draw", "from", "set", "see", "if", "else", "end", "times"]
def askW : List Str := ["not", "ask", "at", "given"]
def lettersW : Str := "abcdefghijklmnopqrstuvwxyz"
/-- a name -/
def nameB (z : Str) : Bool := decide (1 ≤ z.length) && decide (z.length ≤ 6) && !decide (z ∈ keptW) && z.cps.toList.all fun c => decide (c ∈ lettersW.cps.toList)
def t_law_kept (K : PySem.W.Frag) (ad : String → Addr) : TS := (tRet (tM1 rSplit (tC (.str "unknown fields draw from set see if else end times not ask at given")) (tC (.str " "))))
def sp_law_kept (K : PySem.W.Frag) (ad : String → Addr) : Sp := fun vs H Q _ => ∃ (M : Cells → Prop) (Γ : List Kn) (L : Cells), vs = [] ∧ WR M Γ L H ∧ ∀ p H', WR M ((fun G => G p = some (.lst (keptW.map V.str))) :: Γ) L H' → Q (.ref p) H'
theorem ln_law_kept {K : PySem.W.Frag} {ad : String → Addr} : ∀ vs H Q E, sp_law_kept K ad vs H Q E → vs.length = 0 := by
  rintro vs H Q E ⟨M, Γ, L, rfl, _⟩
  rfl
theorem kept_split : Txt.split "unknown fields draw from set see if else end times not ask at given" " " = keptW := by decide +kernel
theorem rd_law_kept {K : PySem.W.Frag} {ad : String → Addr} (N : List Str) (hN : N.length = 0) : ∀ vs H Q E, sp_law_kept K ad vs H Q E → t_law_kept K ad { nx := fun _ H' => Q .non H', rt := Q } (L2.start N vs) H := by
  rintro vs H Q E ⟨M, Γ, L, rfl, w, q⟩
  rw [st_of hN]
  unfold t_law_kept
  walk_at "gg"
  refine ⟨⟨_, rfl⟩, ?_⟩
  walk_at "gg"
  refine g_split (by decide) (by decide) fun p np => ?_
  rw [kept_split]
  exact q p _ (w.know _ np)
theorem nameB_short {z : Str} (h : ¬ (1 ≤ (z.length : Int))) : nameB z = false := by
  unfold nameB
  rw [show decide (1 ≤ z.length) = false from decide_eq_false (by omega)] <;> rfl
theorem nameB_long {z : Str} (h : ¬ ((z.length : Int) ≤ 6)) : nameB z = false := by
  unfold nameB
  rw [show decide (z.length ≤ 6) = false from decide_eq_false (by omega), Bool.and_false] <;> rfl
theorem nameB_word {z : Str} (h : z ∈ keptW) : nameB z = false := by
  unfold nameB
  rw [show decide (z ∈ keptW) = true from decide_eq_true h, Bool.not_true, Bool.and_false] <;> rfl
theorem none_all {α : Type} (p : α → Bool) : ∀ l : List α, (l.filter fun c => !p c).isEmpty = l.all p
  | [] => rfl
  | x :: r => by
    have ih := none_all p r
    cases e : p x <;> simp [List.filter_cons, e, ih]
theorem eqv_none {α : Type} (f : α → PyData) : ∀ l : List α, PyData.eqv (.list (l.map f)) (.list []) = l.isEmpty
  | [] => rfl
  | _ :: _ => rfl
theorem nameB_rest {z : Str} (h1 : 1 ≤ z.length) (h2 : z.length ≤ 6) (h3 : z ∉ keptW) : nameB z = z.cps.toList.all fun c => decide (c ∈ lettersW.cps.toList) := by
  unfold nameB
  rw [decide_eq_true h1, decide_eq_true h2, decide_eq_false h3] <;> rfl
/-- of each sign so far, whether it is a small letter -/
def Rlet (z : Str) : Nat → List V → Hp → Prop := fun i acc _ => acc = (z.cps.toList.take i).map fun c => V.bl (decide (c ∈ lettersW.cps.toList))
theorem take_at {α : Type} {l : List α} {i : Nat} {x : α} (h : l[i]? = some x) : l.take (i + 1) = l.take i ++ [x] := by
  rw [List.take_add_one, h] <;> rfl
def t_is_name (K : PySem.W.Frag) (ad : String → Addr) : TS := (tSeq (tIfS (tOr (tNot (tTest (tChain rLe rLe (tC (.int 1)) (tCB (rLenA K) (tCons (tVar 0) tNil)) (tC (.int 6))))) (tOr (tTest (tOp (rInA K) (tVar 0) (tC (.ref (ad "BOOK_WORDS"))))) (tTest (tOp (rInA K) (tVar 0) (tC (.ref (ad "ASK_WORDS"))))))) (tRet (tC (.bl false))) tNext) (tRet (tCB (rAll K) (tCons (tLc (iSeq K (tVar 0)) (gName 1) tYes (tOp (rInA K) (tVar 1) (tC (.str "abcdefghijklmnopqrstuvwxyz"))) [1]) tNil))))
def sp_is_name (K : PySem.W.Frag) (ad : String → Addr) : Sp := fun vs H Q _ => ∃ (z : Str) (M : Cells → Prop) (Γ : List Kn) (L : Cells), vs = [.str z] ∧ z.length ≤ 100000 ∧ WR M Γ L H ∧ ∀ H', WR M Γ L H' → Q (.bl (nameB z)) H'
theorem ln_is_name {K : PySem.W.Frag} {ad : String → Addr} : ∀ vs H Q E, sp_is_name K ad vs H Q E → vs.length = 1 := by
  rintro vs H Q E ⟨z, M, Γ, L, rfl, _⟩
  rfl
theorem rd_is_name {K : PySem.W.Frag} {ad : String → Addr} (hB : KT K (ad "BOOK_WORDS") [.str "unknown", .str "fields", .str "draw", .str "from", .str "set", .str "see", .str "if", .str "else", .str "end", .str "times"]) (hA : KT K (ad "ASK_WORDS") [.str "not", .str "ask", .str "at", .str "given"])
    (N : List Str) (hN : N.length = 2) : ∀ vs H Q E, sp_is_name K ad vs H Q E → t_is_name K ad { nx := fun _ H' => Q .non H', rt := Q } (L2.start N vs) H := by
  rintro vs H Q E ⟨z, M, Γ, L, rfl, hz, w, q⟩
  rw [st_of hN]
  show t_is_name K ad _ [some (.str z), none] H
  unfold t_is_name
  walk_at "gg"
  refine g_lenS (sz (by omega)) ?_
  walk_at "gg"
  refine g_iteD (fun e1 => ?_) (fun e1 => ?_)
  · walk_at "gg"
    refine g_iteN (fun e2 => ?_) (fun e2 => ?_)
    · walk_at "gg"
      rw [← nameB_long e2]
      exact q _ w
    · walk_at "gg"
      refine g_inQ (.inr (hB _)) rfl rfl ?_
      rw [show inV (.str z) [.str "unknown", .str "fields", .str "draw", .str "from", .str "set", .str "see", .str "if", .str "else", .str "end", .str "times"] = decide (z ∈ (["unknown", "fields", "draw", "from", "set", "see", "if", "else", "end", "times"] : List Str)) from inV_str z ["unknown", "fields", "draw", "from", "set", "see", "if", "else", "end", "times"]]
      walk_at "gg"
      refine g_iteD (fun e3 => ?_) (fun e3 => ?_)
      · walk_at "gg"
        rw [← nameB_word (z := z) (show z ∈ bookW ++ askW from List.mem_append_left askW e3)]
        exact q _ w
      · walk_at "gg"
        refine g_inQ (.inr (hA _)) rfl rfl ?_
        rw [show inV (.str z) [.str "not", .str "ask", .str "at", .str "given"] = decide (z ∈ (["not", "ask", "at", "given"] : List Str)) from inV_str z ["not", "ask", "at", "given"]]
        walk_at "gg"
        refine g_iteD (fun e4 => ?_) (fun e4 => ?_)
        · walk_at "gg"
          rw [← nameB_word (z := z) (show z ∈ bookW ++ askW from List.mem_append_right bookW e4)]
          exact q _ w
        · walk_at "gg"
          have nk : z ∉ keptW := fun h => (List.mem_append.mp (show z ∈ bookW ++ askW from h)).elim e3 e4
          refine c_lc (walk_str (z := z)) w (Rlet z) (fun _ => rfl) ?_ (fun _ _ _ _ _ _ => trivial) ?_ ?_
          · rintro i acc G hi rfl
            rw [List.length_map, List.length_take]
            have := len_list z
            exact szl (by omega)
          · rintro i x D acc H H' N N0 hi w ⟨rfl, c, hc, rfl⟩ k k0
            walk_at "g"
            refine ⟨rfl, ?_⟩
            walk_at "gg"
            refine k _ _ (w.more _ fun G hG => ?_)
            have e : acc = _ := hG _ (.head _)
            show acc ++ _ = _
            rw [take_at (x := c) (by rw [Array.getElem?_toList]; exact hc), List.map_append, e]
            rfl
          · intro D acc H w
            have e : acc = _ := w.get (.head _)
            have cD := w.cell (.head _)
            walk_at "gg"
            rw [show z.cps.size = z.cps.toList.length from (Array.length_toList).symm, List.take_length] at e
            subst e
            refine g_all (bs := z.cps.toList.map fun c => decide (c ∈ lettersW.cps.toList)) (sqL (by rw [cD, List.map_map]; rfl)) ?_
            rw [List.all_map]
            rw [show (z.cps.toList.all (id ∘ fun c => decide (c ∈ lettersW.cps.toList))) = nameB z from (nameB_rest (by omega) (by omega) nk).symm]
            exact q _ (w.drop1.tail)
  · walk_at "gg"
    rw [← nameB_short e1]
    exact q _ w
def t_law_signs (K : PySem.W.Frag) (ad : String → Addr) : TS := (tRet (tC (.str " !\"#$&'()*+,-./0123456789:;<=>?@ABCDEFGHIJKLMNOPQRSTUVWXYZ[\\]^_`abcdefghijklmnopqrstuvwxyz{|}~\n")))
def signsW : Str := " !\"#$&'()*+,-./0123456789:;<=>?@ABCDEFGHIJKLMNOPQRSTUVWXYZ[\\]^_`abcdefghijklmnopqrstuvwxyz{|}~\n"
def sp_law_signs (K : PySem.W.Frag) (ad : String → Addr) : Sp := fun vs H Q _ => vs = [] ∧ Q (.str signsW) H
theorem ln_law_signs {K : PySem.W.Frag} {ad : String → Addr} : ∀ vs H Q E, sp_law_signs K ad vs H Q E → vs.length = 0 := by
  rintro vs H Q E ⟨rfl, _⟩
  rfl
theorem rd_law_signs {K : PySem.W.Frag} {ad : String → Addr} (N : List Str) (hN : N.length = 0) : ∀ vs H Q E, sp_law_signs K ad vs H Q E → t_law_signs K ad { nx := fun _ H' => Q .non H', rt := Q } (L2.start N vs) H := by
  rintro vs H Q E ⟨rfl, q⟩
  rw [st_of hN]
  exact q
def t_law_is_name (K : PySem.W.Frag) (ad : String → Addr) : TS := (tSeq (tIfS (tOr (tTest (tOp (rInA K) (tVar 0) (tCall (sp_law_kept K ad) [] E0 tNil))) (tNot (tTest (tChain rLtA rLtA (tC (.int 0)) (tCB (rLenA K) (tCons (tVar 0) tNil)) (tC (.int 7)))))) (tRet (tC (.bl false))) tNext) (tRet (tOp (rEqA K) (tLc (iSeq K (tVar 0)) (gName 1) (tTest (tOp (rNiA K) (tVar 1) (tC (.str "abcdefghijklmnopqrstuvwxyz")))) (tVar 1) [1]) (tLst tNil))))
def sp_law_is_name (K : PySem.W.Frag) (ad : String → Addr) : Sp := fun vs H Q _ => ∃ (z : Str) (M : Cells → Prop) (Γ : List Kn) (L : Cells), vs = [.str z] ∧ TX 1000 z ∧ WR M Γ L H ∧ ∀ H', WR M Γ L H' → Q (.bl (nameB z)) H'
theorem ln_law_is_name {K : PySem.W.Frag} {ad : String → Addr} : ∀ vs H Q E, sp_law_is_name K ad vs H Q E → vs.length = 1 := by
  rintro vs H Q E ⟨z, M, Γ, L, rfl, _⟩
  rfl
/-- the signs so far that are no small letters -/
def Rnol (z : Str) : Nat → List V → Hp → Prop := fun i acc _ => acc = ((z.cps.toList.take i).filter fun c => !decide (c ∈ lettersW.cps.toList)).map fun c => V.str ⟨#[c]⟩
theorem rd_law_is_name {K : PySem.W.Frag} {ad : String → Addr} (N : List Str) (hN : N.length = 2) : ∀ vs H Q E, sp_law_is_name K ad vs H Q E → t_law_is_name K ad { nx := fun _ H' => Q .non H', rt := Q } (L2.start N vs) H := by
  rintro vs H Q E ⟨z, M, Γ, L, rfl, hz, w, q⟩
  rw [st_of hN]
  show t_law_is_name K ad _ [some (.str z), none] H
  unfold t_law_is_name
  walk_at "gg"
  refine ⟨M, Γ, L, rfl, w, fun p H w => ?_⟩
  refine g_inQ (.inl (sqL (w.get (.head _)))) rfl (flat_strs _) ?_
  rw [inV_str]
  walk_at "gg"
  refine g_iteD (fun e1 => ?_) (fun e1 => ?_)
  · walk_at "gg"
    rw [← nameB_word e1]
    exact q _ w.tail
  · walk_at "gg"
    have hz1 := hz.1
    refine g_lenS (sz (by omega)) ?_
    walk_at "gg"
    refine g_iteD (fun e2 => ?_) (fun e2 => ?_)
    · walk_at "gg"
      refine g_iteN (fun e3 => ?_) (fun e3 => ?_)
      · walk_at "gg"
        rw [← nameB_long (z := z) (by omega)]
        exact q _ w.tail
      · walk_at "gg"
        refine c_lc (walk_str (z := z)) w.tail (Rnol z) (fun _ => rfl) ?_ (fun _ _ _ _ _ _ => trivial) ?_ ?_
        · rintro i acc G hi rfl
          rw [List.length_map]
          have h1 := List.length_filter_le (fun c => !decide (c ∈ lettersW.cps.toList)) (z.cps.toList.take i)
          rw [List.length_take] at h1
          have := len_list z
          exact szl (by omega)
        · rintro i x D acc H H' N N0 hi w ⟨rfl, c, hc, rfl⟩ k k0
          have ec := take_at (l := z.cps.toList) (i := i) (x := c) (by rw [Array.getElem?_toList]; exact hc)
          walk_at "g"
          refine ⟨rfl, ?_⟩
          walk_at "gg"
          refine g_iteN (fun e4 => ?_) (fun e4 => ?_)
          · walk_at "gg"
            refine k _ _ (w.more _ fun G hG => ?_)
            have e : acc = _ := hG _ (.head _)
            show acc ++ _ = _
            rw [ec, List.filter_append, List.map_append, e, List.filter_cons, if_pos (by rw [Bool.not_eq_true']; exact decide_eq_false e4)]
            rfl
          · refine k0 _ (w.more _ fun G hG => ?_)
            have e : acc = _ := hG _ (.head _)
            show acc = _
            rw [ec, List.filter_append, List.map_append, e, List.filter_cons, if_neg (by rw [Bool.not_eq_true', Bool.not_eq_false]; exact decide_eq_true e4)]
            simp
        · intro D acc H w
          have e : acc = _ := w.get (.head _)
          have cD := w.cell (.head _)
          rw [show z.cps.size = z.cps.toList.length from (Array.length_toList).symm, List.take_length] at e
          walk_at "gg"
          refine ⟨Nat.zero_le _, fun p2 np => ?_⟩
          have w2 := w.know (.lst []) np
          have c2 := w2.get (.head _)
          have cD2 := w2.cell (.head _)
          subst e
          have hs : ∀ u ∈ ((z.cps.toList.filter fun c => !decide (c ∈ lettersW.cps.toList)).map fun c => (⟨#[c]⟩ : Str)), PyData.strOk u = true := by
            intro u hu
            obtain ⟨c, hc, rfl⟩ := List.mem_map.mp hu
            exact (hz.sign (List.mem_filter.mp hc).1).ok
          have d1 : Dp K (upd H p2 (.lst [])) (.ref D) (.list (((z.cps.toList.filter fun c => !decide (c ∈ lettersW.cps.toList)).map fun c => (⟨#[c]⟩ : Str)).map PyData.str)) :=
            .lst (sqL cD2) (by
              have := dp_strs (K := K) (H := upd H p2 (.lst [])) ((z.cps.toList.filter fun c => !decide (c ∈ lettersW.cps.toList)).map fun c => (⟨#[c]⟩ : Str))
              rw [List.map_map] at this
              exact this)
          refine g_eqD d1 (.lst (sqL c2) .nil) (shaped_strs hs) rfl ?_
          rw [List.map_map, eqv_none, none_all, ← nameB_rest (z := z) (by omega) (by omega) e1]
          exact q _ w2.drop1.tail.tail
    · walk_at "gg"
      rw [← nameB_short (z := z) (by omega)]
      exact q _ w.tail
end Ct
namespace Ct
open PySem PySem.Spec PyProof.Rows L2
local macro_rules | `(tactic| walk_at "g") => `(tactic| first
  | with_reducible refine g_seq ?_
  | with_reducible refine g_set ?_
  | with_reducible refine g_asg ?_
  | with_reducible refine g_sub ?_
  | with_reducible refine g_name ?_
  | with_reducible refine g_ret ?_
  | with_reducible refine g_if ?_
  | ((with_reducible refine' g_var ?gh ?_); (case gh => rfl))
  | with_reducible refine g_c ?_
  | with_reducible refine g_op ?_
  | with_reducible refine g_test ?_
  | with_reducible refine g_bl ?_
  | with_reducible refine g_int ?_
  | with_reducible refine g_cons ?_
  | with_reducible refine g_nil ?_
  | with_reducible refine g_call ?_
  | with_reducible refine g_cb ?_
  | with_reducible refine g_and ?_
  | with_reducible refine g_or ?_
  | with_reducible refine g_not ?_
  | with_reducible refine g_B ?_
  | with_reducible refine g_un ?_
  | with_reducible refine g_neg ?_
  | with_reducible refine g_chain ?_
  | with_reducible refine g_drop ?_
  | with_reducible refine g_par ?_
  | with_reducible refine g_par3 ?_
  | with_reducible refine g_tup ?_
  | with_reducible refine g_lst ?_
  | with_reducible refine g_sl ?_
  | with_reducible refine g_nop ?_
  | with_reducible refine g_part ?_
  | with_reducible refine g_bm0 ?_
  | with_reducible refine g_bm ?_
  | with_reducible refine g_m0 ?_
  | with_reducible refine g_m1 ?_
  | with_reducible refine g_lrev ?_
  | with_reducible refine g_ifE ?_
  | with_reducible refine g_andV ?_
  | with_reducible refine g_orV ?_
  | with_reducible refine g_notV ?_
  | with_reducible refine g_addI ?_
  | with_reducible refine g_subI ?_
  | with_reducible refine g_eqI ?_
  | with_reducible refine g_neI ?_
  | with_reducible refine g_eqS ?_
  | with_reducible refine g_neS ?_
  | with_reducible refine g_eqB ?_
  | with_reducible refine g_neB ?_
  | with_reducible refine g_ltI ?_
  | with_reducible refine g_gtI ?_
  | with_reducible refine g_leI ?_
  | with_reducible refine g_geI ?_
  | with_reducible refine g_inS ?_
  | with_reducible refine g_niS ?_
  | with_reducible refine g_max ?_
  | with_reducible refine g_min ?_
  | with_reducible refine g_abs ?_
  | with_reducible refine g_isN ?_
  | with_reducible refine g_notN ?_
  | with_reducible refine g_isB ?_
  | with_reducible refine g_notB ?_
  | with_reducible refine g_intB ?_
  | with_reducible refine g_intI ?_
  | with_reducible refine g_lc ?_
  | with_reducible refine g_for ?_
  | with_reducible refine g_seqI ?_
  | with_reducible refine g_inStr ?_
  | with_reducible refine g_rng ?_
  | with_reducible refine g_yes ?_
  | with_reducible refine g_pairs ?_
  | with_reducible refine g_pairs0 ?_
  | with_reducible refine iteT ?_
  | with_reducible refine iteF ?_
  | with_reducible refine g_nF ?_
  | with_reducible refine g_nT ?_
  | with_reducible refine g_gcons ?_
  | with_reducible refine g_gnil ?_
  | with_reducible refine g_next ?_
  | ((with_reducible refine' g_mulI ?gh ?_); (case gh => first | exact .inl (.inl ⟨by omega, by omega⟩) | exact .inl (.inr ⟨by omega, by omega⟩)))
  | ((with_reducible refine' g_modI ?gh ?_); (case gh => omega)))
local macro_rules | `(tactic| walk_at "gg") => `(tactic| (repeat walk_at "g"))

/-- words so far, each of n signs at most -/
def Rwords (n : Nat) : Nat → List V → Hp → Prop := fun i acc _ => ∃ ys : List Str, acc = ys.map V.str ∧ ys.length = i ∧ ∀ y ∈ ys, TX n y
theorem Rwords.one {n i : Nat} {acc : List V} {z : Str} {G : Hp} (h : Rwords n i acc G) (hz : TX n z) : Rwords n (i + 1) (acc ++ [.str z]) G := by
  obtain ⟨ys, rfl, h1, h2⟩ := h
  refine ⟨ys ++ [z], by simp, by simp [h1], fun y hy => ?_⟩
  rcases List.mem_append.mp hy with hy | hy
  · exact h2 y hy
  · simp only [List.mem_singleton] at hy
    subst hy
    exact hz
theorem kept_tx : ∀ w ∈ keptW, TX 7 w := by
  intro w hw
  have h : keptW.all (fun w => decide (w.length ≤ 7) && w.cps.toList.all fun c => decide (c < 128)) = true := by decide +kernel
  have := List.all_eq_true.mp h w hw
  simp only [Bool.and_eq_true, decide_eq_true_eq, List.all_eq_true] at this
  exact this
theorem letters_tx : TX 26 lettersW := by
  have h : (decide (lettersW.length ≤ 26) && lettersW.cps.toList.all fun c => decide (c < 128)) = true := by decide +kernel
  simp only [Bool.and_eq_true, decide_eq_true_eq, List.all_eq_true] at h
  exact h
theorem letters_len : lettersW.cps.toList.length = 26 := by decide +kernel
theorem signs_tx : TX 95 signsW := by
  have h : (decide (signsW.length ≤ 95) && signsW.cps.toList.all fun c => decide (c < 128)) = true := by decide +kernel
  simp only [Bool.and_eq_true, decide_eq_true_eq, List.all_eq_true] at h
  exact h
def t_law_name (K : PySem.W.Frag) (ad : String → Addr) : TS := (tSeq (tAsg (tTup (tCons (tC (.str "abcdefghijklmnopqrstuvwxyz")) (tCons (tCall (sp_law_kept K ad) [] E0 tNil) tNil))) (gTup K 2 (gCons (gName 1) (gCons (gName 2) gNil)))) (tSeq (tAsg (tM1 (rJoin K) (tC (.str "")) (tLc (iRng1 (tCons (tOp (rAddA K) (tC (.int 1)) (tCall (sp_law_draw K ad) [] E0 (tCons (tVar 0) (tCons (tC (.int 6)) tNil)))) tNil)) (gName 6) tYes (tOp (rIxA K) (tVar 1) (tCall (sp_law_draw K ad) [] E0 (tCons (tVar 0) (tCons (tC (.int 26)) tNil)))) [6])) (gName 3)) (C8.tCut (tIfS (tTest (tOp (rEqA K) (tCall (sp_law_draw K ad) [] E0 (tCons (tVar 0) (tCons (tC (.int 3)) tNil))) (tC (.int 0)))) (tSeq (tAsg (tOp (rIxA K) (tVar 2) (tCall (sp_law_draw K ad) [] E0 (tCons (tVar 0) (tCons (tC (.int 14)) tNil)))) (gName 4)) (tSeq (tAsg (tCall (sp_law_draw K ad) [] E0 (tCons (tVar 0) (tCons (tOp (rAddA K) (tCB (rLenA K) (tCons (tVar 4) tNil)) (tC (.int 1))) tNil))) (gName 5)) (tAsg (tOp (rAddA K) (tOp (rAddA K) (tSl (rSlAny K) (tVar 4) tNoPart (tPart (tVar 5))) (tOp (rMulA K) (tOp (rIxA K) (tVar 1) (tCall (sp_law_draw K ad) [] E0 (tCons (tVar 0) (tCons (tC (.int 26)) tNil)))) (tCall (sp_law_draw K ad) [] E0 (tCons (tVar 0) (tCons (tC (.int 2)) tNil))))) (tSl (rSlAny K) (tVar 4) (tPart (tOp (rAddA K) (tVar 5) (tCall (sp_law_draw K ad) [] E0 (tCons (tVar 0) (tCons (tC (.int 2)) tNil))))) tNoPart)) (gName 3)))) tNext) (tSeq (tAsg (tSl (rSlAny K) (tVar 3) tNoPart (tPart (tC (.int 6)))) (gName 3)) (C8.tCut (tIfS (tOr (tTest (tOp (rEqA K) (tVar 3) (tC (.str "")))) (tTest (tOp (rInA K) (tVar 3) (tVar 2)))) (tAsg (tOp (rAddA K) (tSl (rSlAny K) (tVar 3) tNoPart (tPart (tC (.int 5)))) (tC (.str "q"))) (gName 3)) tNext) (tRet (tVar 3)))))))
def sp_law_name (K : PySem.W.Frag) (ad : String → Addr) : Sp := fun vs H Q _ => ∃ (d l : Addr) (Γ : List Kn) (L : Cells), vs = [.ref d] ∧ WR (dealM d l) Γ L H ∧ ∀ z H', TX 6 z → WR (dealM d l) Γ L H' → Q (.str z) H'
theorem ln_law_name {K : PySem.W.Frag} {ad : String → Addr} : ∀ vs H Q E, sp_law_name K ad vs H Q E → vs.length = 1 := by
  rintro vs H Q E ⟨d, l, Γ, L, rfl, _⟩
  rfl
theorem rd_law_name {K : PySem.W.Frag} {ad : String → Addr} (N : List Str) (hN : N.length = 7) : ∀ vs H Q E, sp_law_name K ad vs H Q E → t_law_name K ad { nx := fun _ H' => Q .non H', rt := Q } (L2.start N vs) H := by
  rintro vs H Q E ⟨d, l, Γ, L, rfl, w, q⟩
  rw [st_of hN]
  show t_law_name K ad _ [some (.ref d), none, none, none, none, none, none] H
  unfold t_law_name
  walk_at "gg"
  refine ⟨_, _, _, rfl, w, fun p H w => ?_⟩
  walk_at "gg"
  refine ⟨sz (by decide : 2 ≤ 1000000), fun p2 np => ?_⟩
  have w := w.know (.tup [.str "abcdefghijklmnopqrstuvwxyz", .ref p]) np
  refine g_gtup (sqT (w.get (.head _))) rfl ?_
  walk_at "gg"
  refine ⟨⟨_, rfl⟩, ?_⟩
  walk_at "gg"
  refine ⟨d, l, 6, _, _, rfl, by decide, by decide, w, fun r H r0 r1 w => ?_⟩
  walk_at "gg"
  refine ⟨_, rfl, by omega, by omega, ?_⟩
  refine c_lc walk_range w (Rwords 1) (fun _ => ⟨[], rfl, rfl, by simp⟩) ?_ (fun _ _ _ _ _ _ => trivial) ?_ ?_
  · rintro i acc G hi ⟨ys, rfl, h, _⟩
    rw [List.length_map]
    exact szl (by omega)
  · rintro i x D acc H H' N N0 hi w ⟨rfl, rfl⟩ k k0
    walk_at "g"
    refine ⟨rfl, ?_⟩
    walk_at "gg"
    refine ⟨d, l, 26, _, _, rfl, by decide, by decide, w, fun r H r0 r1 w => ?_⟩
    obtain ⟨c, hc, hcm, _⟩ := at_in (l := lettersW.cps.toList) r0 (by rw [letters_len]; exact r1)
    refine g_ixS (z := lettersW) (by decide) hc ?_
    exact k _ _ (w.more _ fun G hG => (hG _ (.head _)).one (letters_tx.sign hcm))
  · intro D acc H w
    obtain ⟨ys, rfl, hl, hy⟩ := w.get (.head _)
    have cD := w.cell (.head _)
    walk_at "gg"
    have t0 : TX 0 ("" : Str) := tx_lit (by decide +kernel)
    refine g_join (.inl (sqL cD)) (join_fits (m := 6) t0 hy (by omega) (by decide)) ?_
    have tz : TX 6 (Txt.join "" ys) := by simpa using (TX.join (m := 6) t0 hy (by omega))
    have w := w.drop1.tail
    generalize Txt.join "" ys = z at tz
    walk_at "gg"
    refine g_cut (fun σ H => ∃ z y4 y5, σ = [some (.ref d), some (.str "abcdefghijklmnopqrstuvwxyz"), some (.ref p), some (.str z), y4, y5, none] ∧ TX 100 z ∧ WR (dealM d l) ((fun G => G p = some (.lst (keptW.map V.str))) :: Γ) L H) ?_ ?_
    · walk_at "gg"
      refine ⟨d, l, 3, _, _, rfl, by decide, by decide, w, fun r H r0 r1 w => ?_⟩
      walk_at "gg"
      refine g_iteD (fun e1 => ?_) (fun e1 => ?_)
      · walk_at "gg"
        refine ⟨d, l, 14, _, _, rfl, by decide, by decide, w, fun r H r0 r1 w => ?_⟩
        obtain ⟨v, hc, hcm, _⟩ := at_in (l := keptW.map V.str) r0 (by rw [List.length_map]; exact r1)
        obtain ⟨u, hu, rfl⟩ := List.mem_map.mp hcm
        have tu := kept_tx u hu
        refine g_ixL (sqL (w.get (.tail _ (.head _)))) hc ?_
        walk_at "gg"
        refine g_lenS (sz (by have := tu.1; omega)) ?_
        walk_at "gg"
        refine ⟨d, l, _, _, _, rfl, by omega, by have := tu.1; omega, w, fun r H r0 r1 w => ?_⟩
        walk_at "gg"
        refine g_slS (sz (by have := tu.1; omega)) ?_
        walk_at "gg"
        refine ⟨d, l, 26, _, _, rfl, by decide, by decide, w, fun r2 H r20 r21 w => ?_⟩
        obtain ⟨c, hc, hcm, _⟩ := at_in (l := lettersW.cps.toList) r20 (by rw [letters_len]; exact r21)
        refine g_ixS (z := lettersW) (by decide) hc ?_
        walk_at "gg"
        refine ⟨d, l, 2, _, _, rfl, by decide, by decide, w, fun r3 H r30 r31 w => ?_⟩
        have tc := letters_tx.sign hcm
        refine g_mulS (mul_ok tc.1 (by decide) r30 (by omega)) ?_
        have tm := tc.mul (m := 2) (k := r3) (by omega)
        have ta := (tu.cut none (some r)).app tm
        refine g_addS (sz (by have h1 := (tu.cut none (some r)).1; have h2 := tm.1; omega)) ?_
        walk_at "gg"
        refine ⟨d, l, 2, _, _, rfl, by decide, by decide, w, fun r4 H r40 r41 w => ?_⟩
        walk_at "gg"
        refine g_slS (sz (by have := tu.1; omega)) ?_
        have tb := ta.app (tu.cut (some (r + r4)) none)
        refine g_addS (sz (by have h1 := ta.1; have h2 := (tu.cut (some (r + r4)) none).1; omega)) ?_
        walk_at "gg"
        exact ⟨_, _, _, rfl, tb.mono (by decide), w.tail⟩
      · walk_at "gg"
        exact ⟨_, _, _, rfl, tz.mono (by decide), w.tail⟩
    · rintro σ H ⟨z, y4, y5, rfl, tz, w⟩
      have hz1 := tz.1
      walk_at "gg"
      refine g_slS (sz (by omega)) ?_
      have tz := tz.cutN 6
      generalize cutS z none (some 6) = z at tz
      have hz1 := tz.1
      walk_at "gg"
      refine g_cut (fun σ H => ∃ z, σ[3]? = some (some (.str z)) ∧ TX 6 z ∧ WR (dealM d l) Γ L H) ?_ ?_
      · walk_at "gg"
        refine g_iteD (fun e1 => ?_) (fun e1 => ?_)
        · walk_at "gg"
          refine g_slS (sz (by omega)) ?_
          have tz5 : TX 5 (cutS z none (some 5)) := tz.cutN 5
          have tq : TX 1 ("q" : Str) := tx_lit (by decide +kernel)
          walk_at "gg"
          refine g_addS (sz (by have h1 := tz5.1; have h2 := tq.1; omega)) ?_
          walk_at "gg"
          exact ⟨_, rfl, tz5.app tq, w.tail⟩
        · walk_at "gg"
          refine g_inQ (.inl (sqL (w.get (.head _)))) rfl (flat_strs _) ?_
          walk_at "gg"
          refine g_ite (fun e2 => ?_) (fun e2 => ?_)
          · walk_at "gg"
            refine g_slS (sz (by omega)) ?_
            have tz5 : TX 5 (cutS z none (some 5)) := tz.cutN 5
            have tq : TX 1 ("q" : Str) := tx_lit (by decide +kernel)
            walk_at "gg"
            refine g_addS (sz (by have h1 := tz5.1; have h2 := tq.1; omega)) ?_
            walk_at "gg"
            exact ⟨_, rfl, tz5.app tq, w.tail⟩
          · walk_at "gg"
            exact ⟨_, rfl, tz, w.tail⟩
      · rintro σ H ⟨z, h3, tz, w⟩
        walk_at "g"
        refine g_var h3 ?_
        exact q z H tz w
def t_law_text (K : PySem.W.Frag) (ad : String → Addr) : TS := (tSeq (tPar3 1 2 3 (tCons (tCall (sp_law_signs K ad) [] E0 tNil) (tCons (tCall (sp_law_name K ad) [] E0 (tCons (tVar 0) tNil)) (tCons (tCall (sp_law_draw K ad) [] E0 (tCons (tVar 0) (tCons (tC (.int 6)) tNil))) tNil)))) (tSeq (tIfS (tTest (tOp (rEqA K) (tVar 3) (tC (.int 0)))) (tRet (tOp (rIxA K) (tCall (sp_law_kept K ad) [] E0 tNil) (tCall (sp_law_draw K ad) [] E0 (tCons (tVar 0) (tCons (tC (.int 14)) tNil))))) tNext) (tSeq (tIfS (tTest (tOp (rEqA K) (tVar 3) (tC (.int 1)))) (tRet (tSl (rSlAny K) (tOp (rMulA K) (tVar 2) (tC (.int 7))) tNoPart (tPart (tOp (rAddA K) (tC (.int 6)) (tCall (sp_law_draw K ad) [] E0 (tCons (tVar 0) (tCons (tC (.int 4)) tNil))))))) tNext) (tSeq (tIfS (tTest (tOp (rEqA K) (tVar 3) (tC (.int 2)))) (tRet (tOp (rIxA K) (tLst (tCons (tC (.str "")) (tCons (tC (.str " ")) (tCons (tC (.str "a b")) (tCons (tC (.str "5")) (tCons (tC (.str "A")) (tCons (tC (.str "set ")) (tCons (tC (.str "\n")) tNil)))))))) (tCall (sp_law_draw K ad) [] E0 (tCons (tVar 0) (tCons (tC (.int 7)) tNil))))) tNext) (tSeq (tIfS (tTest (tOp (rEqA K) (tVar 3) (tC (.int 3)))) (tRet (tVar 2)) tNext) (tSeq (tAsg (tCall (sp_law_draw K ad) [] E0 (tCons (tVar 0) (tCons (tOp (rAddA K) (tCB (rLenA K) (tCons (tVar 2) tNil)) (tC (.int 1))) tNil))) (gName 4)) (tRet (tOp (rAddA K) (tOp (rAddA K) (tSl (rSlAny K) (tVar 2) tNoPart (tPart (tVar 4))) (tOp (rIxA K) (tVar 1) (tCall (sp_law_draw K ad) [] E0 (tCons (tVar 0) (tCons (tCB (rLenA K) (tCons (tVar 1) tNil)) tNil))))) (tSl (rSlAny K) (tVar 2) (tPart (tOp (rAddA K) (tVar 4) (tCall (sp_law_draw K ad) [] E0 (tCons (tVar 0) (tCons (tC (.int 2)) tNil))))) tNoPart)))))))))
def sp_law_text (K : PySem.W.Frag) (ad : String → Addr) : Sp := fun vs H Q _ => ∃ (d l : Addr) (Γ : List Kn) (L : Cells), vs = [.ref d] ∧ WR (dealM d l) Γ L H ∧ ∀ z H', TX 100 z → WR (dealM d l) Γ L H' → Q (.str z) H'
theorem ln_law_text {K : PySem.W.Frag} {ad : String → Addr} : ∀ vs H Q E, sp_law_text K ad vs H Q E → vs.length = 1 := by
  rintro vs H Q E ⟨d, l, Γ, L, rfl, _⟩
  rfl
theorem rd_law_text {K : PySem.W.Frag} {ad : String → Addr} (N : List Str) (hN : N.length = 5) : ∀ vs H Q E, sp_law_text K ad vs H Q E → t_law_text K ad { nx := fun _ H' => Q .non H', rt := Q } (L2.start N vs) H := by
  rintro vs H Q E ⟨d, l, Γ, L, rfl, w, q⟩
  rw [st_of hN]
  show t_law_text K ad _ [some (.ref d), none, none, none, none] H
  unfold t_law_text
  walk_at "gg"
  refine ⟨rfl, ?_⟩
  walk_at "gg"
  refine ⟨d, l, _, _, rfl, w, fun z H tz w => ?_⟩
  have hz := tz.1
  walk_at "gg"
  refine ⟨d, l, 6, _, _, rfl, by decide, by decide, w, fun r H r0 r1 w => ?_⟩
  refine ⟨_, _, _, rfl, ?_⟩
  walk_at "gg"
  refine g_iteD (fun e1 => ?_) (fun e1 => ?_)
  · walk_at "gg"
    refine ⟨_, _, _, rfl, w, fun p H w => ?_⟩
    walk_at "gg"
    refine ⟨d, l, 14, _, _, rfl, by decide, by decide, w, fun r H r0 r1 w => ?_⟩
    obtain ⟨v, hc, hcm, _⟩ := at_in (l := keptW.map V.str) r0 (by rw [List.length_map]; exact r1)
    obtain ⟨u, hu, rfl⟩ := List.mem_map.mp hcm
    refine g_ixL (sqL (w.get (.head _))) hc ?_
    exact q u _ ((kept_tx u hu).mono (by decide)) w.tail
  · walk_at "gg"
    refine g_iteD (fun e2 => ?_) (fun e2 => ?_)
    · walk_at "gg"
      refine g_mulS (mul_ok hz (by decide) (by decide) (by decide)) ?_
      have tm := tz.mul (m := 7) (k := 7) (by decide)
      walk_at "gg"
      refine ⟨d, l, 4, _, _, rfl, by decide, by decide, w, fun r H r0 r1 w => ?_⟩
      walk_at "gg"
      refine g_slS (sz (by have := tm.1; omega)) ?_
      exact q _ _ ((tm.cut _ _).mono (by decide)) w
    · walk_at "gg"
      refine g_iteD (fun e3 => ?_) (fun e3 => ?_)
      · walk_at "gg"
        refine ⟨sz (by decide : 7 ≤ 1000000), fun p np => ?_⟩
        have w := w.know (.lst ((["", " ", "a b", "5", "A", "set ", "\n"] : List Str).map V.str)) np
        walk_at "gg"
        refine ⟨d, l, 7, _, _, rfl, by decide, by decide, w, fun r H r0 r1 w => ?_⟩
        obtain ⟨v, hc, hcm, _⟩ := at_in (l := (["", " ", "a b", "5", "A", "set ", "\n"] : List Str).map V.str) r0 r1
        obtain ⟨u, hu, rfl⟩ := List.mem_map.mp hcm
        refine g_ixL (sqL (w.get (.head _))) hc ?_
        exact q u _ (tx_lits (zs := ["", " ", "a b", "5", "A", "set ", "\n"]) (by decide +kernel) u hu) w.tail
      · walk_at "gg"
        refine g_iteD (fun e4 => ?_) (fun e4 => ?_)
        · walk_at "gg"
          exact q z _ (tz.mono (by decide)) w
        · walk_at "gg"
          refine g_lenS (sz (by omega)) ?_
          walk_at "gg"
          refine ⟨d, l, _, _, _, rfl, by omega, by omega, w, fun r H r0 r1 w => ?_⟩
          walk_at "gg"
          refine g_slS (sz (by omega)) ?_
          walk_at "gg"
          refine g_lenS (by decide) ?_
          walk_at "gg"
          refine ⟨d, l, _, _, _, rfl, by decide, by decide, w, fun r2 H r20 r21 w => ?_⟩
          obtain ⟨c, hc, hcm, _⟩ := at_in (l := signsW.cps.toList) r20 (by rw [len_list]; exact r21)
          refine g_ixS (z := signsW) (by decide) hc ?_
          have tc := signs_tx.sign hcm
          have ta := (tz.cut none (some r)).app tc
          refine g_addS (sz (by have h1 := (tz.cut none (some r)).1; have h2 := tc.1; omega)) ?_
          walk_at "gg"
          refine ⟨d, l, 2, _, _, rfl, by decide, by decide, w, fun r4 H r40 r41 w => ?_⟩
          walk_at "gg"
          refine g_slS (sz (by omega)) ?_
          have tb := ta.app (tz.cut (some (r + r4)) none)
          refine g_addS (sz (by have h1 := ta.1; have h2 := (tz.cut (some (r + r4)) none).1; omega)) ?_
          exact q _ _ (tb.mono (by decide)) w
def spL (K : PySem.W.Frag) : Sp := fun vs H Q _ => ∃ (a : Addr) (ns : List Int), vs = [.ref a] ∧ SqL K H a (ns.map V.int) ∧ ns.length ≤ 63 ∧ (∀ i ∈ ns, Builtin.Int.intBits i ≤ 1048576) ∧ Only H ∧ ∀ H', Q (.bl true) H'
theorem sq_stay {K : PySem.W.Frag} {H G : Hp} {a : Addr} {xs : List V} (h : SqL K H a xs) (s : Same H G) : SqL K G a xs := s.seq h
abbrev sp_law (K : PySem.W.Frag) (ad : String → Addr) : Sp := spL K
theorem ln_law {K : PySem.W.Frag} {ad : String → Addr} : ∀ vs H Q E, sp_law K ad vs H Q E → vs.length = 1 := by
  rintro vs H Q E ⟨a, ns, rfl, _⟩
  rfl
def t_law (K : PySem.W.Frag) (ad : String → Addr) : TS := (tSeq (tAsg (tCall (sp_law_deal K ad) [] E0 (tCons (tVar 0) (tCons (tC (.int 0)) tNil))) (gName 1)) (tSeq (tAsg (tLc (iRng1 (tCons (tOp (rMulA K) (tC (.int 6)) (tCB rMax2' (tCons (tC (.int 2)) (tCons (tCB rMin2' (tCons (tC (.int 4)) (tCons (tCB (rLenA K) (tCons (tVar 0) tNil)) tNil))) tNil)))) tNil)) (gName 4) tYes (tCall (sp_law_text K ad) [] E0 (tCons (tVar 1) tNil)) [4]) (gName 2)) (tSeq (tFor (iSeq K (tOp (rAddA K) (tOp (rAddA K) (tVar 2) (tCall (sp_law_kept K ad) [] E0 tNil)) (tSl (rSlAny K) (tVar 2) tNoPart (tPart (tC (.int 2)))))) (gName 3) (tIfS (tTest (tOp (rNeA K) (tCB (rRepr K) (tCons (tCall (sp_is_name K ad) [] E0 (tCons (tVar 3) tNil)) tNil)) (tCB (rRepr K) (tCons (tCall (sp_law_is_name K ad) [] E0 (tCons (tVar 3) tNil)) tNil)))) (tRet (tC (.bl false))) tNext)) (tRet (tC (.bl true))))))
theorem rd_law {K : PySem.W.Frag} {ad : String → Addr} (N : List Str) (hN : N.length = 5) : ∀ vs H Q E, sp_law K ad vs H Q E → t_law K ad { nx := fun _ H' => Q .non H', rt := Q } (L2.start N vs) H := by
  rintro vs H Q E ⟨a, ns, rfl, hS, hl, _, _, q⟩
  rw [st_of hN]
  show t_law K ad _ [some (.ref a), none, none, none, none] H
  unfold t_law
  have w : WR noM [fun G => SqL K G a (ns.map V.int)] [] H := WR.of (WW.of fun k hk G s => by
    rcases hk with _ | ⟨_, hk⟩
    · exact sq_stay hS s
    · exact absurd hk (List.not_mem_nil))
  walk_at "gg"
  refine ⟨a, ns, 0, _, rfl, by omega, by decide, by decide, w, fun d l H w => ?_⟩
  walk_at "gg"
  refine g_lenL (w.get (.head _)) ?_
  rw [List.length_map]
  walk_at "gg"
  generalize hn : (6 * (if (if (ns.length : Int) < 4 then (ns.length : Int) else 4) > 2 then (if (ns.length : Int) < 4 then (ns.length : Int) else 4) else 2)) = n
  have hn0 : 0 ≤ n ∧ n ≤ 100 := by
    subst hn
    split <;> split <;> omega
  refine ⟨_, rfl, by omega, by omega, ?_⟩
  refine c_lc walk_range w (Rwords 100) (fun _ => ⟨[], rfl, rfl, by simp⟩) ?_ (fun _ _ _ _ _ _ => trivial) ?_ ?_
  · rintro i acc G hi ⟨ys, rfl, h, _⟩
    rw [List.length_map]
    exact szl (by omega)
  · rintro i x D acc H H' N N0 hi w ⟨rfl, rfl⟩ k k0
    walk_at "g"
    refine ⟨rfl, ?_⟩
    walk_at "gg"
    refine ⟨d, l, _, _, rfl, w, fun z H tz w => ?_⟩
    exact k _ _ (w.more _ fun G hG => (hG _ (.head _)).one tz)
  · intro D acc H w
    obtain ⟨ys, rfl, hyl, hy⟩ := w.get (.head _)
    have w := w.fix
    walk_at "gg"
    refine ⟨_, _, _, rfl, w, fun p H w => ?_⟩
    refine g_addL (w.get (.tail _ (.head _))) (w.get (.head _)) (by rw [List.length_map, List.length_map]; exact sz (by have : keptW.length = 14 := (by decide); omega)) fun p2 np => ?_
    have w := w.know (.lst (ys.map V.str ++ keptW.map V.str)) np
    walk_at "gg"
    refine g_slL (sqL (w.get (.tail _ (.tail _ (.head _))))) fun p3 np => ?_
    obtain ⟨us, eu, hu, hul⟩ := cut_map V.str ys none (some 2)
    rw [eu]
    have w := w.know (.lst (us.map V.str)) np
    refine g_addL (w.get (.tail _ (.head _))) (w.get (.head _)) (by rw [List.length_append, List.length_map, List.length_map, List.length_map]; exact sz (by have : keptW.length = 14 := (by decide); omega)) fun p4 np => ?_
    have w := w.know (.lst (ys.map V.str ++ keptW.map V.str ++ us.map V.str)) np
    have e : ys.map V.str ++ keptW.map V.str ++ us.map V.str = (ys ++ keptW ++ us).map V.str := by rw [List.map_append, List.map_append]
    rw [e] at w ⊢
    have hall : ∀ z ∈ ys ++ keptW ++ us, TX 100 z := by
      intro z hz
      rcases List.mem_append.mp hz with hz | hz
      · rcases List.mem_append.mp hz with hz | hz
        · exact hy z hz
        · exact (kept_tx z hz).mono (by decide)
      · exact hy z (hu z hz)
    generalize ys ++ keptW ++ us = zs at w hall ⊢
    refine g_inL (sqL (w.get (.head _))) ?_
    have w := w.sub (Γ' := [fun G => G p4 = some (.lst (zs.map V.str))]) fun k hk => by
      rcases hk with _ | ⟨_, hk⟩
      · exact .head _
      · exact absurd hk List.not_mem_nil
    refine c_for (walk_list (xs := zs.map V.str)) (fun i σ H => ∃ y, σ = [some (.ref a), some (.ref d), some (.ref D), y, none] ∧ WR (dealM d l) [fun G => G p4 = some (.lst (zs.map V.str))] [] H) (fun σ H => True) ⟨_, rfl, w⟩ ?_ ?_ (fun _ _ _ => trivial) ?_
    · rintro i σ H _ ⟨_, _, w⟩
      exact sqL (w.get (.head _))
    · rintro X hX i x σ H H' hi ⟨y, rfl, w⟩ ⟨rfl, hx⟩
      obtain ⟨z, hz, rfl⟩ := at_map hx
      have tz := hall z (List.mem_of_getElem? hz)
      have hz1 := tz.1
      walk_at "gg"
      refine ⟨z, _, _, _, rfl, by omega, w, fun H w => ?_⟩
      walk_at "gg"
      refine g_repr (by intro e; cases e) (.bl _) (show_bool _) ?_
      walk_at "gg"
      refine ⟨z, _, _, _, rfl, tz.mono (by decide), w, fun H w => ?_⟩
      walk_at "gg"
      refine g_repr (by intro e; cases e) (.bl _) (show_bool _) ?_
      walk_at "gg"
      refine g_iteN (fun e => absurd rfl e) (fun _ => ?_)
      walk_at "gg"
      exact ⟨_, rfl, w⟩
    · rintro σ H _
      walk_at "gg"
      exact q _
end Ct
namespace Ct
open PySem PySem.Spec PyProof.Rows L2
def topS (i : Nat) : Stmt := PySem.Challenge.pw_chancetongue_k06_names.main.body.getD i (.Pass ⟨0, 0, 0, 0⟩)
abbrev s_is_name : Stmt := topS 5
abbrev N_is_name : List Str := ["text", "sign"]
theorem sc_is_name : FnScope N_is_name ["text"] (defScope s_is_name) := ⟨rfl, rfl, rfl, by decide +kernel, rfl, by decide +kernel, by decide +kernel⟩
abbrev s_law_deal : Stmt := topS 7
abbrev N_law_deal : List Str := ["_law_script", "_law_base", "_law_one", "_law_some", "_law_number"]
theorem sc_law_deal : FnScope N_law_deal ["_law_script", "_law_base"] (defScope s_law_deal) := ⟨rfl, rfl, rfl, by decide +kernel, rfl, by decide +kernel, by decide +kernel⟩
abbrev s_law_draw : Stmt := topS 8
abbrev N_law_draw : List Str := ["_law_deal_here", "_law_many", "_law_number", "_law_one", "_law_other"]
theorem sc_law_draw : FnScope N_law_draw ["_law_deal_here", "_law_many"] (defScope s_law_draw) := ⟨rfl, rfl, rfl, by decide +kernel, rfl, by decide +kernel, by decide +kernel⟩
abbrev s_law_kept : Stmt := topS 9
abbrev N_law_kept : List Str := []
theorem sc_law_kept : FnScope N_law_kept [] (defScope s_law_kept) := ⟨rfl, rfl, rfl, by decide +kernel, rfl, by decide +kernel, by decide +kernel⟩
abbrev s_law_signs : Stmt := topS 12
abbrev N_law_signs : List Str := []
theorem sc_law_signs : FnScope N_law_signs [] (defScope s_law_signs) := ⟨rfl, rfl, rfl, by decide +kernel, rfl, by decide +kernel, by decide +kernel⟩
abbrev s_law_name : Stmt := topS 10
abbrev N_law_name : List Str := ["_law_deal_here", "_law_letters", "_law_kept_here", "_law_name_here", "_law_near", "_law_at", "_law_k"]
theorem sc_law_name : FnScope N_law_name ["_law_deal_here"] (defScope s_law_name) := ⟨rfl, rfl, rfl, by decide +kernel, rfl, by decide +kernel, by decide +kernel⟩
abbrev s_law_is_name : Stmt := topS 11
abbrev N_law_is_name : List Str := ["_law_text_here", "_law_sign"]
theorem sc_law_is_name : FnScope N_law_is_name ["_law_text_here"] (defScope s_law_is_name) := ⟨rfl, rfl, rfl, by decide +kernel, rfl, by decide +kernel, by decide +kernel⟩
abbrev s_law_text : Stmt := topS 13
abbrev N_law_text : List Str := ["_law_deal_here", "_law_signs_here", "_law_name_here", "_law_form", "_law_at"]
theorem sc_law_text : FnScope N_law_text ["_law_deal_here"] (defScope s_law_text) := ⟨rfl, rfl, rfl, by decide +kernel, rfl, by decide +kernel, by decide +kernel⟩
abbrev s_law : Stmt := topS 14
abbrev N_law : List Str := ["_law_script", "_law_deal_here", "_law_texts", "_law_text_here", "_law_k"]
theorem sc_law : FnScope N_law ["_law_script"] (defScope s_law) := ⟨rfl, rfl, rfl, by decide +kernel, rfl, by decide +kernel, by decide +kernel⟩
structure Txt (K : PySem.W.Frag) (mg : Str → Option Value) (ad : String → Addr) (fd : String → FuncData) : Prop where
  F_is_name : Fun K "is_name" "is_name" s_is_name (ad "is_name") (fd "is_name")
  g_is_name : mg "is_name" = some (.ref (ad "is_name"))
  b_is_name : Binds K (fd "is_name") ["text"] []
  F_law_deal : Fun K "_law_deal" "_law_deal" s_law_deal (ad "_law_deal") (fd "_law_deal")
  g_law_deal : mg "_law_deal" = some (.ref (ad "_law_deal"))
  b_law_deal : Binds K (fd "_law_deal") ["_law_script", "_law_base"] []
  F_law_draw : Fun K "_law_draw" "_law_draw" s_law_draw (ad "_law_draw") (fd "_law_draw")
  g_law_draw : mg "_law_draw" = some (.ref (ad "_law_draw"))
  b_law_draw : Binds K (fd "_law_draw") ["_law_deal_here", "_law_many"] []
  F_law_kept : Fun K "_law_kept" "_law_kept" s_law_kept (ad "_law_kept") (fd "_law_kept")
  g_law_kept : mg "_law_kept" = some (.ref (ad "_law_kept"))
  b_law_kept : Binds K (fd "_law_kept") [] []
  F_law_signs : Fun K "_law_signs" "_law_signs" s_law_signs (ad "_law_signs") (fd "_law_signs")
  g_law_signs : mg "_law_signs" = some (.ref (ad "_law_signs"))
  b_law_signs : Binds K (fd "_law_signs") [] []
  F_law_name : Fun K "_law_name" "_law_name" s_law_name (ad "_law_name") (fd "_law_name")
  g_law_name : mg "_law_name" = some (.ref (ad "_law_name"))
  b_law_name : Binds K (fd "_law_name") ["_law_deal_here"] []
  F_law_is_name : Fun K "_law_is_name" "_law_is_name" s_law_is_name (ad "_law_is_name") (fd "_law_is_name")
  g_law_is_name : mg "_law_is_name" = some (.ref (ad "_law_is_name"))
  b_law_is_name : Binds K (fd "_law_is_name") ["_law_text_here"] []
  F_law_text : Fun K "_law_text" "_law_text" s_law_text (ad "_law_text") (fd "_law_text")
  g_law_text : mg "_law_text" = some (.ref (ad "_law_text"))
  b_law_text : Binds K (fd "_law_text") ["_law_deal_here"] []
  F_law : Fun K "law" "law" s_law (ad "law") (fd "law")
  g_law : mg "law" = some (.ref (ad "law"))
  b_law : Binds K (fd "law") ["_law_script"] []
  g_LONGEST_NAME : ∃ u, mg "LONGEST_NAME" = some u ∧ RelV (.int 6) u
  g_BOOK_WORDS : ∃ u, mg "BOOK_WORDS" = some u ∧ RelV (.ref (ad "BOOK_WORDS")) u
  c_BOOK_WORDS : KT K (ad "BOOK_WORDS") [(.str "unknown"), (.str "fields"), (.str "draw"), (.str "from"), (.str "set"), (.str "see"), (.str "if"), (.str "else"), (.str "end"), (.str "times")]
  g_ASK_WORDS : ∃ u, mg "ASK_WORDS" = some u ∧ RelV (.ref (ad "ASK_WORDS")) u
  c_ASK_WORDS : KT K (ad "ASK_WORDS") [(.str "not"), (.str "ask"), (.str "at"), (.str "given")]
  g_LETTERS : ∃ u, mg "LETTERS" = some u ∧ RelV (.str "abcdefghijklmnopqrstuvwxyz") u
  z_len : mg "len" = none
  z_all : mg "all" = none
  z_max : mg "max" = none
  z_list : mg "list" = none
  z_reversed : mg "reversed" = none
  z_range : mg "range" = none
  z_min : mg "min" = none
  z_repr : mg "repr" = none
theorem kt_of {K : PySem.W.Frag} {a : Addr} {o : Value} {d : Option Addr} {its : Array Value} {n : Nat} {sl : Array (Option Value)} {xs : List V} (l : K.lookup a = some ⟨o, d, .seq its n, sl⟩) (h : o = .type "tuple" ∧ d = none ∧ its.size ≤ sizeLine ∧ Vals xs its.toList) : KT K a xs := fun _ => .inr ⟨_, its, n, l, h.1, rfl, h.2.2.1, h.2.2.2⟩
section
variable {P : Program} {w : World} {K : PySem.W.Frag} {mg : Str → Option Value} {base : Heap} {ad : String → Addr} {fd : String → FuncData}
theorem ok_is_name (T : Txt K mg ad fd) : FnOk P w K mg base CX0 1 (ad "is_name") (fd "is_name") ["text"] (sp_is_name K ad) := by
  have nd : (N_is_name).Nodup := sc_is_name.nd
  refine T.F_is_name.ok sc_is_name ln_is_name fun cdv B out t H vs Q E hr h => ⟨t_is_name K ad, ?_, rd_is_name (T.c_BOOK_WORDS) (T.c_ASK_WORDS) N_is_name rfl vs H Q E h⟩
  exact (pss_cons (ps_if (PW.pt (pw_or (pt_not (pt_chain op_leA op_leA pe_int (pe_callB call_lenA (by rfl) T.z_len PySem.boot_len (pa_cons (pv 0) pa_nil)) (C8.pe_gc (by rfl) T.g_LONGEST_NAME))) (pw_or (pt_cmpR (op_inA (hu65 hr)) (pv 0) (C8.pe_gc (by rfl) T.g_BOOK_WORDS) rfl) (pw_or1 (pt_cmpR (op_inA (hu65 hr)) (pv 0) (C8.pe_gc (by rfl) T.g_ASK_WORDS) rfl))))) (pss_one (ps_ret pe_bl)) pss_nil)
      (pss_one (ps_ret (pe_callB (cr_all rfl) (by rfl) T.z_all (by decide +kernel) (pa_cons (pe_lc (own := [("sign", 1)]) (g := (gName 1)) (tt := tYes) rfl nd (pi_seq (pv 0)) (blkOk_by (N := N_is_name) (sc := defScope s_is_name) (by decide +kernel)) (fun _ _ _ _ _ => (pg_name (i := 1) nd rfl (Or.inl rfl))) (fun _ _ _ _ _ => pts_nil) (fun _ _ _ _ _ => (pe_cmpR (op_inA (hu65 hr)) (pv 1) (C8.pe_gc (by rfl) T.g_LETTERS) rfl))) pa_nil)))))
theorem ok_law_deal (T : Txt K mg ad fd) : FnOk P w K mg base CX0 1 (ad "_law_deal") (fd "_law_deal") ["_law_script", "_law_base"] (sp_law_deal K ad) := by
  have nd : (N_law_deal).Nodup := sc_law_deal.nd
  refine T.F_law_deal.ok sc_law_deal ln_law_deal fun cdv B out t H vs Q E hr h => ⟨t_law_deal K ad, ?_, rd_law_deal  N_law_deal rfl vs H Q E h⟩
  exact (pss_cons (ps_setLc (i := 3) (own := [("_law_one", 2)]) (g := (gName 2)) (tt := tYes) rfl nd rfl rfl (sw_true rfl rfl rfl (by decide +kernel)) (pi_seq (pe_slice sl_any (pv 0) (po_some (pv 1)) (po_some pe_int))) (blkOk_by (N := N_law_deal) (sc := defScope s_law_deal) (by decide +kernel)) (fun _ _ _ _ _ => (pg_name (i := 2) nd rfl (Or.inl rfl))) (fun _ _ _ _ _ => pts_nil) (fun _ _ _ _ _ => (pe_callB (call_max2' rfl) (by rfl) T.z_max (by decide +kernel) (pa_cons (pv 2) (pa_cons (pe_op op_sub pe_int (pv 2)) pa_nil)))))
      (pss_cons (ps_set (i := 4) nd rfl (Or.inl rfl) (pe_op op_addA pe_int (pv 1)))
      (pss_cons (ps_for PassesOwn.never rfl (pi_seq (pv 3)) (pg_name (i := 2) nd rfl (Or.inl rfl)) (pss_one (ps_set (i := 4) nd rfl (Or.inl rfl) (pe_op op_modA (pe_op op_addA (pe_op op_mulA (pv 4) pe_int) (pe_op op_modA (pv 2) pe_int)) pe_int))))
      (pss_one (ps_ret (pe_disp (pps_cons pe_str (pv 4) (pps_cons pe_str pe_int (pps_cons pe_str (pe_listRev rfl (by rfl) T.z_list (by rfl) T.z_reversed (pe_lc (own := [("_law_one", 2)]) (g := (gName 2)) (tt := (tTest (tOp rGe (tVar 2) (tOp (rI CPow fun i j => .int (i ^ j.toNat)) (tC (.int 10)) (tC (.int 18)))))) rfl nd (pi_seq (pv 3)) (blkOk_by (N := N_law_deal) (sc := defScope s_law_deal) (by decide +kernel)) (fun _ _ _ _ _ => (pg_name (i := 2) nd rfl (Or.inl rfl))) (fun _ _ _ _ _ => (pts_one (pt_cmpR op_geA (pv 2) (pe_op op_pow pe_int pe_int) (nomark _)))) (fun _ _ _ _ _ => (pv 2)))) pps_nil))) rfl rfl (by simp) (by decide)))))))
theorem ok_law_draw (T : Txt K mg ad fd) : FnOk P w K mg base CX0 1 (ad "_law_draw") (fd "_law_draw") ["_law_deal_here", "_law_many"] (sp_law_draw K ad) := by
  have nd : (N_law_draw).Nodup := sc_law_draw.nd
  refine T.F_law_draw.ok sc_law_draw ln_law_draw fun cdv B out t H vs Q E hr h => ⟨t_law_draw K ad, ?_, rd_law_draw  N_law_draw rfl vs H Q E h⟩
  exact (pss_cons (ps_while PassesOwn.never (PW.pt (pw_and (pt_cmpR (op_eqA (hu64 hr)) (pe_ix (ix_any (hu1 hr)) (pv 0) pe_str (fun _ _ => rfl)) pe_int (nomark _)) (pw_and1 (pt_cmpR op_gtA (pe_callB call_lenA (by rfl) T.z_len PySem.boot_len (pa_cons (pe_ix (ix_any (hu1 hr)) (pv 0) pe_str (fun _ _ => rfl)) pa_nil)) pe_int (nomark _))))) (pss_one (ps_asg (pe_bm0 PySem.F.plainAttrs_list PySem.F.slot_list_pop PySem.F.type_list_pop mt_pop (pe_ix (ix_any (hu1 hr)) (pv 0) pe_str (fun _ _ => rfl))) (pg_sub (pv 0) pe_str (set_any (hu1 hr))))))
      (pss_cons (ps_set (i := 2) nd rfl (Or.inl rfl) (pe_ix (ix_any (hu1 hr)) (pv 0) pe_str (fun _ _ => rfl)))
      (pss_cons (ps_if (pt_cmpR op_gtA (pv 2) pe_int (nomark _)) (pss_cons (ps_asg (pe_op op_fdivA (pv 2) (pv 1)) (pg_sub (pv 0) pe_str (set_any (hu1 hr))))
      (pss_one (ps_ret (pe_op op_modA (pv 2) (pv 1))))) pss_nil)
      (pss_cons (ps_set (i := 3) nd rfl (Or.inl rfl) (pe_op op_modA (pe_op op_addA (pe_op op_mulA (pe_ix (ix_any (hu1 hr)) (pv 0) pe_str (fun _ _ => rfl)) pe_int) pe_int) pe_int))
      (pss_cons (ps_asg (pe_op op_modA (pe_op op_addA (pe_op op_mulA (pv 3) pe_int) pe_int) pe_int) (pg_sub (pv 0) pe_str (set_any (hu1 hr))))
      (pss_cons (ps_set (i := 4) nd rfl (Or.inl rfl) (pe_op op_modA (pe_op op_mulA (pe_ix (ix_any (hu1 hr)) (pv 0) pe_str (fun _ _ => rfl)) (pe_ix (ix_any (hu1 hr)) (pv 0) pe_str (fun _ _ => rfl))) pe_int))
      (pss_one (ps_ret (pe_op op_modA (pe_op op_addA (pe_op op_mulA (pe_op op_modA (pe_op op_mulA (pv 3) (pv 3)) pe_int) pe_int) (pv 4)) (pv 1))))))))))
theorem ok_law_kept (T : Txt K mg ad fd) : FnOk P w K mg base CX0 1 (ad "_law_kept") (fd "_law_kept") [] (sp_law_kept K ad) := by
  have nd : (N_law_kept).Nodup := sc_law_kept.nd
  refine T.F_law_kept.ok sc_law_kept ln_law_kept fun cdv B out t H vs Q E hr h => ⟨t_law_kept K ad, ?_, rd_law_kept  N_law_kept rfl vs H Q E h⟩
  exact (pss_one (ps_ret (pe_split pe_str pe_str)))
theorem ok_law_signs (T : Txt K mg ad fd) : FnOk P w K mg base CX0 1 (ad "_law_signs") (fd "_law_signs") [] (sp_law_signs K ad) := by
  have nd : (N_law_signs).Nodup := sc_law_signs.nd
  refine T.F_law_signs.ok sc_law_signs ln_law_signs fun cdv B out t H vs Q E hr h => ⟨t_law_signs K ad, ?_, rd_law_signs  N_law_signs rfl vs H Q E h⟩
  exact (pss_one (ps_ret pe_str))
theorem ok_law_name (T : Txt K mg ad fd) : FnOk P w K mg base CX0 2 (ad "_law_name") (fd "_law_name") ["_law_deal_here"] (sp_law_name K ad) := by
  have nd : (N_law_name).Nodup := sc_law_name.nd
  have G_law_kept := ok_law_kept (P := P) (w := w) (base := base) T
  have G_law_draw := ok_law_draw (P := P) (w := w) (base := base) T
  refine T.F_law_name.ok sc_law_name ln_law_name fun cdv B out t H vs Q E hr h => ⟨t_law_name K ad, ?_, rd_law_name  N_law_name rfl vs H Q E h⟩
  exact (pss_cons (ps_asg (pe_tup (pa_cons pe_str (pa_cons (pe_call0 G_law_kept (hr.mono (by decide)) (by rfl) T.g_law_kept T.F_law_kept.kp T.b_law_kept .nil pass0) pa_nil))) (pg_tup rfl (pgs_cons (pg_name (i := 1) nd rfl (Or.inr rfl)) (pgs_cons (pg_name (i := 2) nd rfl (Or.inl rfl)) pgs_nil))))
      (pss_cons (ps_set (i := 3) nd rfl (Or.inl rfl) (pe_join pe_str (pe_lc (own := [("_law_k", 6)]) (g := (gName 6)) (tt := tYes) rfl nd (pi_range1 (by rfl) T.z_range (pa_cons (pe_op op_addA pe_int (pe_call G_law_draw (hr.mono (by decide)) (by rfl) T.g_law_draw T.F_law_draw.kp T.b_law_draw .nil pass0 (pa_cons (pv 0) (pa_cons pe_int pa_nil)))) pa_nil)) (blkOk_by (N := N_law_name) (sc := defScope s_law_name) (by decide +kernel)) (fun _ _ _ _ _ => (pg_name (i := 6) nd rfl (Or.inl rfl))) (fun _ _ _ _ _ => pts_nil) (fun _ _ _ _ _ => (pe_ix (ix_any (hu1 hr)) (pv 1) (pe_call G_law_draw (hr.mono (by decide)) (by rfl) T.g_law_draw T.F_law_draw.kp T.b_law_draw .nil pass0 (pa_cons (pv 0) (pa_cons pe_int pa_nil))) (fun _ _ => rfl))))))
      (C8.pss_cut (ps_if (pt_cmpR (op_eqA (hu64 hr)) (pe_call G_law_draw (hr.mono (by decide)) (by rfl) T.g_law_draw T.F_law_draw.kp T.b_law_draw .nil pass0 (pa_cons (pv 0) (pa_cons pe_int pa_nil))) pe_int (nomark _)) (pss_cons (ps_set (i := 4) nd rfl (Or.inl rfl) (pe_ix (ix_any (hu1 hr)) (pv 2) (pe_call G_law_draw (hr.mono (by decide)) (by rfl) T.g_law_draw T.F_law_draw.kp T.b_law_draw .nil pass0 (pa_cons (pv 0) (pa_cons pe_int pa_nil))) (fun _ _ => rfl)))
      (pss_cons (ps_set (i := 5) nd rfl (Or.inl rfl) (pe_call G_law_draw (hr.mono (by decide)) (by rfl) T.g_law_draw T.F_law_draw.kp T.b_law_draw .nil pass0 (pa_cons (pv 0) (pa_cons (pe_op op_addA (pe_callB call_lenA (by rfl) T.z_len PySem.boot_len (pa_cons (pv 4) pa_nil)) pe_int) pa_nil))))
      (pss_one (ps_set (i := 3) nd rfl (Or.inl rfl) (pe_op op_addA (pe_op op_addA (pe_slice sl_any (pv 4) po_none (po_some (pv 5))) (pe_op op_mulA (pe_ix (ix_any (hu1 hr)) (pv 1) (pe_call G_law_draw (hr.mono (by decide)) (by rfl) T.g_law_draw T.F_law_draw.kp T.b_law_draw .nil pass0 (pa_cons (pv 0) (pa_cons pe_int pa_nil))) (fun _ _ => rfl)) (pe_call G_law_draw (hr.mono (by decide)) (by rfl) T.g_law_draw T.F_law_draw.kp T.b_law_draw .nil pass0 (pa_cons (pv 0) (pa_cons pe_int pa_nil))))) (pe_slice sl_any (pv 4) (po_some (pe_op op_addA (pv 5) (pe_call G_law_draw (hr.mono (by decide)) (by rfl) T.g_law_draw T.F_law_draw.kp T.b_law_draw .nil pass0 (pa_cons (pv 0) (pa_cons pe_int pa_nil))))) po_none)))))) pss_nil)
      (pss_cons (ps_set (i := 3) nd rfl (Or.inl rfl) (pe_slice sl_any (pv 3) po_none (po_some pe_int)))
      (C8.pss_cut (ps_if (PW.pt (pw_or (pt_cmpR (op_eqA (hu64 hr)) (pv 3) pe_str (nomark _)) (pw_or1 (pt_cmpR (op_inA (hu65 hr)) (pv 3) (pv 2) rfl)))) (pss_one (ps_set (i := 3) nd rfl (Or.inl rfl) (pe_op op_addA (pe_slice sl_any (pv 3) po_none (po_some pe_int)) pe_str))) pss_nil)
      (pss_one (ps_ret (pv 3))))))))
theorem ok_law_is_name (T : Txt K mg ad fd) : FnOk P w K mg base CX0 2 (ad "_law_is_name") (fd "_law_is_name") ["_law_text_here"] (sp_law_is_name K ad) := by
  have nd : (N_law_is_name).Nodup := sc_law_is_name.nd
  have G_law_kept := ok_law_kept (P := P) (w := w) (base := base) T
  refine T.F_law_is_name.ok sc_law_is_name ln_law_is_name fun cdv B out t H vs Q E hr h => ⟨t_law_is_name K ad, ?_, rd_law_is_name  N_law_is_name rfl vs H Q E h⟩
  exact (pss_cons (ps_if (PW.pt (pw_or (pt_cmpR (op_inA (hu65 hr)) (pv 0) (pe_call0 G_law_kept (hr.mono (by decide)) (by rfl) T.g_law_kept T.F_law_kept.kp T.b_law_kept .nil pass0) rfl) (pw_or1 (pt_not (pt_chain op_ltA op_ltA pe_int (pe_callB call_lenA (by rfl) T.z_len PySem.boot_len (pa_cons (pv 0) pa_nil)) pe_int))))) (pss_one (ps_ret pe_bl)) pss_nil)
      (pss_one (ps_ret (pe_cmpR (op_eqA (hu64 hr)) (pe_lc (own := [("_law_sign", 1)]) (g := (gName 1)) (tt := (tTest (tOp (rNiA K) (tVar 1) (tC (.str "abcdefghijklmnopqrstuvwxyz"))))) rfl nd (pi_seq (pv 0)) (blkOk_by (N := N_law_is_name) (sc := defScope s_law_is_name) (by decide +kernel)) (fun _ _ _ _ _ => (pg_name (i := 1) nd rfl (Or.inl rfl))) (fun _ _ _ _ _ => (pts_one (pt_cmpR (op_niA (hu65 hr)) (pv 1) pe_str rfl))) (fun _ _ _ _ _ => (pv 1))) (pe_lst pa_nil) (nomark _)))))
theorem ok_law_text (T : Txt K mg ad fd) : FnOk P w K mg base CX0 3 (ad "_law_text") (fd "_law_text") ["_law_deal_here"] (sp_law_text K ad) := by
  have nd : (N_law_text).Nodup := sc_law_text.nd
  have G_law_draw := ok_law_draw (P := P) (w := w) (base := base) T
  have G_law_name := ok_law_name (P := P) (w := w) (base := base) T
  have G_law_signs := ok_law_signs (P := P) (w := w) (base := base) T
  have G_law_kept := ok_law_kept (P := P) (w := w) (base := base) T
  refine T.F_law_text.ok sc_law_text ln_law_text fun cdv B out t H vs Q E hr h => ⟨t_law_text K ad, ?_, rd_law_text  N_law_text rfl vs H Q E h⟩
  exact (pss_cons (ps_par3 (i := 1) (j := 2) (l := 3) rfl nd rfl rfl rfl (by decide) (by decide) (by decide) rfl rfl rfl (pa_cons (pe_call0 G_law_signs (hr.mono (by decide)) (by rfl) T.g_law_signs T.F_law_signs.kp T.b_law_signs .nil pass0) (pa_cons (pe_call G_law_name (hr.mono (by decide)) (by rfl) T.g_law_name T.F_law_name.kp T.b_law_name .nil pass0 (pa_cons (pv 0) pa_nil)) (pa_cons (pe_call G_law_draw (hr.mono (by decide)) (by rfl) T.g_law_draw T.F_law_draw.kp T.b_law_draw .nil pass0 (pa_cons (pv 0) (pa_cons pe_int pa_nil))) pa_nil))) rfl)
      (pss_cons (ps_if (pt_cmpR (op_eqA (hu64 hr)) (pv 3) pe_int (nomark _)) (pss_one (ps_ret (pe_ix (ix_any (hu1 hr)) (pe_call0 G_law_kept (hr.mono (by decide)) (by rfl) T.g_law_kept T.F_law_kept.kp T.b_law_kept .nil pass0) (pe_call G_law_draw (hr.mono (by decide)) (by rfl) T.g_law_draw T.F_law_draw.kp T.b_law_draw .nil pass0 (pa_cons (pv 0) (pa_cons pe_int pa_nil))) (fun _ _ => rfl)))) pss_nil)
      (pss_cons (ps_if (pt_cmpR (op_eqA (hu64 hr)) (pv 3) pe_int (nomark _)) (pss_one (ps_ret (pe_slice sl_any (pe_op op_mulA (pv 2) pe_int) po_none (po_some (pe_op op_addA pe_int (pe_call G_law_draw (hr.mono (by decide)) (by rfl) T.g_law_draw T.F_law_draw.kp T.b_law_draw .nil pass0 (pa_cons (pv 0) (pa_cons pe_int pa_nil)))))))) pss_nil)
      (pss_cons (ps_if (pt_cmpR (op_eqA (hu64 hr)) (pv 3) pe_int (nomark _)) (pss_one (ps_ret (pe_ix (ix_any (hu1 hr)) (pe_lst (pa_cons pe_str (pa_cons pe_str (pa_cons pe_str (pa_cons pe_str (pa_cons pe_str (pa_cons pe_str (pa_cons pe_str pa_nil)))))))) (pe_call G_law_draw (hr.mono (by decide)) (by rfl) T.g_law_draw T.F_law_draw.kp T.b_law_draw .nil pass0 (pa_cons (pv 0) (pa_cons pe_int pa_nil))) (fun _ _ => rfl)))) pss_nil)
      (pss_cons (ps_if (pt_cmpR (op_eqA (hu64 hr)) (pv 3) pe_int (nomark _)) (pss_one (ps_ret (pv 2))) pss_nil)
      (pss_cons (ps_set (i := 4) nd rfl (Or.inl rfl) (pe_call G_law_draw (hr.mono (by decide)) (by rfl) T.g_law_draw T.F_law_draw.kp T.b_law_draw .nil pass0 (pa_cons (pv 0) (pa_cons (pe_op op_addA (pe_callB call_lenA (by rfl) T.z_len PySem.boot_len (pa_cons (pv 2) pa_nil)) pe_int) pa_nil))))
      (pss_one (ps_ret (pe_op op_addA (pe_op op_addA (pe_slice sl_any (pv 2) po_none (po_some (pv 4))) (pe_ix (ix_any (hu1 hr)) (pv 1) (pe_call G_law_draw (hr.mono (by decide)) (by rfl) T.g_law_draw T.F_law_draw.kp T.b_law_draw .nil pass0 (pa_cons (pv 0) (pa_cons (pe_callB call_lenA (by rfl) T.z_len PySem.boot_len (pa_cons (pv 1) pa_nil)) pa_nil))) (fun _ _ => rfl))) (pe_slice sl_any (pv 2) (po_some (pe_op op_addA (pv 4) (pe_call G_law_draw (hr.mono (by decide)) (by rfl) T.g_law_draw T.F_law_draw.kp T.b_law_draw .nil pass0 (pa_cons (pv 0) (pa_cons pe_int pa_nil))))) po_none))))))))))
theorem ok_law (T : Txt K mg ad fd) : FnG P w K mg base CX0 4 (ad "law") (fd "law") ["_law_script"] (sp_law K ad) := by
  have nd : (N_law).Nodup := sc_law.nd
  have G_law_deal := ok_law_deal (P := P) (w := w) (base := base) T
  have G_law_text := ok_law_text (P := P) (w := w) (base := base) T
  have G_law_kept := ok_law_kept (P := P) (w := w) (base := base) T
  have G_is_name := ok_is_name (P := P) (w := w) (base := base) T
  have G_law_is_name := ok_law_is_name (P := P) (w := w) (base := base) T
  refine okG T.F_law sc_law ln_law fun cdv B out t H vs Q E hgd hr h => ⟨t_law K ad, ?_, rd_law  N_law rfl vs H Q E h⟩
  exact (pss_cons (ps_set (i := 1) nd rfl (Or.inr rfl) (pe_call G_law_deal (hr.mono (by decide)) (by rfl) T.g_law_deal T.F_law_deal.kp T.b_law_deal .nil pass0 (pa_cons (pv 0) (pa_cons pe_int pa_nil))))
      (pss_cons (ps_setLc (i := 2) (own := [("_law_k", 4)]) (g := (gName 4)) (tt := tYes) rfl nd rfl rfl (sw_true rfl rfl rfl (by decide +kernel)) (pi_range1 (by rfl) T.z_range (pa_cons (pe_op op_mulA pe_int (pe_callB (call_max2' rfl) (by rfl) T.z_max (by decide +kernel) (pa_cons pe_int (pa_cons (pe_callB (call_min2' rfl) (by rfl) T.z_min (by decide +kernel) (pa_cons pe_int (pa_cons (pe_callB call_lenA (by rfl) T.z_len PySem.boot_len (pa_cons (pv 0) pa_nil)) pa_nil))) pa_nil)))) pa_nil)) (blkOk_by (N := N_law) (sc := defScope s_law) (by decide +kernel)) (fun _ _ _ _ _ => (pg_name (i := 4) nd rfl (Or.inl rfl))) (fun _ _ _ _ _ => pts_nil) (fun _ _ _ _ _ => (pe_call G_law_text (hr.mono (by decide)) (by rfl) T.g_law_text T.F_law_text.kp T.b_law_text .nil pass0 (pa_cons (pv 1) pa_nil))))
      (pss_cons (ps_for PassesOwn.never rfl (pi_seq (pe_op op_addA (pe_op op_addA (pv 2) (pe_call0 G_law_kept (hr.mono (by decide)) (by rfl) T.g_law_kept T.F_law_kept.kp T.b_law_kept .nil pass0)) (pe_slice sl_any (pv 2) po_none (po_some pe_int)))) (pg_name (i := 3) nd rfl (Or.inl rfl)) (pss_one (ps_if (pt_cmpR (op_neA (hu64 hr)) (pe_callB (call_repr hgd (hu120 hr)) (by rfl) T.z_repr (by decide +kernel) (pa_cons (pe_call G_is_name (hr.mono (by decide)) (by rfl) T.g_is_name T.F_is_name.kp T.b_is_name .nil pass0 (pa_cons (pv 3) pa_nil)) pa_nil)) (pe_callB (call_repr hgd (hu120 hr)) (by rfl) T.z_repr (by decide +kernel) (pa_cons (pe_call G_law_is_name (hr.mono (by decide)) (by rfl) T.g_law_is_name T.F_law_is_name.kp T.b_law_is_name .nil pass0 (pa_cons (pv 3) pa_nil)) pa_nil)) (nomark _)) (pss_one (ps_ret pe_bl)) pss_nil)))
      (pss_one (ps_ret pe_bl)))))
end
theorem all_mk {l : PySem.W.OpenLaw} {w : World} {K : PySem.W.Frag} {h : Heap} {mg : Str → Option Value} {fa : Addr} (X : K.In h) (G : h.Ns mainGlobals mg) (hfa : mg "law" = some (.ref fa))
    {f0 : Addr} {od0 an0 : Option Addr} {sl0 : Array (Option Value)} {oc0 kV0 dc0 pm0 cd0 ct0 : Value}
    {f1 : Addr} {od1 an1 : Option Addr} {sl1 : Array (Option Value)} {oc1 kV1 dc1 pm1 cd1 ct1 : Value}
    {f2 : Addr} {od2 an2 : Option Addr} {sl2 : Array (Option Value)} {oc2 kV2 dc2 pm2 cd2 ct2 : Value}
    {f3 : Addr} {od3 an3 : Option Addr} {sl3 : Array (Option Value)} {oc3 kV3 dc3 pm3 cd3 ct3 : Value}
    {f4 : Addr} {od4 an4 : Option Addr} {sl4 : Array (Option Value)} {oc4 kV4 dc4 pm4 cd4 ct4 : Value}
    {f5 : Addr} {od5 an5 : Option Addr} {sl5 : Array (Option Value)} {oc5 kV5 dc5 pm5 cd5 ct5 : Value}
    {f6 : Addr} {od6 an6 : Option Addr} {sl6 : Array (Option Value)} {oc6 kV6 dc6 pm6 cd6 ct6 : Value}
    {f7 : Addr} {od7 an7 : Option Addr} {sl7 : Array (Option Value)} {oc7 kV7 dc7 pm7 cd7 ct7 : Value}
    {f8 : Addr} {od8 an8 : Option Addr} {sl8 : Array (Option Value)} {oc8 kV8 dc8 pm8 cd8 ct8 : Value}
    {e0 : Addr} {to0 : Value} {td0 : Option Addr} {tv0 : Array Value} {tn0 : Nat} {ts0 : Array (Option Value)}
    {e1 : Addr} {to1 : Value} {td1 : Option Addr} {tv1 : Array Value} {tn1 : Nat} {ts1 : Array (Option Value)}
    {u0 : Value}
    {u1 : Value}
    (a0 : PySem.W.nsIn K mainGlobals "is_name" = some (some (.ref f0)))
    (l0 : K.lookup f0 = some ⟨oc0, od0, .func (PySem.W.fnOf "is_name" "is_name" (defArgs s_is_name) (defBody s_is_name) (defScope s_is_name) .none kV0 dc0 pm0 an0 cd0 ct0), sl0⟩)
    (c0 : PySem.W.codeIn K cd0 "is_name" = true)
    (k0 : PySem.W.keepIn K (.ref f0) = true)
    (a1 : PySem.W.nsIn K mainGlobals "_law_deal" = some (some (.ref f1)))
    (l1 : K.lookup f1 = some ⟨oc1, od1, .func (PySem.W.fnOf "_law_deal" "_law_deal" (defArgs s_law_deal) (defBody s_law_deal) (defScope s_law_deal) .none kV1 dc1 pm1 an1 cd1 ct1), sl1⟩)
    (c1 : PySem.W.codeIn K cd1 "_law_deal" = true)
    (k1 : PySem.W.keepIn K (.ref f1) = true)
    (a2 : PySem.W.nsIn K mainGlobals "_law_draw" = some (some (.ref f2)))
    (l2 : K.lookup f2 = some ⟨oc2, od2, .func (PySem.W.fnOf "_law_draw" "_law_draw" (defArgs s_law_draw) (defBody s_law_draw) (defScope s_law_draw) .none kV2 dc2 pm2 an2 cd2 ct2), sl2⟩)
    (c2 : PySem.W.codeIn K cd2 "_law_draw" = true)
    (k2 : PySem.W.keepIn K (.ref f2) = true)
    (a3 : PySem.W.nsIn K mainGlobals "_law_kept" = some (some (.ref f3)))
    (l3 : K.lookup f3 = some ⟨oc3, od3, .func (PySem.W.fnOf "_law_kept" "_law_kept" (defArgs s_law_kept) (defBody s_law_kept) (defScope s_law_kept) .none kV3 dc3 pm3 an3 cd3 ct3), sl3⟩)
    (c3 : PySem.W.codeIn K cd3 "_law_kept" = true)
    (k3 : PySem.W.keepIn K (.ref f3) = true)
    (a4 : PySem.W.nsIn K mainGlobals "_law_signs" = some (some (.ref f4)))
    (l4 : K.lookup f4 = some ⟨oc4, od4, .func (PySem.W.fnOf "_law_signs" "_law_signs" (defArgs s_law_signs) (defBody s_law_signs) (defScope s_law_signs) .none kV4 dc4 pm4 an4 cd4 ct4), sl4⟩)
    (c4 : PySem.W.codeIn K cd4 "_law_signs" = true)
    (k4 : PySem.W.keepIn K (.ref f4) = true)
    (a5 : PySem.W.nsIn K mainGlobals "_law_name" = some (some (.ref f5)))
    (l5 : K.lookup f5 = some ⟨oc5, od5, .func (PySem.W.fnOf "_law_name" "_law_name" (defArgs s_law_name) (defBody s_law_name) (defScope s_law_name) .none kV5 dc5 pm5 an5 cd5 ct5), sl5⟩)
    (c5 : PySem.W.codeIn K cd5 "_law_name" = true)
    (k5 : PySem.W.keepIn K (.ref f5) = true)
    (a6 : PySem.W.nsIn K mainGlobals "_law_is_name" = some (some (.ref f6)))
    (l6 : K.lookup f6 = some ⟨oc6, od6, .func (PySem.W.fnOf "_law_is_name" "_law_is_name" (defArgs s_law_is_name) (defBody s_law_is_name) (defScope s_law_is_name) .none kV6 dc6 pm6 an6 cd6 ct6), sl6⟩)
    (c6 : PySem.W.codeIn K cd6 "_law_is_name" = true)
    (k6 : PySem.W.keepIn K (.ref f6) = true)
    (a7 : PySem.W.nsIn K mainGlobals "_law_text" = some (some (.ref f7)))
    (l7 : K.lookup f7 = some ⟨oc7, od7, .func (PySem.W.fnOf "_law_text" "_law_text" (defArgs s_law_text) (defBody s_law_text) (defScope s_law_text) .none kV7 dc7 pm7 an7 cd7 ct7), sl7⟩)
    (c7 : PySem.W.codeIn K cd7 "_law_text" = true)
    (k7 : PySem.W.keepIn K (.ref f7) = true)
    (a8 : PySem.W.nsIn K mainGlobals "law" = some (some (.ref f8)))
    (l8 : K.lookup f8 = some ⟨oc8, od8, .func (PySem.W.fnOf "law" "law" (defArgs s_law) (defBody s_law) (defScope s_law) .none kV8 dc8 pm8 an8 cd8 ct8), sl8⟩)
    (c8 : PySem.W.codeIn K cd8 "law" = true)
    (k8 : PySem.W.keepIn K (.ref f8) = true)
    (x0 : PySem.W.nsIn K mainGlobals "BOOK_WORDS" = some (some (.ref e0)))
    (y0 : K.lookup e0 = some ⟨to0, td0, .seq tv0 tn0, ts0⟩)
    (v0 : to0 = .type "tuple" ∧ td0 = none ∧ tv0.size ≤ sizeLine ∧ Vals [(.str "unknown"), (.str "fields"), (.str "draw"), (.str "from"), (.str "set"), (.str "see"), (.str "if"), (.str "else"), (.str "end"), (.str "times")] tv0.toList)
    (x1 : PySem.W.nsIn K mainGlobals "ASK_WORDS" = some (some (.ref e1)))
    (y1 : K.lookup e1 = some ⟨to1, td1, .seq tv1 tn1, ts1⟩)
    (v1 : to1 = .type "tuple" ∧ td1 = none ∧ tv1.size ≤ sizeLine ∧ Vals [(.str "not"), (.str "ask"), (.str "at"), (.str "given")] tv1.toList)
    (g0 : PySem.W.nsIn K mainGlobals "LONGEST_NAME" = some (some u0))
    (h0 : RelV (.int 6) u0)
    (g1 : PySem.W.nsIn K mainGlobals "LETTERS" = some (some u1))
    (h1 : RelV (.str "abcdefghijklmnopqrstuvwxyz") u1)
    (z0 : PySem.W.nsIn K mainGlobals "len" = some none)
    (z1 : PySem.W.nsIn K mainGlobals "all" = some none)
    (z2 : PySem.W.nsIn K mainGlobals "max" = some none)
    (z3 : PySem.W.nsIn K mainGlobals "list" = some none)
    (z4 : PySem.W.nsIn K mainGlobals "reversed" = some none)
    (z5 : PySem.W.nsIn K mainGlobals "range" = some none)
    (z6 : PySem.W.nsIn K mainGlobals "min" = some none)
    (z7 : PySem.W.nsIn K mainGlobals "repr" = some none) :
    ∃ fd : FuncData, (∀ (s : Shared) (v : Value), BindsTo s fd ⟨[v], []⟩ [("_law_script", v)]) ∧ ∀ base : Heap, K.In base → base.Ns mainGlobals mg → FnG l.prog w K mg base CX0 4 fa fd ["_law_script"] (spL K) := by
  have e := hfa.symm.trans (PySem.W.mg_of X G a8)
  obtain rfl : f8 = fa := by cases e; rfl
  have F0 := fun_mk (st := s_is_name) l0 c0 k0
  have b0 := F0.binds (ps := ["text"]) fun _ _ _ _ _ _ us hl => match us, hl with | [_], _ => rfl
  have F1 := fun_mk (st := s_law_deal) l1 c1 k1
  have b1 := F1.binds (ps := ["_law_script", "_law_base"]) fun _ _ _ _ _ _ us hl => match us, hl with | [_, _], _ => rfl
  have F2 := fun_mk (st := s_law_draw) l2 c2 k2
  have b2 := F2.binds (ps := ["_law_deal_here", "_law_many"]) fun _ _ _ _ _ _ us hl => match us, hl with | [_, _], _ => rfl
  have F3 := fun_mk (st := s_law_kept) l3 c3 k3
  have b3 := F3.binds (ps := []) fun _ _ _ _ _ _ us hl => match us, hl with | [], _ => rfl
  have F4 := fun_mk (st := s_law_signs) l4 c4 k4
  have b4 := F4.binds (ps := []) fun _ _ _ _ _ _ us hl => match us, hl with | [], _ => rfl
  have F5 := fun_mk (st := s_law_name) l5 c5 k5
  have b5 := F5.binds (ps := ["_law_deal_here"]) fun _ _ _ _ _ _ us hl => match us, hl with | [_], _ => rfl
  have F6 := fun_mk (st := s_law_is_name) l6 c6 k6
  have b6 := F6.binds (ps := ["_law_text_here"]) fun _ _ _ _ _ _ us hl => match us, hl with | [_], _ => rfl
  have F7 := fun_mk (st := s_law_text) l7 c7 k7
  have b7 := F7.binds (ps := ["_law_deal_here"]) fun _ _ _ _ _ _ us hl => match us, hl with | [_], _ => rfl
  have F8 := fun_mk (st := s_law) l8 c8 k8
  have b8 := F8.binds (ps := ["_law_script"]) fun _ _ _ _ _ _ us hl => match us, hl with | [_], _ => rfl
  let ad : String → Addr := fun s => if s = "is_name" then f0 else if s = "_law_deal" then f1 else if s = "_law_draw" then f2 else if s = "_law_kept" then f3 else if s = "_law_signs" then f4 else if s = "_law_name" then f5 else if s = "_law_is_name" then f6 else if s = "_law_text" then f7 else if s = "law" then f8 else if s = "BOOK_WORDS" then e0 else if s = "ASK_WORDS" then e1 else 0
  let fd : String → FuncData := fun s => if s = "is_name" then PySem.W.fnOf "is_name" "is_name" (defArgs s_is_name) (defBody s_is_name) (defScope s_is_name) .none kV0 dc0 pm0 an0 cd0 ct0 else if s = "_law_deal" then PySem.W.fnOf "_law_deal" "_law_deal" (defArgs s_law_deal) (defBody s_law_deal) (defScope s_law_deal) .none kV1 dc1 pm1 an1 cd1 ct1 else if s = "_law_draw" then PySem.W.fnOf "_law_draw" "_law_draw" (defArgs s_law_draw) (defBody s_law_draw) (defScope s_law_draw) .none kV2 dc2 pm2 an2 cd2 ct2 else if s = "_law_kept" then PySem.W.fnOf "_law_kept" "_law_kept" (defArgs s_law_kept) (defBody s_law_kept) (defScope s_law_kept) .none kV3 dc3 pm3 an3 cd3 ct3 else if s = "_law_signs" then PySem.W.fnOf "_law_signs" "_law_signs" (defArgs s_law_signs) (defBody s_law_signs) (defScope s_law_signs) .none kV4 dc4 pm4 an4 cd4 ct4 else if s = "_law_name" then PySem.W.fnOf "_law_name" "_law_name" (defArgs s_law_name) (defBody s_law_name) (defScope s_law_name) .none kV5 dc5 pm5 an5 cd5 ct5 else if s = "_law_is_name" then PySem.W.fnOf "_law_is_name" "_law_is_name" (defArgs s_law_is_name) (defBody s_law_is_name) (defScope s_law_is_name) .none kV6 dc6 pm6 an6 cd6 ct6 else if s = "_law_text" then PySem.W.fnOf "_law_text" "_law_text" (defArgs s_law_text) (defBody s_law_text) (defScope s_law_text) .none kV7 dc7 pm7 an7 cd7 ct7 else if s = "law" then PySem.W.fnOf "law" "law" (defArgs s_law) (defBody s_law) (defScope s_law) .none kV8 dc8 pm8 an8 cd8 ct8 else default
  have ha0 : ad "is_name" = f0 := by simp [ad]
  have hf0 : fd "is_name" = PySem.W.fnOf "is_name" "is_name" (defArgs s_is_name) (defBody s_is_name) (defScope s_is_name) .none kV0 dc0 pm0 an0 cd0 ct0 := by simp [fd]
  have ha1 : ad "_law_deal" = f1 := by simp [ad]
  have hf1 : fd "_law_deal" = PySem.W.fnOf "_law_deal" "_law_deal" (defArgs s_law_deal) (defBody s_law_deal) (defScope s_law_deal) .none kV1 dc1 pm1 an1 cd1 ct1 := by simp [fd]
  have ha2 : ad "_law_draw" = f2 := by simp [ad]
  have hf2 : fd "_law_draw" = PySem.W.fnOf "_law_draw" "_law_draw" (defArgs s_law_draw) (defBody s_law_draw) (defScope s_law_draw) .none kV2 dc2 pm2 an2 cd2 ct2 := by simp [fd]
  have ha3 : ad "_law_kept" = f3 := by simp [ad]
  have hf3 : fd "_law_kept" = PySem.W.fnOf "_law_kept" "_law_kept" (defArgs s_law_kept) (defBody s_law_kept) (defScope s_law_kept) .none kV3 dc3 pm3 an3 cd3 ct3 := by simp [fd]
  have ha4 : ad "_law_signs" = f4 := by simp [ad]
  have hf4 : fd "_law_signs" = PySem.W.fnOf "_law_signs" "_law_signs" (defArgs s_law_signs) (defBody s_law_signs) (defScope s_law_signs) .none kV4 dc4 pm4 an4 cd4 ct4 := by simp [fd]
  have ha5 : ad "_law_name" = f5 := by simp [ad]
  have hf5 : fd "_law_name" = PySem.W.fnOf "_law_name" "_law_name" (defArgs s_law_name) (defBody s_law_name) (defScope s_law_name) .none kV5 dc5 pm5 an5 cd5 ct5 := by simp [fd]
  have ha6 : ad "_law_is_name" = f6 := by simp [ad]
  have hf6 : fd "_law_is_name" = PySem.W.fnOf "_law_is_name" "_law_is_name" (defArgs s_law_is_name) (defBody s_law_is_name) (defScope s_law_is_name) .none kV6 dc6 pm6 an6 cd6 ct6 := by simp [fd]
  have ha7 : ad "_law_text" = f7 := by simp [ad]
  have hf7 : fd "_law_text" = PySem.W.fnOf "_law_text" "_law_text" (defArgs s_law_text) (defBody s_law_text) (defScope s_law_text) .none kV7 dc7 pm7 an7 cd7 ct7 := by simp [fd]
  have ha8 : ad "law" = f8 := by simp [ad]
  have hf8 : fd "law" = PySem.W.fnOf "law" "law" (defArgs s_law) (defBody s_law) (defScope s_law) .none kV8 dc8 pm8 an8 cd8 ct8 := by simp [fd]
  have he0 : ad "BOOK_WORDS" = e0 := by simp [ad]
  have he1 : ad "ASK_WORDS" = e1 := by simp [ad]
  clear_value ad fd
  have T : Txt K mg ad fd := {
    F_is_name := by rw [ha0, hf0]; exact F0
    g_is_name := by rw [ha0]; exact PySem.W.mg_of X G a0
    b_is_name := by rw [hf0]; exact b0
    F_law_deal := by rw [ha1, hf1]; exact F1
    g_law_deal := by rw [ha1]; exact PySem.W.mg_of X G a1
    b_law_deal := by rw [hf1]; exact b1
    F_law_draw := by rw [ha2, hf2]; exact F2
    g_law_draw := by rw [ha2]; exact PySem.W.mg_of X G a2
    b_law_draw := by rw [hf2]; exact b2
    F_law_kept := by rw [ha3, hf3]; exact F3
    g_law_kept := by rw [ha3]; exact PySem.W.mg_of X G a3
    b_law_kept := by rw [hf3]; exact b3
    F_law_signs := by rw [ha4, hf4]; exact F4
    g_law_signs := by rw [ha4]; exact PySem.W.mg_of X G a4
    b_law_signs := by rw [hf4]; exact b4
    F_law_name := by rw [ha5, hf5]; exact F5
    g_law_name := by rw [ha5]; exact PySem.W.mg_of X G a5
    b_law_name := by rw [hf5]; exact b5
    F_law_is_name := by rw [ha6, hf6]; exact F6
    g_law_is_name := by rw [ha6]; exact PySem.W.mg_of X G a6
    b_law_is_name := by rw [hf6]; exact b6
    F_law_text := by rw [ha7, hf7]; exact F7
    g_law_text := by rw [ha7]; exact PySem.W.mg_of X G a7
    b_law_text := by rw [hf7]; exact b7
    F_law := by rw [ha8, hf8]; exact F8
    g_law := by rw [ha8]; exact PySem.W.mg_of X G a8
    b_law := by rw [hf8]; exact b8
    g_BOOK_WORDS := ⟨_, PySem.W.mg_of X G x0, by rw [he0]; rfl⟩
    c_BOOK_WORDS := by rw [he0]; exact kt_of y0 v0
    g_ASK_WORDS := ⟨_, PySem.W.mg_of X G x1, by rw [he1]; rfl⟩
    c_ASK_WORDS := by rw [he1]; exact kt_of y1 v1
    g_LONGEST_NAME := ⟨_, PySem.W.mg_of X G g0, h0⟩
    g_LETTERS := ⟨_, PySem.W.mg_of X G g1, h1⟩
    z_len := PySem.W.mg_none_of X G z0
    z_all := PySem.W.mg_none_of X G z1
    z_max := PySem.W.mg_none_of X G z2
    z_list := PySem.W.mg_none_of X G z3
    z_reversed := PySem.W.mg_none_of X G z4
    z_range := PySem.W.mg_none_of X G z5
    z_min := PySem.W.mg_none_of X G z6
    z_repr := PySem.W.mg_none_of X G z7
  }
  refine ⟨PySem.W.fnOf "law" "law" (defArgs s_law) (defBody s_law) (defScope s_law) .none kV8 dc8 pm8 an8 cd8 ct8, fun s v => .of_eq rfl, fun base _ _ => ?_⟩
  have r := ok_law (P := l.prog) (w := w) (base := base) T
  rw [ha8, hf8] at r
  exact r
end Ct
open PySem PySem.W PyProof.Rows Ct
set_option maxHeartbeats 0 in
theorem PySem.Challenge.cw_chancetongue_k06_names_holds : PySem.Challenge.rw_chancetongue_k06_names.Holds := by
  w_on; o_law; k_head; (case hw => w_witness2)
  k_fill
  refine Ct.walk_ofG (l := PySem.Challenge.rw_chancetongue_k06_names) (n := 63) (k := 4) (x := "_law_script") (CX := fun _ => L2.CX0) (sp := fun w => spL _) rfl (by decide) rfl ⟨rfl, by decide, by decide⟩ (fun w h Y => PySem.W.kIn_of Y) ?F (fun _ _ a ns hl hb hO hS => ⟨a, ns, rfl, hS, hl, hb, hO, fun _ => rfl⟩) (fun _ _ _ _ _ h => h)
  case F =>
    intro w mg fa h KX G hmg
    refine' all_mk KX G hmg ?y_a0 ?y_l0 ?y_c0 ?y_k0 ?y_a1 ?y_l1 ?y_c1 ?y_k1 ?y_a2 ?y_l2 ?y_c2 ?y_k2 ?y_a3 ?y_l3 ?y_c3 ?y_k3 ?y_a4 ?y_l4 ?y_c4 ?y_k4 ?y_a5 ?y_l5 ?y_c5 ?y_k5 ?y_a6 ?y_l6 ?y_c6 ?y_k6 ?y_a7 ?y_l7 ?y_c7 ?y_k7 ?y_a8 ?y_l8 ?y_c8 ?y_k8 ?y_x0 ?y_y0 ?y_v0 ?y_x1 ?y_y1 ?y_v1 ?y_g0 ?y_h0 ?y_g1 ?y_h1 ?y_z0 ?y_z1 ?y_z2 ?y_z3 ?y_z4 ?y_z5 ?y_z6 ?y_z7
    (case y_a0 => k_is); (case y_l0 => k_is); (case y_c0 => k_is); (case y_k0 => k_is); (case y_a1 => k_is); (case y_l1 => k_is); (case y_c1 => k_is); (case y_k1 => k_is); (case y_a2 => k_is); (case y_l2 => k_is); (case y_c2 => k_is); (case y_k2 => k_is); (case y_a3 => k_is); (case y_l3 => k_is); (case y_c3 => k_is); (case y_k3 => k_is); (case y_a4 => k_is); (case y_l4 => k_is); (case y_c4 => k_is); (case y_k4 => k_is); (case y_a5 => k_is); (case y_l5 => k_is); (case y_c5 => k_is); (case y_k5 => k_is); (case y_a6 => k_is); (case y_l6 => k_is); (case y_c6 => k_is); (case y_k6 => k_is); (case y_a7 => k_is); (case y_l7 => k_is); (case y_c7 => k_is); (case y_k7 => k_is); (case y_a8 => k_is); (case y_l8 => k_is); (case y_c8 => k_is); (case y_k8 => k_is); (case y_x0 => k_is); (case y_y0 => k_is); (case y_v0 => exact ⟨rfl, rfl, by decide, (.cons ⟨_, rfl⟩ (.cons ⟨_, rfl⟩ (.cons ⟨_, rfl⟩ (.cons ⟨_, rfl⟩ (.cons ⟨_, rfl⟩ (.cons ⟨_, rfl⟩ (.cons ⟨_, rfl⟩ (.cons ⟨_, rfl⟩ (.cons ⟨_, rfl⟩ (.cons ⟨_, rfl⟩ .nil))))))))))⟩); (case y_x1 => k_is); (case y_y1 => k_is); (case y_v1 => exact ⟨rfl, rfl, by decide, (.cons ⟨_, rfl⟩ (.cons ⟨_, rfl⟩ (.cons ⟨_, rfl⟩ (.cons ⟨_, rfl⟩ .nil))))⟩); (case y_g0 => k_is); (case y_h0 => exact ⟨_, rfl⟩); (case y_g1 => k_is); (case y_h1 => exact ⟨_, rfl⟩); (case y_z0 => k_is); (case y_z1 => k_is); (case y_z2 => k_is); (case y_z3 => k_is); (case y_z4 => k_is); (case y_z5 => k_is); (case y_z6 => k_is); (case y_z7 => k_is)
