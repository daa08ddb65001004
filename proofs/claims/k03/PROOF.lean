import PyProof.Rows.All
import Wide.All
import OpenK.AllK
import Wide.FinOn
import HandS.ForMost
import HandS.Rev
import HandS.RevTup
import HandS.EndBits
import PyProof.Rows.Digits
import PyProof.ReprRoads
import PyProof.FString2
import PyProof.FactsAll.bool_2
import PyProof.FactsAll.str_2
import HandS.TupAny
import HandS.TupMul
import HandS.WideBits
import HandS.Style
import HandS.Deep
import HandS.IsInst
import HandS.WordsDict
import HandS.RaiseMore
import HandS.Flow
import PyProof.StrBlock2
import HandS.Codes
import HandS.Walk
import HandS.Small
import HandS.Zip
import HandS.RevRange
import PyProof.StrBlockL
import HandS.Defaults
import HandS.MakeKwOnly
import HandS.ExcOwn
import HandS.WordsExc
import HandS.TryOnly
import HandS.TryMany
import HandS.ExcIs
import HandS.ExcField
import HandS.ExcInit
import KE.KIntText
import KE.IntText
import PySem.Challenge.RW_chancetongue_k03_which_share_is_less
set_option Elab.async false
set_option linter.all false
set_option maxRecDepth 100000
set_option maxHeartbeats 4000000
/-! list(reversed(xs)), xs a list -/
namespace Ct
open PySem PySem.Spec PyProof.Rows L2
section
variable {prog : Program} {w : World} {A : Around} {E : Value → Shared → Prop} {s : Shared}
theorem extend_rev {R : Result → Shared → Prop} {it l : Addr} {items : Array Value} (hh : A.handled = none) (hit : s.heap.IsRevIter it l ((items.size : Int) - 1)) (hl : s.heap.IsList l items) (hne : l ≠ it) (hn : items.size ≤ sizeLine)
    (S : Addr) (res : Value) (c₀ : Nat) (hSi : S ≠ it) (hSl : S ≠ l) (hS : s.heap.get? S = some { cls := .type "list", data := .seq #[] c₀ })
    (hR : ∀ h' tk acc' c', (∀ b o, b ≠ S → b ≠ it → s.heap.get? b = some o → h'.get? b = some o) → h'.get? S = some { cls := .type "list", dict := none, data := .seq acc' c', slots := #[] } → ItemsOf (fun i v => items[items.size - 1 - i]? = some v) acc' items.size → R (.ok (.ret res)) { s with heap := h', toks := tk }) :
    wpAny (model prog w) A.in1 (Builtin.List.listExtendWith (.ref S) (.ref it) res)
      (fun fin s' => match fin with | .done f => R (.ok f) s' | .again c' => c'.quiet = true ∧ codeAny (model prog w) A c' R s') (fun e s' => R (.error e) s') s := by
  have hT : s.TypeIs (.ref it) "list_reverseiterator" := Heap.IsRevIter.typeIs hit
  have hSf : S ∉ [it, l] := by simp only [List.mem_cons, List.not_mem_nil, or_false, not_or]; exact ⟨hSi, hSl⟩
  have h1 : Builtin.List.listSameRef (.ref S) (.ref it) = false := by simp [Builtin.List.listSameRef, hSi]
  have W := (Walks.listRev (prog := prog) (w := w) (A := A.in1) hh it l hne items).toS
  have e0 : ((items.size : Nat) : Int) - 1 - ((0 : Nat) : Int) = (items.size : Int) - 1 := by omega
  unfold Builtin.List.listExtendWith
  refine wpAny_bind (wpAny_typeOf hT ?_)
  rw [if_neg (by rw [h1]; decide)]
  refine wpAny_bind (wpAny_pyIter_revIter hit ?_)
  refine wpAny_bind (wpAny_holding ?_)
  unfold Builtin.List.listLengthHint
  refine wpAny_bind (wpAny_specialOf hT RT.nolen_lri ?_)
  show wpAny _ A.in1 (specialOf (Value.ref it) (Str.ofString "__length_hint__") >>= _) _ _ _
  refine wpAny_bind (wpAny_specialOf hT RT.hint_lri ?_)
  generalize hid : ("list_reverseiterator.__length_hint__" : String) = id0
  wp_delta
  rw [show splitId id0 = some ("list_reverseiterator", "__length_hint__") from by subst hid; decide +kernel]
  subst hid
  refine wpAny_bind (wpAny_isInstance (b := true) hT (by rw [isSubtype_type]; kernel_rfl) ?_)
  refine wpAny_pure ?_
  rw [if_neg (by decide)]
  refine wpAny_pure ⟨plainId_quiet PySem.F.plain_extend_loop _, codeAny_extend_loopS W hn _ hSf _ items.size 0 _ _ _ rfl (Nat.zero_le _) ⟨Nat.zero_le _, by rw [e0]; exact hit, hl⟩ hS (ItemsOf.nil _) fun s' acc' c' hm hS' hacc => ?_⟩
  rw [Moved.eq_with hm]
  refine hR s'.heap s'.toks acc' c' (fun b o hb hb2 e => hm.heap b o (fun hmem => ?_) e) hS' hacc
  rcases List.mem_cons.mp hmem with e' | hmem
  · exact hb e'
  · exact hb2 (List.mem_singleton.mp hmem)
theorem init_rev {R : Result → Shared → Prop} {it l : Addr} {items : Array Value} (hh : A.handled = none) (hit : s.heap.IsRevIter it l ((items.size : Int) - 1)) (hl : s.heap.IsList l items) (hne : l ≠ it) (hn : items.size ≤ sizeLine)
    (S : Addr) (hSi : S ≠ it) (hSl : S ≠ l) (hS : s.heap.get? S = some { cls := .type "list", data := .seq #[] })
    (hR : ∀ h' tk acc' c', (∀ b o, b ≠ S → b ≠ it → s.heap.get? b = some o → h'.get? b = some o) → h'.get? S = some { cls := .type "list", dict := none, data := .seq acc' c', slots := #[] } → ItemsOf (fun i v => items[items.size - 1 - i]? = some v) acc' items.size → R (.ok (.ret .none)) { s with heap := h', toks := tk }) :
    wpAny (model prog w) A.in1 (Builtin.«list.__init__» ⟨[.ref S, .ref it], []⟩)
      (fun fin s' => match fin with | .done f => R (.ok f) s' | .again c' => c'.quiet = true ∧ codeAny (model prog w) A c' R s') (fun e s' => R (.error e) s') s := by
  show wpAny _ A.in1 (do let old ← Builtin.List.listItems (.ref S); Builtin.List.listUpdate (.ref S) (fun _ => #[]); letGo old.toList.reverse; Builtin.List.listExtendWith (.ref S) (.ref it) .none) _ _ s
  refine wpAny_bind ?_
  unfold Builtin.List.listItems
  refine wpAny_bind (wpAny_seqItems hS rfl (wpAny_pure ?_))
  show wpAny _ A.in1 (updateSeq S (fun _ => #[]) >>= fun _ => letGo (#[] : Array Value).toList.reverse >>= fun _ => Builtin.List.listExtendWith (.ref S) (.ref it) .none) _ _ s
  refine wpAny_bind (wpAny_updateSeq hS rfl ?_)
  have hS₂ := Heap.get?_update_self (Obj.mapSeq (fun _ => (#[] : Array Value))) hS rfl
  have oth : ∀ b o, b ≠ S → s.heap.get? b = some o → (s.heap.update S (Obj.mapSeq (fun _ => (#[] : Array Value)))).get? b = some o :=
    fun b o hb e => (Heap.get?_update_other _ _ (Ne.symm hb)).trans e
  refine wpAny_bind (wpAny_letGo ?_)
  have hl2 : (s.heap.update S (Obj.mapSeq (fun _ => (#[] : Array Value)))).IsList l items := by
    obtain ⟨o, ho, r⟩ := hl
    exact ⟨o, oth _ _ hSl.symm ho, r⟩
  refine extend_rev (s := { s with heap := s.heap.update S (Obj.mapSeq (fun _ => (#[] : Array Value))) }) hh (hit.at fun o e => oth _ _ hSi.symm e) hl2 hne hn S .none _ hSi hSl hS₂ fun h' tk acc' c' hk hS' hacc => ?_
  exact hR h' tk acc' c' (fun b o hb hb2 e => hk b o hb hb2 (oth b o hb e)) hS' hacc
theorem call_list_rev {it l : Addr} {items : Array Value} {Q : Value → Shared → Prop} (hh : A.handled = none) (hit : s.heap.IsRevIter it l ((items.size : Int) - 1)) (hl : s.heap.IsList l items) (hne : l ≠ it) (hn : items.size ≤ sizeLine)
    (hQ : ∀ h' tk acc' c', (∀ b o, b ≠ it → s.heap.get? b = some o → h'.get? b = some o) → h'.get? s.heap.objs.size = some { cls := .type "list", dict := none, data := .seq acc' c', slots := #[] } → ItemsOf (fun i v => items[items.size - 1 - i]? = some v) acc' items.size → Q (.ref s.heap.objs.size) { s with heap := h', toks := tk }) :
    wpAny (model prog w) A (call (.type "list") [.ref it]) Q E s := by
  refine callType_codes (Q₁ := fun obj s₁ => obj = .ref s.heap.objs.size ∧ s₁ = { s with heap := s.heap.push { cls := .type "list", data := .seq #[] } }) PySem.F.called_list (PySem.F.typeCall_list_1 _) PySem.F.entry_list_init
    (code_list_new _ ⟨rfl, rfl⟩) fun obj s₁ h₁ => ?_
  obtain ⟨rfl, rfl⟩ := h₁
  have hS : (s.heap.push { cls := .type "list", data := .seq #[] }).get? s.heap.objs.size = some { cls := .type "list", data := .seq #[] } := Heap.get?_push_size _ rfl
  have hlt1 : it < s.heap.objs.size := by obtain ⟨o, ho, _⟩ := hit; exact Heap.lt_size ho
  have hlt2 : l < s.heap.objs.size := by obtain ⟨o, ho, _⟩ := id hl; exact Heap.lt_size ho
  refine ⟨⟨_, hS, rfl⟩, PySem.F.args_list_init_2 _ _, init_rev (A := A.in1) (s := { s with heap := s.heap.push { cls := .type "list", data := .seq #[] } }) hh (hit.at fun o e => Heap.get?_push_of_some _ e) (hl.push _) hne hn _ (Nat.ne_of_gt hlt1) (Nat.ne_of_gt hlt2) hS (fun h' tk acc' c' hk hS' hacc => ?_)⟩
  exact ⟨rfl, hQ h' tk acc' c' (fun b o hb e => hk b o (Nat.ne_of_lt (Heap.lt_size e)) hb (Heap.get?_push_of_some _ e)) hS' hacc⟩
end
section
variable {X : Cx}
/-- list(reversed(x)), x a list: a new list -/
def tListRev (K : PySem.W.Frag) (te : TE) : TE := fun σ H Q => te σ H fun v H1 => ∃ (a : Addr) (xs : List V), v = .ref a ∧ SqL K H1 a xs ∧ ∀ q, H1 q = none → Q (.ref q) (upd H1 q (.lst xs.reverse))
theorem pe_listRev {e : Expr} {te : TE} {p p2 pos pos2 : Pos} (hc : X.calm = true) (hg : Gl X "list") (hm : X.mg "list" = none) (hg2 : Gl X "reversed") (hm2 : X.mg "reversed" = none) (he : PE X e te)
    (hs : starEach [e] X.env = (false, eval e X.env) :: starEach [] X.env := by rfl)
    (hs2 : starEach [.Call (.Name "reversed" p2) [e] [] pos2] X.env = (false, eval (.Call (.Name "reversed" p2) [e] [] pos2) X.env) :: starEach [] X.env := by rfl) :
    PE X (.Call (.Name "list" p) [.Call (.Name "reversed" p2) [e] [] pos2] [] pos) (tListRev X.K te) := by
  refine ⟨fun pins s σ H Q I h => ?_⟩
  refine Call_ (ld_blt I hg hm PyProof.Rows.boot_list (PyProof.Rows.callWith_type1 (args_cons (Call_ (ld_blt I hg2 hm2 PyProof.Rows.boot_reversed (PyProof.Rows.callWith_type1 (args_cons (thn (he.run pins s σ H _ I h) fun u s1 ⟨v, H1, I1, r1, q1⟩ => args_nil ?_) hs) hs rfl))) hs2) hs2 rfl))
  obtain ⟨a, xs, ev, hq, q⟩ := q1
  subst ev
  obtain rfl : u = Value.ref a := r1
  obtain ⟨its, rv, p', hz⟩ := I1.list hq
  refine call_reversed_list p'.isList (args_nil ?_)
  have hl := p'.isList
  obtain ⟨ol, hol, _⟩ := id hl
  have hne : a ≠ s1.heap.objs.size := Nat.ne_of_lt (Heap.lt_size hol)
  have hn : its.toArray.size ≤ sizeLine := by rw [List.size_toArray, ← rv.length]; exact hz
  refine call_list_rev (s := { s1 with heap := s1.heap.push (revObj a ((its.toArray.size : Int) - 1)) }) (I1.ok.hd hc) ⟨_, Heap.get?_push_size _ rfl, rfl, rfl⟩ (hl.push _) hne hn fun h' tk acc c' hk hS hi => ?_
  have old : ∀ b o, s1.heap.get? b = some o → h'.get? b = some o := fun b o e => hk b o (Nat.ne_of_lt (Heap.lt_size e)) (Heap.get?_push_of_some _ e)
  have ns : s1.heap.objs.size ≤ (s1.heap.push (revObj a ((its.toArray.size : Int) - 1))).objs.size := by rw [Heap.size_push]; exact Nat.le_succ _
  refine ⟨.ref (s1.heap.push (revObj a ((its.toArray.size : Int) - 1))).objs.size, upd H1 _ (.lst xs.reverse), I1.laid (t' := tk) old ns (show ObjOk X.prog X.w _ _ _ (.lst xs.reverse) from ⟨by rw [List.length_reverse]; exact hz, acc.toList, c', RT.vals_rev rv hi, ?_⟩), rfl, q _ (I1.hok.fresh ns)⟩
  rw [Array.toArray_toList]
  exact hS
end
end Ct
/-! defs that are called where no display is under way (repr of lists wants it) -/
namespace Ct
open PySem PySem.Spec PyProof.Rows L2
/-- the promise of a def, asked only where no repr is under way -/
structure FnG (P : Program) (w : World) (K : PySem.W.Frag) (mg : Str → Option Value) (base : Heap) (CX : CXT) (k : Nat) (f : Addr) (fd : FuncData) (ps : List Str) (sp : Sp) : Prop where
  len : ∀ vs H Q E, sp vs H Q E → vs.length = ps.length
  go : ∀ (B : Around) (out : List Env) (t : Shared) (H : Hp) (ar : Args) (us : List Value) (vs : List V) (Q : VK) (E : XK),
    B.guards = some [] → Room k B → Env0 P w K mg base B out t H → BindsTo t fd ar (ps.zip us) → Vals vs us → sp vs H Q E →
    codeAny (model P w) B (.call (.ref f) ar) (CR CX out P w H t Q E) t
section
variable {P : Program} {w : World} {K : PySem.W.Frag} {mg : Str → Option Value} {base : Heap} {CX : CXT} {k : Nat} {f : Addr} {fd : FuncData} {ps : List Str} {sp : Sp}
theorem FnG.of (F : FnOk P w K mg base CX k f fd ps sp) : FnG P w K mg base CX k f fd ps sp :=
  ⟨F.len, fun B out t H ar us vs Q E _ hr => F.run B out t H ar us vs Q E hr⟩
/-- by its body -/
theorem fnG_of {name qual : Str} {params : Arguments} {body : List Stmt} {scope : Scope} {dV kV doc pm cdv ct oc : Value} {an od : Option Addr} {osl : Array (Option Value)} {N : List Str}
    (lk : K.lookup f = some ⟨oc, od, .func (PySem.W.fnOf name qual params body scope dV kV doc pm an cdv ct), osl⟩) (hcd : PySem.W.codeIn K cdv qual = true) (S : FnScope N ps scope) (len : ∀ vs H Q E, sp vs H Q E → vs.length = ps.length)
    (bd : ∀ (B : Around) (out : List Env) (t : Shared) (H : Hp) (vs : List V) (Q : VK) (E : XK), B.guards = some [] → Room k (B.deeper (envOfC qual scope t.heap.objs.size f cdv)) → sp vs H Q E →
      ∃ r, PSs (cxOf CX P w K mg base N qual scope f cdv B out t H E) body r ∧ r { nx := fun _ H' => Q .non H', rt := Q } (start N vs) H) :
    FnG P w K mg base CX (k + 1) f (PySem.W.fnOf name qual params body scope dV kV doc pm an cdv ct) ps sp := by
  refine ⟨len, fun B out t H ar us vs Q E hgd hr e0 hb rr hs => ?_⟩
  have hl : vs.length = ps.length := len _ _ _ _ hs
  have KX : K.In t.heap := e0.mod.kin.keeps fun c o z => (e0.bs c o z).1
  have nl : t.heap.NoLimit := e0.mod.nolimit.keeps fun c o z => (e0.bs c o z).1
  have kn : ∀ y ∈ ps.zip us, scope.names.lookup y.1 = some .local ∨ (scope.names.lookup y.1 = some .cell ∧ ((cellsFrom (t.heap.objs.size + 1) scope.names []).lookup y.1).isSome = true) := by
    rintro ⟨n, v⟩ hy
    rcases S.par n (List.of_mem_zip hy).1 with z | z
    · exact .inl z
    · exact .inr ⟨z, PySem.W.cellsFrom_some _ _ _ (.inl z)⟩
  refine codeAny_call_function hr.depth (KX _ _ lk) rfl S.co S.gen rfl (PySem.W.codeRec_of KX hcd) (hb _ _ _ _ (wpAny_newFunctionEnv_cells S.kind kn fun ev hev t1 x => ?_))
  subst hev
  refine ⟨nl.keeps x.toInCall.keep, codeAny_func ?_⟩
  obtain ⟨r, hrd, hq⟩ := bd B out t H vs Q E hgd (hr.deeper _) hs
  have I := inv_start (CX := CX) (cd := cdv) (E := E) S hr.hd e0 hl rr x
  refine wpAny_mono (hrd.run [] t1 (start N vs) H _ I hq) (fun fl t2 h2 => ?_) fun _ _ h2 => h2
  cases fl with
  | ret u =>
    obtain ⟨v, σ', H', J, rv, q⟩ := h2
    exact ⟨v, H', J.os, J.bare, J.base, J.hok, rv, q⟩
  | next =>
    obtain ⟨σ', H', J, q⟩ := h2
    exact ⟨V.non, H', J.os, J.bare, J.base, J.hok, rfl, q⟩
  | brk =>
    obtain ⟨_, _, _, q⟩ := h2
    exact q.elim
  | cont =>
    obtain ⟨_, _, _, q⟩ := h2
    exact q.elim
theorem okG {x qual : Str} {st : Stmt} {N : List Str} (F : Fun K x qual st f fd) (S : FnScope N ps (defScope st)) (len : ∀ vs H Q E, sp vs H Q E → vs.length = ps.length)
    (bd : ∀ (cdv : Value) (B : Around) (out : List Env) (t : Shared) (H : Hp) (vs : List V) (Q : VK) (E : XK), B.guards = some [] → Room k (B.deeper (envOfC qual (defScope st) t.heap.objs.size f cdv)) → sp vs H Q E →
      ∃ r, PSs (cxOf CX0 P w K mg base N qual (defScope st) f cdv B out t H E).nox (defBody st) r ∧ r { nx := fun _ H' => Q .non H', rt := Q } (start N vs) H) : FnG P w K mg base CX0 (k + 1) f fd ps sp := by
  obtain ⟨oc, od, kV, doc, pm, an, cdv, ct, osl, rfl, lk, hcd⟩ := F.ex
  refine fnG_of lk hcd S len fun B out t H vs Q E hgd hr hs => ?_
  obtain ⟨r, h, q⟩ := bd cdv B out t H vs Q E hgd hr hs
  exact ⟨r, h.nox, q⟩
end
section
variable {X : Cx} {CX : CXT} {k : Nat} {f : Addr} {fd : FuncData} {ps : List Str} {sp : Sp} {dvs : List V} {ds : List Value} {E : XK} {x : Str} {p pos : Pos} {e : Expr} {es : List Expr} {t : TA}
theorem runG {pins : List (Addr × Obj)} {σ : L2.St} {H : Hp} {s : Shared} {Q : VK} {us : List Value} {vs : List V} (F : FnG X.prog X.w X.K X.mg X.base CX k f fd ps sp) (hgd : X.A.guards = some []) (hr : Room k X.A) (hb : Binds X.K fd ps ds) (hd : Vals dvs ds) (hx : Passes CX X E)
    (I : Inv X pins σ H s) (r : Vals vs us) (h : sp (vs ++ dvs) H Q E) : wpAny (model X.prog X.w) X.A (call (.ref f) us) (EP X pins σ Q) X.xe s := by
  have r2 := r.append hd
  have hl : (us ++ ds).length = ps.length := r2.length.symm.trans (F.len _ _ _ _ h)
  refine wpAny_call (codeAny_mono (F.go X.A X.stack s H ⟨us, []⟩ (us ++ ds) (vs ++ dvs) Q E hgd hr I.env0 (hb s us I.kIn hl) r2 h) fun y s' hq => ?_)
  cases y with
  | error e => exact hx pins σ H s e s' I hq
  | ok fl => cases fl <;> first | exact I.after hq | exact hq.elim
theorem pe_callG (F : FnG X.prog X.w X.K X.mg X.base CX k f fd ps sp) (hgd : X.A.guards = some []) (hr : Room k X.A) (hg : Gl X x) (hm : X.mg x = some (.ref f)) (hk : PySem.W.keepIn X.K (.ref f) = true) (hb : Binds X.K fd ps ds) (hd : Vals dvs ds) (hx : Passes CX X E)
    (ha : PA X (e :: es) t) (hdb : (x == ("__debug__" : Str)) = false := by decide) (he : starEach (e :: es) X.env = (false, eval e X.env) :: starEach es X.env := by rfl) (hpl : (backTo pos (starEach es X.env)).any (·.1) = false := by rfl) :
    PE X (.Call (.Name x p) (e :: es) [] pos) (tCall sp dvs E t) :=
  ⟨fun pins s σ H Q I h => wpAny_Call_Name_kw (ld_glob I hg hm (PySem.W.callWith_K (h₀ := X.base) I.ok.mod.kin hk (thn (ha.run pos pins s σ H _ I h) fun us s1 ⟨vs, H1, I1, r, q⟩ => ⟨I1.kIn, runG F hgd hr hb hd hx I1 r q⟩) he hpl) hdb)⟩
theorem pe_callG0 (F : FnG X.prog X.w X.K X.mg X.base CX k f fd ps sp) (hgd : X.A.guards = some []) (hr : Room k X.A) (hg : Gl X x) (hm : X.mg x = some (.ref f)) (hk : PySem.W.keepIn X.K (.ref f) = true) (hb : Binds X.K fd ps ds) (hd : Vals dvs ds) (hx : Passes CX X E)
    (hdb : (x == ("__debug__" : Str)) = false := by decide) : PE X (.Call (.Name x p) [] [] pos) (tCall sp dvs E tNil) :=
  ⟨fun pins s σ H Q I h => wpAny_Call_Name_kw (ld_glob I hg hm (PySem.W.callWith_K0 I.kIn hk (runG (us := []) F hgd hr hb hd hx I .nil h)) hdb)⟩
end
/-! ### the law's own end -/
section
variable {P : Program} {w : World} {K : PySem.W.Frag} {mg mb : Str → Option Value} {CX : CXT} {k : Nat} {fa a : Addr} {fd : FuncData} {x : Str} {sp : Sp} {t : Shared} {vs : List Value} {ns : List Int}
/-- the same, from an abstract heap in which nothing but the script may be tracked -/
theorem law_core (hns : t.heap.Ns mainGlobals mg) (hb : t.heap.Ns builtinsNs mb) (hbb : ∀ x : Str, x ≠ "__name__" → mb x = bootBuiltins x) (hlim : t.heap.NoLimit) (hdig : t.heap.NoDigits) (hg : t.gens = #[])
    (ha : t.heap.get? a = some { cls := .type "list", data := .seq vs.toArray }) (KX : K.In t.heap) (hr : Room k callerA)
    (F : ∀ base : Heap, K.In base → base.Ns mainGlobals mg → base.NoDigits → FnG P w K mg base CX k fa fd [x] sp) (hbind : ∀ (s : Shared) (u : Value), BindsTo s fd ⟨[u], []⟩ [(x, u)])
    (hCX : ∀ H e s', CX [] H t (fun _ _ _ => False) e s' → False) (H : Hp) (hO : Only H) (hok : HOk P w H t.heap) (hA : ∀ b, H b ≠ none → b = a) (hK : H a ≠ none → K.lookup a = none)
    (hsp : sp [.ref a] H (fun v _ => v = .bl true) fun _ _ _ => False) :
    codeAny (model P w) callerA (.call (.ref fa) ⟨[.ref a], []⟩) (fun r s' => r = .ok (.ret (.bool true)) ∧ OldK t.heap s'.heap ∧ s'.os = t.os ∧ AllBare s'.gens) t := by
  have at_ : ∀ {b : Addr} {o : Obj}, t.heap.get? b = some o → H b = none → (hidT t.heap H).get? b = some o := fun e n => hidT_get e n
  have ofdict : ∀ {b : Addr} {o : Obj} {es : Array DictEntry} {ep : Nat}, t.heap.get? b = some o → o.data = .dict es ep → H b = none := by
    intro b o es ep e d
    cases q : H b with
    | none => rfl
    | some u =>
      have eb := hA b (by rw [q]; exact Option.some_ne_none u)
      subst eb
      rw [ha] at e
      cases e
      exact nomatch d
  have ns' : ∀ {b : Addr} {m : Str → Option Value}, t.heap.Ns b m → (hidT t.heap H).Ns b m := fun {b m} ⟨o, es, ep, e, d, r⟩ => ⟨o, es, ep, at_ e (ofdict e d), d, r⟩
  have KB : K.In (hidT t.heap H) := by
    intro b o e
    refine at_ (KX b o e) ?_
    cases q : H b with
    | none => rfl
    | some u =>
      have eb := hA b (by rw [q]; exact Option.some_ne_none u)
      subst eb
      have := hK (by rw [q]; exact Option.some_ne_none u)
      rw [this] at e
      cases e
  have hM : Mod K mg (hidT t.heap H) := ⟨KB, ns' hns, ⟨mb, ns' hb, hbb⟩, let ⟨mc, h1, h2⟩ := hlim; ⟨mc, ns' h1, h2⟩⟩
  have e0 : Env0 P w K mg (hidT t.heap H) callerA [] t H := ⟨rfl, hM, fun _ _ e => of_hidT e, Nat.le_of_eq (hidT_size _ _), trivial, fun _ z => (List.not_mem_nil z).elim, hok, .of_eq hg⟩
  refine codeAny_mono ((F _ KB (ns' hns) (let ⟨mc, h1, h2⟩ := hdig; ⟨mc, ns' h1, h2⟩)).go callerA [] t H ⟨[.ref a], []⟩ [.ref a] [.ref a] _ _ rfl hr e0 (hbind t (.ref a)) (.cons rfl .nil) hsp) fun r s' h => ?_
  cases r with
  | error e => exact (hCX H e s' h).elim
  | ok fl =>
    cases fl with
    | next => exact h.elim
    | brk => exact h.elim
    | cont => exact h.elim
    | ret u =>
      obtain ⟨v, H', os, bare, un, hok', rv, q⟩ := h
      obtain rfl : v = .bl true := q
      obtain rfl : u = Value.bool true := rv
      refine ⟨rfl, OldK.of_keep fun b o e => ?_, os, bare⟩
      cases q : H b with
      | none => exact un.keep b o e q (List.not_mem_nil) (List.not_mem_nil)
      | some u =>
        rcases hO b with z | ⟨ob, xs, z⟩
        · rw [q] at z
          cases z
        · obtain ⟨e1, _⟩ := hok b _ z
          obtain ⟨e2, _⟩ := hok' b _ (un.frzs b ob _ z)
          rw [e] at e1
          cases e1
          exact e2
theorem law_callG (KX : K.In t.heap) (hns : t.heap.Ns mainGlobals mg) (hb : t.heap.Ns builtinsNs mb) (hbb : ∀ x : Str, x ≠ "__name__" → mb x = bootBuiltins x) (hlim : t.heap.NoLimit) (hdig : t.heap.NoDigits) (hg : t.gens = #[])
    (ha : t.heap.get? a = some { cls := .type "list", data := .seq vs.toArray }) (hi : IntsAre vs ns) (hl : ns.length ≤ sizeLine) (hr : Room k callerA)
    (F : ∀ base : Heap, K.In base → base.Ns mainGlobals mg → base.NoDigits → FnG P w K mg base CX k fa fd [x] sp) (hbind : ∀ (s : Shared) (u : Value), BindsTo s fd ⟨[u], []⟩ [(x, u)])
    (hsp : ∀ H : Hp, Only H → SqL K H a (ns.map V.int) → sp [.ref a] H (fun v _ => v = .bl true) fun _ _ _ => False)
    (hCX : ∀ H e s', CX [] H t (fun _ _ _ => False) e s' → False) :
    codeAny (model P w) callerA (.call (.ref fa) ⟨[.ref a], []⟩) (fun r s' => r = .ok (.ret (.bool true)) ∧ OldK t.heap s'.heap ∧ s'.os = t.os ∧ AllBare s'.gens) t := by
  have rv := vals_ints hi
  have lenV := hi.length
  cases hk : K.lookup a with
  | some o =>
    have e := KX a o hk
    rw [ha] at e
    cases e
    have sq : SqL K (fun _ => none) a (ns.map V.int) := .inr ⟨_, vs.toArray, _, hk, rfl, rfl, rfl, by rw [List.size_toArray, lenV]; exact hl, by simpa using rv⟩
    exact law_core hns hb hbb hlim hdig hg ha KX hr F hbind hCX (fun _ => none) (fun _ => .inl rfl) (fun _ _ z => nomatch z) (fun _ z => absurd rfl z) (fun z => absurd rfl z) (hsp _ (fun _ => .inl rfl) sq)
  | none =>
    let G : Hp := fun b => if b = a then some (.frz { cls := .type "list", data := .seq vs.toArray } (.lst (ns.map V.int))) else none
    have here : G a = some (.frz { cls := .type "list", data := .seq vs.toArray } (.lst (ns.map V.int))) := if_pos rfl
    have away : ∀ b, b ≠ a → G b = none := fun b hb => if_neg hb
    have only : Only G := fun b => by
      by_cases hb : b = a
      · subst hb
        exact .inr ⟨_, _, here⟩
      · exact .inl (away b hb)
    refine law_core hns hb hbb hlim hdig hg ha KX hr F hbind hCX G only (fun b u z => ?_) (fun b z => ?_) (fun _ => hk) (hsp _ only (.inl (.inr ⟨_, here⟩)))
    · by_cases hb : b = a
      · subst hb
        rw [here] at z
        cases z
        exact ⟨ha, by rw [List.length_map]; exact hl, vs, _, rv, ha⟩
      · rw [away b hb] at z
        cases z
    · by_cases hb : b = a
      · exact hb
      · exact absurd (away b hb) z
end
/-- what the head leaves of a law, from its promise -/
theorem walk_ofG {l : PySem.W.OpenLaw} {n k : Nat} {q : Program} {loose : List Str} {XP : (Str → Option Value) → Heap → Prop} {YP : World → Heap → Prop} {d : DefRec} {K : Params → PySem.W.Frag} {CX : World → CXT} {sp : World → Sp} {x : Str}
    (hn : l.most = some n) (hn2 : n ≤ sizeLine) (hdf : d.params.defaults = []) (hr : Room k callerA) (hY : ∀ (w : World) (h : Heap), YP w h → (K w.params).In h)
    (F : ∀ (w : World) (mg : Str → Option Value) (fa : Addr) (h : Heap), (K w.params).In h → h.Ns mainGlobals mg → mg d.name = some (.ref fa) →
      ∃ fd : FuncData, (∀ (s : Shared) (u : Value), BindsTo s fd ⟨[u], []⟩ [(x, u)]) ∧ ∀ base : Heap, (K w.params).In base → base.Ns mainGlobals mg → base.NoDigits → FnG l.prog w (K w.params) mg base (CX w) k fa fd [x] (sp w))
    (hsp : ∀ (w : World) (H : Hp) (a : Addr) (ns : List Int), ns.length ≤ n → (∀ i ∈ ns, Builtin.Int.intBits i ≤ 1048576) → Only H → SqL (K w.params) H a (ns.map V.int) → sp w [.ref a] H (fun v _ => v = .bl true) fun _ _ _ => False)
    (hCX : ∀ (w : World) (H : Hp) (s : Shared) (e : Value) (s' : Shared), CX w [] H s (fun _ _ _ => False) e s' → False) :
    PySem.W.WalkO q loose XP YP l.row.toRowW d [] (fun f vs => PySem.call f vs) := by
  refine Att.attach_callB hn hdf fun w s₀ s₁ mg mb fa o pm cd doc a vs ns G Y ho hd hcd hmg hobj hints hlen hbits hg => ?_
  obtain ⟨fd, hb, hF⟩ := F w mg fa _ (hY w _ Y) G.T.g hmg
  exact law_callG (hY w _ Y) G.T.g G.T.b G.T.builtins G.T.nolimit G.T.nodigits hg hobj hints (Nat.le_trans hlen hn2) hr hF hb (fun H hO hS => hsp w H a ns hlen hbits hO hS) fun H e s' => hCX w H s₁ e s'
end Ct
/-! repr of data -/
namespace Ct
open PySem PySem.Spec PyProof.Rows L2
theorem bool_shown (b : Bool) : (PyData.bool b).shown = (if b then "True" else "False" : Str) := by cases b <;> rfl
section
variable {prog : Program} {w : World} {A : Around} {E : Value → Shared → Prop} {s : Shared} {Q : Value → Shared → Prop}
theorem repr_bool (b : Bool) (h : Q (.str (PyData.bool b).shown s.toks) { s with toks := s.toks + 1 }) : wpAny (model prog w) A (call (.builtin "repr") [.bool b]) Q E s :=
  call_repr_gives (x := (PyData.bool b).shown) (T := "bool") rfl PySem.F.slot_bool_repr PySem.F.entry_bool_repr (PySem.F.args_bool_repr_1 _) (by
    have g := gives_bool_repr b
    cases b <;> exact g) h rfl (by cases b <;> (show _ ≤ sizeLine; decide))
theorem repr_str (x : Str) (t : Tok) (hz : (reprText x).length ≤ sizeLine) (h : Q (.str (reprText x) s.toks) { s with toks := s.toks + 1 }) : wpAny (model prog w) A (call (.builtin "repr") [.str x t]) Q E s :=
  call_repr_gives (x := reprText x) (T := "str") rfl PySem.F.slot_str_repr PySem.F.entry_str_repr (PySem.F.args_str_repr_1 _) (gives_str_repr x t) h rfl hz
end
/-- what repr of data asks -/
def ShowOk (d : PyData) : Prop := d.showable = true ∧ d.hasDict = false ∧ d.depth ≤ 100 ∧ d.shown.length ≤ sizeLine
def rRepr (K : PySem.W.Frag) : List V → Hp → VK → Prop := fun xs H Q => ∃ x d, xs = [x] ∧ x ≠ .non ∧ Dp K H x d ∧ ShowOk d ∧ Q (.str d.shown) H
section
variable {X : Cx}
theorem call_repr (hg : X.A.guards = some []) (hu : X.A.units + 120 < cLine) : CallR X (.builtin "repr") (rRepr X.K) := by
  intro pins s σ H xs us Q I r h
  obtain ⟨x, d, rfl, hn, hd, ⟨h1, h2, h3, h4⟩, q⟩ := h
  obtain ⟨u, rfl, rx⟩ := vals1 r
  have inv : ∀ t, Inv X pins σ H { s with toks := t } := fun t => I.tok t
  have rd := Dp.reads I d x u hd rx
  cases hd with
  | non => exact absurd rfl hn
  | bl b =>
    obtain rfl : u = Value.bool b := rx
    exact repr_bool b ⟨.str _, H, I.tok _, ⟨_, rfl⟩, q⟩
  | int i =>
    obtain ⟨t, rfl⟩ := rx
    have hz : i.natAbs.log2 < 1920 := by simpa [PyData.showable] using h1
    exact PySem.P.repr_of_int hz ⟨.str _, H, I.tok _, ⟨_, rfl⟩, q⟩
  | str y =>
    obtain ⟨t, rfl⟩ := rx
    exact repr_str y t h4 ⟨.str _, H, I.tok _, ⟨_, rfl⟩, q⟩
  | lst hs ha =>
    obtain rfl := rx
    obtain ⟨as, r1⟩ := rd
    exact repr_of_reads' r1 h1 (PyData.noDict_hsm h2) hg (by omega) (fun _ _ e => e) (fun h' u tk hk => ⟨.str _, H, I.kept (t' := tk) hk, ⟨u, rfl⟩, q⟩) h4
  | tup hs ha =>
    obtain rfl := rx
    obtain ⟨as, r1⟩ := rd
    exact repr_of_reads' r1 h1 (PyData.noDict_hsm h2) hg (by omega) (fun _ _ e => e) (fun h' u tk hk => ⟨.str _, H, I.kept (t' := tk) hk, ⟨u, rfl⟩, q⟩) h4
end
end Ct
/-! operators by values, whatever the values are -/
namespace Ct
open PySem PySem.Spec PyProof.Rows L2
section
variable {X : Cx}
/-! ### sums, products, .. -/
def rAddA (K : PySem.W.Frag) : R2 := fun x y H Q => rI0 (fun i j => .int (i + j)) x y H Q ∨ (∃ i j, x = .str i ∧ y = .str j ∧ i.length + j.length ≤ sizeLine ∧ Q (.str (i ++ j)) H) ∨ rCat x y H Q ∨ rCatA K x y H Q
theorem op_addA : OpR X (binaryOp .Add) (rAddA X.K) := op_add.or (op_add_str.or (op_cat.or op_catA))
def rMulS : R2 := fun x y H Q => ∃ z n, x = .str z ∧ y = .int n ∧ MulOk z n ∧ Q (.str (Txt.mul z n)) H
theorem op_mulS : OpR X (binaryOp .Mult) rMulS := by
  intro pins s σ H x y v u Q I rx ry h
  obtain ⟨z, n, rfl, rfl, hk, q⟩ := h
  obtain ⟨t, rfl⟩ := rx
  obtain ⟨t', rfl⟩ := ry
  exact PySem.SB.mul hk fun t2 k => ⟨.str _, H, I.tok _, ⟨t2, rfl⟩, q⟩
def rMulA (K : PySem.W.Frag) : R2 := fun x y H Q => rI CMul (fun i j => .int (i * j)) x y H Q ∨ rI CMulX (fun i j => .int (i * j)) x y H Q ∨ rMulS x y H Q ∨ rRep x y H Q ∨ rRepT K x y H Q
theorem op_mulA : OpR X (binaryOp .Mult) (rMulA X.K) := op_mul.or (op_mulX.or (op_mulS.or (op_rep.or op_repT)))
/-- i // j, the sizes such that the plain division does it -/
def CDivA (i j : Int) : Prop := j ≠ 0 ∧ Builtin.divisionGoesByPylong i j = false
theorem op_fdivA : OpR X (binaryOp .FloorDiv) (rI CDivA fun i j => .int (i.fdiv j)) := opI fun i j _ _ _ _ _ hc q => floordiv_int hc.1 q (.inl hc.2)
theorem op_modA : OpR X (binaryOp .Mod) (rI (fun _ j => j ≠ 0) fun i j => .int (i.fmod j)) := op_modN
/-! ### comparisons -/
def rEqA (K : PySem.W.Frag) : R2 := fun x y H Q => rEq x y H Q ∨ rEqD K x y H Q
def rNeA (K : PySem.W.Frag) : R2 := fun x y H Q => rNe x y H Q ∨ rNeD K x y H Q
theorem op_eqA (hu : X.A.units + 64 < cLine) : OpR X (compareOp .Eq) (rEqA X.K) := op_eq.or (op_eqD hu)
theorem op_neA (hu : X.A.units + 64 < cLine) : OpR X (compareOp .NotEq) (rNeA X.K) := op_ne.or (op_neD hu)
def rLtA : R2 := fun x y H Q => rI0 (fun i j => .bl (decide (i < j))) x y H Q ∨ (∃ i j, x = .str i ∧ y = .str j ∧ Q (.bl (decide (i.cps.toList < j.cps.toList))) H)
def rGtA : R2 := fun x y H Q => rI0 (fun i j => .bl (decide (j < i))) x y H Q ∨ (∃ i j, x = .str i ∧ y = .str j ∧ Q (.bl (decide (j.cps.toList < i.cps.toList))) H)
theorem op_ltA : OpR X (compareOp .Lt) rLtA := op_lt.or op_lt_str
theorem op_gtA : OpR X (compareOp .Gt) rGtA := op_gt.or op_gt_str
abbrev rLe : R2 := rI0 fun i j => .bl (decide (i ≤ j))
abbrev rGe : R2 := rI0 fun i j => .bl (decide (j ≤ i))
theorem op_leA : OpR X (compareOp .LtE) rLe := op_le
theorem op_geA : OpR X (compareOp .GtE) rGe := op_ge
def rInD' : R2 := fun y x H Q => ∃ a o, x = .ref a ∧ DGet H a y o ∧ Q (.bl o.isSome) H
def rNiD' : R2 := fun y x H Q => ∃ a o, x = .ref a ∧ DGet H a y o ∧ Q (.bl (!o.isSome)) H
theorem op_inDi (hu : X.A.units + 1 < cLine) : OpR X (compareOp .In) rInD' := by
  intro pins s σ H x y v u Q I rx ry h
  obtain ⟨a, o, rfl, g, q⟩ := h
  obtain rfl : u = Value.ref a := ry
  exact d_in hu I g rx fun s3 I3 => ⟨.bl o.isSome, H, I3, rfl, q⟩
theorem op_niDi (hu : X.A.units + 1 < cLine) : OpR X (compareOp .NotIn) rNiD' := by
  intro pins s σ H x y v u Q I rx ry h
  obtain ⟨a, o, rfl, g, q⟩ := h
  obtain rfl : u = Value.ref a := ry
  exact d_notIn hu I g rx fun s3 I3 => ⟨.bl (!o.isSome), H, I3, rfl, q⟩
def rSignIn : R2 := fun x y H Q => ∃ (c : Nat) (z : Str), x = .str ⟨#[c]⟩ ∧ y = .str z ∧ Q (.bl (decide (c ∈ z.cps.toList))) H
def rSignNi : R2 := fun x y H Q => ∃ (c : Nat) (z : Str), x = .str ⟨#[c]⟩ ∧ y = .str z ∧ Q (.bl (!decide (c ∈ z.cps.toList))) H
def rInA (K : PySem.W.Frag) : R2 := fun x y H Q => rSignIn x y H Q ∨ rIn K false x y H Q ∨ rInD K x y H Q ∨ rInD' x y H Q
def rNiA (K : PySem.W.Frag) : R2 := fun x y H Q => rSignNi x y H Q ∨ rIn K true x y H Q ∨ rNotInD K x y H Q ∨ rNiD' x y H Q
theorem op_inA (hu : X.A.units + 65 < cLine) : OpR X (compareOp .In) (rInA X.K) := OpR.or op_in_sign (op_in_seq.or ((op_inD hu).or (op_inDi (by omega))))
theorem op_niA (hu : X.A.units + 65 < cLine) : OpR X (compareOp .NotIn) (rNiA X.K) := OpR.or op_notIn_sign (op_notIn_seq.or ((op_notInD hu).or (op_niDi (by omega))))
def rIsN : R2 := fun x y H Q => y = .non ∧ Q (.bl (decide (x = .non))) H
def rNotN : R2 := fun x y H Q => y = .non ∧ Q (.bl (!decide (x = .non))) H
def rIsA : R2 := fun x y H Q => rIsN x y H Q ∨ rIsB x y H Q
def rNotA : R2 := fun x y H Q => rNotN x y H Q ∨ rNotB x y H Q
theorem op_isA : OpR X (compareOp .Is) rIsA := OpR.or op_isN op_isBl
theorem op_notA : OpR X (compareOp .IsNot) rNotA := OpR.or op_notN op_notBl
/-! ### subscripts, slices -/
def rIxDi : R2 := fun x y H Q => ∃ a v, x = .ref a ∧ DGet H a y (some v) ∧ Q v H
theorem ix_dict (hu : X.A.units + 1 < cLine) : IxR X rIxDi := by
  intro value slice pins s σ H x y v u Q I rx ry h hs
  obtain ⟨a, w, rfl, g, q⟩ := h
  obtain rfl : v = Value.ref a := rx
  have hT := dict_typeIs I g
  unfold subscriptTail
  refine wpAny_bind ?_
  rw [getitemInPython_of_ne hT.not_modules]
  refine wpAny_bind (wpAny_specialOf hT PySem.F.slot_dict_getitem.lookup ?_)
  have fin : wpAny (model X.prog X.w) X.A (subscripted slice false (.ref a) u) (fun r s₃ => wpAny (model X.prog X.w) X.A (letTemporaryGo value (.ref a) r >>= fun _ => pure r) (EP X pins σ Q) X.xe s₃) X.xe s := by
    rw [hs]
    exact wpAny_operating (d_getItem hu I g ry fun w' s3 I3 rw' => wpAny_bind (wpAny_letTemporaryGo (wpAny_pure ⟨w, H, I3, rw', q⟩)))
  first
    | exact wpAny_pure (wpAny_bind fin)
    | exact wpAny_bind (wpAny_pure (wpAny_bind fin))
    | exact wpAny_bind fin
def rIxA (K : PySem.W.Frag) : R2 := fun x y H Q => rIx K x y H Q ∨ rIxDi x y H Q
theorem ix_any (hu : X.A.units + 1 < cLine) : IxR X (rIxA X.K) := ix_seq.or (ix_dict hu)
def rSlAny (K : PySem.W.Frag) : V → Option Int → Option Int → Hp → VK → Prop := fun x lo hi H Q => rSlL K x lo hi H Q ∨ rSlA K x lo hi H Q ∨ rSlS x lo hi H Q
theorem sl_any : SlR X (rSlAny X.K) := sl_list.or (sl_tupA.or sl_str)
/-! ### calls -/
def rLenA (K : PySem.W.Frag) : List V → Hp → VK → Prop := fun xs H Q => (∃ x n, xs = [x] ∧ LenV K x H n ∧ Q (.int n) H) ∨ ∃ a kvs, xs = [V.ref a] ∧ H a = some (.dK kvs) ∧ Q (.int kvs.length) H
theorem call_lenA : CallR X (.builtin "len") (rLenA X.K) := call_len.or call_lenD
def rIntA : List V → Hp → VK → Prop := fun xs H Q => ((∃ i, xs = [.int i] ∧ Q (.int i) H) ∨ ∃ k, xs = [.bl k] ∧ Q (.int (if k then 1 else 0)) H) ∨ ∃ a n, xs = [.str a] ∧ PySem.intText? a = some n ∧ a.length ≤ 640 ∧ Q (.int n) H
theorem call_intA : CallR X (.type "int") rIntA := call_int1.or call_int_str
def rStrA : List V → Hp → VK → Prop := fun xs H Q => (∃ i, xs = [.int i] ∧ i.natAbs.log2 < 1920 ∧ Q (.str (toString i)) H) ∨ ∃ a, xs = [.str a] ∧ Q (.str a) H
theorem call_strA : CallR X (.type "str") rStrA := call_str_int.or SkE.call_str_str
def rMax2' : List V → Hp → VK → Prop := fun xs H Q => ∃ i j, xs = [.int i, .int j] ∧ Q (.int (if j > i then j else i)) H
def rMin2' : List V → Hp → VK → Prop := fun xs H Q => ∃ i j, xs = [.int i, .int j] ∧ Q (.int (if j < i then j else i)) H
theorem call_max2' (hc : X.calm = true) : CallR X (.builtin "max") rMax2' := call_max2 hc
theorem call_min2' (hc : X.calm = true) : CallR X (.builtin "min") rMin2' := call_min2 hc
def rAbs' : List V → Hp → VK → Prop := fun xs H Q => ∃ i, xs = [.int i] ∧ Q (.int (if i < 0 then -i else i)) H
theorem call_abs' : CallR X (.builtin "abs") rAbs' := call_abs
def rListOf (K : PySem.W.Frag) : List V → Hp → VK → Prop := fun xs H Q => ∃ p ys, xs = [.ref p] ∧ (SqL K H p ys ∨ SqT K H p ys) ∧ ∀ l, H l = none → Q (.ref l) (upd H l (.lst ys))
theorem call_listOf : CallR X (.type "list") (rListOf X.K) := call_list_of
def rTupOf (K : PySem.W.Frag) : List V → Hp → VK → Prop := fun xs H Q => ∃ p ys, xs = [.ref p] ∧ ((SqL K H p ys ∧ ∀ l, H l = none → Q (.ref l) (upd H l (.tup ys))) ∨ (SqT K H p ys ∧ Q (.ref p) H))
theorem call_tupOf : CallR X (.type "tuple") (rTupOf X.K) := call_tuple_of
/-! ### what a for walks: a list, a tuple, a text -/
def wSeq (K : PySem.W.Frag) (x : V) (H : Hp) (R : It → Hp → Prop) : Prop :=
  (∃ a, x = .ref a ∧ (∃ xs, SqL K H a xs) ∧ R (Itl K a) H) ∨ (∃ a, x = .ref a ∧ (∃ xs, SqT K H a xs) ∧ R (Itt K a) H) ∨ ∃ z, x = .str z ∧ R (Its z) H
def iSeq (K : PySem.W.Frag) (tl : TE) : TI := fun σ H R => tl σ H fun x H1 => wSeq K x H1 R
theorem pi_seq {tg l : Expr} {tl : TE} (hl : PE X l tl) : PI X tg l (iSeq X.K tl) := by
  refine ⟨fun pins s σ H R I h => thn (hl.run pins s σ H _ I h) fun v s1 ⟨x, H1, I1, r1, q1⟩ => ?_⟩
  rcases q1 with ⟨a, rfl, ⟨xs, hq⟩, q⟩ | ⟨a, rfl, ⟨xs, hq⟩, q⟩ | ⟨z, rfl, q⟩
  · obtain rfl : v = Value.ref a := r1
    obtain ⟨its, rv, p, hz⟩ := I1.list hq
    exact wpAny_pyIter_list p.isList (pi_one (tk := s1.toks) I1 _ (turn_list a _) ⟨_, Heap.get?_push_size _ rfl, rfl, rfl⟩ q)
  · obtain rfl : v = Value.ref a := r1
    obtain ⟨its, rv, p, hz⟩ := I1.tuple hq
    exact wpAny_pyIter_tuple (show s1.heap.IsTuple a its.toArray from p) (pi_one (tk := s1.toks) I1 _ (turn_tuple a _) ⟨_, Heap.get?_push_size _ rfl, rfl, rfl⟩ q)
  · obtain ⟨t, rfl⟩ := r1
    by_cases ha : z.cps.all (· < 128) = true
    · exact wpAny_pyIter_ascii ha (pi_one (tk := s1.toks) I1 _ (turn_str _ z t "str_ascii_iterator" (.inl rfl)) ⟨_, Heap.get?_push_size _ rfl, rfl, rfl⟩ q)
    · exact wpAny_pyIter_wide (by simpa using ha) (pi_one (tk := s1.toks) I1 _ (turn_str _ z t "str_iterator" (.inr rfl)) ⟨_, Heap.get?_push_size _ rfl, rfl, rfl⟩ q)
end
end Ct
/-! what is known of the heap, in one fact -/
namespace Ct
open PySem PySem.Spec PyProof.Rows L2
/-- a fact of a heap -/
abbrev Kn := Hp → Prop
abbrev Cells := List (Addr × HO)
/-- Γ: facts that stay whatever comes; L: cells of one's own, which may change; G: what stays -/
def WW (Γ : List Kn) (L : Cells) (H : Hp) : Prop :=
  ∃ G : Hp, Same G H ∧ (∀ c ∈ L, H c.1 = some c.2 ∧ G c.1 = none) ∧ (L.map (·.1)).Nodup ∧ ∀ k ∈ Γ, ∀ G', Same G G' → k G'
/-- the same, with further cells of which M alone is known -/
def WR (M : Cells → Prop) (Γ : List Kn) (L : Cells) (H : Hp) : Prop := ∃ L0, M L0 ∧ WW Γ (L0 ++ L) H
def noM : Cells → Prop := fun L => L = []
theorem same_new {H : Hp} {p : Addr} {o : HO} (h : H p = none) : Same H (upd H p o) := fun b u e => by
  rw [upd_ne (ne_of_none e h)]
  exact e
section
variable {M : Cells → Prop} {Γ Γ' : List Kn} {L L' L0 : Cells} {H H' : Hp} {p q : Addr} {o o' : HO} {k : Kn}
theorem WW.get (w : WW Γ L H) (h : k ∈ Γ) : k H := by
  obtain ⟨G, g, _, _, f⟩ := w
  exact f k h H g
theorem WW.cell (w : WW Γ L H) (h : (p, o) ∈ L) : H p = some o := by
  obtain ⟨G, _, f, _⟩ := w
  exact (f _ h).1
theorem WW.know (w : WW Γ L H) (o : HO) (h : H p = none) : WW ((fun G => G p = some o) :: Γ) L (upd H p o) := by
  obtain ⟨G, g, f, n, t⟩ := w
  have hG : G p = none := g.free h
  refine ⟨upd G p o, fun b u e => ?_, fun c hc => ?_, n, fun k hk G' s => ?_⟩
  · by_cases hb : b = p
    · subst hb
      rw [upd_same] at e ⊢
      exact e
    · rw [upd_ne hb] at e ⊢
      exact g b u e
  · have hne : c.1 ≠ p := ne_of_none (f c hc).1 h
    rw [upd_ne hne, upd_ne hne]
    exact f c hc
  · cases hk with
    | head => exact s p o upd_same
    | tail _ hk => exact t k hk G' (Same.trans (same_new hG) s)
theorem WW.new (w : WW Γ L H) (o : HO) (h : H p = none) : WW Γ ((p, o) :: L) (upd H p o) := by
  obtain ⟨G, g, f, n, t⟩ := w
  have hG : G p = none := g.free h
  have out : ∀ c ∈ L, c.1 ≠ p := fun c hc => ne_of_none (f c hc).1 h
  refine ⟨G, Same.trans g (same_new h), fun c hc => ?_, ?_, t⟩
  · cases hc with
    | head => exact ⟨upd_same, hG⟩
    | tail _ hc =>
      rw [upd_ne (out c hc)]
      exact f c hc
  · rw [List.map_cons, List.nodup_cons]
    refine ⟨fun hm => ?_, n⟩
    obtain ⟨c, hc, e⟩ := List.mem_map.mp hm
    exact out c hc e
theorem nodup_at {α β : Type} : ∀ {l : List (α × β)} {i j : Nat} {x y : α × β}, (l.map (·.1)).Nodup → l[i]? = some x → l[j]? = some y → x.1 = y.1 → i = j := by
  intro l i j x y n hi hj e
  have h1 : (l.map (·.1))[i]? = some x.1 := by rw [List.getElem?_map, hi] <;> rfl
  have h2 : (l.map (·.1))[j]? = some x.1 := by rw [List.getElem?_map, hj, e] <;> rfl
  obtain ⟨b1, e1⟩ := List.getElem?_eq_some_iff.mp h1
  obtain ⟨b2, e2⟩ := List.getElem?_eq_some_iff.mp h2
  exact (List.getElem_inj n).mp (e1.trans e2.symm)
theorem WW.put (w : WW Γ L H) (i : Nat) (o' : HO) (h : L[i]? = some (p, o)) : WW Γ (L.set i (p, o')) (upd H p o') := by
  obtain ⟨G, g, f, n, t⟩ := w
  have hm : (p, o) ∈ L := List.mem_of_getElem? h
  have hG : G p = none := (f _ hm).2
  refine ⟨G, fun b u e => ?_, fun c hc => ?_, ?_, t⟩
  · rw [upd_ne (ne_of_none e hG)]
    exact g b u e
  · obtain ⟨j, hj⟩ := List.mem_iff_getElem?.mp hc
    by_cases e : i = j
    · subst e
      have hl : i < L.length := (List.getElem?_eq_some_iff.mp h).1
      rw [List.getElem?_set_self hl] at hj
      cases hj
      exact ⟨upd_same, hG⟩
    · rw [List.getElem?_set_ne e] at hj
      have hc' := List.mem_of_getElem? hj
      have hne : c.1 ≠ p := fun z => e (nodup_at n h hj z.symm)
      rw [upd_ne hne]
      exact f c hc'
  · have e : (L.set i (p, o')).map (·.1) = L.map (·.1) := by
      rw [List.map_set]
      refine List.ext_getElem? fun j => ?_
      by_cases ej : i = j
      · subst ej
        have hl : i < L.length := (List.getElem?_eq_some_iff.mp h).1
        rw [List.getElem?_set_self (by rw [List.length_map]; exact hl), List.getElem?_map, h] <;> rfl
      · rw [List.getElem?_set_ne ej]
    rw [e]
    exact n
theorem WW.fix (w : WW Γ ((p, o) :: L) H) : WW ((fun G => G p = some o) :: Γ) L H := by
  obtain ⟨G, g, f, n, t⟩ := w
  obtain ⟨hp, hG⟩ := f (p, o) List.mem_cons_self
  rw [List.map_cons, List.nodup_cons] at n
  refine ⟨upd G p o, fun b u e => ?_, fun c hc => ?_, n.2, fun k hk G' s => ?_⟩
  · by_cases hb : b = p
    · subst hb
      rw [upd_same] at e
      cases e
      exact hp
    · rw [upd_ne hb] at e
      exact g b u e
  · have hne : c.1 ≠ p := fun z => n.1 (List.mem_map.mpr ⟨c, hc, z⟩)
    rw [upd_ne hne]
    exact f c (List.mem_cons_of_mem _ hc)
  · cases hk with
    | head => exact s p o upd_same
    | tail _ hk => exact t k hk G' (Same.trans (same_new hG) s)
theorem WW.perm (w : WW Γ L H) (h : L'.Perm L) : WW Γ L' H := by
  obtain ⟨G, g, f, n, t⟩ := w
  exact ⟨G, g, fun c hc => f c (h.mem_iff.mp hc), (h.map _).nodup_iff.mpr n, t⟩
theorem WW.sub (w : WW Γ L H) (h : ∀ k ∈ Γ', k ∈ Γ) : WW Γ' L H := by
  obtain ⟨G, g, f, n, t⟩ := w
  exact ⟨G, g, f, n, fun k hk => t k (h k hk)⟩
theorem WW.drop (w : WW Γ (L0 ++ L) H) : WW Γ L H := by
  obtain ⟨G, g, f, n, t⟩ := w
  rw [List.map_append, List.nodup_append] at n
  exact ⟨G, g, fun c hc => f c (List.mem_append_right _ hc), n.2.1, t⟩
theorem WW.more (w : WW Γ L H) (k : Kn) (h : ∀ G, (∀ k ∈ Γ, k G) → k G) : WW (k :: Γ) L H := by
  obtain ⟨G, g, f, n, t⟩ := w
  refine ⟨G, g, f, n, fun k' hk G' s => ?_⟩
  cases hk with
  | head => exact h G' fun k hk => t k hk G' s
  | tail _ hk => exact t k' hk G' s
theorem WW.same (w : WW Γ L H) (h : Same H H') : WW Γ L H' := by
  obtain ⟨G, g, f, n, t⟩ := w
  exact ⟨G, Same.trans g h, fun c hc => ⟨h _ _ (f c hc).1, (f c hc).2⟩, n, t⟩
theorem WW.all (w : WW Γ L H) : ∀ k ∈ Γ, k H := fun k h => w.get h
/-- two cells of one's own stand apart -/
theorem WW.ne (w : WW Γ L H) {i j : Nat} (hi : L[i]? = some (p, o)) (hj : L[j]? = some (q, o')) (h : i ≠ j) : p ≠ q := by
  obtain ⟨G, g, f, n, t⟩ := w
  exact fun e => h (nodup_at n hi hj e)
theorem WW.of {H : Hp} {Γ : List Kn} (h : ∀ k ∈ Γ, ∀ G, Same H G → k G) : WW Γ [] H := ⟨H, Same.refl H, fun _ hc => (List.not_mem_nil hc).elim, List.nodup_nil, h⟩
/-! ### the same of WR -/
theorem WR.of (w : WW Γ L H) : WR noM Γ L H := ⟨[], rfl, w⟩
theorem WR.get (w : WR M Γ L H) (h : k ∈ Γ) : k H := by
  obtain ⟨_, _, w⟩ := w
  exact w.get h
theorem WR.all (w : WR M Γ L H) : ∀ k ∈ Γ, k H := fun k h => w.get h
theorem WR.cell (w : WR M Γ L H) (h : (p, o) ∈ L) : H p = some o := by
  obtain ⟨_, _, w⟩ := w
  exact w.cell (List.mem_append_right _ h)
theorem WR.know (w : WR M Γ L H) (o : HO) (h : H p = none) : WR M ((fun G => G p = some o) :: Γ) L (upd H p o) := by
  obtain ⟨L0, m, w⟩ := w
  exact ⟨L0, m, w.know o h⟩
theorem WR.new (w : WR M Γ L H) (o : HO) (h : H p = none) : WR M Γ ((p, o) :: L) (upd H p o) := by
  obtain ⟨L0, m, w⟩ := w
  exact ⟨L0, m, (w.new o h).perm List.perm_middle⟩
theorem WR.put (w : WR M Γ L H) (i : Nat) (o' : HO) (h : L[i]? = some (p, o)) : WR M Γ (L.set i (p, o')) (upd H p o') := by
  obtain ⟨L0, m, w⟩ := w
  refine ⟨L0, m, ?_⟩
  have x := w.put (L0.length + i) o' (by rw [List.getElem?_append_right (Nat.le_add_right _ _), Nat.add_sub_cancel_left]; exact h)
  rw [List.set_append_right _ _ (Nat.le_add_right _ _), Nat.add_sub_cancel_left] at x
  exact x
theorem WR.put0 (w : WR M Γ ((p, o) :: L) H) (o' : HO) : WR M Γ ((p, o') :: L) (upd H p o') := w.put 0 o' rfl
theorem WR.put1 {c : Addr × HO} (w : WR M Γ (c :: (p, o) :: L) H) (o' : HO) : WR M Γ (c :: (p, o') :: L) (upd H p o') := w.put 1 o' rfl
theorem WR.put2 {c d : Addr × HO} (w : WR M Γ (c :: d :: (p, o) :: L) H) (o' : HO) : WR M Γ (c :: d :: (p, o') :: L) (upd H p o') := w.put 2 o' rfl
theorem WR.fix (w : WR M Γ ((p, o) :: L) H) : WR M ((fun G => G p = some o) :: Γ) L H := by
  obtain ⟨L0, m, w⟩ := w
  exact ⟨L0, m, (w.perm List.perm_middle.symm).fix⟩
theorem WR.sub (w : WR M Γ L H) (h : ∀ k ∈ Γ', k ∈ Γ) : WR M Γ' L H := by
  obtain ⟨L0, m, w⟩ := w
  exact ⟨L0, m, w.sub h⟩
theorem WR.more (w : WR M Γ L H) (k : Kn) (h : ∀ G, (∀ k ∈ Γ, k G) → k G) : WR M (k :: Γ) L H := by
  obtain ⟨L0, m, w⟩ := w
  exact ⟨L0, m, w.more k h⟩
theorem WR.same (w : WR M Γ L H) (h : Same H H') : WR M Γ L H' := by
  obtain ⟨L0, m, w⟩ := w
  exact ⟨L0, m, w.same h⟩
theorem WR.perm (w : WR M Γ L H) (h : L'.Perm L) : WR M Γ L' H := by
  obtain ⟨L0, m, w⟩ := w
  exact ⟨L0, m, w.perm ((List.Perm.refl L0).append h)⟩
theorem WR.drop1 {c : Addr × HO} (w : WR M Γ (c :: L) H) : WR M Γ L H := by
  obtain ⟨L0, m, w⟩ := w
  refine ⟨L0, m, WW.drop (L0 := [c]) (w.perm (show (c :: (L0 ++ L)).Perm (L0 ++ c :: L) from (List.perm_middle (a := c) (l₁ := L0) (l₂ := L)).symm))⟩
theorem WR.tail (w : WR M (k :: Γ) L H) : WR M Γ L H := w.sub fun _ h => List.mem_cons_of_mem _ h
end
/-! ### what lists and tuples are -/
section
variable {K : PySem.W.Frag} {H : Hp} {a : Addr} {xs : List V} {v : V} {vs : List V} {d : PyData} {ds : List PyData}
theorem sqL (h : H a = some (.lst xs)) : SqL K H a xs := .inl (.inl h)
theorem sqT (h : H a = some (.tup xs)) : SqT K H a xs := .inl (.inl h)
/-- a written tuple -/
def KT (K : PySem.W.Frag) (a : Addr) (xs : List V) : Prop := ∀ H, SqT K H a xs
end
/-! ### readings, step by step -/
section
variable {K : PySem.W.Frag} {σ : L2.St} {H : Hp} {Q : VK} {D : Ends} {i : Nat} {v x y : V} {ta tb te : TE} {r : R2} {t u : TS} {n m : Int} {z w : Str} {c c' : Bool} {tt tt' : TT} {QB : Bool → Hp → Prop}
theorem g_seq (q : t { D with nx := u D } σ H) : tSeq t u D σ H := q
theorem g_next (q : D.nx σ H) : tNext D σ H := q
theorem g_set (q : te σ H fun x H1 => D.nx (σ.set i (some x)) H1) : tAsg te (gName i) D σ H := q
theorem g_ret (q : te σ H D.rt) : tRet te D σ H := q
theorem g_retN (q : D.rt .non H) : tRetN D σ H := q
theorem g_drop (q : te σ H fun _ H1 => D.nx σ H1) : tDrop te D σ H := q
theorem g_if (q : tt σ H fun b H1 => if b = true then t D σ H1 else u D σ H1) : tIfS tt t u D σ H := q
theorem g_var (h : σ[i]? = some (some v)) (q : Q v H) : tVar i σ H Q := ⟨v, h, q⟩
theorem g_c (q : Q v H) : tC v σ H Q := q
theorem g_op (q : ta σ H fun x H1 => tb σ H1 fun y H2 => r x y H2 Q) : tOp r ta tb σ H Q := q
theorem g_un {r : V → Hp → VK → Prop} (q : ta σ H fun x H1 => r x H1 Q) : tUn r ta σ H Q := q
theorem g_neg (q : Q (.int (-n)) H) : rU (fun i => .int (-i)) (.int n) H Q := ⟨n, rfl, q⟩
theorem g_test (q : te σ H fun x H' => ∃ k, x = .bl k ∧ QB k H') : tTest te σ H QB := q
theorem g_B (q : te σ H fun x H1 => ∃ c, x = .bl c ∧ QB c H1) : tB te σ H QB := q
theorem g_bl {P : Bool → Prop} (q : P c) : ∃ k, V.bl c = .bl k ∧ P k := ⟨c, rfl, q⟩
theorem g_and (q : tt σ H fun c H1 => if c = true then tt' σ H1 QB else QB false H1) : tAnd tt tt' σ H QB := q
theorem g_or (q : tt σ H fun c H1 => if c = true then QB true H1 else tt' σ H1 QB) : tOr tt tt' σ H QB := q
theorem g_not (q : tt σ H fun c H1 => QB (!c) H1) : tNot tt σ H QB := q
theorem g_andV (q : ta σ H fun x H1 => ∃ c, x = .bl c ∧ if c = true then tb σ H1 Q else Q (.bl false) H1) : tAndV ta tb σ H Q := q
theorem g_orV (q : ta σ H fun x H1 => ∃ c, x = .bl c ∧ if c = true then Q (.bl true) H1 else tb σ H1 Q) : tOrV ta tb σ H Q := q
theorem g_notV (q : ta σ H fun x H1 => ∃ c, x = .bl c ∧ Q (.bl (!c)) H1) : tNotV ta σ H Q := q
theorem g_ifE (q : tt σ H fun c H1 => if c = true then ta σ H1 Q else tb σ H1 Q) : tIf tt ta tb σ H Q := q
theorem g_chain {r r' : R2} {tc : TE} (q : ta σ H fun x H1 => tb σ H1 fun y H2 => r x y H2 fun z H3 => ∃ k, z = .bl k ∧ (if k = true then tc σ H3 fun w' H4 => r' y w' H4 Q else Q (.bl false) H3)) : tChain r r' ta tb tc σ H Q := q
theorem g_nil {Q : List V → Hp → Prop} (q : Q [] H) : tNil σ H Q := q
theorem g_cons {tr : TA} {Q : List V → Hp → Prop} (q : ta σ H fun x H1 => tr σ H1 fun xs H2 => Q (x :: xs) H2) : tCons ta tr σ H Q := q
theorem g_tup {t : TA} (q : t σ H fun xs H1 => xs.length ≤ sizeLine ∧ ∀ p, H1 p = none → Q (.ref p) (upd H1 p (.tup xs))) : tTup t σ H Q := q
theorem g_lst {t : TA} (q : t σ H fun xs H1 => xs.length ≤ sizeLine ∧ ∀ p, H1 p = none → Q (.ref p) (upd H1 p (.lst xs))) : tLst t σ H Q := q
theorem g_cb {r : List V → Hp → VK → Prop} {t : TA} (q : t σ H fun vs H1 => r vs H1 Q) : tCB r t σ H Q := q
theorem g_call {sp : Sp} {dvs : List V} {E : XK} {t : TA} (q : t σ H fun vs H1 => sp (vs ++ dvs) H1 Q E) : tCall sp dvs E t σ H Q := q
theorem g_nop {Q : Option Int → Hp → Prop} (q : Q none H) : tNoPart σ H Q := q
theorem g_part {Q : Option Int → Hp → Prop} (q : te σ H fun x H1 => ∃ i, x = .int i ∧ Q (some i) H1) : tPart te σ H Q := q
theorem g_int {P : Int → Prop} (q : P n) : ∃ i, V.int n = .int i ∧ P i := ⟨n, rfl, q⟩
theorem g_sl {r : V → Option Int → Option Int → Hp → VK → Prop} {tl th : TO} (q : te σ H fun x H1 => tl σ H1 fun lo H2 => th σ H2 fun hi H3 => r x lo hi H3 Q) : tSl r te tl th σ H Q := q
theorem g_bm0 {T : String} {r : V → List V → Hp → VK → Prop} (q : ta σ H fun x H1 => tyV K T x H1 ∧ r x [] H1 Q) : tBM0 K T r ta σ H Q := q
theorem g_bm {T : String} {r : V → List V → Hp → VK → Prop} {t : TA} (q : ta σ H fun x H1 => tyV K T x H1 ∧ t σ H1 fun xs H2 => r x xs H2 Q) : tBM K T r ta t σ H Q := q
theorem g_m0 {r : V → List V → Hp → VK → Prop} (q : ta σ H fun x H1 => (∃ a, x = .str a) ∧ r x [] H1 Q) : tM0 r ta σ H Q := q
theorem g_m1 {r : V → List V → Hp → VK → Prop} (q : ta σ H fun x H1 => (∃ a, x = .str a) ∧ te σ H1 fun y H2 => r x [y] H2 Q) : tM1 r ta te σ H Q := q
/-! #### values -/
theorem g_addI (q : Q (.int (n + m)) H) : rAddA K (.int n) (.int m) H Q := .inl ⟨n, m, rfl, rfl, q⟩
theorem g_addS (h : z.length + w.length ≤ sizeLine) (q : Q (.str (z ++ w)) H) : rAddA K (.str z) (.str w) H Q := .inr (.inl ⟨z, w, rfl, rfl, h, q⟩)
theorem g_addL {a b : Addr} {xs ys : List V} (ha : H a = some (.lst xs)) (hb : H b = some (.lst ys)) (hl : xs.length + ys.length ≤ sizeLine) (q : ∀ p, H p = none → Q (.ref p) (upd H p (.lst (xs ++ ys)))) : rAddA K (.ref a) (.ref b) H Q := .inr (.inr (.inl ⟨a, b, xs, ys, rfl, rfl, ha, hb, hl, q⟩))
theorem g_subI (q : Q (.int (n - m)) H) : rI0 (fun i j => .int (i - j)) (.int n) (.int m) H Q := ⟨n, m, rfl, rfl, q⟩
theorem g_mulI (h : CMul n m ∨ CMulX n m) (q : Q (.int (n * m)) H) : rMulA K (.int n) (.int m) H Q := h.elim (fun h => .inl ⟨n, m, rfl, rfl, h, q⟩) fun h => .inr (.inl ⟨n, m, rfl, rfl, h, q⟩)
theorem g_mulS (h : MulOk z n) (q : Q (.str (Txt.mul z n)) H) : rMulA K (.str z) (.int n) H Q := .inr (.inr (.inl ⟨z, n, rfl, rfl, h, q⟩))
theorem g_divI (h : CDivA n m) (q : Q (.int (n.fdiv m)) H) : rI CDivA (fun i j => .int (i.fdiv j)) (.int n) (.int m) H Q := ⟨n, m, rfl, rfl, h, q⟩
theorem g_modI (h : 0 < m) (q : Q (.int (n % m)) H) : rI (fun _ j => j ≠ 0) (fun i j => .int (i.fmod j)) (.int n) (.int m) H Q := ⟨n, m, rfl, rfl, by omega, by (show Q (.int (n.fmod m)) H); rw [Int.fmod_eq_emod_of_nonneg n (by omega)]; exact q⟩
theorem g_powI (h : CPow n m) (q : Q (.int (n ^ m.toNat)) H) : rI CPow (fun i j => .int (i ^ j.toNat)) (.int n) (.int m) H Q := ⟨n, m, rfl, rfl, h, q⟩
theorem g_eqI (q : Q (.bl (decide (n = m))) H) : rEqA K (.int n) (.int m) H Q := .inl ⟨rfl, by rw [show decide (V.int n = V.int m) = decide (n = m) from decide_eq_decide.mpr ⟨fun e => V.int.inj e, fun e => by rw [e]⟩]; exact q⟩
theorem g_neI (q : Q (.bl (!decide (n = m))) H) : rNeA K (.int n) (.int m) H Q := .inl ⟨rfl, by rw [show decide (V.int n = V.int m) = decide (n = m) from decide_eq_decide.mpr ⟨fun e => V.int.inj e, fun e => by rw [e]⟩]; exact q⟩
theorem g_eqS (q : Q (.bl (decide (z = w))) H) : rEqA K (.str z) (.str w) H Q := .inl ⟨rfl, by rw [show decide (V.str z = V.str w) = decide (z = w) from decide_eq_decide.mpr ⟨fun e => V.str.inj e, fun e => by rw [e]⟩]; exact q⟩
theorem g_neS (q : Q (.bl (!decide (z = w))) H) : rNeA K (.str z) (.str w) H Q := .inl ⟨rfl, by rw [show decide (V.str z = V.str w) = decide (z = w) from decide_eq_decide.mpr ⟨fun e => V.str.inj e, fun e => by rw [e]⟩]; exact q⟩
theorem g_eqB (q : Q (.bl (decide (c = c'))) H) : rEqA K (.bl c) (.bl c') H Q := .inl ⟨rfl, by rw [show decide (V.bl c = V.bl c') = decide (c = c') from decide_eq_decide.mpr ⟨fun e => V.bl.inj e, fun e => by rw [e]⟩]; exact q⟩
theorem g_neB (q : Q (.bl (!decide (c = c'))) H) : rNeA K (.bl c) (.bl c') H Q := .inl ⟨rfl, by rw [show decide (V.bl c = V.bl c') = decide (c = c') from decide_eq_decide.mpr ⟨fun e => V.bl.inj e, fun e => by rw [e]⟩]; exact q⟩
theorem g_eqD {d e : PyData} (h1 : Dp K H x d) (h2 : Dp K H y e) (s1 : SeqAt.shaped d = true) (s2 : SeqAt.shaped e = true) (q : Q (.bl (PyData.eqv d e)) H) : rEqA K x y H Q := .inr ⟨d, e, h1, h2, s1, s2, q⟩
theorem g_neD {d e : PyData} (h1 : Dp K H x d) (h2 : Dp K H y e) (s1 : SeqAt.shaped d = true) (s2 : SeqAt.shaped e = true) (q : Q (.bl (!PyData.eqv d e)) H) : rNeA K x y H Q := .inr ⟨d, e, h1, h2, s1, s2, q⟩
theorem g_ltI (q : Q (.bl (decide (n < m))) H) : rLtA (.int n) (.int m) H Q := .inl ⟨n, m, rfl, rfl, q⟩
theorem g_gtI (q : Q (.bl (decide (m < n))) H) : rGtA (.int n) (.int m) H Q := .inl ⟨n, m, rfl, rfl, q⟩
theorem g_leI (q : Q (.bl (decide (n ≤ m))) H) : rLe (.int n) (.int m) H Q := ⟨n, m, rfl, rfl, q⟩
theorem g_geI (q : Q (.bl (decide (m ≤ n))) H) : rGe (.int n) (.int m) H Q := ⟨n, m, rfl, rfl, q⟩
theorem g_inS {s : Nat} (q : Q (.bl (decide (s ∈ z.cps.toList))) H) : rInA K (.str ⟨#[s]⟩) (.str z) H Q := .inl ⟨s, z, rfl, rfl, q⟩
theorem g_niS {s : Nat} (q : Q (.bl (!decide (s ∈ z.cps.toList))) H) : rNiA K (.str ⟨#[s]⟩) (.str z) H Q := .inl ⟨s, z, rfl, rfl, q⟩
theorem g_inQ {a : Addr} {xs : List V} (h : SqL K H a xs ∨ SqT K H a xs) (h1 : flatV x = true) (h2 : xs.all flatV = true) (q : Q (.bl (inV x xs)) H) : rInA K x (.ref a) H Q := .inr (.inl ⟨a, xs, rfl, h, h1, h2, q⟩)
theorem g_niQ {a : Addr} {xs : List V} (h : SqL K H a xs ∨ SqT K H a xs) (h1 : flatV x = true) (h2 : xs.all flatV = true) (q : Q (.bl (!inV x xs)) H) : rNiA K x (.ref a) H Q := .inr (.inl ⟨a, xs, rfl, h, h1, h2, q⟩)
theorem g_inDc {a : Addr} {o : Option V} (h : DGet H a x o) (q : Q (.bl o.isSome) H) : rInA K x (.ref a) H Q := .inr (.inr (.inr ⟨a, o, rfl, h, q⟩))
theorem g_niDc {a : Addr} {o : Option V} (h : DGet H a x o) (q : Q (.bl (!o.isSome)) H) : rNiA K x (.ref a) H Q := .inr (.inr (.inr ⟨a, o, rfl, h, q⟩))
theorem g_isN (q : Q (.bl (decide (x = .non))) H) : rIsA x .non H Q := .inl ⟨rfl, q⟩
theorem g_notN (q : Q (.bl (!decide (x = .non))) H) : rNotA x .non H Q := .inl ⟨rfl, q⟩
theorem g_isB (q : Q (.bl (decide (c = c'))) H) : rIsA (.bl c) (.bl c') H Q := .inr ⟨c, c', rfl, rfl, q⟩
theorem g_notB (q : Q (.bl (!decide (c = c'))) H) : rNotA (.bl c) (.bl c') H Q := .inr ⟨c, c', rfl, rfl, q⟩
theorem g_ixL {a : Addr} {xs : List V} (h : SqL K H a xs) (ha : atI xs n = some v) (q : Q v H) : rIxA K (.ref a) (.int n) H Q := .inl (.inl ⟨a, xs, n, v, rfl, rfl, h, ha, q⟩)
theorem g_ixT {a : Addr} {xs : List V} (h : SqT K H a xs) (ha : atI xs n = some v) (q : Q v H) : rIxA K (.ref a) (.int n) H Q := .inl (.inr (.inl ⟨a, xs, n, v, rfl, rfl, h, ha, q⟩))
theorem g_ixS {s : Nat} (h : z.length ≤ sizeLine) (ha : atI z.cps.toList n = some s) (q : Q (.str ⟨#[s]⟩) H) : rIxA K (.str z) (.int n) H Q := .inl (.inr (.inr ⟨z, n, s, rfl, rfl, h, ha, q⟩))
theorem g_ixD {a : Addr} (h : DGet H a x (some v)) (q : Q v H) : rIxA K (.ref a) x H Q := .inr ⟨a, v, rfl, h, q⟩
theorem g_slL {a : Addr} {xs : List V} {lo hi : Option Int} (h : SqL K H a xs) (q : ∀ p, H p = none → Q (.ref p) (upd H p (.lst (cutV xs lo hi)))) : rSlAny K (.ref a) lo hi H Q := .inl ⟨a, xs, rfl, h, q⟩
theorem g_slS {lo hi : Option Int} (h : z.length ≤ sizeLine) (q : Q (.str (cutS z lo hi)) H) : rSlAny K (.str z) lo hi H Q := .inr (.inr ⟨z, rfl, h, q⟩)
theorem g_lenS (h : z.length ≤ sizeLine) (q : Q (.int z.length) H) : rLenA K [.str z] H Q := .inl ⟨.str z, z.length, rfl, ⟨h, rfl⟩, q⟩
theorem g_lenL {a : Addr} {xs : List V} (h : SqL K H a xs) (q : Q (.int xs.length) H) : rLenA K [.ref a] H Q := .inl ⟨.ref a, xs.length, rfl, .inl ⟨xs, h, rfl⟩, q⟩
theorem g_lenT {a : Addr} {xs : List V} (h : SqT K H a xs) (q : Q (.int xs.length) H) : rLenA K [.ref a] H Q := .inl ⟨.ref a, xs.length, rfl, .inr ⟨xs, h, rfl⟩, q⟩
theorem g_lenD {a : Addr} {kvs : List (Key × V)} (h : H a = some (.dK kvs)) (q : Q (.int kvs.length) H) : rLenA K [.ref a] H Q := .inr ⟨a, kvs, rfl, h, q⟩
theorem g_intB (q : Q (.int (if c then 1 else 0)) H) : rIntA [.bl c] H Q := .inl (.inr ⟨c, rfl, q⟩)
theorem g_intI (q : Q (.int n) H) : rIntA [.int n] H Q := .inl (.inl ⟨n, rfl, q⟩)
theorem g_intS (h : PySem.intText? z = some n) (hl : z.length ≤ 640) (q : Q (.int n) H) : rIntA [.str z] H Q := .inr ⟨z, n, rfl, h, hl, q⟩
theorem g_max (q : Q (.int (if m > n then m else n)) H) : rMax2' [.int n, .int m] H Q := ⟨n, m, rfl, q⟩
theorem g_min (q : Q (.int (if m < n then m else n)) H) : rMin2' [.int n, .int m] H Q := ⟨n, m, rfl, q⟩
theorem g_abs (q : Q (.int (if n < 0 then -n else n)) H) : rAbs' [.int n] H Q := ⟨n, rfl, q⟩
theorem g_repr {d : PyData} (hx : x ≠ .non) (h : Dp K H x d) (hs : ShowOk d) (q : Q (.str d.shown) H) : rRepr K [x] H Q := ⟨x, d, rfl, hx, h, hs, q⟩
/-! #### tests -/
theorem g_ite {A B : Prop} (h1 : c = true → A) (h2 : c = false → B) : if c = true then A else B := by
  cases c with
  | true => exact iteT (h1 rfl)
  | false => exact iteF (h2 rfl)
theorem g_nF {A B : Prop} (h : A) : if (!false) = true then A else B := iteT h
theorem g_nT {A B : Prop} (h : B) : if (!true) = true then A else B := iteF h
theorem g_iteD {P : Prop} [Decidable P] {A B : Prop} (h1 : P → A) (h2 : ¬ P → B) : if decide P = true then A else B := by
  by_cases h : P
  · rw [if_pos (decide_eq_true h)]
    exact h1 h
  · rw [decide_eq_false h]
    exact iteF (h2 h)
theorem g_iteN {P : Prop} [Decidable P] {A B : Prop} (h1 : ¬ P → A) (h2 : P → B) : if (!decide P) = true then A else B := by
  by_cases h : P
  · rw [decide_eq_true h]
    exact iteF (h2 h)
  · rw [decide_eq_false h]
    exact iteT (h1 h)
end
end Ct
/-! stores, room, loops, comprehensions -/
namespace Ct
open PySem PySem.Spec PyProof.Rows L2
theorem hu1 {k : Nat} {A : Around} (r : Room k A) : A.units + 1 < cLine := by have := r.un; omega
theorem hu64 {k : Nat} {A : Around} (r : Room k A) : A.units + 64 < cLine := by have := r.un; omega
theorem hu65 {k : Nat} {A : Around} (r : Room k A) : A.units + 65 < cLine := by have := r.un; omega
theorem hu120 {k : Nat} {A : Around} (r : Room k A) : A.units + 120 < cLine := by have := r.un; omega
section
variable {X : Cx}
def rSetA : TSet := fun o i v H Q => rSetL o i v H Q ∨ rSetD o i v H Q
theorem set_any (hu : X.A.units + 1 < cLine) : PSet X rSetA := by
  intro pins s σ H o i v ov iv u Q I ro ri rv h
  rcases h with h | h
  · exact set_list pins s σ H o i v ov iv u Q I ro ri rv h
  · exact set_dict hu pins s σ H o i v ov iv u Q I ro ri rv h
def rAugA : TIp := fun x y H Q => (ipI fun i j => i + j) x y H Q ∨ ∃ i j, x = .str i ∧ y = .str j ∧ i.length + j.length ≤ sizeLine ∧ Q (.str (i ++ j)) H
theorem ip_addA : PIp X .Add rAugA := by
  intro pins s σ H x y v u Q I rx ry h
  rcases h with h | h
  · exact ip_add pins s σ H x y v u Q I rx ry h
  · exact iop_add_str pins s σ H x y v u Q I rx ry h
end
abbrev rSplit : V → List V → Hp → VK → Prop := fun x xs H Q => ∃ a b, x = .str a ∧ xs = [.str b] ∧ (b.length == 0) = false ∧ a.length + 2 ≤ sizeLine ∧ rNewStrs (Txt.split a b) H Q
abbrev rJoin (K : PySem.W.Frag) : V → List V → Hp → VK → Prop := fun x xs H Q => ∃ a p, ∃ ys : List Str, x = .str a ∧ xs = [.ref p] ∧ (SqL K H p (ys.map V.str) ∨ SqT K H p (ys.map V.str)) ∧ (ys.map (·.length)).sum + ys.length * a.length ≤ 16777216 ∧ Q (.str (Txt.join a ys)) H
section
variable {K : PySem.W.Frag} {σ : L2.St} {H : Hp} {Q : VK} {D : Ends} {x y v : V} {z w : Str} {a : Addr} {xs : List V} {n m : Int} {k : Key} {kvs : List (Key × V)}
theorem g_setI {o i : V} {QH : Hp → Prop} {j : Nat} (h : H a = some (.lst xs)) (hj : ixN xs.length n = some j) (q : QH (upd H a (.lst (xs.set j v)))) : rSetA (.ref a) (.int n) v H QH := .inl ⟨a, xs, n, j, rfl, rfl, h, hj, q⟩
theorem g_setK {QH : Hp → Prop} (k : Key) (h : H a = some (.dK kvs)) (hl : kvs.length < sizeLine) (q : QH (upd H a (.dK (putK kvs k v)))) : rSetA (.ref a) (kV k) v H QH := .inr ⟨a, _, rfl, DPut.k h hl, q⟩
theorem g_augI (q : Q (.int (n + m)) H) : rAugA (.int n) (.int m) H Q := .inl ⟨n, m, rfl, rfl, q⟩
theorem g_augS (h : z.length + w.length ≤ sizeLine) (q : Q (.str (z ++ w)) H) : rAugA (.str z) (.str w) H Q := .inr ⟨z, w, rfl, rfl, h, q⟩
theorem g_split (h : (w.length == 0) = false) (hl : z.length + 2 ≤ sizeLine) (q : ∀ p, H p = none → Q (.ref p) (upd H p (.lst ((Txt.split z w).map V.str)))) : rSplit (.str z) [.str w] H Q := ⟨z, w, rfl, rfl, h, hl, q⟩
theorem g_join {ys : List Str} (h : SqL K H a (ys.map V.str) ∨ SqT K H a (ys.map V.str)) (hl : (ys.map (·.length)).sum + ys.length * z.length ≤ 16777216) (q : Q (.str (Txt.join z ys)) H) : rJoin K (.str z) [.ref a] H Q := ⟨z, a, ys, rfl, rfl, h, hl, q⟩
theorem g_pop (h : H a = some (.lst xs)) (hx : xs[xs.length - 1]? = some y) (q : Q y (upd H a (.lst xs.dropLast))) : rPop (.ref a) [] H Q := ⟨a, xs, y, rfl, rfl, h, hx, q⟩
theorem g_app (h : H a = some (.lst xs)) (hl : xs.length < sizeLine) (q : Q .non (upd H a (.lst (xs ++ [y])))) : rAppend (.ref a) [y] H Q := ⟨a, xs, y, rfl, rfl, h, hl, q⟩
theorem g_all {bs : List Bool} (h : SqL K H a (bs.map V.bl)) (q : Q (.bl (bs.all id)) H) : rAll K [.ref a] H Q := ⟨a, bs, rfl, h, q⟩
theorem g_any {bs : List Bool} (h : SqL K H a (bs.map V.bl)) (q : Q (.bl (bs.any id)) H) : rAny K [.ref a] H Q := ⟨a, bs, rfl, h, q⟩
theorem g_tyL (h : SqL K H a xs) : tyV K "list" (.ref a) H := .inl ⟨rfl, _, h⟩
theorem g_lrev {te : TE} (q : te σ H fun v H1 => ∃ (a : Addr) (xs : List V), v = .ref a ∧ SqL K H1 a xs ∧ ∀ q, H1 q = none → Q (.ref q) (upd H1 q (.lst xs.reverse))) : tListRev K te σ H Q := q
theorem g_par {i j : Nat} {ta : TA} (q : ta σ H fun vs H1 => ∃ v w, vs = [v, w] ∧ D.nx ((σ.set i (some v)).set j (some w)) H1) : tPar i j ta D σ H := q
theorem g_par3 {i j l : Nat} {ta : TA} (q : ta σ H fun vs H1 => ∃ u v w, vs = [u, v, w] ∧ D.nx (((σ.set i (some u)).set j (some v)).set l (some w)) H1) : tPar3 i j l ta D σ H := q
theorem g_asg {te : TE} {g : TG} (q : te σ H fun x H1 => g x σ H1 D.nx) : tAsg te g D σ H := q
theorem g_sub {to ti : TE} {t : TSet} {QS : L2.St → Hp → Prop} (q : to σ H fun o H1 => ti σ H1 fun i H2 => t o i v H2 fun H3 => QS σ H3) : gSub to ti t v σ H QS := q
theorem g_name {i : Nat} {QS : L2.St → Hp → Prop} (q : QS (σ.set i (some v)) H) : gName i v σ H QS := q
theorem g_aug {i : Nat} {te : TE} {ti : TIp} (h : σ[i]? = some (some x)) (q : te σ H fun y H1 => ti x y H1 fun z H2 => D.nx (σ.set i (some z)) H2) : tAug i te ti D σ H := ⟨x, h, q⟩
/-! ### loops: W, the invariant; B, what holds behind -/
theorem l_while {c : TT} {tb : TS} (W : Nat → L2.St → Hp → Prop) (B : L2.St → Hp → Prop) (h0 : ∃ m, W m σ H)
    (hs : ∀ X : L2.St → Hp → Prop, (∀ σ H, B σ H → X σ H) → ∀ m σ H, W m σ H → c σ H fun b H1 => if b = true then ∃ N : L2.St → Hp → Prop, (∀ σ' H', N σ' H' → ∃ m', m' < m ∧ W m' σ' H') ∧ tb { D with nx := N, ct := N, bk := X } σ H1 else X σ H1)
    (hd : ∀ σ H, B σ H → D.nx σ H) : tWhile c tb D σ H := ⟨W, h0, hs D.nx hd⟩
theorem g_turn {W : Nat → L2.St → Hp → Prop} {k : Nat} {P : (L2.St → Hp → Prop) → Prop} (q : P fun σ' H' => ∃ m', m' < k ∧ W m' σ' H') : ∃ N : L2.St → Hp → Prop, (∀ σ' H', N σ' H' → ∃ m', m' < k ∧ W m' σ' H') ∧ P N := ⟨_, fun _ _ h => h, q⟩
def LcGo (J : It) (g : TG) (tt : TT) (te : TE) (vs : List Nat) (σ : L2.St) (H : Hp) (Q : VK) : Prop :=
  ∀ D, H D = none → ∃ W : Nat → Nat → Hp → Prop, (∃ m, W 0 m (upd H D (.lst []))) ∧ ∀ i m H, W i m H →
      (J.stop i H ∧ Q (.ref D) H) ∨ (J.go i H ∧ ∃ Nx : Hp → Prop, (∀ H', Nx H' → ∃ m', m' < m ∧ W (i + 1) m' H') ∧ ∀ x H', J.yld i H x H' → g x (wipe σ vs) H' fun σ2 H2 => wipe σ2 vs = wipe σ vs ∧ tt σ2 H2 fun b H3 =>
        if b = true then te σ2 H3 fun y H4 => ∃ acc, H4 D = some (.lst acc) ∧ acc.length < sizeLine ∧ Nx (upd H4 D (.lst (acc ++ [y]))) else Nx H3)
def ForGo (J : It) (g : TG) (tb : TS) (D : Ends) (σ : L2.St) (H : Hp) : Prop :=
  ∃ W : Nat → Nat → L2.St → Hp → Prop, (∃ m, W 0 m σ H) ∧ ∀ i m σ H, W i m σ H →
      (J.stop i H ∧ D.nx σ H) ∨ (J.go i H ∧ ∃ N : L2.St → Hp → Prop, (∀ σ' H', N σ' H' → ∃ m', m' < m ∧ W (i + 1) m' σ' H') ∧ ∀ x H', J.yld i H x H' → g x σ H' fun σ2 H2 => tb { D with nx := N, ct := N, bk := D.nx } σ2 H2)
/-! ### comprehensions: R, what is known of the list so far behind i turns -/
theorem c_lc {M : Cells → Prop} {Γ : List Kn} {L : Cells} {J : It} {n : Nat} {G : Hp → Prop} {Y : Nat → Hp → V → Hp → Prop} {g : TG} {tt : TT} {te : TE} {vs : List Nat} (wk : Walk J n G Y) (w : WR M Γ L H) (R : Nat → List V → Hp → Prop)
    (r0 : ∀ G, R 0 [] G) (hz : ∀ i acc G, i < n → R i acc G → acc.length < sizeLine) (hG : ∀ i acc D H, i ≤ n → WR M (R i acc :: Γ) ((D, .lst acc) :: L) H → G H)
    (hs : ∀ i x D acc H H' (N : V → Hp → Prop) (N0 : Hp → Prop), i < n → WR M (R i acc :: Γ) ((D, .lst acc) :: L) H → Y i H x H' →
      (∀ y H4, WR M (R (i + 1) (acc ++ [y]) :: R i acc :: Γ) ((D, .lst acc) :: L) H4 → N y H4) → (∀ H3, WR M (R (i + 1) acc :: R i acc :: Γ) ((D, .lst acc) :: L) H3 → N0 H3) →
      g x (wipe σ vs) H' fun σ2 H2 => wipe σ2 vs = wipe σ vs ∧ tt σ2 H2 fun b H3 => if b = true then te σ2 H3 N else N0 H3)
    (hd : ∀ D acc H, WR M (R n acc :: Γ) ((D, .lst acc) :: L) H → Q (.ref D) H) :
    LcGo J g tt te vs σ H Q := by
  intro D hD
  refine lc_it wk (fun i H => ∃ acc, WR M (R i acc :: Γ) ((D, .lst acc) :: L) H) ⟨[], (w.new (.lst []) hD).more _ fun G _ => r0 G⟩ (fun i H hi ⟨acc, w⟩ => hG i acc D H hi w) ?_ (fun H ⟨acc, w⟩ => hd D acc H w)
  rintro i x H H' hi ⟨acc, w⟩ y
  have two : ∀ {k : Kn} {L' : Cells} {H' : Hp}, WR M (k :: R i acc :: Γ) L' H' → WR M (k :: Γ) L' H' := fun w => w.sub fun k hk => by
    cases hk with
    | head => exact .head _
    | tail _ hk => exact .tail _ (.tail _ hk)
  exact hs i x D acc H H' _ _ hi w y (fun v H4 w4 => ⟨acc, w4.cell (.head _), hz i acc H4 hi (w4.get (.tail _ (.head _))), acc ++ [v], two (w4.put0 _)⟩) (fun H3 w3 => ⟨acc, two w3⟩)
theorem g_lc {wi : TI} {g : TG} {tt : TT} {te : TE} {vs : List Nat} (q : wi σ H fun J H1 => LcGo J g tt te vs σ H1 Q) : tLc wi g tt te vs σ H Q := q
theorem g_for {wi : TI} {g : TG} {tb : TS} (q : wi σ H fun J H1 => ForGo J g tb D σ H1) : tFor wi g tb D σ H := q
/-- a for: J and Y as the walk tells -/
theorem c_for {J : It} {n : Nat} {G : Hp → Prop} {Y : Nat → Hp → V → Hp → Prop} {g : TG} {tb : TS} (wk : Walk J n G Y) (Pv : Nat → L2.St → Hp → Prop) (B : L2.St → Hp → Prop) (h0 : Pv 0 σ H) (hG : ∀ i σ H, i ≤ n → Pv i σ H → G H)
    (hs : ∀ X : L2.St → Hp → Prop, (∀ σ H, B σ H → X σ H) → ∀ i x σ H H', i < n → Pv i σ H → Y i H x H' → g x σ H' fun σ2 H2 => tb { D with nx := Pv (i + 1), ct := Pv (i + 1), bk := X } σ2 H2) (he : ∀ σ H, Pv n σ H → B σ H) (hd : ∀ σ H, B σ H → D.nx σ H) :
    ForGo J g tb D σ H :=
  for_it wk Pv h0 hG (hs D.nx hd) fun σ H p => hd σ H (he σ H p)
/-! ### what is walked -/
theorem g_seqI {tl : TE} {R : It → Hp → Prop} (q : tl σ H fun x H1 => wSeq K x H1 R) : iSeq K tl σ H R := q
theorem g_inL {R : It → Hp → Prop} (h : SqL K H a xs) (q : R (Itl K a) H) : wSeq K (.ref a) H R := .inl ⟨a, rfl, ⟨_, h⟩, q⟩
theorem g_inT {R : It → Hp → Prop} (h : SqT K H a xs) (q : R (Itt K a) H) : wSeq K (.ref a) H R := .inr (.inl ⟨a, rfl, ⟨_, h⟩, q⟩)
theorem g_inStr {R : It → Hp → Prop} (q : R (Its z) H) : wSeq K (.str z) H R := .inr (.inr ⟨z, rfl, q⟩)
theorem g_rng {ta : TA} {R : It → Hp → Prop} (q : ta σ H fun vs H1 => ∃ j : Int, vs = [.int j] ∧ -(2 ^ 62) ≤ j ∧ j < 2 ^ 62 ∧ R (Itr 0 j.toNat) H1) : iRng1 ta σ H R := q
theorem g_rngI {R : It → Hp → Prop} (h1 : -(2 ^ 62) ≤ n) (h2 : n < 2 ^ 62) (q : R (Itr 0 n.toNat) H) : ∃ j : Int, [V.int n] = [.int j] ∧ -(2 ^ 62) ≤ j ∧ j < 2 ^ 62 ∧ R (Itr 0 j.toNat) H := ⟨n, rfl, h1, h2, q⟩
theorem g_yes {QB : Bool → Hp → Prop} (q : QB true H) : tYes σ H QB := q
theorem g_cut {t u : TS} (M : L2.St → Hp → Prop) (h1 : t { D with nx := M } σ H) (h2 : ∀ σ' H', M σ' H' → u D σ' H') : C8.tCut t u D σ H := ⟨M, h1, h2⟩
theorem g_gtup {k : Nat} {t : TGs} {QS : L2.St → Hp → Prop} (h : SqT K H a xs) (hl : xs.length = k) (q : t xs σ H QS) : gTup K k t (.ref a) σ H QS := ⟨a, xs, rfl, h, hl, q⟩
theorem g_gcons {t : TG} {u : TGs} {vs : List V} {QS : L2.St → Hp → Prop} (q : t v σ H fun σ' H' => u vs σ' H' QS) : gCons t u (v :: vs) σ H QS := ⟨v, vs, rfl, q⟩
theorem g_gnil {QS : L2.St → Hp → Prop} (q : QS σ H) : gNil [] σ H QS := ⟨rfl, q⟩
theorem at_in {α : Type} {l : List α} {r : Int} (h0 : 0 ≤ r) (h1 : r < (l.length : Int)) : ∃ x, atI l r = some x ∧ x ∈ l ∧ l[r.toNat]? = some x := by
  obtain ⟨j, rfl⟩ : ∃ j : Nat, r = (j : Int) := ⟨r.toNat, by omega⟩
  have hj : j < l.length := by omega
  exact ⟨l[j], atI_nat (List.getElem?_eq_getElem hj), List.getElem_mem hj, by simp [hj]⟩
theorem g_disp {trs : List (TE × TE)} (q : ∀ p, H p = none → tPairs trs σ (upd H p (.dK [])) fun ps H2 => H2 p = some (.dK []) ∧ ∃ kvs : List (Key × V), ps = kvs.map (fun kv => (kV kv.1, kv.2)) ∧ kvs.length ≤ 15 ∧ Q (.ref p) (upd H2 p (.dK (mergeK [] kvs)))) : tDisp trs σ H Q := q
theorem g_pairs {tk tv : TE} {r : List (TE × TE)} {Q : List (V × V) → Hp → Prop} (q : tk σ H fun x H1 => tv σ H1 fun y H2 => tPairs r σ H2 fun ps H3 => Q ((x, y) :: ps) H3) : tPairs ((tk, tv) :: r) σ H Q := q
theorem g_pairs0 {Q : List (V × V) → Hp → Prop} (q : Q [] H) : tPairs [] σ H Q := q
theorem cut_map {α : Type} (f : α → V) (xs : List α) (lo hi : Option Int) : ∃ ys : List α, cutV (xs.map f) lo hi = ys.map f ∧ (∀ y ∈ ys, y ∈ xs) ∧ ys.length ≤ xs.length := by
  refine ⟨(xs.drop (HT.sIx xs.length 0 lo)).take (HT.sIx xs.length xs.length hi - HT.sIx xs.length 0 lo), ?_, fun y hy => List.mem_of_mem_drop (List.mem_of_mem_take hy), ?_⟩
  · unfold cutV
    rw [List.map_take, List.map_drop, List.length_map]
  · rw [List.length_take, List.length_drop]
    omega
theorem sz {n : Nat} (h : n ≤ 1000000) : n ≤ sizeLine := Nat.le_trans h (by decide)
theorem szl {n : Nat} (h : n ≤ 1000000) : n < sizeLine := Nat.lt_of_le_of_lt h (by decide)
theorem at_map {α : Type} {f : α → V} {xs : List α} {i : Nat} {v : V} (h : (xs.map f)[i]? = some v) : ∃ x, xs[i]? = some x ∧ v = f x := by
  rw [List.getElem?_map] at h
  cases e : xs[i]? with
  | none =>
    rw [e] at h
    cases h
  | some x =>
    rw [e] at h
    exact ⟨x, rfl, (Option.some.inj h).symm⟩
end
end Ct
/-! texts: their sizes and signs -/
namespace Ct
open PySem PySem.Spec PyProof.Rows L2
/-- at most n signs, all of them below 128 -/
def TX (n : Nat) (z : Str) : Prop := z.length ≤ n ∧ ∀ c ∈ z.cps.toList, c < 128
theorem TX.mono {n m : Nat} {z : Str} (h : TX n z) (l : n ≤ m) : TX m z := ⟨Nat.le_trans h.1 l, h.2⟩
theorem cps_app (a b : Str) : (a ++ b).cps.toList = a.cps.toList ++ b.cps.toList := by rw [Str.cps_append, Array.toList_append]
theorem len_app (a b : Str) : (a ++ b).length = a.length + b.length := Str.length_append a b
theorem len_list (z : Str) : z.cps.toList.length = z.length := Array.length_toList
theorem TX.app {n m : Nat} {a b : Str} (h : TX n a) (h' : TX m b) : TX (n + m) (a ++ b) := by
  refine ⟨by rw [len_app]; exact Nat.add_le_add h.1 h'.1, fun c hc => ?_⟩
  rw [cps_app] at hc
  rcases List.mem_append.mp hc with hc | hc
  · exact h.2 c hc
  · exact h'.2 c hc
theorem TX.cut {n : Nat} {z : Str} (h : TX n z) (lo hi : Option Int) : TX n (cutS z lo hi) := by
  refine ⟨Nat.le_trans (cutS_length z lo hi) h.1, fun c hc => h.2 c ?_⟩
  have hc' : c ∈ (z.cps.toList.drop (HT.sIx z.length 0 lo)).take (HT.sIx z.length z.length hi - HT.sIx z.length 0 lo) := by simpa [cutS] using hc
  exact List.mem_of_mem_drop (List.mem_of_mem_take hc')
theorem cut_len (z : Str) (k : Nat) : (cutS z none (some (k : Int))).length ≤ k := by
  unfold cutS
  show ((((z.cps.toList.drop (HT.sIx z.length 0 none)).take (HT.sIx z.length z.length (some (k : Int)) - HT.sIx z.length 0 none)).toArray)).size ≤ k
  rw [HT.sIx_nat, HT.sIx_none, List.size_toArray, List.length_take]
  omega
theorem TX.cutN {n : Nat} {z : Str} (h : TX n z) (k : Nat) : TX k (cutS z none (some (k : Int))) := ⟨cut_len z k, (h.cut none (some (k : Int))).2⟩
theorem TX.sign {n : Nat} {z : Str} {c : Nat} (h : TX n z) (hc : c ∈ z.cps.toList) : TX 1 ⟨#[c]⟩ := ⟨Nat.le_refl 1, fun d hd => by
  have e : d = c := by simpa using hd
  subst e
  exact h.2 d hc⟩
theorem reps_list (c : Array Nat) : ∀ (k : Nat) (acc : Array Nat) (x : Nat), x ∈ ((List.replicate k c).foldl (· ++ ·) acc).toList → x ∈ acc.toList ∨ x ∈ c.toList
  | 0, acc, x, h => .inl h
  | k + 1, acc, x, h => by
    rw [List.replicate_succ, List.foldl_cons] at h
    rcases reps_list c k (acc ++ c) x h with h | h
    · rw [Array.toList_append] at h
      exact List.mem_append.mp h
    · exact .inr h
theorem mul_ok {z : Str} {k : Int} {n : Nat} (h : z.length ≤ n) (hn : n ≤ 10000) (h0 : 0 ≤ k) (h1 : k ≤ 1000) : MulOk z k := by
  refine ⟨?_, fun a b => ?_, fun a b => ?_⟩
  · rw [decide_eq_false (by omega), decide_eq_false (by omega)] <;> rfl
  · have hk : 0 < k := by omega
    have e0 : (9223372036854775 : Int) * k ≤ 9223372036854775 * 1000 := Int.mul_le_mul_of_nonneg_left h1 (by decide)
    have e : (9223372036854775 : Int) ≤ ((2 : Int) ^ 63 - 1) / k := (Int.le_ediv_iff_mul_le hk).mpr (by omega)
    omega
  · show decide (z.length * k.toNat > sizeLine) = false
    refine decide_eq_false ?_
    have e : z.length * k.toNat ≤ 10000 * 1000 := Nat.mul_le_mul (by omega) (by omega)
    have e2 : (10000 * 1000 : Nat) ≤ sizeLine := by decide
    omega
theorem TX.mul {n m : Nat} {z : Str} {k : Int} (h : TX n z) (h1 : k ≤ m) : TX (n * m) (Txt.mul z k) := by
  unfold Txt.mul
  split
  · exact ⟨Nat.zero_le _, fun c hc => absurd hc (List.not_mem_nil)⟩
  · rename_i hk
    have hm : 1 ≤ m := by omega
    split
    · exact ⟨Nat.le_trans h.1 (Nat.le_mul_of_pos_right _ hm), h.2⟩
    · refine ⟨?_, fun c hc => ?_⟩
      · show ((List.replicate k.toNat z.cps).foldl (· ++ ·) #[]).size ≤ n * m
        rw [size_reps]
        have e1 : k.toNat * z.cps.size ≤ m * n := Nat.mul_le_mul (by omega) h.1
        rw [Nat.mul_comm n m]
        simpa using e1
      · rcases reps_list z.cps k.toNat #[] c hc with hc | hc
        · exact absurd hc (by simp)
        · exact h.2 c hc
theorem joinL (sep : Str) : ∀ (ys : List Str) (c : Nat), c ∈ (Str.join sep ys).cps.toList → c ∈ sep.cps.toList ∨ ∃ y ∈ ys, c ∈ y.cps.toList
  | [], c, h => absurd h (by simp [Str.join, Str.empty])
  | [x], c, h => .inr ⟨x, .head _, h⟩
  | x :: y :: r, c, h => by
    have e : Str.join sep (x :: y :: r) = x ++ sep ++ Str.join sep (y :: r) := rfl
    rw [e, cps_app, cps_app] at h
    rcases List.mem_append.mp h with h | h
    · rcases List.mem_append.mp h with h | h
      · exact .inr ⟨x, .head _, h⟩
      · exact .inl h
    · rcases joinL sep (y :: r) c h with h | ⟨u, hu, h⟩
      · exact .inl h
      · exact .inr ⟨u, .tail _ hu, h⟩
theorem sum_le {n : Nat} : ∀ (ys : List Str), (∀ y ∈ ys, TX n y) → (ys.map (·.length)).sum ≤ n * ys.length
  | [], _ => Nat.zero_le _
  | y :: r, h => by
    rw [List.map_cons, List.sum_cons, List.length_cons, Nat.mul_succ]
    have h1 := (h y (.head _)).1
    have h2 := sum_le r fun z hz => h z (.tail _ hz)
    omega
theorem TX.join {n m k : Nat} {sep : Str} {ys : List Str} (hs : TX k sep) (h : ∀ y ∈ ys, TX n y) (hl : ys.length ≤ m) : TX (n * m + m * k) (Txt.join sep ys) := by
  have e : Txt.join sep ys = Str.join sep ys := StrLaws.glued_eq_join sep ys
  rw [e]
  refine ⟨Nat.le_trans (StrLaws.join_length_le sep ys) (Nat.add_le_add (Nat.le_trans (sum_le ys h) (Nat.mul_le_mul_left n hl)) (Nat.mul_le_mul hl hs.1)), fun c hc => ?_⟩
  rcases joinL sep ys c hc with hc | ⟨y, hy, hc⟩
  · exact hs.2 c hc
  · exact (h y hy).2 c hc
theorem join_fits {n m k : Nat} {sep : Str} {ys : List Str} (hs : TX k sep) (h : ∀ y ∈ ys, TX n y) (hl : ys.length ≤ m) (hz : n * m + m * k ≤ 16777216) : (ys.map (·.length)).sum + ys.length * sep.length ≤ 16777216 :=
  Nat.le_trans (Nat.add_le_add (Nat.le_trans (sum_le ys h) (Nat.mul_le_mul_left n hl)) (Nat.mul_le_mul hl hs.1)) hz
theorem tx_lit {n : Nat} {z : Str} (h : (decide (z.length ≤ n) && z.cps.toList.all fun c => decide (c < 128)) = true) : TX n z := by
  simp only [Bool.and_eq_true, decide_eq_true_eq, List.all_eq_true] at h
  exact h
theorem tx_lits {n : Nat} {zs : List Str} (h : (zs.all fun z => decide (z.length ≤ n) && z.cps.toList.all fun c => decide (c < 128)) = true) : ∀ z ∈ zs, TX n z := fun z hz => tx_lit (List.all_eq_true.mp h z hz)
theorem TX.ok {n : Nat} {z : Str} (h : TX n z) : PyData.strOk z = true := by
  unfold PyData.strOk
  rw [Array.all_eq_true_iff_forall_mem]
  intro c hc
  have := h.2 c (by simpa using hc)
  exact decide_eq_true (by omega)
/-! ### words in lists of words -/
theorem inV_str (z : Str) : ∀ ws : List Str, inV (.str z) (ws.map V.str) = decide (z ∈ ws)
  | [] => rfl
  | w :: r => by
    have ih := inV_str z r
    show (eqV (.str w) (.str z) || inV (.str z) (r.map V.str)) = _
    rw [ih]
    show ((w == z) || _) = _
    by_cases e : z = w
    · subst e
      simp
    · have e' : ¬ w = z := fun q => e q.symm
      simp [e, e']
theorem flat_strs : ∀ ws : List Str, (ws.map V.str).all flatV = true
  | [] => rfl
  | w :: r => flat_strs r
/-! ### data -/
theorem dp_strs {K : PySem.W.Frag} {H : Hp} : ∀ ws : List Str, DpAll K H (ws.map V.str) (ws.map PyData.str)
  | [] => .nil
  | w :: r => .cons (.str w) (dp_strs r)
theorem lay_strs : ∀ ws : List Str, (∀ w ∈ ws, PyData.strOk w = true) → PyData.canLayAll0 (ws.map PyData.str) = true
  | [], _ => rfl
  | w :: r, h => by
    have ih := lay_strs r fun z hz => h z (.tail _ hz)
    show (PyData.strOk w && PyData.canLayAll0 (r.map PyData.str)) = true
    rw [h w (.head _), ih] <;> rfl
theorem dep_strs : ∀ ws : List Str, PyData.depthAll (ws.map PyData.str) = 0
  | [] => rfl
  | w :: r => by
    show max 0 (PyData.depthAll (r.map PyData.str)) = 0
    rw [dep_strs r] <;> rfl
theorem shaped_strs {ws : List Str} (h : ∀ w ∈ ws, PyData.strOk w = true) : SeqAt.shaped (.list (ws.map PyData.str)) = true := by
  unfold SeqAt.shaped
  have e1 : PyData.canLay0 (.list (ws.map PyData.str)) = true := lay_strs ws h
  have e2 : PyData.depth (.list (ws.map PyData.str)) = 1 := by
    show PyData.depthAll (ws.map PyData.str) + 1 = 1
    rw [dep_strs]
  rw [e1, e2] <;> rfl
theorem g_neRefl {K : PySem.W.Frag} {H : Hp} {Q : VK} {z : Str} (q : Q (.bl false) H) : rNeA K (.str z) (.str z) H Q := g_neS (by
  rw [show (!decide (z = z)) = false by simp]
  exact q)
theorem show_bool (b : Bool) : ShowOk (.bool b) := by
  cases b <;> exact ⟨rfl, rfl, by decide, by decide⟩
end Ct
/-! calls by names of arguments; of defs that may raise -/
namespace Ct
open PySem PySem.Spec PyProof.Rows L2
section
variable {K : PySem.W.Frag} {x qual : Str} {st : Stmt} {f : Addr} {fd : FuncData} {ps : List Str}
/-- all parameters are written, n of them by place, those of ks by name; g puts them in the parameters' order -/
theorem fun_kbn (F : Fun K x qual st f fd) (n : Nat) (ks : List Str) (g : {α : Type} → List α → List α → List α)
    (hrel : ∀ {vs zs : List V} {us ws : List Value}, Vals vs us → Vals zs ws → Vals (g vs zs) (g us ws))
    (h : ∀ (kV doc pm : Value) (an : Option Addr) (cdv ct : Value) (us ws : List Value), us.length = n → ws.length = ks.length →
      bindArgs (PySem.W.fnOf x qual (defArgs st) (defBody st) (defScope st) .none kV doc pm an cdv ct) ⟨us, ks.zip ws⟩ = pure (ps.zip (g us ws))) : KBn K fd ps n ks (fun us ws => g us ws) (fun vs zs => g vs zs) := by
  obtain ⟨oc, od, kV, doc, pm, an, cdv, ct, osl, rfl, lk, hcd⟩ := F.ex
  exact ⟨fun s us ws _ l1 l2 => .of_eq (h kV doc pm an cdv ct us ws l1 l2), fun r1 r2 => hrel r1 r2⟩
/-- keyword-only parameters that are left out: their defaults -/
theorem fun_kbd {kws : List (Str × V)} (F : Fun K x qual st f fd) (KD : ∃ D : Addr, (∀ oc od kV doc pm an cdv ct osl, K.lookup f = some ⟨oc, od, .func (PySem.W.fnOf x qual (defArgs st) (defBody st) (defScope st) .none kV doc pm an cdv ct), osl⟩ → kV = .ref D) ∧ ∀ q ∈ kws, ∃ u, PySem.W.nsIn K D q.1 = some (some u) ∧ RelV q.2 u)
    (n : Nat) (ks : List Str) (ms : List (Str × V)) (g : {α : Type} → List α → List α → List α → List α) (hms : ∀ q ∈ ms, q ∈ kws)
    (hrel : ∀ {vs mz zs : List V} {us mv ws : List Value}, Vals vs us → Vals mz mv → Vals zs ws → Vals (g vs mz zs) (g us mv ws))
    (h : ∀ (D : Addr) (doc pm : Value) (an : Option Addr) (cdv ct : Value) (us mv ws : List Value), us.length = n → mv.length = ms.length → ws.length = ks.length →
      KwChain D ((ms.map (·.1)).zip mv) (bindArgs (PySem.W.fnOf x qual (defArgs st) (defBody st) (defScope st) .none (.ref D) doc pm an cdv ct) ⟨us, ks.zip ws⟩) (ps.zip (g us mv ws))) :
    ∃ mv : List Value, KBn K fd ps n ks (fun us ws => g us mv ws) (fun vs zs => g vs (ms.map (·.2)) zs) := by
  obtain ⟨oc, od, kV, doc, pm, an, cdv, ct, osl, rfl, lk, hcd⟩ := F.ex
  obtain ⟨D, hD, hq⟩ := KD
  obtain rfl := hD _ _ _ _ _ _ _ _ _ lk
  obtain ⟨mv, hl, rk, hks⟩ := kwd_vals (ms := ms) fun q hm => hq q (hms q hm)
  exact ⟨mv, ⟨fun s us ws X l1 l2 => BindsTo.of_looks fun M => KwChain.looks X hks (h D doc pm an cdv ct us mv ws l1 hl l2), fun r1 r2 => hrel r1 rk r2⟩⟩
end
section
variable {X : Cx} {CX : CXT} {k n : Nat} {f : Addr} {fd : FuncData} {ps ks : List Str} {sp : Sp} {E : XK} {EE : L2.St → XK} {x : Str} {p pos : Pos} {e : Expr} {es : List Expr} {kws : List Keyword} {t tk : TA} {g : List Value → List Value → List Value} {gV : List V → List V → List V}
/-- f(k = v, ..) -/
theorem pe_callN0 (F : FnOk X.prog X.w X.K X.mg X.base CX k f fd ps sp) (hr : Room k X.A) (hg : Gl X x) (hm : X.mg x = some (.ref f)) (hk : PySem.W.keepIn X.K (.ref f) = true) (hb : KBn X.K fd ps 0 ks g gV) (hx : Passes CX X E)
    (hkw : PK X kws tk) (hall : (backToKw pos (keywordEach kws X.env)).all (·.1.isSome) = true := by rfl) (hks : (backToKw pos (keywordEach kws X.env)).filterMap (·.1) = ks := by rfl)
    (hdb : (x == ("__debug__" : Str)) = false := by decide) (hpl : ((backTo pos (starEach [] X.env)).any (·.1) || (backToKw pos (keywordEach kws X.env)).any (·.1.isNone)) = false := by rfl) :
    PE X (.Call (.Name x p) [] kws pos) (tCallN 0 ks.length sp gV E tNil tk) :=
  ⟨fun pins s σ H Q I h => wpAny_Call_Name_kw (ld_glob I hg hm (PySem.W.callWith_KW0 (h₀ := X.base) I.ok.mod.kin hk hall (thn (hkw.run pos pins s σ H _ I h) fun ws s2 ⟨zs, H2, I2, rz, l1, l2, q2⟩ => ⟨I2.kIn, by
    rw [hks]
    exact run_fnN F hr hb hx I2 .nil rz l1 l2 q2⟩) hpl) hdb)⟩
/-- the same of a def that may raise -/
def tCallNS (n m : Nat) (sp : Sp) (gV : List V → List V → List V) (EE : L2.St → XK) (t tk : TA) : TE := fun σ H Q => t σ H fun vs H1 => tk σ H1 fun zs H2 => vs.length = n ∧ zs.length = m ∧ sp (gV vs zs) H2 Q (EE σ)
theorem run_fnNS {pins : List (Addr × Obj)} {σ : L2.St} {H : Hp} {s : Shared} {Q : VK} {us ws : List Value} {vs zs : List V} (F : FnOk X.prog X.w X.K X.mg X.base CX k f fd ps sp) (hr : Room k X.A) (hb : KBn X.K fd ps n ks g gV) (hx : PassesAt CX X σ (EE σ))
    (I : Inv X pins σ H s) (r : Vals vs us) (rz : Vals zs ws) (l1 : vs.length = n) (l2 : zs.length = ks.length) (h : sp (gV vs zs) H Q (EE σ)) : wpAny (model X.prog X.w) X.A (call (.ref f) us (ks.zip ws)) (EP X pins σ Q) X.xe s := by
  refine wpAny_call (codeAny_mono (F.run X.A X.stack s H ⟨us, ks.zip ws⟩ (g us ws) (gV vs zs) Q (EE σ) hr I.env0 (hb.to s us ws I.kIn (r.length.symm.trans l1) (rz.length.symm.trans l2)) (hb.rel r rz) h) fun y s' hq => ?_)
  cases y with
  | error e => exact hx pins H s e s' I hq
  | ok fl => cases fl <;> first | exact I.after hq | exact hq.elim
theorem pe_callNS (F : FnOk X.prog X.w X.K X.mg X.base CX k f fd ps sp) (hr : Room k X.A) (hg : Gl X x) (hm : X.mg x = some (.ref f)) (hk : PySem.W.keepIn X.K (.ref f) = true) (hb : KBn X.K fd ps n ks g gV) (hx : ∀ σ, PassesAt CX X σ (EE σ))
    (ha : PA X (e :: es) t) (hkw : PK X kws tk) (hall : (backToKw pos (keywordEach kws X.env)).all (·.1.isSome) = true := by rfl) (hks : (backToKw pos (keywordEach kws X.env)).filterMap (·.1) = ks := by rfl)
    (hdb : (x == ("__debug__" : Str)) = false := by decide) (he : starEach (e :: es) X.env = (false, eval e X.env) :: starEach es X.env := by rfl)
    (hpl : ((backTo pos (starEach (e :: es) X.env)).any (·.1) || (backToKw pos (keywordEach kws X.env)).any (·.1.isNone)) = false := by rfl) :
    PE X (.Call (.Name x p) (e :: es) kws pos) (tCallNS n ks.length sp gV EE t tk) :=
  ⟨fun pins s σ H Q I h => wpAny_Call_Name_kw (ld_glob I hg hm (PySem.W.callWith_KW (h₀ := X.base) I.ok.mod.kin hk hall (thn (ha.run pos pins s σ H _ I h) fun us s1 ⟨vs, H1, I1, r, q⟩ =>
    thn (hkw.run pos pins s1 σ H1 _ I1 q) fun ws s2 ⟨zs, H2, I2, rz, l1, l2, q2⟩ => ⟨I2.kIn, by
      rw [hks]
      exact run_fnNS F hr hb (hx σ) I2 r rz l1 l2 q2⟩) hpl he) hdb)⟩
theorem pe_callNS0 (F : FnOk X.prog X.w X.K X.mg X.base CX k f fd ps sp) (hr : Room k X.A) (hg : Gl X x) (hm : X.mg x = some (.ref f)) (hk : PySem.W.keepIn X.K (.ref f) = true) (hb : KBn X.K fd ps 0 ks g gV) (hx : ∀ σ, PassesAt CX X σ (EE σ))
    (hkw : PK X kws tk) (hall : (backToKw pos (keywordEach kws X.env)).all (·.1.isSome) = true := by rfl) (hks : (backToKw pos (keywordEach kws X.env)).filterMap (·.1) = ks := by rfl)
    (hdb : (x == ("__debug__" : Str)) = false := by decide) (hpl : ((backTo pos (starEach [] X.env)).any (·.1) || (backToKw pos (keywordEach kws X.env)).any (·.1.isNone)) = false := by rfl) :
    PE X (.Call (.Name x p) [] kws pos) (tCallNS 0 ks.length sp gV EE tNil tk) :=
  ⟨fun pins s σ H Q I h => wpAny_Call_Name_kw (ld_glob I hg hm (PySem.W.callWith_KW0 (h₀ := X.base) I.ok.mod.kin hk hall (thn (hkw.run pos pins s σ H _ I h) fun ws s2 ⟨zs, H2, I2, rz, l1, l2, q2⟩ => ⟨I2.kIn, by
    rw [hks]
    exact run_fnNS F hr hb (hx σ) I2 .nil rz l1 l2 q2⟩) hpl) hdb)⟩
/-- f() of a def that may raise -/
theorem pe_callS0 (F : FnOk X.prog X.w X.K X.mg X.base CX k f fd ps sp) (hr : Room k X.A) (hg : Gl X x) (hm : X.mg x = some (.ref f)) (hk : PySem.W.keepIn X.K (.ref f) = true) (hb : Binds X.K fd ps []) (hx : ∀ σ, PassesAt CX X σ (EE σ))
    (hdb : (x == ("__debug__" : Str)) = false := by decide) : PE X (.Call (.Name x p) [] [] pos) (tCallS sp EE tNil) :=
  ⟨fun pins s σ H Q I h => wpAny_Call_Name_kw (ld_glob I hg hm (PySem.W.callWith_K0 I.kIn hk (run_fnS (us := []) F hr hb (hx σ) I .nil h)) hdb)⟩
end
section
variable {σ : L2.St} {H : Hp} {Q : VK}
theorem g_callN {n m : Nat} {sp : Sp} {gV : List V → List V → List V} {E : XK} {t tk : TA} (q : t σ H fun vs H1 => tk σ H1 fun zs H2 => vs.length = n ∧ zs.length = m ∧ sp (gV vs zs) H2 Q E) : tCallN n m sp gV E t tk σ H Q := q
theorem g_callNS {n m : Nat} {sp : Sp} {gV : List V → List V → List V} {EE : L2.St → XK} {t tk : TA} (q : t σ H fun vs H1 => tk σ H1 fun zs H2 => vs.length = n ∧ zs.length = m ∧ sp (gV vs zs) H2 Q (EE σ)) : tCallNS n m sp gV EE t tk σ H Q := q
theorem g_callS {sp : Sp} {EE : L2.St → XK} {t : TA} (q : t σ H fun vs H1 => sp vs H1 Q (EE σ)) : tCallS sp EE t σ H Q := q
end
end Ct
/-! own errors -/
namespace Ct
open PySem PySem.Spec PyProof.Rows L2
theorem rel_getD {vs : List V} {us : List Value} (i : Nat) (r : Vals vs us) : RelV (vs.getD i .non) (us.getD i .none) := by
  cases e : vs[i]? with
  | none =>
    have e2 := r.none_of e
    rw [List.getD_eq_getElem?_getD, List.getD_eq_getElem?_getD, e, e2]
    rfl
  | some x =>
    obtain ⟨u, e2, rx⟩ := r.get e
    rw [List.getD_eq_getElem?_getD, List.getD_eq_getElem?_getD, e, e2]
    exact rx
theorem fun_kb {K : PySem.W.Frag} {x qual : Str} {st : Stmt} {f : Addr} {fd : FuncData} {ps : List Str} (F : Fun K x qual st f fd) (n : Nat) (ks : List Str) (g : List Value → List Value → List Value) (gV : List V → List V → List V)
    (hrel : ∀ {vs zs : List V} {us ws : List Value}, Vals vs us → Vals zs ws → Vals (gV vs zs) (g us ws))
    (h : ∀ (kV doc pm : Value) (an : Option Addr) (cdv ct : Value) (us ws : List Value), us.length = n → ws.length = ks.length →
      bindArgs (PySem.W.fnOf x qual (defArgs st) (defBody st) (defScope st) .none kV doc pm an cdv ct) ⟨us, ks.zip ws⟩ = pure (ps.zip (g us ws))) : ∃ g', KBn K fd ps n ks g' gV := by
  obtain ⟨oc, od, kV, doc, pm, an, cdv, ct, osl, rfl, lk, hcd⟩ := F.ex
  exact ⟨g, fun s us ws _ l1 l2 => .of_eq (h kV doc pm an cdv ct us ws l1 l2), fun r1 r2 => hrel r1 r2⟩
/-- an own error without an __init__ of its own -/
structure Exc0 (K : PySem.W.Frag) (mg : Str → Option Value) (x : Str) (C : Addr) (bmB : List Value) (newId : String) : Prop where
  g : mg x = some (.ref C)
  q : PySem.W.excIn K C bmB newId = true
  k : PySem.W.keepIn K (.ref C) = true
  b : PySem.W.subIn K (.ref C) (.type "BaseException") = some true
  t : PySem.W.typeIn K (.ref C) = some (.type "type")
section
variable {X : Cx}
theorem pmk_own0 {C : Addr} {bmB : List Value} {B newId initId : String} {x : Str} {p pos : Pos} (F : ExcBaseFacts B newId initId bmB) (T : Exc0 X.K X.mg x C bmB newId) (hg : Gl X x) (hdb : (x == ("__debug__" : Str)) = false := by decide) :
    PMk X (.Call (.Name x p) [] [] pos) (fun _ H Q => Q (.ref C) none H) := by
  intro pins s σ H Q I h
  refine wpAny_Call_Name_kw (ld_glob I hg T.g (PySem.W.callWith_K0 I.kIn T.k ?_) hdb)
  obtain ⟨bm, N, nm, qn, bs, hdct, sn, sub, ab, col, dd, k0, k1, k2, k3, k5, mN, hC, hN, hni, TT⟩ := exc_obj I.kIn T.q
  exact wpAny_call_exc_subT F TT hC hN hni (fun h' e hm => mk_of I hm (raises_own T.b T.t) h (I.hok.gone hm.new)) (Nat.zero_le _)
/-- raise C() -/
def tRaise0 (C : Addr) (W : WX) : TS := fun _ σ H => W (.ref C) none σ H
theorem ps_raise0 {C : Addr} {bmB : List Value} {B newId initId : String} {x : Str} {p pos pos2 : Pos} {W : WX} (hc : X.calm = true) (tk : Takes X W) (F : ExcBaseFacts B newId initId bmB) (T : Exc0 X.K X.mg x C bmB newId) (hg : Gl X x) (hdb : (x == ("__debug__" : Str)) = false := by decide) :
    PS X (.Raise (some (.Call (.Name x p) [] [] pos)) none pos2) (tRaise0 C W) := ps_raise hc tk (pmk_own0 F T hg hdb)
end
abbrev veB : List Value := [.type "ValueError", .type "Exception", .type "BaseException", .type "object"]
abbrev zdB : List Value := [.type "ZeroDivisionError", .type "ArithmeticError", .type "Exception", .type "BaseException", .type "object"]
end Ct
/-! int(text) of more than 640 signs -/
namespace Ct
open PySem PySem.Spec PyProof.Rows L2 PySem.NumText PySem.Calls PySem.W.KIN
theorem wp_textD {M : Model} {A : Around} {E : Value → Shared → Prop} {s : Shared} {Q : Value → Shared → Prop} {v : Value} {text : List Nat} {n : Int} (hd : s.heap.NoDigits)
    (hs : ¬ (text.takeWhile (· != 0)).length ≤ 640) (hr : (int_private% "readNumeral") 4300 10 (text.takeWhile (· != 0)) = (int_private% "Numeral.value") n)
    (ha : ((text.takeWhile (· != 0)).length == text.length) = true) (h : Q (.int n s.toks) { s with toks := s.toks + 1 }) :
    wpAny M A ((int_private% "intFromText") v text 10) Q E s := by
  obtain ⟨mc, hns, hnone⟩ := hd
  wp_step
  with_reducible refine wpAny_ite_false (decide_eq_false hs) ?_
  unfold Builtin.intMaxStrDigits
  refine wpAny_bind (wpAny_bind (wpAny_nsGet hns ?_))
  rw [hnone]
  refine wpAny_pure ?_
  dsimp only
  rw [hr]
  dsimp only
  rw [if_pos ha]
  exact wpAny_mkInt h
set_option maxHeartbeats 8000000 in
theorem meets_textD {x : PySem.Str} {u : Tok} {n : Int} (hl : ¬ (numSeenOf x).length ≤ 640) (hz : x.length ≤ sizeLine) (hn : PySem.intText? x = some n) :
    Meets (Builtin.«int.__new__» ⟨[.type "int", .str x u], []⟩) (fun _ R s => s.heap.NoDigits ∧ (Made.int n).post (fun v s' => R (.ok (.ret v)) s') s) :=
  .of_wp fun prog w A R s h => by
    obtain ⟨hd, h⟩ := h
    generalize hE : (fun (e : Value) (s' : Shared) => R (.error e) s') = E
    generalize hQ : (fun (v : Value) (s' : Shared) => R (.ok (.ret v)) s') = Q at h
    have hQ2 : ∀ v s', Q v s' → R (.ok (.ret v)) s' := fun v s' q => by rw [← hQ] at q; exact q
    generalize A.in1 = A
    generalize model prog w = M
    have f1 := F.conv_sub_int
    have f2 := F.madeHere_int
    have f3 := str_int
    have f4 := str_idx
    have f5 := str_trunc
    have f6 : typeOf (.str x u) = pure (.type "str") := rfl
    have hr : (int_private% "readNumeral") 4300 10 (numSeenOf x) = (int_private% "Numeral.value") n ∧ ((numSeenOf x).length == (numTextOf x).length) = true := by
      rcases read4300 x hz with ⟨m, h1, h2, h3⟩ | ⟨h1, _⟩
      · rw [hn] at h1
        injection h1 with h1
        subst h1
        exact ⟨h3, h2⟩
      · rw [hn] at h1
        cases h1
    have hk := W.KIN.Hid.mk (And.intro hl hr)
    have hdd := W.KIN.Hid.mk hd
    clear hl hr hn hz hd hE hQ
    repeat (any_goals (first
      | assumption
      | ((with_reducible show wpAny _ _ ((int_private% "intFromText") _ _ _) _ _ _); refine wp_textD hdd.out hk.out.1 hk.out.2.1 hk.out.2.2 ?_)
      | wp_step))
    all_goals first | exact ⟨_, rfl, hQ2 _ _ h⟩ | skip
set_option maxHeartbeats 4000000 in
theorem gives_textS {x : PySem.Str} {u : Tok} {n : Int} (hl : (numSeenOf x).length ≤ 640) (hn : PySem.intText? x = some n) : Gives (Builtin.«int.__new__» ⟨[.type "int", .str x u], []⟩) (.int n) :=
  .of_wp fun M A E s Q h => by
    obtain ⟨hp, g, d, tk, os⟩ := s
    have f1 := F.conv_sub_int
    have f2 := F.madeHere_int
    have f3 := str_int
    have f4 := str_idx
    have f5 := str_trunc
    have f6 : typeOf (.str x u) = pure (.type "str") := rfl
    have hr : (int_private% "readNumeral") 0 10 (numSeenOf x) = (int_private% "Numeral.value") n ∧ ((numSeenOf x).length == (numTextOf x).length) = true := by
      rcases read0 x hl with ⟨m, h1, h2, h3⟩ | ⟨h1, _⟩
      · rw [hn] at h1
        injection h1 with h1
        subst h1
        exact ⟨h3, h2⟩
      · rw [hn] at h1
        cases h1
    have hk := W.KIN.Hid.mk (And.intro hl hr)
    clear hr hl hn
    repeat (any_goals (first
      | assumption
      | ((with_reducible show wpAny _ _ ((int_private% "intFromText") _ _ _) _ _ _); refine wp_text hk.out.1 hk.out.2.1 hk.out.2.2 ?_)
      | wp_step))
    all_goals first | exact ⟨_, rfl, h⟩ | skip
section
variable {prog : Program} {w : World} {A : Around} {E : Value → Shared → Prop} {s : Shared} {Q : Value → Shared → Prop} {x : PySem.Str} {t : Tok} {n : Int}
theorem call_textD (hd : s.heap.NoDigits) (hn : PySem.intText? x = some n) (hz : x.length ≤ sizeLine) (h : Q (.int n s.toks) { s with toks := s.toks + 1 }) : wpAny (model prog w) A (call (.type "int") [.str x t]) Q E s := by
  by_cases hl : (numSeenOf x).length ≤ 640
  · by_cases hl2 : x.length ≤ 640
    · exact call_text hn hl2 h
    · exact call_int_1 (gives_textS hl hn).meets (show (Made.int n).post _ s from ⟨rfl, h⟩)
  · exact call_int_1 (meets_textD hl hz hn) ⟨hd, show (Made.int n).post _ s from ⟨rfl, h⟩⟩
end
def rIntT : List V → Hp → VK → Prop := fun xs H Q => ∃ a n, xs = [.str a] ∧ PySem.intText? a = some n ∧ a.length ≤ sizeLine ∧ Q (.int n) H
theorem call_intT {X : Cx} (hd : X.base.NoDigits) : CallR X (.type "int") rIntT := by
  intro pins s σ H xs us Q I rs h
  obtain ⟨a, n, rfl, hn, hl, h⟩ := h
  cases rs with
  | cons r1 rs =>
    cases rs
    obtain ⟨t, rfl⟩ := r1
    exact call_textD (hd.keeps I.bk) hn hl ⟨.int n, H, I.tok _, ⟨_, rfl⟩, h⟩
end Ct
/-! sizes of whole numbers; shares in lowest terms -/
namespace Ct
open PySem PySem.Spec PyProof.Rows L2
/-- below 2 ^ n -/
def SZ (n : Nat) (i : Int) : Prop := i.natAbs < 2 ^ n
section
variable {n m : Nat} {i j : Int}
theorem SZ.mono (h : SZ n i) (l : n ≤ m) : SZ m i := Nat.lt_of_lt_of_le h (Nat.pow_le_pow_right (by decide) l)
theorem SZ.mul (h : SZ n i) (h' : SZ m j) : SZ (n + m) (i * j) := by
  unfold SZ at *
  rw [Int.natAbs_mul, Nat.pow_add]
  exact Nat.mul_lt_mul'' h h'
theorem SZ.add (h : SZ n i) (h' : SZ n j) : SZ (n + 1) (i + j) := by
  unfold SZ at *
  rw [Nat.pow_succ]
  have := Int.natAbs_add_le i j
  omega
theorem SZ.neg (h : SZ n i) : SZ n (0 - i) := by
  unfold SZ at *
  omega
theorem SZ.le (h : SZ n i) (l : j.natAbs ≤ i.natAbs) : SZ n j := Nat.lt_of_le_of_lt l h
theorem SZ.bits (h : SZ n i) : Builtin.Int.intBits i ≤ n := intBits_le h
theorem SZ.mulx (h : SZ n i) (h' : SZ m j) (l : n + m ≤ 134217728) : CMulX i j := by
  have h1 := h.bits
  have h2 := h'.bits
  show (Builtin.Int.intBits i : Int) + (Builtin.Int.intBits j : Int) ≤ 134217728
  omega
theorem SZ.div (h : SZ 13500 i) (hj : j ≠ 0) : CDivA i j := by
  refine ⟨hj, ?_⟩
  unfold Builtin.divisionGoesByPylong
  have hx : (if (i == 0) = true then 0 else i.natAbs.log2 / 30 + 1) ≤ 450 := by
    by_cases e : i = 0
    · subst e
      exact Nat.zero_le _
    · rw [if_neg (by simpa using e)]
      have : i.natAbs.log2 < 13500 := (Nat.log2_lt (by omega)).mpr h
      omega
  simp only [Bool.and_eq_false_iff, decide_eq_false_iff_not]
  omega
theorem SZ.of_lt {k : Nat} (h0 : 0 ≤ i) (h1 : i < ((2 ^ k : Nat) : Int)) : SZ k i := by
  unfold SZ
  omega
theorem SZ.lit {k : Nat} (h : decide (i.natAbs < 2 ^ k) = true) : SZ k i := by
  unfold SZ
  exact of_decide_eq_true h
end
/-! ### tens -/
theorem ten_list : ∀ (k : Nat) (acc : Array Nat), ((List.replicate k (#[48] : Array Nat)).foldl (· ++ ·) acc).toList = acc.toList ++ List.replicate k 48
  | 0, acc => by simp
  | k + 1, acc => by
    rw [List.replicate_succ, List.foldl_cons, ten_list k (acc ++ #[48])]
    simp [List.replicate_succ]
theorem str_ext {a b : Str} (h : a.cps.toList = b.cps.toList) : a = b := TL.ext_tl h
theorem ten_str {k : Int} (h0 : 0 ≤ k) : ("1" : Str) ++ Txt.mul "0" k = SX.S (49 :: List.replicate k.toNat 48) := by
  refine str_ext ?_
  rw [cps_app]
  have e1 : ("1" : Str).cps.toList = [49] := by decide +kernel
  have e2 : (Txt.mul "0" k).cps.toList = List.replicate k.toNat 48 := by
    unfold Txt.mul
    split
    · have : k = 0 := by omega
      subst this
      rfl
    · split
      · rename_i h1 h2
        have e0 : ((("0" : Str).length == 0)) = false := by decide +kernel
        rw [e0] at h2
        simp at h2
        subst h2
        decide +kernel
      · have e0 : ("0" : Str).cps = #[48] := by decide +kernel
        rw [e0]
        have := ten_list k.toNat #[]
        simpa using this
  rw [e1, e2]
  rfl
theorem ten_val : ∀ k : Nat, NumText.digitsVal (49 :: List.replicate k 48) = 10 ^ k
  | 0 => rfl
  | k + 1 => by
    rw [List.replicate_succ', ← List.cons_append, NumText.digitsVal_snoc, ten_val k, Nat.pow_succ] <;> rfl
theorem ten_text {k : Int} (h0 : 0 ≤ k) (h1 : k ≤ 4000) : intText? (("1" : Str) ++ Txt.mul "0" k) = some (((10 ^ k.toNat : Nat)) : Int) := by
  rw [ten_str h0, SX.int_S, ten_val]
  · simp
  · simp
  · simp
    omega
/-! ### shares in lowest terms -/
/-- u by b in lowest terms is p by q -/
structure Low (u b p q : Int) : Prop where
  pos : 0 < q
  cop : Int.gcd p q = 1
  eq : p * b = u * q
  lp : p.natAbs ≤ u.natAbs
  lq : q.natAbs ≤ b.natAbs
theorem low_parts (u b : Int) (hb : b ≠ 0) : ∃ u' b', 0 < Nat.gcd u.natAbs b.natAbs ∧ u = u' * (Nat.gcd u.natAbs b.natAbs : Nat) ∧ b = b' * (Nat.gcd u.natAbs b.natAbs : Nat) ∧ Int.gcd u' b' = 1 := by
  have hg : 0 < Int.gcd u b := Int.gcd_pos_of_ne_zero_right u hb
  refine ⟨u / (Int.gcd u b : Int), b / (Int.gcd u b : Int), hg, ?_, ?_, Int.gcd_ediv_gcd_ediv_gcd hg⟩
  · exact (Int.ediv_mul_cancel (Int.gcd_dvd_left ..)).symm
  · exact (Int.ediv_mul_cancel (Int.gcd_dvd_right ..)).symm
theorem abs_le_mul (a : Int) {g : Nat} (h : 0 < g) : a.natAbs ≤ (a * (g : Int)).natAbs := by
  rw [Int.natAbs_mul]
  exact Nat.le_mul_of_pos_right _ h
theorem low_pos {u b u' b' : Int} {g : Nat} (hg : 0 < g) (hu : u = u' * (g : Int)) (hb : b = b' * (g : Int)) (hc : Int.gcd u' b' = 1) (h : 0 < b) : Low u b u' b' := by
  have hp : 0 < b' := by
    rw [hb] at h
    exact Int.pos_of_mul_pos_left h (by omega)
  refine ⟨hp, hc, ?_, ?_, ?_⟩
  · rw [hu, hb, ← Int.mul_assoc, Int.mul_assoc u' (g : Int) b', Int.mul_comm (g : Int) b', ← Int.mul_assoc]
  · rw [hu]
    exact abs_le_mul _ hg
  · rw [hb]
    exact abs_le_mul _ hg
theorem low_neg {u b u' b' : Int} {g : Nat} (hg : 0 < g) (hu : u = u' * (g : Int)) (hb : b = b' * (g : Int)) (hc : Int.gcd u' b' = 1) (h : b < 0) : Low u b (-u') (-b') := by
  have l := low_pos (u := -u) (b := -b) (u' := -u') (b' := -b') hg (by rw [hu, Int.neg_mul]) (by rw [hb, Int.neg_mul]) (by rw [Int.gcd_neg, Int.neg_gcd]; exact hc) (by omega)
  refine ⟨l.pos, l.cop, ?_, by simpa using l.lp, by simpa using l.lq⟩
  have := l.eq
  rw [Int.mul_neg, Int.neg_mul (a := u)] at this
  omega
/-- one reckons it so: the common part signed as the lower -/
theorem low_share {u b : Int} (hb : b ≠ 0) : let c : Int := if b < 0 then 0 - (Nat.gcd u.natAbs b.natAbs : Nat) else (Nat.gcd u.natAbs b.natAbs : Nat)
    c ≠ 0 ∧ Low u b (u.fdiv c) (b.fdiv c) := by
  obtain ⟨u', b', hg, hu, hb', hc⟩ := low_parts u b hb
  generalize Nat.gcd u.natAbs b.natAbs = g at hg hu hb'
  have g0 : (g : Int) ≠ 0 := by omega
  intro c
  by_cases h : b < 0
  · have e : c = -(g : Int) := by
      show (if b < 0 then 0 - (g : Int) else (g : Int)) = _
      rw [if_pos h]
      omega
    rw [e]
    have e1 : u.fdiv (-(g : Int)) = -u' := by
      rw [hu, show u' * (g : Int) = (-u') * (-(g : Int)) by rw [Int.neg_mul_neg]]
      exact Int.mul_fdiv_cancel _ (by omega)
    have e2 : b.fdiv (-(g : Int)) = -b' := by
      rw [hb', show b' * (g : Int) = (-b') * (-(g : Int)) by rw [Int.neg_mul_neg]]
      exact Int.mul_fdiv_cancel _ (by omega)
    rw [e1, e2]
    exact ⟨by omega, low_neg hg hu hb' hc h⟩
  · have e : c = (g : Int) := by
      show (if b < 0 then 0 - (g : Int) else (g : Int)) = _
      rw [if_neg h]
    rw [e]
    have e1 : u.fdiv (g : Int) = u' := by
      rw [hu]
      exact Int.mul_fdiv_cancel _ g0
    have e2 : b.fdiv (g : Int) = b' := by
      rw [hb']
      exact Int.mul_fdiv_cancel _ g0
    rw [e1, e2]
    exact ⟨g0, low_pos hg hu hb' hc (by omega)⟩
/-- another one so: signed ahead -/
theorem low_law {u b : Int} (hb : b ≠ 0) : let s : Int := 1 - 2 * (if decide (b < 0) = true then 1 else 0)
    ((Nat.gcd u.natAbs b.natAbs : Nat) : Int) ≠ 0 ∧ Low u b ((s * u).fdiv (Nat.gcd u.natAbs b.natAbs : Nat)) ((s * b).fdiv (Nat.gcd u.natAbs b.natAbs : Nat)) := by
  obtain ⟨u', b', hg, hu, hb', hc⟩ := low_parts u b hb
  generalize Nat.gcd u.natAbs b.natAbs = g at hg hu hb'
  have g0 : (g : Int) ≠ 0 := by omega
  intro s
  by_cases h : b < 0
  · have e : s = -1 := by
      show 1 - 2 * (if decide (b < 0) = true then (1 : Int) else 0) = _
      rw [if_pos (decide_eq_true h)] <;> rfl
    rw [e]
    have e1 : (-1 * u).fdiv (g : Int) = -u' := by
      rw [hu, show -1 * (u' * (g : Int)) = (-u') * (g : Int) by rw [Int.neg_mul, Int.one_mul, Int.neg_mul]]
      exact Int.mul_fdiv_cancel _ g0
    have e2 : (-1 * b).fdiv (g : Int) = -b' := by
      rw [hb', show -1 * (b' * (g : Int)) = (-b') * (g : Int) by rw [Int.neg_mul, Int.one_mul, Int.neg_mul]]
      exact Int.mul_fdiv_cancel _ g0
    rw [e1, e2]
    exact ⟨g0, low_neg hg hu hb' hc h⟩
  · have e : s = 1 := by
      show 1 - 2 * (if decide (b < 0) = true then (1 : Int) else 0) = _
      rw [if_neg (by simpa using h)] <;> rfl
    rw [e, Int.one_mul, Int.one_mul]
    have e1 : u.fdiv (g : Int) = u' := by
      rw [hu]
      exact Int.mul_fdiv_cancel _ g0
    have e2 : b.fdiv (g : Int) = b' := by
      rw [hb']
      exact Int.mul_fdiv_cancel _ g0
    rw [e1, e2]
    exact ⟨g0, low_pos hg hu hb' hc (by omega)⟩
/-- a share: lowest terms, n bits -/
structure Shr (n : Nat) (p q : Int) : Prop where
  pos : 0 < q
  cop : Int.gcd p q = 1
  sp : SZ n p
  sq : SZ n q
theorem Low.shr {n : Nat} {u b p q : Int} (l : Low u b p q) (hu : SZ n u) (hb : SZ n b) : Shr n p q := ⟨l.pos, l.cop, hu.le l.lp, hb.le l.lq⟩
theorem Shr.mono {n m : Nat} {p q : Int} (h : Shr n p q) (l : n ≤ m) : Shr m p q := ⟨h.pos, h.cop, h.sp.mono l, h.sq.mono l⟩
theorem Shr.neg {n : Nat} {p q : Int} (h : Shr n p q) : Shr n (0 - p) q := ⟨h.pos, by rw [Int.zero_sub, Int.neg_gcd]; exact h.cop, h.sp.neg, h.sq⟩
theorem dvd_cop {q p s : Int} (h : q ∣ p * s) (c : Int.gcd p q = 1) : q ∣ s := by
  rw [← Int.natAbs_dvd_natAbs] at h ⊢
  rw [Int.natAbs_mul] at h
  exact Nat.Coprime.dvd_of_dvd_mul_left (show Nat.gcd q.natAbs p.natAbs = 1 by rw [Nat.gcd_comm]; exact c) h
theorem shr_eq {n m : Nat} {p q r s : Int} (h : Shr n p q) (h' : Shr m r s) (e : p * s = r * q) : p = r ∧ q = s := by
  have d1 : q ∣ s := by
    have : q ∣ p * s := ⟨r, by rw [e, Int.mul_comm]⟩
    exact dvd_cop this h.cop
  have d2 : s ∣ q := by
    have : s ∣ r * q := ⟨p, by rw [← e, Int.mul_comm]⟩
    exact dvd_cop this h'.cop
  have p1 := h.pos
  have p2 := h'.pos
  have l1 := Int.le_of_dvd p2 d1
  have l2 := Int.le_of_dvd p1 d2
  have e2 : q = s := by omega
  subst e2
  exact ⟨Int.eq_of_mul_eq_mul_right (by omega) e, rfl⟩
/-- the one is less or the other is, just of unlike ones -/
theorem less_or {n m : Nat} {p q r s : Int} (h : Shr n p q) (h' : Shr m r s) : (decide (p * s < r * q) || decide (r * q < p * s)) = !(decide (p = r) && decide (q = s)) := by
  by_cases e : p * s = r * q
  · obtain ⟨rfl, rfl⟩ := shr_eq h h' e
    simp
  · have ne : ¬ (p = r ∧ q = s) := by
      rintro ⟨rfl, rfl⟩
      exact e rfl
    rw [← Bool.decide_and, decide_eq_false ne]
    rcases Int.lt_or_gt_of_ne e with h | h
    · simp [h]
    · rw [decide_eq_true (show r * q < p * s from h)]
      simp
/-- a sum with something above nought is greater -/
theorem more {a b n p q : Int} (hb : 0 < b) (hn : 0 < n) (l : Low (a * n + 1 * b) (b * n) p q) : a * q < p * b := by
  have e := l.eq
  have hq := l.pos
  have e2 : p * b * n = a * q * n + b * q := by
    have e1 : p * (b * n) = p * b * n := (Int.mul_assoc p b n).symm
    rw [← e1, e, Int.add_mul, Int.one_mul, Int.mul_assoc a n q, Int.mul_comm n q, ← Int.mul_assoc]
  have hbq : 0 < b * q := Int.mul_pos hb hq
  have : a * q * n < p * b * n := by omega
  exact Int.lt_of_mul_lt_mul_right this (by omega)
end Ct
namespace Ct
open PySem PySem.Spec PyProof.Rows L2
local macro_rules | `(tactic| walk_at "g") => `(tactic| first
  | with_reducible refine g_seq ?_
  | with_reducible refine g_set ?_
  | with_reducible refine g_asg ?_
  | with_reducible refine g_sub ?_
  | with_reducible refine g_name ?_
  | with_reducible refine g_ret ?_
  | with_reducible refine g_if ?_
  | ((with_reducible refine' g_var ?gh ?_); (case gh => rfl))
  | with_reducible refine g_c ?_
  | with_reducible refine g_op ?_
  | with_reducible refine g_test ?_
  | with_reducible refine g_bl ?_
  | with_reducible refine g_int ?_
  | with_reducible refine g_cons ?_
  | with_reducible refine g_nil ?_
  | with_reducible refine g_call ?_
  | with_reducible refine g_cb ?_
  | with_reducible refine g_and ?_
  | with_reducible refine g_or ?_
  | with_reducible refine g_not ?_
  | with_reducible refine g_B ?_
  | with_reducible refine g_un ?_
  | with_reducible refine g_neg ?_
  | with_reducible refine g_chain ?_
  | with_reducible refine g_drop ?_
  | with_reducible refine g_par ?_
  | with_reducible refine g_par3 ?_
  | with_reducible refine g_tup ?_
  | with_reducible refine g_lst ?_
  | with_reducible refine g_sl ?_
  | with_reducible refine g_nop ?_
  | with_reducible refine g_part ?_
  | with_reducible refine g_bm0 ?_
  | with_reducible refine g_bm ?_
  | with_reducible refine g_m0 ?_
  | with_reducible refine g_m1 ?_
  | with_reducible refine g_lrev ?_
  | with_reducible refine g_ifE ?_
  | with_reducible refine g_andV ?_
  | with_reducible refine g_orV ?_
  | with_reducible refine g_notV ?_
  | with_reducible refine g_addI ?_
  | with_reducible refine g_subI ?_
  | with_reducible refine g_eqI ?_
  | with_reducible refine g_neI ?_
  | with_reducible refine g_eqS ?_
  | with_reducible refine g_neS ?_
  | with_reducible refine g_eqB ?_
  | with_reducible refine g_neB ?_
  | with_reducible refine g_ltI ?_
  | with_reducible refine g_gtI ?_
  | with_reducible refine g_leI ?_
  | with_reducible refine g_geI ?_
  | with_reducible refine g_inS ?_
  | with_reducible refine g_niS ?_
  | with_reducible refine g_max ?_
  | with_reducible refine g_min ?_
  | with_reducible refine g_abs ?_
  | with_reducible refine g_isN ?_
  | with_reducible refine g_notN ?_
  | with_reducible refine g_isB ?_
  | with_reducible refine g_notB ?_
  | with_reducible refine g_intB ?_
  | with_reducible refine g_intI ?_
  | with_reducible refine g_lc ?_
  | with_reducible refine g_for ?_
  | with_reducible refine g_seqI ?_
  | with_reducible refine g_inStr ?_
  | with_reducible refine g_rng ?_
  | with_reducible refine g_yes ?_
  | with_reducible refine g_pairs ?_
  | with_reducible refine g_pairs0 ?_
  | with_reducible refine iteT ?_
  | with_reducible refine iteF ?_
  | with_reducible refine g_nF ?_
  | with_reducible refine g_nT ?_
  | with_reducible refine g_gcons ?_
  | with_reducible refine g_gnil ?_
  | with_reducible refine g_next ?_
  | ((with_reducible refine' g_mulI ?gh ?_); (case gh => first | exact .inl (.inl ⟨by omega, by omega⟩) | exact .inl (.inr ⟨by omega, by omega⟩)))
  | ((with_reducible refine' g_modI ?gh ?_); (case gh => omega)))
local macro_rules | `(tactic| walk_at "gg") => `(tactic| (repeat walk_at "g"))
theorem st_of {N : List Str} {vs : List V} {n : Nat} (h : N.length = n) : L2.start N vs = vs.map some ++ List.replicate (n - vs.length) none := by
  unfold L2.start
  rw [h]
theorem cdiv_small {n m : Int} (h0 : 0 < m) (h1 : m < 2 ^ 60) : CDivA n m := by
  refine ⟨by omega, ?_⟩
  have e : m.natAbs < 2 ^ 60 := by omega
  have h2 : m.natAbs.log2 < 60 := (Nat.log2_lt (by omega)).mpr e
  have hm : (m == 0) = false := by simp; omega
  unfold Builtin.divisionGoesByPylong
  simp only [hm, Bool.false_eq_true, if_false, Bool.and_eq_false_iff, decide_eq_false_iff_not]
  left
  omega
/-- the dict of draws -/
def dealK (s n : Int) (l : Addr) : List (Key × V) := [(.inr "seed", .int s), (.inr "number", .int n), (.inr "left", .ref l)]
theorem dealK_len {s n : Int} {l : Addr} : (dealK s n l).length < sizeLine := (by decide : 3 < 16777216)
theorem dealK_seed {s n : Int} {l : Addr} : valV (dealK s n l) (.inr "seed") = some (.int s) := rfl
theorem dealK_number {s n : Int} {l : Addr} : valV (dealK s n l) (.inr "number") = some (.int n) := rfl
theorem dealK_left {s n : Int} {l : Addr} : valV (dealK s n l) (.inr "left") = some (.ref l) := rfl
theorem dealK_putN {s n m : Int} {l : Addr} : putK (dealK s n l) (.inr "number") (.int m) = dealK s m l := rfl
theorem dealK_putS {s n m : Int} {l : Addr} : putK (dealK s n l) (.inr "seed") (.int m) = dealK m n l := rfl
/-- where draws come from: a dict at d, its list at l -/
structure DealOk (s n : Int) (ns : List Int) : Prop where
  s0 : 0 ≤ s
  s1 : s < 2147483647
  n0 : 0 ≤ n
  nn : ∀ x ∈ ns, 0 ≤ x
  ln : ns.length ≤ 1000
def dealM (d l : Addr) : Cells → Prop := fun L => ∃ s n ns, DealOk s n ns ∧ L = [(d, .dK (dealK s n l)), (l, .lst (ns.map V.int))]

section
variable {K : PySem.W.Frag} {H : Hp} {Q : VK} {d l : Addr} {s n m : Int}
theorem dg_seed (h : H d = some (.dK (dealK s n l))) (q : Q (.int s) H) : rIxA K (.ref d) (.str "seed") H Q := g_ixD (DGet.k (k := .inr "seed") h) q
theorem dg_number (h : H d = some (.dK (dealK s n l))) (q : Q (.int n) H) : rIxA K (.ref d) (.str "number") H Q := g_ixD (DGet.k (k := .inr "number") h) q
theorem dg_left (h : H d = some (.dK (dealK s n l))) (q : Q (.ref l) H) : rIxA K (.ref d) (.str "left") H Q := g_ixD (DGet.k (k := .inr "left") h) q
theorem dp_number {QH : Hp → Prop} (h : H d = some (.dK (dealK s n l))) (q : QH (upd H d (.dK (dealK s m l)))) : rSetA (.ref d) (.str "number") (.int m) H QH := g_setK (.inr "number") h dealK_len q
theorem dp_seed {QH : Hp → Prop} (h : H d = some (.dK (dealK s n l))) (q : QH (upd H d (.dK (dealK m n l)))) : rSetA (.ref d) (.str "seed") (.int m) H QH := g_setK (.inr "seed") h dealK_len q
end
local macro_rules | `(tactic| walk_at "g") => `(tactic| first
  | ((with_reducible refine' dg_seed ?gh ?_); (case gh => assumption))
  | ((with_reducible refine' dg_number ?gh ?_); (case gh => assumption))
  | ((with_reducible refine' dg_left ?gh ?_); (case gh => assumption))
  | ((with_reducible refine' dp_number ?gh ?_); (case gh => assumption))
  | ((with_reducible refine' dp_seed ?gh ?_); (case gh => assumption)))
def t_law_draw (K : PySem.W.Frag) (ad : String → Addr) : TS := (tSeq (tWhile (tAnd (tTest (tOp (rEqA K) (tOp (rIxA K) (tVar 0) (tC (.str "number"))) (tC (.int 0)))) (tTest (tOp rGtA (tCB (rLenA K) (tCons (tOp (rIxA K) (tVar 0) (tC (.str "left"))) tNil)) (tC (.int 0))))) (tAsg (tBM0 K "list" rPop (tOp (rIxA K) (tVar 0) (tC (.str "left")))) (gSub (tVar 0) (tC (.str "number")) rSetA))) (tSeq (tAsg (tOp (rIxA K) (tVar 0) (tC (.str "number"))) (gName 2)) (tSeq (tIfS (tTest (tOp rGtA (tVar 2) (tC (.int 0)))) (tSeq (tAsg (tOp (rI CDivA fun i j => .int (i.fdiv j)) (tVar 2) (tVar 1)) (gSub (tVar 0) (tC (.str "number")) rSetA)) (tRet (tOp (rI (fun _ j => j ≠ 0) fun i j => .int (i.fmod j)) (tVar 2) (tVar 1)))) tNext) (tSeq (tAsg (tOp (rI (fun _ j => j ≠ 0) fun i j => .int (i.fmod j)) (tOp (rAddA K) (tOp (rMulA K) (tOp (rIxA K) (tVar 0) (tC (.str "seed"))) (tC (.int 48271))) (tC (.int 7919))) (tC (.int 2147483647))) (gName 3)) (tSeq (tAsg (tOp (rI (fun _ j => j ≠ 0) fun i j => .int (i.fmod j)) (tOp (rAddA K) (tOp (rMulA K) (tVar 3) (tC (.int 40692))) (tC (.int 104729))) (tC (.int 2147483399))) (gSub (tVar 0) (tC (.str "seed")) rSetA)) (tSeq (tAsg (tOp (rI (fun _ j => j ≠ 0) fun i j => .int (i.fmod j)) (tOp (rMulA K) (tOp (rIxA K) (tVar 0) (tC (.str "seed"))) (tOp (rIxA K) (tVar 0) (tC (.str "seed")))) (tC (.int 2147483563))) (gName 4)) (tRet (tOp (rI (fun _ j => j ≠ 0) fun i j => .int (i.fmod j)) (tOp (rAddA K) (tOp (rMulA K) (tOp (rI (fun _ j => j ≠ 0) fun i j => .int (i.fmod j)) (tOp (rMulA K) (tVar 3) (tVar 3)) (tC (.int 2147483629))) (tC (.int 2147483563))) (tVar 4)) (tVar 1)))))))))
def sp_law_draw (K : PySem.W.Frag) (ad : String → Addr) : Sp := fun vs H Q _ => ∃ (d l : Addr) (m : Int) (Γ : List Kn) (L : Cells), vs = [.ref d, .int m] ∧ 0 < m ∧ m < 2 ^ 60 ∧ WR (dealM d l) Γ L H ∧
  ∀ r H', 0 ≤ r → r < m → WR (dealM d l) Γ L H' → Q (.int r) H'
theorem ln_law_draw {K : PySem.W.Frag} {ad : String → Addr} : ∀ vs H Q E, sp_law_draw K ad vs H Q E → vs.length = 2 := by
  rintro vs H Q E ⟨d, l, m, Γ, L, rfl, _⟩
  rfl
theorem rd_law_draw {K : PySem.W.Frag} {ad : String → Addr} (N : List Str) (hN : N.length = 5) : ∀ vs H Q E, sp_law_draw K ad vs H Q E → t_law_draw K ad { nx := fun _ H' => Q .non H', rt := Q } (L2.start N vs) H := by
  rintro vs H Q E ⟨d, l, m, Γ, L, rfl, m0, m1, w, q⟩
  rw [st_of hN]
  unfold t_law_draw
  obtain ⟨L0, ⟨s, n, ns, ok, rfl⟩, w⟩ := w
  walk_at "g"
  refine l_while (fun k σ H => ∃ n ns, σ = [some (.ref d), some (.int m), none, none, none] ∧ DealOk s n ns ∧ ns.length = k ∧ WW Γ ((d, .dK (dealK s n l)) :: (l, .lst (ns.map V.int)) :: L) H)
    (fun σ H => ∃ n ns, σ = [some (.ref d), some (.int m), none, none, none] ∧ DealOk s n ns ∧ WW Γ ((d, .dK (dealK s n l)) :: (l, .lst (ns.map V.int)) :: L) H) ⟨_, n, ns, rfl, ok, rfl, w⟩ ?_ ?_
  · rintro X hX k σ H ⟨n, ns, rfl, ok, rfl, w⟩
    have cd : H d = some (.dK (dealK s n l)) := w.cell (.head _)
    have cl : H l = some (.lst (ns.map V.int)) := w.cell (.tail _ (.head _))
    walk_at "gg"
    refine g_iteD (fun e => ?_) (fun e => hX _ _ ⟨n, ns, rfl, ok, w⟩)
    walk_at "gg"
    refine g_lenL (sqL cl) ?_
    walk_at "gg"
    refine g_iteD (fun e1 => ?_) (fun e1 => hX _ _ ⟨n, ns, rfl, ok, w⟩)
    refine g_turn ?_
    walk_at "gg"
    refine ⟨g_tyL (sqL cl), ?_⟩
    obtain ⟨ms, z, rfl⟩ : ∃ ms z, ns = ms ++ [z] := by
      refine ⟨ns.dropLast, ns.getLast ?_, (List.dropLast_concat_getLast _).symm⟩
      rintro rfl
      simp at e1
    refine g_pop cl (y := .int z) (by simp) ?_
    have w1 := w.put 1 (.lst (ms.map V.int)) rfl
    have cd1 : (upd H l (.lst ((ms ++ [z]).map V.int).dropLast)) d = some (.dK (dealK s n l)) := by
      rw [upd_ne (w.ne (i := 0) (j := 1) rfl rfl (by decide))]
      exact cd
    walk_at "gg"
    have w2 := w1.put 0 (.dK (dealK s z l)) rfl
    have hz : (((ms ++ [z]).map V.int).dropLast) = ms.map V.int := by simp
    rw [hz]
    have zn : 0 ≤ z := ok.nn z (by simp)
    exact ⟨ms.length, by simp, z, ms, rfl, ⟨ok.s0, ok.s1, zn, fun x hx => ok.nn x (by simp [hx]), by have := ok.ln; simp at this; omega⟩, rfl, w2⟩
  · rintro σ H ⟨n, ns, rfl, ok, w⟩
    have cd : H d = some (.dK (dealK s n l)) := w.cell (.head _)
    have cl : H l = some (.lst (ns.map V.int)) := w.cell (.tail _ (.head _))
    have s0 := ok.s0
    have s1 := ok.s1
    walk_at "gg"
    refine g_iteD (fun hn => ?_) (fun hn => ?_)
    · walk_at "gg"
      refine g_divI (cdiv_small m0 m1) ?_
      walk_at "gg"
      refine q _ _ (Int.emod_nonneg _ (by omega)) (Int.emod_lt_of_pos _ m0) ⟨_, ⟨_, _, _, ⟨ok.s0, ok.s1, ?_, ok.nn, ok.ln⟩, rfl⟩, w.put 0 _ rfl⟩
      rw [Int.fdiv_eq_ediv_of_nonneg n (by omega)]
      exact Int.ediv_nonneg (by omega) (by omega)
    · walk_at "gg"
      have a0 : 0 ≤ (s * 48271 + 7919) % 2147483647 := Int.emod_nonneg _ (by decide)
      have a1 : (s * 48271 + 7919) % 2147483647 < 2147483647 := Int.emod_lt_of_pos _ (by decide)
      generalize (s * 48271 + 7919) % 2147483647 = a at a0 a1 ⊢
      walk_at "gg"
      have b0 : 0 ≤ (a * 40692 + 104729) % 2147483399 := Int.emod_nonneg _ (by decide)
      have b1 : (a * 40692 + 104729) % 2147483399 < 2147483399 := Int.emod_lt_of_pos _ (by decide)
      generalize (a * 40692 + 104729) % 2147483399 = b at b0 b1 ⊢
      have w2 := w.put 0 (.dK (dealK b n l)) rfl
      have cd2 := w2.cell (.head _)
      walk_at "gg"
      have c0 : 0 ≤ a * a % 2147483629 := Int.emod_nonneg _ (by decide)
      have c1 : a * a % 2147483629 < 2147483629 := Int.emod_lt_of_pos _ (by decide)
      walk_at "gg"
      exact q _ _ (Int.emod_nonneg _ (by omega)) (Int.emod_lt_of_pos _ m0) ⟨_, ⟨_, _, _, ⟨b0, by omega, ok.n0, ok.nn, ok.ln⟩, rfl⟩, w2⟩
end Ct
namespace Ct
open PySem PySem.Spec PyProof.Rows L2
local macro_rules | `(tactic| walk_at "g") => `(tactic| first
  | with_reducible refine g_seq ?_
  | with_reducible refine g_set ?_
  | with_reducible refine g_asg ?_
  | with_reducible refine g_sub ?_
  | with_reducible refine g_name ?_
  | with_reducible refine g_ret ?_
  | with_reducible refine g_if ?_
  | ((with_reducible refine' g_var ?gh ?_); (case gh => rfl))
  | with_reducible refine g_c ?_
  | with_reducible refine g_op ?_
  | with_reducible refine g_test ?_
  | with_reducible refine g_bl ?_
  | with_reducible refine g_int ?_
  | with_reducible refine g_cons ?_
  | with_reducible refine g_nil ?_
  | with_reducible refine g_call ?_
  | with_reducible refine g_cb ?_
  | with_reducible refine g_and ?_
  | with_reducible refine g_or ?_
  | with_reducible refine g_not ?_
  | with_reducible refine g_B ?_
  | with_reducible refine g_un ?_
  | with_reducible refine g_neg ?_
  | with_reducible refine g_chain ?_
  | with_reducible refine g_drop ?_
  | with_reducible refine g_par ?_
  | with_reducible refine g_par3 ?_
  | with_reducible refine g_tup ?_
  | with_reducible refine g_lst ?_
  | with_reducible refine g_sl ?_
  | with_reducible refine g_nop ?_
  | with_reducible refine g_part ?_
  | with_reducible refine g_bm0 ?_
  | with_reducible refine g_bm ?_
  | with_reducible refine g_m0 ?_
  | with_reducible refine g_m1 ?_
  | with_reducible refine g_lrev ?_
  | with_reducible refine g_ifE ?_
  | with_reducible refine g_andV ?_
  | with_reducible refine g_orV ?_
  | with_reducible refine g_notV ?_
  | with_reducible refine g_addI ?_
  | with_reducible refine g_subI ?_
  | with_reducible refine g_eqI ?_
  | with_reducible refine g_neI ?_
  | with_reducible refine g_eqS ?_
  | with_reducible refine g_neS ?_
  | with_reducible refine g_eqB ?_
  | with_reducible refine g_neB ?_
  | with_reducible refine g_ltI ?_
  | with_reducible refine g_gtI ?_
  | with_reducible refine g_leI ?_
  | with_reducible refine g_geI ?_
  | with_reducible refine g_inS ?_
  | with_reducible refine g_niS ?_
  | with_reducible refine g_max ?_
  | with_reducible refine g_min ?_
  | with_reducible refine g_abs ?_
  | with_reducible refine g_isN ?_
  | with_reducible refine g_notN ?_
  | with_reducible refine g_isB ?_
  | with_reducible refine g_notB ?_
  | with_reducible refine g_intB ?_
  | with_reducible refine g_intI ?_
  | with_reducible refine g_lc ?_
  | with_reducible refine g_for ?_
  | with_reducible refine g_seqI ?_
  | with_reducible refine g_inStr ?_
  | with_reducible refine g_rng ?_
  | with_reducible refine g_yes ?_
  | with_reducible refine g_pairs ?_
  | with_reducible refine g_pairs0 ?_
  | with_reducible refine iteT ?_
  | with_reducible refine iteF ?_
  | with_reducible refine g_nF ?_
  | with_reducible refine g_nT ?_
  | with_reducible refine g_gcons ?_
  | with_reducible refine g_gnil ?_
  | with_reducible refine g_next ?_
  | ((with_reducible refine' g_mulI ?gh ?_); (case gh => first | exact .inl (.inl ⟨by omega, by omega⟩) | exact .inl (.inr ⟨by omega, by omega⟩)))
  | ((with_reducible refine' g_modI ?gh ?_); (case gh => omega)))
local macro_rules | `(tactic| walk_at "gg") => `(tactic| (repeat walk_at "g"))
local macro_rules | `(tactic| walk_at "g") => `(tactic| first
  | ((with_reducible refine' dg_seed ?gh ?_); (case gh => assumption))
  | ((with_reducible refine' dg_number ?gh ?_); (case gh => assumption))
  | ((with_reducible refine' dg_left ?gh ?_); (case gh => assumption))
  | ((with_reducible refine' dp_number ?gh ?_); (case gh => assumption))
  | ((with_reducible refine' dp_seed ?gh ?_); (case gh => assumption)))
def t_law_deal (K : PySem.W.Frag) (ad : String → Addr) : TS := (tSeq (tAsg (tLc (iSeq K (tSl (rSlAny K) (tVar 0) tNoPart (tPart (tC (.int 60))))) (gName 1) tYes (tCB rMax2' (tCons (tVar 1) (tCons (tOp (rI0 fun i j => .int (i - j)) (tC (.int 0)) (tVar 1)) tNil))) [1]) (gName 2)) (tSeq (tAsg (tC (.int 7919)) (gName 3)) (tSeq (tFor (iSeq K (tVar 2)) (gName 1) (tAsg (tOp (rI (fun _ j => j ≠ 0) fun i j => .int (i.fmod j)) (tOp (rAddA K) (tOp (rMulA K) (tVar 3) (tC (.int 48271))) (tOp (rI (fun _ j => j ≠ 0) fun i j => .int (i.fmod j)) (tVar 1) (tC (.int 2147483629)))) (tC (.int 2147483647))) (gName 3))) (tRet (tDisp [((tC (.str "seed")), (tVar 3)), ((tC (.str "number")), (tC (.int 0))), ((tC (.str "left")), (tListRev K (tLc (iSeq K (tVar 2)) (gName 1) (tTest (tOp rGe (tVar 1) (tOp (rI CPow fun i j => .int (i ^ j.toNat)) (tC (.int 10)) (tC (.int 18))))) (tVar 1) [1])))])))))
def sp_law_deal (K : PySem.W.Frag) (ad : String → Addr) : Sp := fun vs H Q _ => ∃ (a : Addr) (ns : List Int) (Γ : List Kn), vs = [.ref a] ∧ ns.length ≤ 1000 ∧ WR noM ((fun G => SqL K G a (ns.map V.int)) :: Γ) [] H ∧
  ∀ d l H', WR (dealM d l) ((fun G => SqL K G a (ns.map V.int)) :: Γ) [] H' → Q (.ref d) H'
theorem ln_law_deal {K : PySem.W.Frag} {ad : String → Addr} : ∀ vs H Q E, sp_law_deal K ad vs H Q E → vs.length = 1 := by
  rintro vs H Q E ⟨a, ns, Γ, rfl, _⟩
  rfl
/-- a list of whole numbers, none below 0 -/
def Rnn : Nat → List V → Hp → Prop := fun i acc _ => ∃ ks : List Int, acc = ks.map V.int ∧ ks.length ≤ i ∧ ∀ k ∈ ks, 0 ≤ k
theorem rd_law_deal {K : PySem.W.Frag} {ad : String → Addr} (N : List Str) (hN : N.length = 4) : ∀ vs H Q E, sp_law_deal K ad vs H Q E → t_law_deal K ad { nx := fun _ H' => Q .non H', rt := Q } (L2.start N vs) H := by
  rintro vs H Q E ⟨a, ns, Γ, rfl, hl, w, q⟩
  rw [st_of hN]
  show t_law_deal K ad _ [some (.ref a), none, none, none] H
  unfold t_law_deal
  have ha := w.get (.head _)
  walk_at "gg"
  refine g_slL ha fun p np => ?_
  obtain ⟨ms, em, hm, hml⟩ := cut_map V.int ns none (some 60)
  rw [em]
  have w1 := w.know (.lst (ms.map V.int)) np
  refine g_inL (sqL (w1.get (.head _))) ?_
  refine c_lc (walk_list (xs := ms.map V.int)) w1 Rnn (fun _ => ⟨[], rfl, by simp, by simp⟩) ?_ ?_ ?_ ?_
  · rintro i acc G hi ⟨ks, rfl, h, _⟩
    rw [List.length_map] at hi ⊢
    exact szl (by omega)
  · intro i acc D H hi w
    exact sqL (w.get (.tail _ (.head _)))
  · rintro i x D acc H H' N N0 hi w ⟨rfl, hx⟩ k k0
    obtain ⟨z, hz, rfl⟩ := at_map hx
    walk_at "g"
    refine ⟨rfl, ?_⟩
    walk_at "gg"
    refine k _ _ (w.more _ fun G hG => ?_)
    obtain ⟨ks, rfl, h1, h2⟩ := hG _ (.head _)
    refine ⟨ks ++ [if 0 - z > z then 0 - z else z], by simp, by simp; omega, ?_⟩
    intro y hy
    rcases List.mem_append.mp hy with hy | hy
    · exact h2 y hy
    · simp only [List.mem_singleton] at hy
      subst hy
      split <;> omega
  · intro p2 acc H w
    obtain ⟨ks, rfl, h1, h2⟩ := w.get (.head _)
    rw [List.length_map] at h1
    have w := w.fix
    walk_at "gg"
    refine g_inL (sqL (w.get (.head _))) ?_
    refine c_for (walk_list (xs := ks.map V.int)) (fun i σ H => ∃ y s, σ = [some (.ref a), y, some (.ref p2), some (.int s)] ∧ 0 ≤ s ∧ s < 2147483647 ∧ WR noM ((fun G => G p2 = some (.lst (ks.map V.int))) :: (fun G => SqL K G a (ns.map V.int)) :: Γ) [] H)
      (fun σ H => ∃ y s, σ = [some (.ref a), y, some (.ref p2), some (.int s)] ∧ 0 ≤ s ∧ s < 2147483647 ∧ WR noM ((fun G => G p2 = some (.lst (ks.map V.int))) :: (fun G => SqL K G a (ns.map V.int)) :: Γ) [] H)
      ⟨_, _, rfl, by omega, by omega, w.sub fun k hk => ?_⟩ ?_ ?_ (fun _ _ h => h) ?_
    · rcases hk with _ | ⟨_, _ | ⟨_, hk⟩⟩
      · exact .head _
      · exact .tail _ (.tail _ (.tail _ (.head _)))
      · exact .tail _ (.tail _ (.tail _ (.tail _ hk)))
    · rintro i σ H _ ⟨_, _, _, _, _, w⟩
      exact sqL (w.get (.head _))
    · rintro X hX i x σ H H' hi ⟨y, s, rfl, s0, s1, w⟩ ⟨rfl, hx⟩
      obtain ⟨z, hz, rfl⟩ := at_map hx
      have zm : 0 ≤ z % 2147483629 := Int.emod_nonneg _ (by decide)
      walk_at "gg"
      exact ⟨_, _, rfl, Int.emod_nonneg _ (by decide), Int.emod_lt_of_pos _ (by decide), w⟩
    · rintro σ H ⟨y, s, rfl, s0, s1, w⟩
      walk_at "gg"
      refine g_disp fun d nd => ?_
      have w := w.new (.dK []) nd
      walk_at "gg"
      refine g_inL (sqL (w.get (.head _))) ?_
      refine c_lc (walk_list (xs := ks.map V.int)) w Rnn (fun _ => ⟨[], rfl, by simp, by simp⟩) ?_ ?_ ?_ ?_
      · rintro i acc G hi ⟨ks, rfl, h, _⟩
        rw [List.length_map] at hi ⊢
        exact szl (by omega)
      · intro i acc D H hi w
        exact sqL (w.get (.tail _ (.head _)))
      · rintro i x D acc H H' N N0 hi w ⟨rfl, hx⟩ k k0
        obtain ⟨z, hz, rfl⟩ := at_map hx
        walk_at "g"
        refine ⟨rfl, ?_⟩
        walk_at "gg"
        refine g_powI ⟨by decide, by decide, by decide⟩ ?_
        walk_at "gg"
        have hzk : 0 ≤ z := h2 z (List.mem_of_getElem? hz)
        refine g_iteD (fun _ => ?_) (fun _ => ?_)
        · walk_at "gg"
          refine k _ _ (w.more _ fun G hG => ?_)
          obtain ⟨us, rfl, h3, h4⟩ := hG _ (.head _)
          refine ⟨us ++ [z], by simp, by simp; omega, ?_⟩
          intro y hy
          rcases List.mem_append.mp hy with hy | hy
          · exact h4 y hy
          · simp only [List.mem_singleton] at hy
            subst hy
            exact hzk
        · refine k0 _ (w.more _ fun G hG => ?_)
          obtain ⟨us, rfl, h3, h4⟩ := hG _ (.head _)
          exact ⟨us, rfl, by omega, h4⟩
      · intro p4 acc H w
        obtain ⟨us, rfl, h3, h4⟩ := w.get (.head _)
        rw [List.length_map] at h3
        refine ⟨p4, us.map V.int, rfl, sqL (w.cell (.head _)), fun l nl => ?_⟩
        have w := w.drop1.new (.lst (us.map V.int).reverse) nl
        walk_at "gg"
        refine ⟨w.cell (.tail _ (.head _)), [(.inr "seed", .int s), (.inr "number", .int 0), (.inr "left", .ref l)], rfl, (by decide : 3 ≤ 15), ?_⟩
        have w := w.put1 (.dK (dealK s 0 l))
        have w := (w.perm (List.Perm.swap _ _ _)).sub (Γ' := (fun G => SqL K G a (ns.map V.int)) :: Γ) fun k hk => by
          rcases hk with _ | ⟨_, hk⟩
          · exact .tail _ (.tail _ (.head _))
          · exact .tail _ (.tail _ (.tail _ hk))
        obtain ⟨L0, m0, w⟩ := w
        obtain rfl : L0 = [] := m0
        refine q d l _ ⟨_, ⟨s, 0, us.reverse, ⟨s0, s1, by decide, fun x hx => h4 x (by simpa using hx), by rw [List.length_reverse]; omega⟩, rfl⟩, ?_⟩
        rw [List.map_reverse]
        exact w
end Ct
namespace Ct
open PySem PySem.Spec PyProof.Rows L2
local macro_rules | `(tactic| walk_at "g") => `(tactic| first
  | with_reducible refine g_seq ?_
  | with_reducible refine g_set ?_
  | with_reducible refine g_asg ?_
  | with_reducible refine g_sub ?_
  | with_reducible refine g_name ?_
  | with_reducible refine g_ret ?_
  | with_reducible refine g_if ?_
  | ((with_reducible refine' g_var ?gh ?_); (case gh => rfl))
  | with_reducible refine g_c ?_
  | with_reducible refine g_op ?_
  | with_reducible refine g_test ?_
  | with_reducible refine g_bl ?_
  | with_reducible refine g_int ?_
  | with_reducible refine g_cons ?_
  | with_reducible refine g_nil ?_
  | with_reducible refine g_call ?_
  | with_reducible refine g_cb ?_
  | with_reducible refine g_and ?_
  | with_reducible refine g_or ?_
  | with_reducible refine g_not ?_
  | with_reducible refine g_B ?_
  | with_reducible refine g_un ?_
  | with_reducible refine g_neg ?_
  | with_reducible refine g_chain ?_
  | with_reducible refine g_drop ?_
  | with_reducible refine g_par ?_
  | with_reducible refine g_par3 ?_
  | with_reducible refine g_tup ?_
  | with_reducible refine g_lst ?_
  | with_reducible refine g_sl ?_
  | with_reducible refine g_nop ?_
  | with_reducible refine g_part ?_
  | with_reducible refine g_bm0 ?_
  | with_reducible refine g_bm ?_
  | with_reducible refine g_m0 ?_
  | with_reducible refine g_m1 ?_
  | with_reducible refine g_lrev ?_
  | with_reducible refine g_ifE ?_
  | with_reducible refine g_andV ?_
  | with_reducible refine g_orV ?_
  | with_reducible refine g_notV ?_
  | with_reducible refine g_addI ?_
  | with_reducible refine g_subI ?_
  | with_reducible refine g_eqI ?_
  | with_reducible refine g_neI ?_
  | with_reducible refine g_eqS ?_
  | with_reducible refine g_neS ?_
  | with_reducible refine g_eqB ?_
  | with_reducible refine g_neB ?_
  | with_reducible refine g_ltI ?_
  | with_reducible refine g_gtI ?_
  | with_reducible refine g_leI ?_
  | with_reducible refine g_geI ?_
  | with_reducible refine g_inS ?_
  | with_reducible refine g_niS ?_
  | with_reducible refine g_max ?_
  | with_reducible refine g_min ?_
  | with_reducible refine g_abs ?_
  | with_reducible refine g_isN ?_
  | with_reducible refine g_notN ?_
  | with_reducible refine g_isB ?_
  | with_reducible refine g_notB ?_
  | with_reducible refine g_intB ?_
  | with_reducible refine g_intI ?_
  | with_reducible refine g_lc ?_
  | with_reducible refine g_for ?_
  | with_reducible refine g_seqI ?_
  | with_reducible refine g_inStr ?_
  | with_reducible refine g_rng ?_
  | with_reducible refine g_yes ?_
  | with_reducible refine g_pairs ?_
  | with_reducible refine g_pairs0 ?_
  | with_reducible refine iteT ?_
  | with_reducible refine iteF ?_
  | with_reducible refine g_nF ?_
  | with_reducible refine g_nT ?_
  | with_reducible refine g_gcons ?_
  | with_reducible refine g_gnil ?_
  | with_reducible refine g_next ?_
  | with_reducible refine g_callN ?_
  | with_reducible refine g_callNS ?_
  | with_reducible refine g_callS ?_
  | ((with_reducible refine' g_mulI ?gh ?_); (case gh => first | exact .inl (.inl ⟨by omega, by omega⟩) | exact .inl (.inr ⟨by omega, by omega⟩)))
  | ((with_reducible refine' g_modI ?gh ?_); (case gh => omega)))
local macro_rules | `(tactic| walk_at "gg") => `(tactic| (repeat walk_at "g"))
abbrev tp2 (t : Addr) (p q : Int) : Kn := fun G => G t = some (.tup [.int p, .int q])
theorem abs_eq (u : Int) : (if u < 0 then -u else u) = (u.natAbs : Int) := by split <;> omega
theorem gcd_step (m n : Nat) : Nat.gcd n (m % n) = Nat.gcd m n := by rw [Nat.gcd_comm m n, Nat.gcd_rec n m, Nat.gcd_comm]
def t_share_of (K : PySem.W.Frag) (ad : String → Addr) : TS := (tSeq (tIfS (tTest (tOp (rEqA K) (tVar 1) (tC (.int 0)))) tNever tNext) (tSeq (tPar 2 3 (tCons (tCB rAbs' (tCons (tVar 0) tNil)) (tCons (tCB rAbs' (tCons (tVar 1) tNil)) tNil))) (tSeq (tWhile (tTest (tOp rGtA (tVar 3) (tC (.int 0)))) (tPar 2 3 (tCons (tVar 3) (tCons (tOp (rI (fun _ j => j ≠ 0) fun i j => .int (i.fmod j)) (tVar 2) (tVar 3)) tNil)))) (C8.tCut (tIfS (tTest (tOp rLtA (tVar 1) (tC (.int 0)))) (tAsg (tOp (rI0 fun i j => .int (i - j)) (tC (.int 0)) (tVar 2)) (gName 2)) tNext) (tRet (tTup (tCons (tOp (rI CDivA fun i j => .int (i.fdiv j)) (tVar 0) (tVar 2)) (tCons (tOp (rI CDivA fun i j => .int (i.fdiv j)) (tVar 1) (tVar 2)) tNil))))))))
def sp_share_of (K : PySem.W.Frag) (ad : String → Addr) : Sp := fun vs H Q _ => ∃ (u b : Int) (M : Cells → Prop) (Γ : List Kn) (L : Cells), vs = [.int u, .int b] ∧ b ≠ 0 ∧ SZ 13500 u ∧ SZ 13500 b ∧ WR M Γ L H ∧
  ∀ p q t H', Low u b p q → WR M (tp2 t p q :: Γ) L H' → Q (.ref t) H'
theorem ln_share_of {K : PySem.W.Frag} {ad : String → Addr} : ∀ vs H Q E, sp_share_of K ad vs H Q E → vs.length = 2 := by
  rintro vs H Q E ⟨u, b, M, Γ, L, rfl, _⟩
  rfl
theorem rd_share_of {K : PySem.W.Frag} {ad : String → Addr} (N : List Str) (hN : N.length = 4) : ∀ vs H Q E, sp_share_of K ad vs H Q E → t_share_of K ad { nx := fun _ H' => Q .non H', rt := Q } (L2.start N vs) H := by
  rintro vs H Q E ⟨u, b, M, Γ, L, rfl, hb, hu, hbz, w, q⟩
  rw [st_of hN]
  show t_share_of K ad _ [some (.int u), some (.int b), none, none] H
  unfold t_share_of
  walk_at "gg"
  refine g_iteD (fun e => absurd e hb) (fun _ => ?_)
  walk_at "gg"
  rw [abs_eq, abs_eq]
  refine ⟨_, _, rfl, ?_⟩
  walk_at "gg"
  obtain ⟨c0, l⟩ := low_share (u := u) hb
  generalize hg : Nat.gcd u.natAbs b.natAbs = g at c0 l
  refine l_while (fun k σ H => ∃ m n : Nat, σ = [some (.int u), some (.int b), some (.int m), some (.int n)] ∧ Nat.gcd m n = g ∧ n = k ∧ WR M Γ L H)
    (fun σ H => ∃ y, σ = [some (.int u), some (.int b), some (.int g), y] ∧ WR M Γ L H) ⟨_, _, _, rfl, hg, rfl, w⟩ ?_ ?_
  · rintro X hX k σ H ⟨m, n, rfl, e, rfl, w⟩
    walk_at "gg"
    refine g_iteD (fun h => ?_) (fun h => ?_)
    · refine g_turn ?_
      walk_at "gg"
      refine ⟨_, _, rfl, m % n, ?_, n, m % n, rfl, (gcd_step m n).trans e, rfl, w⟩
      exact Nat.mod_lt m (by omega)
    · obtain rfl : n = 0 := by omega
      rw [Nat.gcd_zero_right] at e
      subst e
      exact hX _ _ ⟨_, rfl, w⟩
  · rintro σ H ⟨y, rfl, w⟩
    walk_at "gg"
    refine g_cut (fun σ H => ∃ y, σ = [some (.int u), some (.int b), some (.int (if b < 0 then 0 - (g : Int) else (g : Int))), y] ∧ WR M Γ L H) ?_ ?_
    · walk_at "gg"
      refine g_iteD (fun h => ?_) (fun h => ?_)
      · walk_at "gg"
        rw [if_pos h]
        exact ⟨_, rfl, w⟩
      · walk_at "gg"
        rw [if_neg h]
        exact ⟨_, rfl, w⟩
    · rintro σ H ⟨y, rfl, w⟩
      generalize (if b < 0 then 0 - (g : Int) else (g : Int)) = c at c0 l
      walk_at "gg"
      refine g_divI (hu.div c0) ?_
      walk_at "gg"
      refine g_divI (hbz.div c0) ?_
      walk_at "gg"
      refine ⟨sz (show 2 ≤ 1000000 by decide), fun t nt => ?_⟩
      exact q _ _ t _ l (w.know _ nt)
def t_is_less (K : PySem.W.Frag) (ad : String → Addr) : TS := (tRet (tOp rLtA (tOp (rMulA K) (tOp (rIxA K) (tVar 0) (tC (.int 0))) (tOp (rIxA K) (tVar 1) (tC (.int 1)))) (tOp (rMulA K) (tOp (rIxA K) (tVar 1) (tC (.int 0))) (tOp (rIxA K) (tVar 0) (tC (.int 1))))))
def sp_is_less (K : PySem.W.Frag) (ad : String → Addr) : Sp := fun vs H Q _ => ∃ (t t' : Addr) (p q r s : Int), vs = [.ref t, .ref t'] ∧ SqT K H t [.int p, .int q] ∧ SqT K H t' [.int r, .int s] ∧ CMulX p s ∧ CMulX r q ∧ Q (.bl (decide (p * s < r * q))) H
theorem ln_is_less {K : PySem.W.Frag} {ad : String → Addr} : ∀ vs H Q E, sp_is_less K ad vs H Q E → vs.length = 2 := by
  rintro vs H Q E ⟨t, t', p, q, r, s, rfl, _⟩
  rfl
theorem rd_is_less {K : PySem.W.Frag} {ad : String → Addr} (N : List Str) (hN : N.length = 2) : ∀ vs H Q E, sp_is_less K ad vs H Q E → t_is_less K ad { nx := fun _ H' => Q .non H', rt := Q } (L2.start N vs) H := by
  rintro vs H Q E ⟨t, t', p, q, r, s, rfl, h1, h2, m1, m2, k⟩
  rw [st_of hN]
  show t_is_less K ad _ [some (.ref t), some (.ref t')] H
  unfold t_is_less
  walk_at "gg"
  refine g_ixT h1 (v := .int p) rfl ?_
  walk_at "gg"
  refine g_ixT h2 (v := .int s) rfl ?_
  refine g_mulI (.inr m1) ?_
  walk_at "gg"
  refine g_ixT h2 (v := .int r) rfl ?_
  walk_at "gg"
  refine g_ixT h1 (v := .int q) rfl ?_
  refine g_mulI (.inr m2) ?_
  walk_at "gg"
  exact k
def t_sum_of (K : PySem.W.Frag) (ad : String → Addr) : TS := (tRet (tCallN 1 1 (sp_share_of K ad) (fun vs zs => [vs.getD 0 .non, zs.getD 0 .non]) E0 (tCons (tOp (rAddA K) (tOp (rMulA K) (tOp (rIxA K) (tVar 0) (tC (.int 0))) (tOp (rIxA K) (tVar 1) (tC (.int 1)))) (tOp (rMulA K) (tOp (rIxA K) (tVar 1) (tC (.int 0))) (tOp (rIxA K) (tVar 0) (tC (.int 1))))) tNil) (tCons (tOp (rMulA K) (tOp (rIxA K) (tVar 0) (tC (.int 1))) (tOp (rIxA K) (tVar 1) (tC (.int 1)))) tNil)))
def sp_sum_of (K : PySem.W.Frag) (ad : String → Addr) : Sp := fun vs H Q _ => ∃ (t t' : Addr) (p q r s : Int) (n m : Nat) (M : Cells → Prop) (Γ : List Kn) (L : Cells), vs = [.ref t, .ref t'] ∧ SqT K H t [.int p, .int q] ∧ SqT K H t' [.int r, .int s] ∧
  SZ n p ∧ SZ n q ∧ SZ m r ∧ SZ m s ∧ q ≠ 0 ∧ s ≠ 0 ∧ n + m < 13500 ∧ WR M Γ L H ∧ ∀ x y t H', Low (p * s + r * q) (q * s) x y → WR M (tp2 t x y :: Γ) L H' → Q (.ref t) H'
theorem ln_sum_of {K : PySem.W.Frag} {ad : String → Addr} : ∀ vs H Q E, sp_sum_of K ad vs H Q E → vs.length = 2 := by
  rintro vs H Q E ⟨t, t', p, q, r, s, n, m, M, Γ, L, rfl, _⟩
  rfl
theorem rd_sum_of {K : PySem.W.Frag} {ad : String → Addr} (N : List Str) (hN : N.length = 2) : ∀ vs H Q E, sp_sum_of K ad vs H Q E → t_sum_of K ad { nx := fun _ H' => Q .non H', rt := Q } (L2.start N vs) H := by
  rintro vs H Q E ⟨t, t', p, q, r, s, n, m, M, Γ, L, rfl, h1, h2, zp, zq, zr, zs, q0, s0, hl, w, k⟩
  rw [st_of hN]
  show t_sum_of K ad _ [some (.ref t), some (.ref t')] H
  unfold t_sum_of
  walk_at "gg"
  refine g_ixT h1 (v := .int p) rfl ?_
  walk_at "gg"
  refine g_ixT h2 (v := .int s) rfl ?_
  refine g_mulI (.inr (zp.mulx zs (by omega))) ?_
  walk_at "gg"
  refine g_ixT h2 (v := .int r) rfl ?_
  walk_at "gg"
  refine g_ixT h1 (v := .int q) rfl ?_
  refine g_mulI (.inr (zr.mulx zq (by omega))) ?_
  walk_at "gg"
  refine g_ixT h1 (v := .int q) rfl ?_
  walk_at "gg"
  refine g_ixT h2 (v := .int s) rfl ?_
  refine g_mulI (.inr (zq.mulx zs (by omega))) ?_
  have zu := (zp.mul zs).add ((Int.mul_comm q r) ▸ (zq.mul zr))
  exact ⟨rfl, rfl, _, _, M, Γ, L, rfl, Int.mul_ne_zero q0 s0, zu.mono (by omega), (zq.mul zs).mono (by omega), w, k⟩
/-! ### the law's own -/
def t_law_low (K : PySem.W.Frag) (ad : String → Addr) : TS := (tSeq (tPar 2 3 (tCons (tCB rAbs' (tCons (tVar 0) tNil)) (tCons (tCB rAbs' (tCons (tVar 1) tNil)) tNil))) (tSeq (tWhile (tTest (tOp (rNeA K) (tVar 3) (tC (.int 0)))) (tPar 2 3 (tCons (tVar 3) (tCons (tOp (rI (fun _ j => j ≠ 0) fun i j => .int (i.fmod j)) (tVar 2) (tVar 3)) tNil)))) (tSeq (tAsg (tOp (rI0 fun i j => .int (i - j)) (tC (.int 1)) (tOp (rMulA K) (tC (.int 2)) (tCB rIntA (tCons (tOp rLtA (tVar 1) (tC (.int 0))) tNil)))) (gName 4)) (tRet (tTup (tCons (tOp (rI CDivA fun i j => .int (i.fdiv j)) (tOp (rMulA K) (tVar 4) (tVar 0)) (tVar 2)) (tCons (tOp (rI CDivA fun i j => .int (i.fdiv j)) (tOp (rMulA K) (tVar 4) (tVar 1)) (tVar 2)) tNil)))))))
def sp_law_low (K : PySem.W.Frag) (ad : String → Addr) : Sp := fun vs H Q _ => ∃ (u b : Int) (M : Cells → Prop) (Γ : List Kn) (L : Cells), vs = [.int u, .int b] ∧ b ≠ 0 ∧ SZ 13500 u ∧ SZ 13500 b ∧ WR M Γ L H ∧
  ∀ p q t H', Low u b p q → WR M (tp2 t p q :: Γ) L H' → Q (.ref t) H'
theorem ln_law_low {K : PySem.W.Frag} {ad : String → Addr} : ∀ vs H Q E, sp_law_low K ad vs H Q E → vs.length = 2 := by
  rintro vs H Q E ⟨u, b, M, Γ, L, rfl, _⟩
  rfl
theorem rd_law_low {K : PySem.W.Frag} {ad : String → Addr} (N : List Str) (hN : N.length = 5) : ∀ vs H Q E, sp_law_low K ad vs H Q E → t_law_low K ad { nx := fun _ H' => Q .non H', rt := Q } (L2.start N vs) H := by
  rintro vs H Q E ⟨u, b, M, Γ, L, rfl, hb, hu, hbz, w, q⟩
  rw [st_of hN]
  show t_law_low K ad _ [some (.int u), some (.int b), none, none, none] H
  unfold t_law_low
  walk_at "gg"
  rw [abs_eq, abs_eq]
  refine ⟨_, _, rfl, ?_⟩
  walk_at "gg"
  obtain ⟨c0, l⟩ := low_law (u := u) hb
  generalize hg : Nat.gcd u.natAbs b.natAbs = g at c0 l
  refine l_while (fun k σ H => ∃ m n : Nat, σ = [some (.int u), some (.int b), some (.int m), some (.int n), none] ∧ Nat.gcd m n = g ∧ n = k ∧ WR M Γ L H)
    (fun σ H => ∃ y, σ = [some (.int u), some (.int b), some (.int g), y, none] ∧ WR M Γ L H) ⟨_, _, _, rfl, hg, rfl, w⟩ ?_ ?_
  · rintro X hX k σ H ⟨m, n, rfl, e, rfl, w⟩
    walk_at "gg"
    refine g_iteN (fun h => ?_) (fun h => ?_)
    · refine g_turn ?_
      walk_at "gg"
      refine ⟨_, _, rfl, m % n, ?_, n, m % n, rfl, (gcd_step m n).trans e, rfl, w⟩
      exact Nat.mod_lt m (by omega)
    · obtain rfl : n = 0 := by omega
      rw [Nat.gcd_zero_right] at e
      subst e
      exact hX _ _ ⟨_, rfl, w⟩
  · rintro σ H ⟨y, rfl, w⟩
    walk_at "gg"
    have hs : (1 - 2 * (if decide (b < 0) = true then (1 : Int) else 0)) = 1 ∨ (1 - 2 * (if decide (b < 0) = true then (1 : Int) else 0)) = -1 := by split <;> simp
    generalize (1 - 2 * (if decide (b < 0) = true then (1 : Int) else 0)) = s at hs l
    have z1 : ∀ {i : Int}, SZ 13500 i → SZ 13500 (s * i) := by
      intro i hi
      rcases hs with rfl | rfl
      · rwa [Int.one_mul]
      · rw [Int.neg_mul, Int.one_mul, ← Int.zero_sub]
        exact hi.neg
    have zs : SZ 1 s := by rcases hs with rfl | rfl <;> exact SZ.lit (by decide)
    refine g_divI ((z1 hu).div c0) ?_
    walk_at "gg"
    refine g_divI ((z1 hbz).div c0) ?_
    walk_at "gg"
    refine ⟨sz (show 2 ≤ 1000000 by decide), fun t nt => ?_⟩
    exact q _ _ t _ l (w.know _ nt)
def t_law_tens (K : PySem.W.Frag) (ad : String → Addr) : TS := (tRet (tCB rIntT (tCons (tOp (rAddA K) (tC (.str "1")) (tOp (rMulA K) (tC (.str "0")) (tVar 0))) tNil)))
def sp_law_tens (K : PySem.W.Frag) (ad : String → Addr) : Sp := fun vs H Q _ => ∃ k : Int, vs = [.int k] ∧ 0 ≤ k ∧ k ≤ 4000 ∧ Q (.int ((10 ^ k.toNat : Nat) : Int)) H
theorem ln_law_tens {K : PySem.W.Frag} {ad : String → Addr} : ∀ vs H Q E, sp_law_tens K ad vs H Q E → vs.length = 1 := by
  rintro vs H Q E ⟨k, rfl, _⟩
  rfl
theorem rd_law_tens {K : PySem.W.Frag} {ad : String → Addr} (N : List Str) (hN : N.length = 1) : ∀ vs H Q E, sp_law_tens K ad vs H Q E → t_law_tens K ad { nx := fun _ H' => Q .non H', rt := Q } (L2.start N vs) H := by
  rintro vs H Q E ⟨k, rfl, k0, k1, q⟩
  rw [st_of hN]
  show t_law_tens K ad _ [some (.int k)] H
  unfold t_law_tens
  walk_at "gg"
  have e0 : ("0" : Str).length = 1 := by decide +kernel
  have e1 : ("1" : Str).length = 1 := by decide +kernel
  refine g_mulS ?_ ?_
  · refine ⟨?_, fun a b => ?_, fun a b => ?_⟩
    · rw [decide_eq_false (by omega), decide_eq_false (by omega)] <;> rfl
    · rw [e0]
      have hk : 0 < k := by omega
      have e : (1 : Int) ≤ ((2 : Int) ^ 63 - 1) / k := (Int.le_ediv_iff_mul_le hk).mpr (by omega)
      omega
    · show decide (("0" : Str).length * k.toNat > sizeLine) = false
      rw [e0]
      refine decide_eq_false ?_
      have e2 : (10000 : Nat) ≤ sizeLine := by decide
      omega
  have hl : (("1" : Str) ++ Txt.mul "0" k).length = 1 + k.toNat := by
    rw [ten_str k0, SX.S_len, List.length_cons, List.length_replicate, Nat.add_comm]
  refine g_addS ?_ ?_
  · have h2 := len_app ("1" : Str) (Txt.mul "0" k)
    exact sz (by omega)
  walk_at "gg"
  exact ⟨_, _, rfl, ten_text k0 k1, sz (by omega), q⟩
def t_law_figures (K : PySem.W.Frag) (ad : String → Addr) : TS := (tSeq (tAsg (tC (.int 0)) (gName 2)) (tSeq (tFor (iRng1 (tCons (tOp (rAddA K) (tC (.int 1)) (tOp (rI CDivA fun i j => .int (i.fdiv j)) (tVar 1) (tC (.int 9)))) tNil)) (gName 3) (tAsg (tOp (rAddA K) (tOp (rMulA K) (tVar 2) (tOp (rI CPow fun i j => .int (i ^ j.toNat)) (tC (.int 10)) (tC (.int 9)))) (tCall (sp_law_draw K ad) [] E0 (tCons (tVar 0) (tCons (tOp (rI CPow fun i j => .int (i ^ j.toNat)) (tC (.int 10)) (tC (.int 9))) tNil)))) (gName 2))) (tRet (tOp (rI (fun _ j => j ≠ 0) fun i j => .int (i.fmod j)) (tVar 2) (tCall (sp_law_tens K ad) [] E0 (tCons (tOp (rAddA K) (tC (.int 1)) (tCall (sp_law_draw K ad) [] E0 (tCons (tVar 0) (tCons (tVar 1) tNil)))) tNil))))))
def sp_law_figures (K : PySem.W.Frag) (ad : String → Addr) : Sp := fun vs H Q _ => ∃ (d l : Addr) (m : Int) (Γ : List Kn) (L : Cells), vs = [.ref d, .int m] ∧ 1 ≤ m ∧ m ≤ 3600 ∧ WR (dealM d l) Γ L H ∧
  ∀ r H', 0 ≤ r → r < ((10 ^ m.toNat : Nat) : Int) → WR (dealM d l) Γ L H' → Q (.int r) H'
theorem ln_law_figures {K : PySem.W.Frag} {ad : String → Addr} : ∀ vs H Q E, sp_law_figures K ad vs H Q E → vs.length = 2 := by
  rintro vs H Q E ⟨d, l, m, Γ, L, rfl, _⟩
  rfl
theorem rd_law_figures {K : PySem.W.Frag} {ad : String → Addr} (N : List Str) (hN : N.length = 4) : ∀ vs H Q E, sp_law_figures K ad vs H Q E → t_law_figures K ad { nx := fun _ H' => Q .non H', rt := Q } (L2.start N vs) H := by
  rintro vs H Q E ⟨d, l, m, Γ, L, rfl, m0, m1, w, q⟩
  rw [st_of hN]
  show t_law_figures K ad _ [some (.ref d), some (.int m), none, none] H
  unfold t_law_figures
  walk_at "gg"
  refine g_divI (cdiv_small (by decide) (by decide)) ?_
  rw [Int.fdiv_eq_ediv_of_nonneg m (by decide)]
  walk_at "gg"
  refine ⟨_, rfl, by omega, by omega, ?_⟩
  have ep : (10 : Int) ^ (9 : Int).toNat = 1000000000 := by decide
  refine c_for walk_range (fun i σ H => ∃ f y, σ = [some (.ref d), some (.int m), some (.int f), y] ∧ 0 ≤ f ∧ WR (dealM d l) Γ L H) (fun σ H => ∃ f y, σ = [some (.ref d), some (.int m), some (.int f), y] ∧ 0 ≤ f ∧ WR (dealM d l) Γ L H)
    ⟨_, _, rfl, by decide, w⟩ (fun _ _ _ _ _ => trivial) ?_ (fun _ _ h => h) ?_
  · rintro X hX i x σ H H' hi ⟨f, y, rfl, f0, w⟩ ⟨rfl, rfl⟩
    walk_at "gg"
    refine g_powI ⟨by decide, by decide, by decide⟩ ?_
    rw [ep]
    walk_at "gg"
    refine g_powI ⟨by decide, by decide, by decide⟩ ?_
    rw [ep]
    walk_at "gg"
    refine ⟨d, l, _, _, _, rfl, by decide, by decide, w, fun r H r0 r1 w => ?_⟩
    walk_at "gg"
    exact ⟨_, _, rfl, by omega, w⟩
  · rintro σ H ⟨f, y, rfl, f0, w⟩
    walk_at "gg"
    refine ⟨d, l, m, _, _, rfl, by omega, by omega, w, fun r H r0 r1 w => ?_⟩
    walk_at "gg"
    refine ⟨_, rfl, by omega, by omega, ?_⟩
    have hp : 0 < ((10 ^ (1 + r).toNat : Nat) : Int) := by
      have := Nat.pow_pos (n := (1 + r).toNat) (show 0 < 10 by decide)
      omega
    have hle : ((10 ^ (1 + r).toNat : Nat) : Int) ≤ ((10 ^ m.toNat : Nat) : Int) := by
      have := Nat.pow_le_pow_right (n := 10) (by decide) (show (1 + r).toNat ≤ m.toNat by omega)
      omega
    generalize ((10 ^ (1 + r).toNat : Nat) : Int) = t at hp hle
    walk_at "gg"
    exact q _ _ (Int.emod_nonneg _ (by omega)) (Int.lt_of_lt_of_le (Int.emod_lt_of_pos _ hp) hle) w
theorem ten_sz : 10 ^ 3600 ≤ 2 ^ 12000 := by decide +kernel
theorem ten_sz3 : 10 ^ 300 ≤ 2 ^ 1000 := by decide +kernel
theorem fig_sz {m r : Int} (h0 : 0 ≤ r) (h : r < ((10 ^ m.toNat : Nat) : Int)) (hm : m ≤ 3600) : SZ 12000 r := by
  unfold SZ
  have h1 := Nat.pow_le_pow_right (n := 10) (by decide) (show m.toNat ≤ 3600 by omega)
  have h2 := ten_sz
  generalize 10 ^ m.toNat = a at h h1
  exact Nat.lt_of_lt_of_le (show r.natAbs < a by omega) (Nat.le_trans h1 h2)
theorem fig_sz3 {m r : Int} (h0 : 0 ≤ r) (h : r < ((10 ^ m.toNat : Nat) : Int)) (hm : m ≤ 300) : SZ 1000 r := by
  unfold SZ
  have h1 := Nat.pow_le_pow_right (n := 10) (by decide) (show m.toNat ≤ 300 by omega)
  have h2 := ten_sz3
  generalize 10 ^ m.toNat = a at h h1
  exact Nat.lt_of_lt_of_le (show r.natAbs < a by omega) (Nat.le_trans h1 h2)
theorem sgn_sz {r i : Int} {n : Nat} (r0 : 0 ≤ r) (r1 : r < 2) (h : SZ n i) : SZ n ((1 - 2 * r) * i) := by
  rcases (show r = 0 ∨ r = 1 by omega) with rfl | rfl
  · rw [show ((1 : Int) - 2 * 0) = 1 by decide, Int.one_mul]
    exact h
  · rw [show ((1 : Int) - 2 * 1) = -1 by decide, Int.neg_mul, Int.one_mul, ← Int.zero_sub]
    exact h.neg
def t_law_whole (K : PySem.W.Frag) (ad : String → Addr) : TS := (tSeq (tPar 1 2 (tCons (tCall (sp_law_draw K ad) [] E0 (tCons (tVar 0) (tCons (tC (.int 8)) tNil))) (tCons (tOp (rI0 fun i j => .int (i - j)) (tC (.int 1)) (tOp (rMulA K) (tC (.int 2)) (tCall (sp_law_draw K ad) [] E0 (tCons (tVar 0) (tCons (tC (.int 2)) tNil))))) tNil))) (tSeq (tIfS (tTest (tOp rLtA (tVar 1) (tC (.int 4)))) (tRet (tOp (rMulA K) (tVar 2) (tCall (sp_law_draw K ad) [] E0 (tCons (tVar 0) (tCons (tOp (rIxA K) (tLst (tCons (tC (.int 3)) (tCons (tC (.int 13)) (tCons (tC (.int 60)) (tCons (tC (.int 1000)) tNil))))) (tVar 1)) tNil))))) tNext) (tRet (tOp (rMulA K) (tVar 2) (tCall (sp_law_figures K ad) [] E0 (tCons (tVar 0) (tCons (tOp (rIxA K) (tLst (tCons (tC (.int 9)) (tCons (tC (.int 18)) (tCons (tC (.int 400)) (tCons (tC (.int 3600)) tNil))))) (tOp (rI0 fun i j => .int (i - j)) (tVar 1) (tC (.int 4)))) tNil)))))))
def sp_law_whole (K : PySem.W.Frag) (ad : String → Addr) : Sp := fun vs H Q _ => ∃ (d l : Addr) (Γ : List Kn) (L : Cells), vs = [.ref d] ∧ WR (dealM d l) Γ L H ∧ ∀ i H', SZ 12000 i → WR (dealM d l) Γ L H' → Q (.int i) H'
theorem ln_law_whole {K : PySem.W.Frag} {ad : String → Addr} : ∀ vs H Q E, sp_law_whole K ad vs H Q E → vs.length = 1 := by
  rintro vs H Q E ⟨d, l, Γ, L, rfl, _⟩
  rfl
theorem rd_law_whole {K : PySem.W.Frag} {ad : String → Addr} (N : List Str) (hN : N.length = 3) : ∀ vs H Q E, sp_law_whole K ad vs H Q E → t_law_whole K ad { nx := fun _ H' => Q .non H', rt := Q } (L2.start N vs) H := by
  rintro vs H Q E ⟨d, l, Γ, L, rfl, w, q⟩
  rw [st_of hN]
  show t_law_whole K ad _ [some (.ref d), none, none] H
  unfold t_law_whole
  walk_at "gg"
  refine ⟨d, l, 8, _, _, rfl, by decide, by decide, w, fun f H f0 f1 w => ?_⟩
  walk_at "gg"
  refine ⟨d, l, 2, _, _, rfl, by decide, by decide, w, fun r H r0 r1 w => ?_⟩
  walk_at "gg"
  refine ⟨_, _, rfl, ?_⟩
  walk_at "gg"
  refine g_iteD (fun e => ?_) (fun e => ?_)
  · walk_at "gg"
    refine ⟨sz (show 4 ≤ 1000000 by decide), fun p np => ?_⟩
    have w := w.know (.lst (([3, 13, 60, 1000] : List Int).map V.int)) np
    walk_at "gg"
    obtain ⟨v, hc, hcm, _⟩ := at_in (l := ([3, 13, 60, 1000] : List Int).map V.int) f0 (by show f < 4; omega)
    obtain ⟨m, hm, rfl⟩ := List.mem_map.mp hcm
    refine g_ixL (sqL (w.get (.head _))) hc ?_
    have hm2 : 0 < m ∧ m ≤ 1000 := by
      simp only [List.mem_cons, List.not_mem_nil, or_false] at hm
      omega
    walk_at "gg"
    refine ⟨d, l, m, _, _, rfl, by omega, by omega, w, fun i H i0 i1 w => ?_⟩
    have zi : SZ 64 i := SZ.of_lt i0 (by omega)
    have zr : SZ 2 (1 - 2 * r) := by
      unfold SZ
      omega
    refine g_mulI (.inr (zr.mulx zi (by decide))) ?_
    exact q _ _ ((sgn_sz r0 r1 zi).mono (by decide)) w.tail
  · walk_at "gg"
    refine ⟨sz (show 4 ≤ 1000000 by decide), fun p np => ?_⟩
    have w := w.know (.lst (([9, 18, 400, 3600] : List Int).map V.int)) np
    walk_at "gg"
    obtain ⟨v, hc, hcm, _⟩ := at_in (l := ([9, 18, 400, 3600] : List Int).map V.int) (r := f - 4) (by omega) (by show f - 4 < 4; omega)
    obtain ⟨m, hm, rfl⟩ := List.mem_map.mp hcm
    refine g_ixL (sqL (w.get (.head _))) hc ?_
    have hm2 : 1 ≤ m ∧ m ≤ 3600 := by
      simp only [List.mem_cons, List.not_mem_nil, or_false] at hm
      omega
    walk_at "gg"
    refine ⟨d, l, m, _, _, rfl, hm2.1, hm2.2, w, fun i H i0 i1 w => ?_⟩
    have zi : SZ 12000 i := fig_sz i0 i1 hm2.2
    have zr : SZ 2 (1 - 2 * r) := by
      unfold SZ
      omega
    refine g_mulI (.inr (zr.mulx zi (by decide))) ?_
    exact q _ _ (sgn_sz r0 r1 zi) w.tail
def t_law_some_share (K : PySem.W.Frag) (ad : String → Addr) : TS := (tSeq (tAsg (tCall (sp_law_whole K ad) [] E0 (tCons (tVar 0) tNil)) (gName 1)) (tRet (tCall (sp_law_low K ad) [] E0 (tCons (tCall (sp_law_whole K ad) [] E0 (tCons (tVar 0) tNil)) (tCons (tOp (rIxA K) (tLst (tCons (tVar 1) (tCons (tC (.int 1)) tNil))) (tCB rIntA (tCons (tOrV (tOp (rEqA K) (tVar 1) (tC (.int 0))) (tOp (rEqA K) (tCall (sp_law_draw K ad) [] E0 (tCons (tVar 0) (tCons (tC (.int 4)) tNil))) (tC (.int 0)))) tNil))) tNil)))))
def sp_law_some_share (K : PySem.W.Frag) (ad : String → Addr) : Sp := fun vs H Q _ => ∃ (d l : Addr) (Γ : List Kn) (L : Cells), vs = [.ref d] ∧ WR (dealM d l) Γ L H ∧ ∀ p q t H', Shr 12000 p q → WR (dealM d l) (tp2 t p q :: Γ) L H' → Q (.ref t) H'
theorem ln_law_some_share {K : PySem.W.Frag} {ad : String → Addr} : ∀ vs H Q E, sp_law_some_share K ad vs H Q E → vs.length = 1 := by
  rintro vs H Q E ⟨d, l, Γ, L, rfl, _⟩
  rfl
theorem rd_law_some_share {K : PySem.W.Frag} {ad : String → Addr} (N : List Str) (hN : N.length = 2) : ∀ vs H Q E, sp_law_some_share K ad vs H Q E → t_law_some_share K ad { nx := fun _ H' => Q .non H', rt := Q } (L2.start N vs) H := by
  rintro vs H Q E ⟨d, l, Γ, L, rfl, w, q⟩
  rw [st_of hN]
  show t_law_some_share K ad _ [some (.ref d), none] H
  unfold t_law_some_share
  walk_at "gg"
  refine ⟨d, l, _, _, rfl, w, fun b H zb w => ?_⟩
  walk_at "gg"
  refine ⟨d, l, _, _, rfl, w, fun u H zu w => ?_⟩
  walk_at "gg"
  refine ⟨sz (show 2 ≤ 1000000 by decide), fun p np => ?_⟩
  have w := w.know (.lst [.int b, .int 1]) np
  have one : SZ 12000 (1 : Int) := SZ.mono (n := 1) (SZ.lit (by decide)) (by decide)
  have fin : ∀ (b' : Int) H', b' ≠ 0 → SZ 12000 b' → WR (dealM d l) ((fun G => G p = some (.lst [.int b, .int 1])) :: Γ) L H' → sp_law_low K ad [.int u, .int b'] H' Q E0 := by
    intro b' H' n0 zb' w
    refine ⟨u, b', _, _, _, rfl, n0, zu.mono (by decide), zb'.mono (by decide), w.tail, fun p q' t H' l w => q _ _ _ _ (l.shr zu zb') w⟩
  walk_at "gg"
  refine g_iteD (fun e => ?_) (fun e => ?_)
  · walk_at "gg"
    refine g_ixL (n := 1) (v := .int 1) (sqL (w.get (.head _))) rfl ?_
    exact fin _ _ (by decide) one w
  · walk_at "gg"
    refine ⟨d, l, 4, _, _, rfl, by decide, by decide, w, fun r H r0 r1 w => ?_⟩
    walk_at "gg"
    by_cases h : r = 0
    · rw [decide_eq_true h]
      refine g_ixL (n := 1) (v := .int 1) (sqL (w.get (.head _))) rfl ?_
      exact fin _ _ (by decide) one w
    · rw [decide_eq_false h]
      refine g_ixL (n := 0) (v := .int b) (sqL (w.get (.head _))) rfl ?_
      exact fin _ _ e zb w
end Ct
namespace Ct
open PySem PySem.Spec PyProof.Rows L2
local macro_rules | `(tactic| walk_at "g") => `(tactic| first
  | with_reducible refine g_seq ?_
  | with_reducible refine g_set ?_
  | with_reducible refine g_asg ?_
  | with_reducible refine g_sub ?_
  | with_reducible refine g_name ?_
  | with_reducible refine g_ret ?_
  | with_reducible refine g_if ?_
  | ((with_reducible refine' g_var ?gh ?_); (case gh => rfl))
  | with_reducible refine g_c ?_
  | with_reducible refine g_op ?_
  | with_reducible refine g_test ?_
  | with_reducible refine g_bl ?_
  | with_reducible refine g_int ?_
  | with_reducible refine g_cons ?_
  | with_reducible refine g_nil ?_
  | with_reducible refine g_call ?_
  | with_reducible refine g_cb ?_
  | with_reducible refine g_and ?_
  | with_reducible refine g_or ?_
  | with_reducible refine g_not ?_
  | with_reducible refine g_B ?_
  | with_reducible refine g_un ?_
  | with_reducible refine g_neg ?_
  | with_reducible refine g_chain ?_
  | with_reducible refine g_drop ?_
  | with_reducible refine g_par ?_
  | with_reducible refine g_par3 ?_
  | with_reducible refine g_tup ?_
  | with_reducible refine g_lst ?_
  | with_reducible refine g_sl ?_
  | with_reducible refine g_nop ?_
  | with_reducible refine g_part ?_
  | with_reducible refine g_bm0 ?_
  | with_reducible refine g_bm ?_
  | with_reducible refine g_m0 ?_
  | with_reducible refine g_m1 ?_
  | with_reducible refine g_lrev ?_
  | with_reducible refine g_ifE ?_
  | with_reducible refine g_andV ?_
  | with_reducible refine g_orV ?_
  | with_reducible refine g_notV ?_
  | with_reducible refine g_addI ?_
  | with_reducible refine g_subI ?_
  | with_reducible refine g_eqI ?_
  | with_reducible refine g_neI ?_
  | with_reducible refine g_eqS ?_
  | with_reducible refine g_neS ?_
  | with_reducible refine g_eqB ?_
  | with_reducible refine g_neB ?_
  | with_reducible refine g_ltI ?_
  | with_reducible refine g_gtI ?_
  | with_reducible refine g_leI ?_
  | with_reducible refine g_geI ?_
  | with_reducible refine g_inS ?_
  | with_reducible refine g_niS ?_
  | with_reducible refine g_max ?_
  | with_reducible refine g_min ?_
  | with_reducible refine g_abs ?_
  | with_reducible refine g_isN ?_
  | with_reducible refine g_notN ?_
  | with_reducible refine g_isB ?_
  | with_reducible refine g_notB ?_
  | with_reducible refine g_intB ?_
  | with_reducible refine g_intI ?_
  | with_reducible refine g_lc ?_
  | with_reducible refine g_for ?_
  | with_reducible refine g_seqI ?_
  | with_reducible refine g_inStr ?_
  | with_reducible refine g_rng ?_
  | with_reducible refine g_yes ?_
  | with_reducible refine g_pairs ?_
  | with_reducible refine g_pairs0 ?_
  | with_reducible refine iteT ?_
  | with_reducible refine iteF ?_
  | with_reducible refine g_nF ?_
  | with_reducible refine g_nT ?_
  | with_reducible refine g_gcons ?_
  | with_reducible refine g_gnil ?_
  | with_reducible refine g_next ?_
  | with_reducible refine g_callN ?_
  | with_reducible refine g_callNS ?_
  | with_reducible refine g_callS ?_
  | ((with_reducible refine' g_mulI ?gh ?_); (case gh => first | exact .inl (.inl ⟨by omega, by omega⟩) | exact .inl (.inr ⟨by omega, by omega⟩)))
  | ((with_reducible refine' g_modI ?gh ?_); (case gh => omega)))
local macro_rules | `(tactic| walk_at "gg") => `(tactic| (repeat walk_at "g"))
theorem g_isiBl {K : PySem.W.Frag} {H : Hp} {Q : VK} {c : Bool} (q : Q (.bl true) H) : rIsi K [.bl c, .ty "bool"] H Q := ⟨.bl c, .ty "bool", _, _, true, rfl, .ty _, .base (.bl c), kit_ty (by decide +kernel), q⟩
theorem g_orC {ta tb : TE} {σ : L2.St} {H : Hp} {Q : VK} (c c' : Bool) (h1 : ∀ R : VK, R (.bl c) H → ta σ H R) (h2 : ∀ R : VK, R (.bl c') H → tb σ H R) (q : Q (.bl (c || c')) H) : tOrV ta tb σ H Q := by
  refine h1 _ ⟨c, rfl, ?_⟩
  cases c with
  | true => exact iteT q
  | false => exact iteF (h2 Q q)
def t_law_near (K : PySem.W.Frag) (ad : String → Addr) : TS := (tSeq (tAsg (tCall (sp_law_low K ad) [] E0 (tCons (tOp (rI0 fun i j => .int (i - j)) (tC (.int 1)) (tOp (rMulA K) (tC (.int 2)) (tCall (sp_law_draw K ad) [] E0 (tCons (tVar 0) (tCons (tC (.int 2)) tNil))))) (tCons (tOp (rAddA K) (tC (.int 1)) (tCall (sp_law_figures K ad) [] E0 (tCons (tVar 0) (tCons (tOp (rIxA K) (tLst (tCons (tC (.int 9)) (tCons (tC (.int 60)) (tCons (tC (.int 300)) tNil)))) (tCall (sp_law_draw K ad) [] E0 (tCons (tVar 0) (tCons (tC (.int 3)) tNil)))) tNil)))) tNil))) (gName 2)) (tSeq (tAsg (tVar 1) (gTup K 2 (gCons (gName 3) (gCons (gName 4) gNil)))) (tSeq (tAsg (tCall (sp_law_low K ad) [] E0 (tCons (tOp (rAddA K) (tOp (rMulA K) (tVar 3) (tOp (rIxA K) (tVar 2) (tC (.int 1)))) (tOp (rMulA K) (tOp (rIxA K) (tVar 2) (tC (.int 0))) (tVar 4))) (tCons (tOp (rMulA K) (tVar 4) (tOp (rIxA K) (tVar 2) (tC (.int 1)))) tNil))) (gName 5)) (tRet (tOp (rIxA K) (tLst (tCons (tCall (sp_law_some_share K ad) [] E0 (tCons (tVar 0) tNil)) (tCons (tVar 1) (tCons (tTup (tCons (tOp (rI0 fun i j => .int (i - j)) (tC (.int 0)) (tVar 3)) (tCons (tVar 4) tNil))) (tCons (tVar 5) (tCons (tVar 5) tNil)))))) (tCall (sp_law_draw K ad) [] E0 (tCons (tVar 0) (tCons (tC (.int 5)) tNil))))))))
def sp_law_near (K : PySem.W.Frag) (ad : String → Addr) : Sp := fun vs H Q _ => ∃ (d l t : Addr) (a b : Int) (Γ : List Kn) (L : Cells), vs = [.ref d, .ref t] ∧ Shr 12000 a b ∧ WR (dealM d l) (tp2 t a b :: Γ) L H ∧
  ∀ r s t' H', Shr 13002 r s → WR (dealM d l) (tp2 t' r s :: tp2 t a b :: Γ) L H' → Q (.ref t') H'
theorem ln_law_near {K : PySem.W.Frag} {ad : String → Addr} : ∀ vs H Q E, sp_law_near K ad vs H Q E → vs.length = 2 := by
  rintro vs H Q E ⟨d, l, t, a, b, Γ, L, rfl, _⟩
  rfl
theorem rd_law_near {K : PySem.W.Frag} {ad : String → Addr} (N : List Str) (hN : N.length = 6) : ∀ vs H Q E, sp_law_near K ad vs H Q E → t_law_near K ad { nx := fun _ H' => Q .non H', rt := Q } (L2.start N vs) H := by
  rintro vs H Q E ⟨d, l, t, a, b, Γ, L, rfl, sh, w, q⟩
  rw [st_of hN]
  show t_law_near K ad _ [some (.ref d), some (.ref t), none, none, none, none] H
  unfold t_law_near
  walk_at "gg"
  refine ⟨d, l, 2, _, _, rfl, by decide, by decide, w, fun g H g0 g1 w => ?_⟩
  walk_at "gg"
  refine ⟨sz (show 3 ≤ 1000000 by decide), fun p np => ?_⟩
  have w := w.know (.lst (([9, 60, 300] : List Int).map V.int)) np
  walk_at "gg"
  refine ⟨d, l, 3, _, _, rfl, by decide, by decide, w, fun f H f0 f1 w => ?_⟩
  obtain ⟨v, hc, hcm, _⟩ := at_in (l := ([9, 60, 300] : List Int).map V.int) f0 f1
  obtain ⟨m, hm, rfl⟩ := List.mem_map.mp hcm
  refine g_ixL (sqL (w.get (.head _))) hc ?_
  have hm2 : 1 ≤ m ∧ m ≤ 300 := by
    simp only [List.mem_cons, List.not_mem_nil, or_false] at hm
    omega
  walk_at "gg"
  refine ⟨d, l, m, _, _, rfl, hm2.1, by omega, w.tail, fun i H i0 i1 w => ?_⟩
  walk_at "gg"
  have zi : SZ 1000 i := fig_sz3 i0 i1 hm2.2
  have zi1 : SZ 1001 (1 + i) := (SZ.mono (n := 1) (SZ.lit (by decide)) (by decide : 1 ≤ 1000)).add zi
  have zg : SZ 1001 (1 - 2 * g) := SZ.mono (n := 2) (by unfold SZ; omega) (by decide)
  refine ⟨_, _, _, _, _, rfl, by omega, zg.mono (by decide), zi1.mono (by decide), w, fun x y h H lh w => ?_⟩
  have sh2 := lh.shr zg zi1
  walk_at "gg"
  refine g_gtup (sqT (w.get (.tail _ (.head _)))) rfl ?_
  walk_at "gg"
  refine g_ixT (n := 1) (v := .int y) (sqT (w.get (.head _))) rfl ?_
  refine g_mulI (.inr (sh.sp.mulx sh2.sq (by decide))) ?_
  walk_at "gg"
  refine g_ixT (n := 0) (v := .int x) (sqT (w.get (.head _))) rfl ?_
  walk_at "gg"
  refine g_mulI (.inr (sh2.sp.mulx sh.sq (by decide))) ?_
  walk_at "gg"
  refine g_ixT (n := 1) (v := .int y) (sqT (w.get (.head _))) rfl ?_
  refine g_mulI (.inr (sh.sq.mulx sh2.sq (by decide))) ?_
  walk_at "gg"
  have zu : SZ 13002 (a * y + x * b) := (sh.sp.mul sh2.sq).add ((sh2.sp.mul sh.sq).mono (by decide))
  have zd : SZ 13002 (b * y) := (sh.sq.mul sh2.sq).mono (by decide)
  refine ⟨_, _, _, _, _, rfl, Int.mul_ne_zero (by have := sh.pos; omega) (by have := sh2.pos; omega), zu.mono (by decide), zd.mono (by decide), w, fun x' y' h' H ln w => ?_⟩
  have sh3 := ln.shr zu zd
  walk_at "gg"
  refine ⟨d, l, _, _, rfl, w, fun x4 y4 h4 H sh4 w => ?_⟩
  walk_at "gg"
  refine ⟨sz (show 2 ≤ 1000000 by decide), fun p5 np => ?_⟩
  have w := w.know (.tup [.int (0 - a), .int b]) np
  walk_at "gg"
  refine ⟨sz (show 5 ≤ 1000000 by decide), fun p6 np => ?_⟩
  have w := w.know (.lst [.ref h4, .ref t, .ref p5, .ref h', .ref h']) np
  walk_at "gg"
  refine ⟨d, l, 5, _, _, rfl, by decide, by decide, w, fun r H r0 r1 w => ?_⟩
  obtain ⟨v, hc, hcm, _⟩ := at_in (l := [V.ref h4, .ref t, .ref p5, .ref h', .ref h']) r0 r1
  refine g_ixL (sqL (w.get (.head _))) hc ?_
  have fin : ∀ (r s : Int) (t' : Addr), Shr 13002 r s → tp2 t' r s ∈ ((fun G => G p6 = some (HO.lst [.ref h4, .ref t, .ref p5, .ref h', .ref h'])) :: tp2 p5 (0 - a) b :: tp2 h4 x4 y4 :: tp2 h' x' y' :: tp2 h x y :: tp2 t a b :: Γ) → Q (.ref t') H := by
    intro r s t' hs hm
    exact q r s t' _ hs (w.sub fun k hk => by
      rcases hk with _ | ⟨_, hk⟩
      · exact hm
      · exact .tail _ (.tail _ (.tail _ (.tail _ (.tail _ hk)))))
  simp only [List.mem_cons, List.not_mem_nil, or_false] at hcm
  rcases hcm with rfl | rfl | rfl | rfl | rfl
  · exact fin _ _ _ (sh4.mono (by decide)) (.tail _ (.tail _ (.head _)))
  · exact fin _ _ _ (sh.mono (by decide)) (.tail _ (.tail _ (.tail _ (.tail _ (.tail _ (.head _))))))
  · exact fin _ _ _ (sh.neg.mono (by decide)) (.tail _ (.head _))
  · exact fin _ _ _ sh3 (.tail _ (.tail _ (.tail _ (.head _))))
  · exact fin _ _ _ sh3 (.tail _ (.tail _ (.tail _ (.head _))))
def spL (K : PySem.W.Frag) : Sp := fun vs H Q _ => ∃ (a : Addr) (ns : List Int), vs = [.ref a] ∧ SqL K H a (ns.map V.int) ∧ ns.length ≤ 63 ∧ (∀ i ∈ ns, Builtin.Int.intBits i ≤ 1048576) ∧ Only H ∧ ∀ H', Q (.bl true) H'
theorem sq_stay {K : PySem.W.Frag} {H G : Hp} {a : Addr} {xs : List V} (h : SqL K H a xs) (s : Same H G) : SqL K G a xs := s.seq h
abbrev sp_law (K : PySem.W.Frag) (ad : String → Addr) : Sp := spL K
theorem ln_law {K : PySem.W.Frag} {ad : String → Addr} : ∀ vs H Q E, sp_law K ad vs H Q E → vs.length = 1 := by
  rintro vs H Q E ⟨a, ns, rfl, _⟩
  rfl
/-- pairs of shares -/
def Prs (xs : List V) : Kn := fun G => ∀ x ∈ xs, ∃ (xa u v : Addr) (p q r s : Int), x = .ref xa ∧ G xa = some (.tup [.ref u, .ref v]) ∧ G u = some (.tup [.int p, .int q]) ∧ G v = some (.tup [.int r, .int s]) ∧ Shr 13002 p q ∧ Shr 13002 r s
theorem dp2 {K : PySem.W.Frag} {H : Hp} {t : Addr} {p q : Int} (h : H t = some (.tup [.int p, .int q])) : Dp K H (.ref t) (.tuple [.int p, .int q]) := .tup (sqT h) (.cons (.int p) (.cons (.int q) .nil))
theorem shaped2 {p q : Int} : SeqAt.shaped (.tuple [.int p, .int q]) = true := rfl
theorem eqv2 {p q r s : Int} : PyData.eqv (.tuple [.int p, .int q]) (.tuple [.int r, .int s]) = (decide (p = r) && decide (q = s)) := by
  show ((p == r) && ((q == s) && true)) = _
  rw [Bool.and_true]
  rfl
def t_law (K : PySem.W.Frag) (ad : String → Addr) : TS := (tSeq (tAsg (tCall (sp_law_deal K ad) [] E0 (tCons (tVar 0) tNil)) (gName 1)) (tSeq (tFor (iRng1 (tCons (tC (.int 4)) tNil)) (gName 2) (tSeq (tAsg (tCall (sp_law_some_share K ad) [] E0 (tCons (tVar 1) tNil)) (gName 3)) (tSeq (tAsg (tCall (sp_law_near K ad) [] E0 (tCons (tVar 1) (tCons (tVar 3) tNil))) (gName 4)) (tSeq (tFor (iSeq K (tTup (tCons (tTup (tCons (tVar 3) (tCons (tVar 4) tNil))) (tCons (tTup (tCons (tVar 4) (tCons (tVar 3) tNil))) (tCons (tTup (tCons (tVar 3) (tCons (tVar 3) tNil))) (tCons (tTup (tCons (tVar 3) (tCons (tVar 4) tNil))) tNil)))))) (gTup K 2 (gCons (gName 5) (gCons (gName 6) gNil))) (tSeq (tAsg (tOp rLtA (tOp (rMulA K) (tOp (rIxA K) (tVar 5) (tC (.int 0))) (tOp (rIxA K) (tVar 6) (tC (.int 1)))) (tOp (rMulA K) (tOp (rIxA K) (tVar 6) (tC (.int 0))) (tOp (rIxA K) (tVar 5) (tC (.int 1))))) (gName 7)) (tFor (iSeq K (tTup (tCons (tCall (sp_is_less K ad) [] E0 (tCons (tVar 5) (tCons (tVar 6) tNil))) (tCons (tCallN 0 2 (sp_is_less K ad) (fun vs zs => [zs.getD 1 .non, zs.getD 0 .non]) E0 tNil (tCons (tVar 6) (tCons (tVar 5) tNil))) tNil)))) (gName 8) (tIfS (tOr (tNot (tB (tCB (rIsi K) (tCons (tVar 8) (tCons (tC (.ty "bool")) tNil))))) (tTest (tOp (rNeA K) (tVar 8) (tVar 7)))) (tRet (tC (.bl false))) tNext)))) (tSeq (tIfS (tTest (tOp (rNeA K) (tOrV (tCall (sp_is_less K ad) [] E0 (tCons (tVar 3) (tCons (tVar 4) tNil))) (tCall (sp_is_less K ad) [] E0 (tCons (tVar 4) (tCons (tVar 3) tNil)))) (tOp (rNeA K) (tVar 3) (tVar 4)))) (tRet (tC (.bl false))) tNext) (tSeq (tAsg (tCall (sp_sum_of K ad) [] E0 (tCons (tVar 3) (tCons (tTup (tCons (tC (.int 1)) (tCons (tOp (rAddA K) (tC (.int 1)) (tCall (sp_law_draw K ad) [] E0 (tCons (tVar 1) (tCons (tOp (rI CPow fun i j => .int (i ^ j.toNat)) (tC (.int 10)) (tC (.int 9))) tNil)))) tNil))) tNil))) (gName 9)) (tIfS (tOr (tTest (tOp rNotA (tCall (sp_is_less K ad) [] E0 (tCons (tVar 3) (tCons (tVar 9) tNil))) (tC (.bl true)))) (tTest (tOp rNotA (tCall (sp_is_less K ad) [] E0 (tCons (tVar 9) (tCons (tVar 3) tNil))) (tC (.bl false))))) (tRet (tC (.bl false))) tNext))))))) (tRet (tC (.bl true)))))
theorem rd_law {K : PySem.W.Frag} {ad : String → Addr} (N : List Str) (hN : N.length = 10) : ∀ vs H Q E, sp_law K ad vs H Q E → t_law K ad { nx := fun _ H' => Q .non H', rt := Q } (L2.start N vs) H := by
  rintro vs H Q E ⟨a, ns, rfl, hS, hl, _, _, q⟩
  rw [st_of hN]
  show t_law K ad _ [some (.ref a), none, none, none, none, none, none, none, none, none] H
  unfold t_law
  have w : WR noM [fun G => SqL K G a (ns.map V.int)] [] H := WR.of (WW.of fun k hk G s => by
    rcases hk with _ | ⟨_, hk⟩
    · exact sq_stay hS s
    · exact absurd hk (List.not_mem_nil))
  walk_at "gg"
  refine ⟨a, ns, _, rfl, by omega, w, fun d l H w => ?_⟩
  walk_at "gg"
  refine ⟨_, rfl, by decide, by decide, ?_⟩
  refine c_for walk_range (fun i σ H => ∃ y2 y3 y4 y5 y6 y7 y8 y9, σ = [some (.ref a), some (.ref d), y2, y3, y4, y5, y6, y7, y8, y9] ∧ WR (dealM d l) [] [] H) (fun σ H => True)
    ⟨_, _, _, _, _, _, _, _, rfl, w.sub fun k hk => absurd hk List.not_mem_nil⟩ (fun _ _ _ _ _ => trivial) ?_ (fun _ _ _ => trivial) ?_
  · rintro X hX i x σ H H' hi ⟨y2, y3, y4, y5, y6, y7, y8, y9, rfl, w⟩ ⟨rfl, rfl⟩
    walk_at "gg"
    refine ⟨d, l, _, _, rfl, w, fun p q t H s1 w => ?_⟩
    walk_at "gg"
    refine ⟨d, l, t, p, q, _, _, rfl, s1, w, fun r s t' H s2 w => ?_⟩
    have s1' := s1.mono (m := 13002) (by decide)
    walk_at "gg"
    refine ⟨sz (show 2 ≤ 1000000 by decide), fun p1 np => ?_⟩
    have w := w.know (.tup [.ref t, .ref t']) np
    walk_at "gg"
    refine ⟨sz (show 2 ≤ 1000000 by decide), fun p2 np => ?_⟩
    have w := w.know (.tup [.ref t', .ref t]) np
    walk_at "gg"
    refine ⟨sz (show 2 ≤ 1000000 by decide), fun p3 np => ?_⟩
    have w := w.know (.tup [.ref t, .ref t]) np
    walk_at "gg"
    refine ⟨sz (show 2 ≤ 1000000 by decide), fun p4 np => ?_⟩
    have w := w.know (.tup [.ref t, .ref t']) np
    walk_at "gg"
    refine ⟨sz (show 4 ≤ 1000000 by decide), fun p5 np => ?_⟩
    have w := w.know (.tup [.ref p1, .ref p2, .ref p3, .ref p4]) np
    have w := w.more (Prs [.ref p1, .ref p2, .ref p3, .ref p4]) fun G hG x hx => by
      have k1 := hG _ (.tail _ (.tail _ (.tail _ (.tail _ (.head _)))))
      have k2 := hG _ (.tail _ (.tail _ (.tail _ (.head _))))
      have k3 := hG _ (.tail _ (.tail _ (.head _)))
      have k4 := hG _ (.tail _ (.head _))
      have e2 := hG _ (.tail _ (.tail _ (.tail _ (.tail _ (.tail _ (.head _))))))
      have e1 := hG _ (.tail _ (.tail _ (.tail _ (.tail _ (.tail _ (.tail _ (.head _)))))))
      simp only [List.mem_cons, List.not_mem_nil, or_false] at hx
      rcases hx with rfl | rfl | rfl | rfl
      · exact ⟨_, _, _, _, _, _, _, rfl, k1, e1, e2, s1', s2⟩
      · exact ⟨_, _, _, _, _, _, _, rfl, k2, e2, e1, s2, s1'⟩
      · exact ⟨_, _, _, _, _, _, _, rfl, k3, e1, e1, s1', s1'⟩
      · exact ⟨_, _, _, _, _, _, _, rfl, k4, e1, e2, s1', s2⟩
    have w := w.sub (Γ' := [Prs [.ref p1, .ref p2, .ref p3, .ref p4], fun G => G p5 = some (.tup [.ref p1, .ref p2, .ref p3, .ref p4]), tp2 t p q, tp2 t' r s]) fun k hk => by
      rcases hk with _ | ⟨_, _ | ⟨_, _ | ⟨_, _ | ⟨_, hk⟩⟩⟩⟩
      · exact .head _
      · exact .tail _ (.head _)
      · exact .tail _ (.tail _ (.tail _ (.tail _ (.tail _ (.tail _ (.tail _ (.head _)))))))
      · exact .tail _ (.tail _ (.tail _ (.tail _ (.tail _ (.tail _ (.head _))))))
      · exact absurd hk List.not_mem_nil
    refine g_inT (sqT (w.get (.tail _ (.head _)))) ?_
    refine c_for (walk_tup (xs := [.ref p1, .ref p2, .ref p3, .ref p4])) (fun i σ H => ∃ y2 y5 y6 y7 y8 y9, σ = [some (.ref a), some (.ref d), y2, some (.ref t), some (.ref t'), y5, y6, y7, y8, y9] ∧ WR (dealM d l) [Prs [.ref p1, .ref p2, .ref p3, .ref p4], fun G => G p5 = some (.tup [.ref p1, .ref p2, .ref p3, .ref p4]), tp2 t p q, tp2 t' r s] [] H)
      (fun σ H => ∃ y2 y5 y6 y7 y8 y9, σ = [some (.ref a), some (.ref d), y2, some (.ref t), some (.ref t'), y5, y6, y7, y8, y9] ∧ WR (dealM d l) [tp2 t p q, tp2 t' r s] [] H) ?_ ?_ ?_ ?_ ?_
    · exact ⟨_, _, _, _, _, _, rfl, w⟩
    · rintro i σ H _ ⟨_, _, _, _, _, _, _, w⟩
      exact sqT (w.get (.tail _ (.head _)))
    · rintro X2 hX2 i x σ H H' hi ⟨y2, y5, y6, y7, y8, y9, rfl, w⟩ ⟨rfl, hx⟩
      obtain ⟨xa, u, v, p', q', r', s', rfl, kx, ku, kv, su, sv⟩ := w.get (.head _) x (List.mem_of_getElem? hx)
      refine g_gtup (sqT kx) rfl ?_
      walk_at "gg"
      refine g_ixT (n := 0) (v := .int p') (sqT ku) rfl ?_
      walk_at "gg"
      refine g_ixT (n := 1) (v := .int s') (sqT kv) rfl ?_
      refine g_mulI (.inr (su.sp.mulx sv.sq (by decide))) ?_
      walk_at "gg"
      refine g_ixT (n := 0) (v := .int r') (sqT kv) rfl ?_
      walk_at "gg"
      refine g_ixT (n := 1) (v := .int q') (sqT ku) rfl ?_
      refine g_mulI (.inr (sv.sp.mulx su.sq (by decide))) ?_
      walk_at "gg"
      refine ⟨u, v, p', q', r', s', rfl, sqT ku, sqT kv, su.sp.mulx sv.sq (by decide), sv.sp.mulx su.sq (by decide), ?_⟩
      walk_at "gg"
      refine ⟨rfl, rfl, u, v, p', q', r', s', rfl, sqT ku, sqT kv, su.sp.mulx sv.sq (by decide), sv.sp.mulx su.sq (by decide), ?_⟩
      generalize decide (p' * s' < r' * q') = c
      walk_at "gg"
      refine ⟨sz (show 2 ≤ 1000000 by decide), fun p6 np => ?_⟩
      have w := w.know (.tup [.bl c, .bl c]) np
      refine g_inT (sqT (w.get (.head _))) ?_
      refine c_for (walk_tup (xs := [.bl c, .bl c])) (fun i σ H => ∃ y8, σ = [some (.ref a), some (.ref d), y2, some (.ref t), some (.ref t'), some (.ref u), some (.ref v), some (.bl c), y8, y9] ∧ WR (dealM d l) [(fun G => G p6 = some (.tup [.bl c, .bl c])), Prs [.ref p1, .ref p2, .ref p3, .ref p4], fun G => G p5 = some (.tup [.ref p1, .ref p2, .ref p3, .ref p4]), tp2 t p q, tp2 t' r s] [] H)
        (fun σ H => ∃ y8, σ = [some (.ref a), some (.ref d), y2, some (.ref t), some (.ref t'), some (.ref u), some (.ref v), some (.bl c), y8, y9] ∧ WR (dealM d l) [Prs [.ref p1, .ref p2, .ref p3, .ref p4], fun G => G p5 = some (.tup [.ref p1, .ref p2, .ref p3, .ref p4]), tp2 t p q, tp2 t' r s] [] H) ⟨_, rfl, w⟩ ?_ ?_ ?_ ?_
      · rintro i σ H _ ⟨_, _, w⟩
        exact sqT (w.get (.head _))
      · rintro X3 hX3 i x σ H H' hi ⟨y8, rfl, w⟩ ⟨rfl, hx⟩
        have hx2 := List.mem_of_getElem? hx
        simp only [List.mem_cons, List.not_mem_nil, or_false, or_self] at hx2
        subst hx2
        walk_at "gg"
        refine g_isiBl ?_
        walk_at "gg"
        refine g_iteN (fun e => absurd rfl e) (fun _ => ?_)
        walk_at "gg"
        exact ⟨_, rfl, w⟩
      · rintro σ H ⟨y8, rfl, w⟩
        exact ⟨_, rfl, w.tail⟩
      · rintro σ H ⟨y8, rfl, w⟩
        exact ⟨_, _, _, _, _, _, rfl, w⟩
    · rintro σ H ⟨y2, y5, y6, y7, y8, y9, rfl, w⟩
      exact ⟨_, _, _, _, _, _, rfl, w.tail.tail⟩
    · rintro σ H ⟨y2, y5, y6, y7, y8, y9, rfl, w⟩
      have k1 : SqT K H t [.int p, .int q] := sqT (w.get (.head _))
      have k2 : SqT K H t' [.int r, .int s] := sqT (w.get (.tail _ (.head _)))
      have lo := less_or s1 s2
      walk_at "g"
      walk_at "g"
      walk_at "g"
      walk_at "g"
      refine g_orC (decide (p * s < r * q)) (decide (r * q < p * s)) ?_ ?_ ?_
      · intro R k
        walk_at "gg"
        exact ⟨t, t', p, q, r, s, rfl, k1, k2, s1.sp.mulx s2.sq (by decide), s2.sp.mulx s1.sq (by decide), k⟩
      · intro R k
        walk_at "gg"
        exact ⟨t', t, r, s, p, q, rfl, k2, k1, s2.sp.mulx s1.sq (by decide), s1.sp.mulx s2.sq (by decide), k⟩
      walk_at "gg"
      refine g_neD (dp2 (w.get (.head _))) (dp2 (w.get (.tail _ (.head _)))) shaped2 shaped2 ?_
      rw [eqv2, lo]
      walk_at "gg"
      refine g_iteN (fun e => absurd rfl e) (fun _ => ?_)
      walk_at "gg"
      refine g_powI ⟨by decide, by decide, by decide⟩ ?_
      rw [show (10 : Int) ^ (9 : Int).toNat = 1000000000 by decide]
      walk_at "gg"
      refine ⟨d, l, _, _, _, rfl, by decide, by decide, w, fun n H n0 n1 w => ?_⟩
      walk_at "gg"
      refine ⟨sz (show 2 ≤ 1000000 by decide), fun p7 np => ?_⟩
      have w := w.know (.tup [.int 1, .int (1 + n)]) np
      walk_at "gg"
      have z1 : SZ 64 (1 : Int) := SZ.lit (by decide)
      have zn : SZ 64 (1 + n) := SZ.of_lt (by omega) (by omega)
      refine ⟨t, p7, p, q, 1, 1 + n, 12000, 64, _, _, _, rfl, sqT (w.get (.tail _ (.head _))), sqT (w.get (.head _)), s1.sp, s1.sq, z1, zn, by have := s1.pos; omega, by omega, by decide, w, fun x y t7 H lw w => ?_⟩
      have s3 := lw.shr (n := 13500) (((s1.sp.mul zn).add ((z1.mul s1.sq).mono (by decide))).mono (by decide)) ((s1.sq.mul zn).mono (by decide))
      have gr := more s1.pos (show 0 < 1 + n by omega) lw
      have k1 : SqT K H t [.int p, .int q] := sqT (w.get (.tail _ (.tail _ (.head _))))
      have k7 : SqT K H t7 [.int x, .int y] := sqT (w.get (.head _))
      walk_at "gg"
      refine ⟨t, t7, p, q, x, y, rfl, k1, k7, s1.sp.mulx s3.sq (by decide), s3.sp.mulx s1.sq (by decide), ?_⟩
      rw [decide_eq_true gr]
      walk_at "gg"
      refine g_iteN (fun e => absurd rfl e) (fun _ => ?_)
      walk_at "gg"
      refine ⟨t7, t, x, y, p, q, rfl, k7, k1, s3.sp.mulx s1.sq (by decide), s1.sp.mulx s3.sq (by decide), ?_⟩
      rw [decide_eq_false (show ¬ x * q < p * y by omega)]
      walk_at "gg"
      refine g_iteN (fun e => absurd rfl e) (fun _ => ?_)
      walk_at "gg"
      exact ⟨_, _, _, _, _, _, _, _, rfl, w.sub fun k hk => absurd hk List.not_mem_nil⟩
  · rintro σ H _
    walk_at "gg"
    exact q _
end Ct
namespace Ct
open PySem PySem.Spec PyProof.Rows L2
def topS (i : Nat) : Stmt := PySem.Challenge.pw_chancetongue_k03_which_share_is_less.main.body.getD i (.Pass ⟨0, 0, 0, 0⟩)
abbrev s_share_of : Stmt := topS 3
abbrev N_share_of : List Str := ["upper", "lower", "common", "other"]
theorem sc_share_of : FnScope N_share_of ["upper", "lower"] (defScope s_share_of) := ⟨rfl, rfl, rfl, by decide +kernel, rfl, by decide +kernel, by decide +kernel⟩
abbrev s_is_less : Stmt := topS 5
abbrev N_is_less : List Str := ["one", "other"]
theorem sc_is_less : FnScope N_is_less ["one", "other"] (defScope s_is_less) := ⟨rfl, rfl, rfl, by decide +kernel, rfl, by decide +kernel, by decide +kernel⟩
abbrev s_law_deal : Stmt := topS 7
abbrev N_law_deal : List Str := ["_law_script", "_law_mine", "_law_some", "_law_number"]
theorem sc_law_deal : FnScope N_law_deal ["_law_script"] (defScope s_law_deal) := ⟨rfl, rfl, rfl, by decide +kernel, rfl, by decide +kernel, by decide +kernel⟩
abbrev s_law_draw : Stmt := topS 8
abbrev N_law_draw : List Str := ["_law_deal_here", "_law_many", "_law_number", "_law_mine", "_law_yours"]
theorem sc_law_draw : FnScope N_law_draw ["_law_deal_here", "_law_many"] (defScope s_law_draw) := ⟨rfl, rfl, rfl, by decide +kernel, rfl, by decide +kernel, by decide +kernel⟩
abbrev s_law_tens : Stmt := topS 9
abbrev N_law_tens : List Str := ["_law_many"]
theorem sc_law_tens : FnScope N_law_tens ["_law_many"] (defScope s_law_tens) := ⟨rfl, rfl, rfl, by decide +kernel, rfl, by decide +kernel, by decide +kernel⟩
abbrev s_law_low : Stmt := topS 12
abbrev N_law_low : List Str := ["_law_upper", "_law_below", "_law_mine", "_law_yours", "_law_sign"]
theorem sc_law_low : FnScope N_law_low ["_law_upper", "_law_below"] (defScope s_law_low) := ⟨rfl, rfl, rfl, by decide +kernel, rfl, by decide +kernel, by decide +kernel⟩
abbrev s_sum_of : Stmt := topS 4
abbrev N_sum_of : List Str := ["one", "other"]
theorem sc_sum_of : FnScope N_sum_of ["one", "other"] (defScope s_sum_of) := ⟨rfl, rfl, rfl, by decide +kernel, rfl, by decide +kernel, by decide +kernel⟩
abbrev s_law_figures : Stmt := topS 10
abbrev N_law_figures : List Str := ["_law_deal_here", "_law_many", "_law_found", "_law_turn"]
theorem sc_law_figures : FnScope N_law_figures ["_law_deal_here", "_law_many"] (defScope s_law_figures) := ⟨rfl, rfl, rfl, by decide +kernel, rfl, by decide +kernel, by decide +kernel⟩
abbrev s_law_whole : Stmt := topS 11
abbrev N_law_whole : List Str := ["_law_deal_here", "_law_form", "_law_sign"]
theorem sc_law_whole : FnScope N_law_whole ["_law_deal_here"] (defScope s_law_whole) := ⟨rfl, rfl, rfl, by decide +kernel, rfl, by decide +kernel, by decide +kernel⟩
abbrev s_law_some_share : Stmt := topS 13
abbrev N_law_some_share : List Str := ["_law_deal_here", "_law_below"]
theorem sc_law_some_share : FnScope N_law_some_share ["_law_deal_here"] (defScope s_law_some_share) := ⟨rfl, rfl, rfl, by decide +kernel, rfl, by decide +kernel, by decide +kernel⟩
abbrev s_law_near : Stmt := topS 14
abbrev N_law_near : List Str := ["_law_deal_here", "_law_mine", "_law_hair", "_law_a", "_law_b", "_law_near_here"]
theorem sc_law_near : FnScope N_law_near ["_law_deal_here", "_law_mine"] (defScope s_law_near) := ⟨rfl, rfl, rfl, by decide +kernel, rfl, by decide +kernel, by decide +kernel⟩
abbrev s_law : Stmt := topS 15
abbrev N_law : List Str := ["_law_script", "_law_deal_here", "_law_turn", "_law_mine", "_law_yours", "_law_first", "_law_second", "_law_due", "_law_found", "_law_more"]
theorem sc_law : FnScope N_law ["_law_script"] (defScope s_law) := ⟨rfl, rfl, rfl, by decide +kernel, rfl, by decide +kernel, by decide +kernel⟩
structure Txt (K : PySem.W.Frag) (mg : Str → Option Value) (ad : String → Addr) (fd : String → FuncData) : Prop where
  F_share_of : Fun K "share_of" "share_of" s_share_of (ad "share_of") (fd "share_of")
  g_share_of : mg "share_of" = some (.ref (ad "share_of"))
  F_is_less : Fun K "is_less" "is_less" s_is_less (ad "is_less") (fd "is_less")
  g_is_less : mg "is_less" = some (.ref (ad "is_less"))
  b_is_less : Binds K (fd "is_less") ["one", "other"] []
  F_law_deal : Fun K "_law_deal" "_law_deal" s_law_deal (ad "_law_deal") (fd "_law_deal")
  g_law_deal : mg "_law_deal" = some (.ref (ad "_law_deal"))
  b_law_deal : Binds K (fd "_law_deal") ["_law_script"] []
  F_law_draw : Fun K "_law_draw" "_law_draw" s_law_draw (ad "_law_draw") (fd "_law_draw")
  g_law_draw : mg "_law_draw" = some (.ref (ad "_law_draw"))
  b_law_draw : Binds K (fd "_law_draw") ["_law_deal_here", "_law_many"] []
  F_law_tens : Fun K "_law_tens" "_law_tens" s_law_tens (ad "_law_tens") (fd "_law_tens")
  g_law_tens : mg "_law_tens" = some (.ref (ad "_law_tens"))
  b_law_tens : Binds K (fd "_law_tens") ["_law_many"] []
  F_law_low : Fun K "_law_low" "_law_low" s_law_low (ad "_law_low") (fd "_law_low")
  g_law_low : mg "_law_low" = some (.ref (ad "_law_low"))
  b_law_low : Binds K (fd "_law_low") ["_law_upper", "_law_below"] []
  F_sum_of : Fun K "sum_of" "sum_of" s_sum_of (ad "sum_of") (fd "sum_of")
  g_sum_of : mg "sum_of" = some (.ref (ad "sum_of"))
  b_sum_of : Binds K (fd "sum_of") ["one", "other"] []
  F_law_figures : Fun K "_law_figures" "_law_figures" s_law_figures (ad "_law_figures") (fd "_law_figures")
  g_law_figures : mg "_law_figures" = some (.ref (ad "_law_figures"))
  b_law_figures : Binds K (fd "_law_figures") ["_law_deal_here", "_law_many"] []
  F_law_whole : Fun K "_law_whole" "_law_whole" s_law_whole (ad "_law_whole") (fd "_law_whole")
  g_law_whole : mg "_law_whole" = some (.ref (ad "_law_whole"))
  b_law_whole : Binds K (fd "_law_whole") ["_law_deal_here"] []
  F_law_some_share : Fun K "_law_some_share" "_law_some_share" s_law_some_share (ad "_law_some_share") (fd "_law_some_share")
  g_law_some_share : mg "_law_some_share" = some (.ref (ad "_law_some_share"))
  b_law_some_share : Binds K (fd "_law_some_share") ["_law_deal_here"] []
  F_law_near : Fun K "_law_near" "_law_near" s_law_near (ad "_law_near") (fd "_law_near")
  g_law_near : mg "_law_near" = some (.ref (ad "_law_near"))
  b_law_near : Binds K (fd "_law_near") ["_law_deal_here", "_law_mine"] []
  F_law : Fun K "law" "law" s_law (ad "law") (fd "law")
  g_law : mg "law" = some (.ref (ad "law"))
  b_law : Binds K (fd "law") ["_law_script"] []
  k_share_of_1_lower : ∃ g', KBn K (fd "share_of") ["upper", "lower"] 1 ["lower"] g' (fun vs zs => [vs.getD 0 .non, zs.getD 0 .non])
  k_is_less_0_other_one : ∃ g', KBn K (fd "is_less") ["one", "other"] 0 ["other", "one"] g' (fun vs zs => [zs.getD 1 .non, zs.getD 0 .non])
  z_abs : mg "abs" = none
  z_max : mg "max" = none
  z_list : mg "list" = none
  z_reversed : mg "reversed" = none
  z_len : mg "len" = none
  z_int : mg "int" = none
  z_range : mg "range" = none
  z_isinstance : mg "isinstance" = none
  z_bool : mg "bool" = none
theorem kt_of {K : PySem.W.Frag} {a : Addr} {o : Value} {d : Option Addr} {its : Array Value} {n : Nat} {sl : Array (Option Value)} {xs : List V} (l : K.lookup a = some ⟨o, d, .seq its n, sl⟩) (h : o = .type "tuple" ∧ d = none ∧ its.size ≤ sizeLine ∧ Vals xs its.toList) : KT K a xs := fun _ => .inr ⟨_, its, n, l, h.1, rfl, h.2.2.1, h.2.2.2⟩
section
variable {P : Program} {w : World} {K : PySem.W.Frag} {mg : Str → Option Value} {base : Heap} {ad : String → Addr} {fd : String → FuncData}
theorem ok_share_of (T : Txt K mg ad fd) : FnOk P w K mg base CX0 1 (ad "share_of") (fd "share_of") ["upper", "lower"] (sp_share_of K ad) := by
  have nd : (N_share_of).Nodup := sc_share_of.nd
  refine T.F_share_of.ok sc_share_of ln_share_of fun cdv B out t H vs Q E hr h => ⟨t_share_of K ad, ?_, rd_share_of  N_share_of rfl vs H Q E h⟩
  exact (pss_cons (ps_if (pt_cmpR (op_eqA (hu64 hr)) (pv 1) pe_int (nomark _)) (pss_one ps_never) pss_nil)
      (pss_cons (ps_par (i := 2) (j := 3) rfl nd rfl rfl (by decide) rfl rfl (pa_cons (pe_callB call_abs' (by rfl) T.z_abs (by decide +kernel) (pa_cons (pv 0) pa_nil)) (pa_cons (pe_callB call_abs' (by rfl) T.z_abs (by decide +kernel) (pa_cons (pv 1) pa_nil)) pa_nil)) rfl)
      (pss_cons (ps_while PassesOwn.never (pt_cmpR op_gtA (pv 3) pe_int (nomark _)) (pss_one (ps_par (i := 2) (j := 3) rfl nd rfl rfl (by decide) rfl rfl (pa_cons (pv 3) (pa_cons (pe_op op_modA (pv 2) (pv 3)) pa_nil)) rfl)))
      (C8.pss_cut (ps_if (pt_cmpR op_ltA (pv 1) pe_int (nomark _)) (pss_one (ps_set (i := 2) nd rfl (Or.inl rfl) (pe_op op_sub pe_int (pv 2)))) pss_nil)
      (pss_one (ps_ret (pe_tup (pa_cons (pe_op op_fdivA (pv 0) (pv 2)) (pa_cons (pe_op op_fdivA (pv 1) (pv 2)) pa_nil)))))))))
theorem ok_is_less (T : Txt K mg ad fd) : FnOk P w K mg base CX0 1 (ad "is_less") (fd "is_less") ["one", "other"] (sp_is_less K ad) := by
  have nd : (N_is_less).Nodup := sc_is_less.nd
  refine T.F_is_less.ok sc_is_less ln_is_less fun cdv B out t H vs Q E hr h => ⟨t_is_less K ad, ?_, rd_is_less  N_is_less rfl vs H Q E h⟩
  exact (pss_one (ps_ret (pe_cmpR op_ltA (pe_op op_mulA (pe_ix (ix_any (hu1 hr)) (pv 0) pe_int (fun _ _ => rfl)) (pe_ix (ix_any (hu1 hr)) (pv 1) pe_int (fun _ _ => rfl))) (pe_op op_mulA (pe_ix (ix_any (hu1 hr)) (pv 1) pe_int (fun _ _ => rfl)) (pe_ix (ix_any (hu1 hr)) (pv 0) pe_int (fun _ _ => rfl))) (nomark _))))
theorem ok_law_deal (T : Txt K mg ad fd) : FnOk P w K mg base CX0 1 (ad "_law_deal") (fd "_law_deal") ["_law_script"] (sp_law_deal K ad) := by
  have nd : (N_law_deal).Nodup := sc_law_deal.nd
  refine T.F_law_deal.ok sc_law_deal ln_law_deal fun cdv B out t H vs Q E hr h => ⟨t_law_deal K ad, ?_, rd_law_deal  N_law_deal rfl vs H Q E h⟩
  exact (pss_cons (ps_setLc (i := 2) (own := [("_law_mine", 1)]) (g := (gName 1)) (tt := tYes) rfl nd rfl rfl (sw_true rfl rfl rfl (by decide +kernel)) (pi_seq (pe_slice sl_any (pv 0) po_none (po_some pe_int))) (blkOk_by (N := N_law_deal) (sc := defScope s_law_deal) (by decide +kernel)) (fun _ _ _ _ _ => (pg_name (i := 1) nd rfl (Or.inl rfl))) (fun _ _ _ _ _ => pts_nil) (fun _ _ _ _ _ => (pe_callB (call_max2' rfl) (by rfl) T.z_max (by decide +kernel) (pa_cons (pv 1) (pa_cons (pe_op op_sub pe_int (pv 1)) pa_nil)))))
      (pss_cons (ps_set (i := 3) nd rfl (Or.inl rfl) pe_int)
      (pss_cons (ps_for PassesOwn.never rfl (pi_seq (pv 2)) (pg_name (i := 1) nd rfl (Or.inl rfl)) (pss_one (ps_set (i := 3) nd rfl (Or.inl rfl) (pe_op op_modA (pe_op op_addA (pe_op op_mulA (pv 3) pe_int) (pe_op op_modA (pv 1) pe_int)) pe_int))))
      (pss_one (ps_ret (pe_disp (pps_cons pe_str (pv 3) (pps_cons pe_str pe_int (pps_cons pe_str (pe_listRev rfl (by rfl) T.z_list (by rfl) T.z_reversed (pe_lc (own := [("_law_mine", 1)]) (g := (gName 1)) (tt := (tTest (tOp rGe (tVar 1) (tOp (rI CPow fun i j => .int (i ^ j.toNat)) (tC (.int 10)) (tC (.int 18)))))) rfl nd (pi_seq (pv 2)) (blkOk_by (N := N_law_deal) (sc := defScope s_law_deal) (by decide +kernel)) (fun _ _ _ _ _ => (pg_name (i := 1) nd rfl (Or.inl rfl))) (fun _ _ _ _ _ => (pts_one (pt_cmpR op_geA (pv 1) (pe_op op_pow pe_int pe_int) (nomark _)))) (fun _ _ _ _ _ => (pv 1)))) pps_nil))) rfl rfl (by simp) (by decide)))))))
theorem ok_law_draw (T : Txt K mg ad fd) : FnOk P w K mg base CX0 1 (ad "_law_draw") (fd "_law_draw") ["_law_deal_here", "_law_many"] (sp_law_draw K ad) := by
  have nd : (N_law_draw).Nodup := sc_law_draw.nd
  refine T.F_law_draw.ok sc_law_draw ln_law_draw fun cdv B out t H vs Q E hr h => ⟨t_law_draw K ad, ?_, rd_law_draw  N_law_draw rfl vs H Q E h⟩
  exact (pss_cons (ps_while PassesOwn.never (PW.pt (pw_and (pt_cmpR (op_eqA (hu64 hr)) (pe_ix (ix_any (hu1 hr)) (pv 0) pe_str (fun _ _ => rfl)) pe_int (nomark _)) (pw_and1 (pt_cmpR op_gtA (pe_callB call_lenA (by rfl) T.z_len PySem.boot_len (pa_cons (pe_ix (ix_any (hu1 hr)) (pv 0) pe_str (fun _ _ => rfl)) pa_nil)) pe_int (nomark _))))) (pss_one (ps_asg (pe_bm0 PySem.F.plainAttrs_list PySem.F.slot_list_pop PySem.F.type_list_pop mt_pop (pe_ix (ix_any (hu1 hr)) (pv 0) pe_str (fun _ _ => rfl))) (pg_sub (pv 0) pe_str (set_any (hu1 hr))))))
      (pss_cons (ps_set (i := 2) nd rfl (Or.inl rfl) (pe_ix (ix_any (hu1 hr)) (pv 0) pe_str (fun _ _ => rfl)))
      (pss_cons (ps_if (pt_cmpR op_gtA (pv 2) pe_int (nomark _)) (pss_cons (ps_asg (pe_op op_fdivA (pv 2) (pv 1)) (pg_sub (pv 0) pe_str (set_any (hu1 hr))))
      (pss_one (ps_ret (pe_op op_modA (pv 2) (pv 1))))) pss_nil)
      (pss_cons (ps_set (i := 3) nd rfl (Or.inl rfl) (pe_op op_modA (pe_op op_addA (pe_op op_mulA (pe_ix (ix_any (hu1 hr)) (pv 0) pe_str (fun _ _ => rfl)) pe_int) pe_int) pe_int))
      (pss_cons (ps_asg (pe_op op_modA (pe_op op_addA (pe_op op_mulA (pv 3) pe_int) pe_int) pe_int) (pg_sub (pv 0) pe_str (set_any (hu1 hr))))
      (pss_cons (ps_set (i := 4) nd rfl (Or.inl rfl) (pe_op op_modA (pe_op op_mulA (pe_ix (ix_any (hu1 hr)) (pv 0) pe_str (fun _ _ => rfl)) (pe_ix (ix_any (hu1 hr)) (pv 0) pe_str (fun _ _ => rfl))) pe_int))
      (pss_one (ps_ret (pe_op op_modA (pe_op op_addA (pe_op op_mulA (pe_op op_modA (pe_op op_mulA (pv 3) (pv 3)) pe_int) pe_int) (pv 4)) (pv 1))))))))))
theorem ok_law_tens (T : Txt K mg ad fd) (hnd : base.NoDigits) : FnOk P w K mg base CX0 1 (ad "_law_tens") (fd "_law_tens") ["_law_many"] (sp_law_tens K ad) := by
  have nd : (N_law_tens).Nodup := sc_law_tens.nd
  refine T.F_law_tens.ok sc_law_tens ln_law_tens fun cdv B out t H vs Q E hr h => ⟨t_law_tens K ad, ?_, rd_law_tens  N_law_tens rfl vs H Q E h⟩
  exact (pss_one (ps_ret (pe_callTy (call_intT hnd) (by rfl) T.z_int (by decide +kernel) (pa_cons (pe_op op_addA pe_str (pe_op op_mulA pe_str (pv 0))) pa_nil))))
theorem ok_law_low (T : Txt K mg ad fd) : FnOk P w K mg base CX0 1 (ad "_law_low") (fd "_law_low") ["_law_upper", "_law_below"] (sp_law_low K ad) := by
  have nd : (N_law_low).Nodup := sc_law_low.nd
  refine T.F_law_low.ok sc_law_low ln_law_low fun cdv B out t H vs Q E hr h => ⟨t_law_low K ad, ?_, rd_law_low  N_law_low rfl vs H Q E h⟩
  exact (pss_cons (ps_par (i := 2) (j := 3) rfl nd rfl rfl (by decide) rfl rfl (pa_cons (pe_callB call_abs' (by rfl) T.z_abs (by decide +kernel) (pa_cons (pv 0) pa_nil)) (pa_cons (pe_callB call_abs' (by rfl) T.z_abs (by decide +kernel) (pa_cons (pv 1) pa_nil)) pa_nil)) rfl)
      (pss_cons (ps_while PassesOwn.never (pt_cmpR (op_neA (hu64 hr)) (pv 3) pe_int (nomark _)) (pss_one (ps_par (i := 2) (j := 3) rfl nd rfl rfl (by decide) rfl rfl (pa_cons (pv 3) (pa_cons (pe_op op_modA (pv 2) (pv 3)) pa_nil)) rfl)))
      (pss_cons (ps_set (i := 4) nd rfl (Or.inl rfl) (pe_op op_sub pe_int (pe_op op_mulA pe_int (pe_callTy call_intA (by rfl) T.z_int (by decide +kernel) (pa_cons (pe_cmpR op_ltA (pv 1) pe_int (nomark _)) pa_nil)))))
      (pss_one (ps_ret (pe_tup (pa_cons (pe_op op_fdivA (pe_op op_mulA (pv 4) (pv 0)) (pv 2)) (pa_cons (pe_op op_fdivA (pe_op op_mulA (pv 4) (pv 1)) (pv 2)) pa_nil))))))))
theorem ok_sum_of (T : Txt K mg ad fd) : FnOk P w K mg base CX0 2 (ad "sum_of") (fd "sum_of") ["one", "other"] (sp_sum_of K ad) := by
  have nd : (N_sum_of).Nodup := sc_sum_of.nd
  have G_share_of := ok_share_of (P := P) (w := w) (base := base) T
  refine T.F_sum_of.ok sc_sum_of ln_sum_of fun cdv B out t H vs Q E hr h => ⟨t_sum_of K ad, ?_, rd_sum_of  N_sum_of rfl vs H Q E h⟩
  exact (pss_one (ps_ret (pe_callN (ks := ["lower"]) G_share_of (hr.mono (by decide)) (by rfl) T.g_share_of T.F_share_of.kp T.k_share_of_1_lower.choose_spec pass0 (pa_cons (pe_op op_addA (pe_op op_mulA (pe_ix (ix_any (hu1 hr)) (pv 0) pe_int (fun _ _ => rfl)) (pe_ix (ix_any (hu1 hr)) (pv 1) pe_int (fun _ _ => rfl))) (pe_op op_mulA (pe_ix (ix_any (hu1 hr)) (pv 1) pe_int (fun _ _ => rfl)) (pe_ix (ix_any (hu1 hr)) (pv 0) pe_int (fun _ _ => rfl)))) pa_nil) (pk_cons (pe_op op_mulA (pe_ix (ix_any (hu1 hr)) (pv 0) pe_int (fun _ _ => rfl)) (pe_ix (ix_any (hu1 hr)) (pv 1) pe_int (fun _ _ => rfl))) pk_nil))))
theorem ok_law_figures (T : Txt K mg ad fd) (hnd : base.NoDigits) : FnOk P w K mg base CX0 2 (ad "_law_figures") (fd "_law_figures") ["_law_deal_here", "_law_many"] (sp_law_figures K ad) := by
  have nd : (N_law_figures).Nodup := sc_law_figures.nd
  have G_law_draw := ok_law_draw (P := P) (w := w) (base := base) T
  have G_law_tens := ok_law_tens (P := P) (w := w) (base := base) T hnd
  refine T.F_law_figures.ok sc_law_figures ln_law_figures fun cdv B out t H vs Q E hr h => ⟨t_law_figures K ad, ?_, rd_law_figures  N_law_figures rfl vs H Q E h⟩
  exact (pss_cons (ps_set (i := 2) nd rfl (Or.inl rfl) pe_int)
      (pss_cons (ps_for PassesOwn.never rfl (pi_range1 (by rfl) T.z_range (pa_cons (pe_op op_addA pe_int (pe_op op_fdivA (pv 1) pe_int)) pa_nil)) (pg_name (i := 3) nd rfl (Or.inl rfl)) (pss_one (ps_set (i := 2) nd rfl (Or.inl rfl) (pe_op op_addA (pe_op op_mulA (pv 2) (pe_op op_pow pe_int pe_int)) (pe_call G_law_draw (hr.mono (by decide)) (by rfl) T.g_law_draw T.F_law_draw.kp T.b_law_draw .nil pass0 (pa_cons (pv 0) (pa_cons (pe_op op_pow pe_int pe_int) pa_nil)))))))
      (pss_one (ps_ret (pe_op op_modA (pv 2) (pe_call G_law_tens (hr.mono (by decide)) (by rfl) T.g_law_tens T.F_law_tens.kp T.b_law_tens .nil pass0 (pa_cons (pe_op op_addA pe_int (pe_call G_law_draw (hr.mono (by decide)) (by rfl) T.g_law_draw T.F_law_draw.kp T.b_law_draw .nil pass0 (pa_cons (pv 0) (pa_cons (pv 1) pa_nil)))) pa_nil)))))))
theorem ok_law_whole (T : Txt K mg ad fd) (hnd : base.NoDigits) : FnOk P w K mg base CX0 3 (ad "_law_whole") (fd "_law_whole") ["_law_deal_here"] (sp_law_whole K ad) := by
  have nd : (N_law_whole).Nodup := sc_law_whole.nd
  have G_law_draw := ok_law_draw (P := P) (w := w) (base := base) T
  have G_law_figures := ok_law_figures (P := P) (w := w) (base := base) T hnd
  refine T.F_law_whole.ok sc_law_whole ln_law_whole fun cdv B out t H vs Q E hr h => ⟨t_law_whole K ad, ?_, rd_law_whole  N_law_whole rfl vs H Q E h⟩
  exact (pss_cons (ps_par (i := 1) (j := 2) rfl nd rfl rfl (by decide) rfl rfl (pa_cons (pe_call G_law_draw (hr.mono (by decide)) (by rfl) T.g_law_draw T.F_law_draw.kp T.b_law_draw .nil pass0 (pa_cons (pv 0) (pa_cons pe_int pa_nil))) (pa_cons (pe_op op_sub pe_int (pe_op op_mulA pe_int (pe_call G_law_draw (hr.mono (by decide)) (by rfl) T.g_law_draw T.F_law_draw.kp T.b_law_draw .nil pass0 (pa_cons (pv 0) (pa_cons pe_int pa_nil))))) pa_nil)) rfl)
      (pss_cons (ps_if (pt_cmpR op_ltA (pv 1) pe_int (nomark _)) (pss_one (ps_ret (pe_op op_mulA (pv 2) (pe_call G_law_draw (hr.mono (by decide)) (by rfl) T.g_law_draw T.F_law_draw.kp T.b_law_draw .nil pass0 (pa_cons (pv 0) (pa_cons (pe_ix (ix_any (hu1 hr)) (pe_lst (pa_cons pe_int (pa_cons pe_int (pa_cons pe_int (pa_cons pe_int pa_nil))))) (pv 1) (fun _ _ => rfl)) pa_nil)))))) pss_nil)
      (pss_one (ps_ret (pe_op op_mulA (pv 2) (pe_call G_law_figures (hr.mono (by decide)) (by rfl) T.g_law_figures T.F_law_figures.kp T.b_law_figures .nil pass0 (pa_cons (pv 0) (pa_cons (pe_ix (ix_any (hu1 hr)) (pe_lst (pa_cons pe_int (pa_cons pe_int (pa_cons pe_int (pa_cons pe_int pa_nil))))) (pe_op op_sub (pv 1) pe_int) (fun _ _ => rfl)) pa_nil))))))))
theorem ok_law_some_share (T : Txt K mg ad fd) (hnd : base.NoDigits) : FnOk P w K mg base CX0 4 (ad "_law_some_share") (fd "_law_some_share") ["_law_deal_here"] (sp_law_some_share K ad) := by
  have nd : (N_law_some_share).Nodup := sc_law_some_share.nd
  have G_law_whole := ok_law_whole (P := P) (w := w) (base := base) T hnd
  have G_law_low := ok_law_low (P := P) (w := w) (base := base) T
  have G_law_draw := ok_law_draw (P := P) (w := w) (base := base) T
  refine T.F_law_some_share.ok sc_law_some_share ln_law_some_share fun cdv B out t H vs Q E hr h => ⟨t_law_some_share K ad, ?_, rd_law_some_share  N_law_some_share rfl vs H Q E h⟩
  exact (pss_cons (ps_set (i := 1) nd rfl (Or.inl rfl) (pe_call G_law_whole (hr.mono (by decide)) (by rfl) T.g_law_whole T.F_law_whole.kp T.b_law_whole .nil pass0 (pa_cons (pv 0) pa_nil)))
      (pss_one (ps_ret (pe_call G_law_low (hr.mono (by decide)) (by rfl) T.g_law_low T.F_law_low.kp T.b_law_low .nil pass0 (pa_cons (pe_call G_law_whole (hr.mono (by decide)) (by rfl) T.g_law_whole T.F_law_whole.kp T.b_law_whole .nil pass0 (pa_cons (pv 0) pa_nil)) (pa_cons (pe_ix (ix_any (hu1 hr)) (pe_lst (pa_cons (pv 1) (pa_cons pe_int pa_nil))) (pe_callTy call_intA (by rfl) T.z_int (by decide +kernel) (pa_cons (pe_or (pe_cmpR (op_eqA (hu64 hr)) (pv 1) pe_int (nomark _)) (pe_one (pe_cmpR (op_eqA (hu64 hr)) (pe_call G_law_draw (hr.mono (by decide)) (by rfl) T.g_law_draw T.F_law_draw.kp T.b_law_draw .nil pass0 (pa_cons (pv 0) (pa_cons pe_int pa_nil))) pe_int (nomark _)))) pa_nil)) (fun _ _ => rfl)) pa_nil))))))
theorem ok_law_near (T : Txt K mg ad fd) (hnd : base.NoDigits) : FnOk P w K mg base CX0 5 (ad "_law_near") (fd "_law_near") ["_law_deal_here", "_law_mine"] (sp_law_near K ad) := by
  have nd : (N_law_near).Nodup := sc_law_near.nd
  have G_law_low := ok_law_low (P := P) (w := w) (base := base) T
  have G_law_figures := ok_law_figures (P := P) (w := w) (base := base) T hnd
  have G_law_draw := ok_law_draw (P := P) (w := w) (base := base) T
  have G_law_some_share := ok_law_some_share (P := P) (w := w) (base := base) T hnd
  refine T.F_law_near.ok sc_law_near ln_law_near fun cdv B out t H vs Q E hr h => ⟨t_law_near K ad, ?_, rd_law_near  N_law_near rfl vs H Q E h⟩
  exact (pss_cons (ps_set (i := 2) nd rfl (Or.inl rfl) (pe_call G_law_low (hr.mono (by decide)) (by rfl) T.g_law_low T.F_law_low.kp T.b_law_low .nil pass0 (pa_cons (pe_op op_sub pe_int (pe_op op_mulA pe_int (pe_call G_law_draw (hr.mono (by decide)) (by rfl) T.g_law_draw T.F_law_draw.kp T.b_law_draw .nil pass0 (pa_cons (pv 0) (pa_cons pe_int pa_nil))))) (pa_cons (pe_op op_addA pe_int (pe_call G_law_figures (hr.mono (by decide)) (by rfl) T.g_law_figures T.F_law_figures.kp T.b_law_figures .nil pass0 (pa_cons (pv 0) (pa_cons (pe_ix (ix_any (hu1 hr)) (pe_lst (pa_cons pe_int (pa_cons pe_int (pa_cons pe_int pa_nil)))) (pe_call G_law_draw (hr.mono (by decide)) (by rfl) T.g_law_draw T.F_law_draw.kp T.b_law_draw .nil pass0 (pa_cons (pv 0) (pa_cons pe_int pa_nil))) (fun _ _ => rfl)) pa_nil)))) pa_nil))))
      (pss_cons (ps_asg (pv 1) (pg_tup rfl (pgs_cons (pg_name (i := 3) nd rfl (Or.inl rfl)) (pgs_cons (pg_name (i := 4) nd rfl (Or.inl rfl)) pgs_nil))))
      (pss_cons (ps_set (i := 5) nd rfl (Or.inl rfl) (pe_call G_law_low (hr.mono (by decide)) (by rfl) T.g_law_low T.F_law_low.kp T.b_law_low .nil pass0 (pa_cons (pe_op op_addA (pe_op op_mulA (pv 3) (pe_ix (ix_any (hu1 hr)) (pv 2) pe_int (fun _ _ => rfl))) (pe_op op_mulA (pe_ix (ix_any (hu1 hr)) (pv 2) pe_int (fun _ _ => rfl)) (pv 4))) (pa_cons (pe_op op_mulA (pv 4) (pe_ix (ix_any (hu1 hr)) (pv 2) pe_int (fun _ _ => rfl))) pa_nil))))
      (pss_one (ps_ret (pe_ix (ix_any (hu1 hr)) (pe_lst (pa_cons (pe_call G_law_some_share (hr.mono (by decide)) (by rfl) T.g_law_some_share T.F_law_some_share.kp T.b_law_some_share .nil pass0 (pa_cons (pv 0) pa_nil)) (pa_cons (pv 1) (pa_cons (pe_tup (pa_cons (pe_op op_sub pe_int (pv 3)) (pa_cons (pv 4) pa_nil))) (pa_cons (pv 5) (pa_cons (pv 5) pa_nil)))))) (pe_call G_law_draw (hr.mono (by decide)) (by rfl) T.g_law_draw T.F_law_draw.kp T.b_law_draw .nil pass0 (pa_cons (pv 0) (pa_cons pe_int pa_nil))) (fun _ _ => rfl)))))))
theorem ok_law (T : Txt K mg ad fd) (hnd : base.NoDigits) : FnOk P w K mg base CX0 6 (ad "law") (fd "law") ["_law_script"] (sp_law K ad) := by
  have nd : (N_law).Nodup := sc_law.nd
  have G_law_deal := ok_law_deal (P := P) (w := w) (base := base) T
  have G_law_some_share := ok_law_some_share (P := P) (w := w) (base := base) T hnd
  have G_law_near := ok_law_near (P := P) (w := w) (base := base) T hnd
  have G_is_less := ok_is_less (P := P) (w := w) (base := base) T
  have G_sum_of := ok_sum_of (P := P) (w := w) (base := base) T
  have G_law_draw := ok_law_draw (P := P) (w := w) (base := base) T
  refine T.F_law.ok sc_law ln_law fun cdv B out t H vs Q E hr h => ⟨t_law K ad, ?_, rd_law  N_law rfl vs H Q E h⟩
  exact (pss_cons (ps_set (i := 1) nd rfl (Or.inl rfl) (pe_call G_law_deal (hr.mono (by decide)) (by rfl) T.g_law_deal T.F_law_deal.kp T.b_law_deal .nil pass0 (pa_cons (pv 0) pa_nil)))
      (pss_cons (ps_for PassesOwn.never rfl (pi_range1 (by rfl) T.z_range (pa_cons pe_int pa_nil)) (pg_name (i := 2) nd rfl (Or.inl rfl)) (pss_cons (ps_set (i := 3) nd rfl (Or.inl rfl) (pe_call G_law_some_share (hr.mono (by decide)) (by rfl) T.g_law_some_share T.F_law_some_share.kp T.b_law_some_share .nil pass0 (pa_cons (pv 1) pa_nil)))
      (pss_cons (ps_set (i := 4) nd rfl (Or.inl rfl) (pe_call G_law_near (hr.mono (by decide)) (by rfl) T.g_law_near T.F_law_near.kp T.b_law_near .nil pass0 (pa_cons (pv 1) (pa_cons (pv 3) pa_nil))))
      (pss_cons (ps_for PassesOwn.never rfl (pi_seq (pe_tup (pa_cons (pe_tup (pa_cons (pv 3) (pa_cons (pv 4) pa_nil))) (pa_cons (pe_tup (pa_cons (pv 4) (pa_cons (pv 3) pa_nil))) (pa_cons (pe_tup (pa_cons (pv 3) (pa_cons (pv 3) pa_nil))) (pa_cons (pe_tup (pa_cons (pv 3) (pa_cons (pv 4) pa_nil))) pa_nil)))))) (pg_tup rfl (pgs_cons (pg_name (i := 5) nd rfl (Or.inl rfl)) (pgs_cons (pg_name (i := 6) nd rfl (Or.inl rfl)) pgs_nil))) (pss_cons (ps_set (i := 7) nd rfl (Or.inl rfl) (pe_cmpR op_ltA (pe_op op_mulA (pe_ix (ix_any (hu1 hr)) (pv 5) pe_int (fun _ _ => rfl)) (pe_ix (ix_any (hu1 hr)) (pv 6) pe_int (fun _ _ => rfl))) (pe_op op_mulA (pe_ix (ix_any (hu1 hr)) (pv 6) pe_int (fun _ _ => rfl)) (pe_ix (ix_any (hu1 hr)) (pv 5) pe_int (fun _ _ => rfl))) (nomark _)))
      (pss_one (ps_for PassesOwn.never rfl (pi_seq (pe_tup (pa_cons (pe_call G_is_less (hr.mono (by decide)) (by rfl) T.g_is_less T.F_is_less.kp T.b_is_less .nil pass0 (pa_cons (pv 5) (pa_cons (pv 6) pa_nil))) (pa_cons (pe_callN0 (ks := ["other", "one"]) G_is_less (hr.mono (by decide)) (by rfl) T.g_is_less T.F_is_less.kp T.k_is_less_0_other_one.choose_spec pass0 (pk_cons (pv 6) (pk_cons (pv 5) pk_nil))) pa_nil)))) (pg_name (i := 8) nd rfl (Or.inl rfl)) (pss_one (ps_if (PW.pt (pw_or (pt_not (pt_val (pe_callB call_isi (by rfl) T.z_isinstance (by decide +kernel) (pa_cons (pv 8) (pa_cons (pe_bltn (v := .ty "bool") rfl T.z_bool (by decide +kernel) rfl) pa_nil))))) (pw_or1 (pt_cmpR (op_neA (hu64 hr)) (pv 8) (pv 7) (nomark _))))) (pss_one (ps_ret pe_bl)) pss_nil))))))
      (pss_cons (ps_if (pt_cmpR (op_neA (hu64 hr)) (pe_or (pe_call G_is_less (hr.mono (by decide)) (by rfl) T.g_is_less T.F_is_less.kp T.b_is_less .nil pass0 (pa_cons (pv 3) (pa_cons (pv 4) pa_nil))) (pe_one (pe_call G_is_less (hr.mono (by decide)) (by rfl) T.g_is_less T.F_is_less.kp T.b_is_less .nil pass0 (pa_cons (pv 4) (pa_cons (pv 3) pa_nil))))) (pe_cmpR (op_neA (hu64 hr)) (pv 3) (pv 4) (nomark _)) (nomark _)) (pss_one (ps_ret pe_bl)) pss_nil)
      (pss_cons (ps_set (i := 9) nd rfl (Or.inl rfl) (pe_call G_sum_of (hr.mono (by decide)) (by rfl) T.g_sum_of T.F_sum_of.kp T.b_sum_of .nil pass0 (pa_cons (pv 3) (pa_cons (pe_tup (pa_cons pe_int (pa_cons (pe_op op_addA pe_int (pe_call G_law_draw (hr.mono (by decide)) (by rfl) T.g_law_draw T.F_law_draw.kp T.b_law_draw .nil pass0 (pa_cons (pv 1) (pa_cons (pe_op op_pow pe_int pe_int) pa_nil)))) pa_nil))) pa_nil))))
      (pss_one (ps_if (PW.pt (pw_or (pt_cmpR op_notA (pe_call G_is_less (hr.mono (by decide)) (by rfl) T.g_is_less T.F_is_less.kp T.b_is_less .nil pass0 (pa_cons (pv 3) (pa_cons (pv 9) pa_nil))) pe_bl (nomark _)) (pw_or1 (pt_cmpR op_notA (pe_call G_is_less (hr.mono (by decide)) (by rfl) T.g_is_less T.F_is_less.kp T.b_is_less .nil pass0 (pa_cons (pv 9) (pa_cons (pv 3) pa_nil))) pe_bl (nomark _))))) (pss_one (ps_ret pe_bl)) pss_nil))))))))
      (pss_one (ps_ret pe_bl))))
end
theorem all_mk {l : PySem.W.OpenLaw} {w : World} {K : PySem.W.Frag} {h : Heap} {mg : Str → Option Value} {fa : Addr} (X : K.In h) (G : h.Ns mainGlobals mg) (hfa : mg "law" = some (.ref fa))
    {f0 : Addr} {od0 an0 : Option Addr} {sl0 : Array (Option Value)} {oc0 kV0 dc0 pm0 cd0 ct0 : Value}
    {f1 : Addr} {od1 an1 : Option Addr} {sl1 : Array (Option Value)} {oc1 kV1 dc1 pm1 cd1 ct1 : Value}
    {f2 : Addr} {od2 an2 : Option Addr} {sl2 : Array (Option Value)} {oc2 kV2 dc2 pm2 cd2 ct2 : Value}
    {f3 : Addr} {od3 an3 : Option Addr} {sl3 : Array (Option Value)} {oc3 kV3 dc3 pm3 cd3 ct3 : Value}
    {f4 : Addr} {od4 an4 : Option Addr} {sl4 : Array (Option Value)} {oc4 kV4 dc4 pm4 cd4 ct4 : Value}
    {f5 : Addr} {od5 an5 : Option Addr} {sl5 : Array (Option Value)} {oc5 kV5 dc5 pm5 cd5 ct5 : Value}
    {f6 : Addr} {od6 an6 : Option Addr} {sl6 : Array (Option Value)} {oc6 kV6 dc6 pm6 cd6 ct6 : Value}
    {f7 : Addr} {od7 an7 : Option Addr} {sl7 : Array (Option Value)} {oc7 kV7 dc7 pm7 cd7 ct7 : Value}
    {f8 : Addr} {od8 an8 : Option Addr} {sl8 : Array (Option Value)} {oc8 kV8 dc8 pm8 cd8 ct8 : Value}
    {f9 : Addr} {od9 an9 : Option Addr} {sl9 : Array (Option Value)} {oc9 kV9 dc9 pm9 cd9 ct9 : Value}
    {f10 : Addr} {od10 an10 : Option Addr} {sl10 : Array (Option Value)} {oc10 kV10 dc10 pm10 cd10 ct10 : Value}
    {f11 : Addr} {od11 an11 : Option Addr} {sl11 : Array (Option Value)} {oc11 kV11 dc11 pm11 cd11 ct11 : Value}
    (a0 : PySem.W.nsIn K mainGlobals "share_of" = some (some (.ref f0)))
    (l0 : K.lookup f0 = some ⟨oc0, od0, .func (PySem.W.fnOf "share_of" "share_of" (defArgs s_share_of) (defBody s_share_of) (defScope s_share_of) .none kV0 dc0 pm0 an0 cd0 ct0), sl0⟩)
    (c0 : PySem.W.codeIn K cd0 "share_of" = true)
    (k0 : PySem.W.keepIn K (.ref f0) = true)
    (a1 : PySem.W.nsIn K mainGlobals "is_less" = some (some (.ref f1)))
    (l1 : K.lookup f1 = some ⟨oc1, od1, .func (PySem.W.fnOf "is_less" "is_less" (defArgs s_is_less) (defBody s_is_less) (defScope s_is_less) .none kV1 dc1 pm1 an1 cd1 ct1), sl1⟩)
    (c1 : PySem.W.codeIn K cd1 "is_less" = true)
    (k1 : PySem.W.keepIn K (.ref f1) = true)
    (a2 : PySem.W.nsIn K mainGlobals "_law_deal" = some (some (.ref f2)))
    (l2 : K.lookup f2 = some ⟨oc2, od2, .func (PySem.W.fnOf "_law_deal" "_law_deal" (defArgs s_law_deal) (defBody s_law_deal) (defScope s_law_deal) .none kV2 dc2 pm2 an2 cd2 ct2), sl2⟩)
    (c2 : PySem.W.codeIn K cd2 "_law_deal" = true)
    (k2 : PySem.W.keepIn K (.ref f2) = true)
    (a3 : PySem.W.nsIn K mainGlobals "_law_draw" = some (some (.ref f3)))
    (l3 : K.lookup f3 = some ⟨oc3, od3, .func (PySem.W.fnOf "_law_draw" "_law_draw" (defArgs s_law_draw) (defBody s_law_draw) (defScope s_law_draw) .none kV3 dc3 pm3 an3 cd3 ct3), sl3⟩)
    (c3 : PySem.W.codeIn K cd3 "_law_draw" = true)
    (k3 : PySem.W.keepIn K (.ref f3) = true)
    (a4 : PySem.W.nsIn K mainGlobals "_law_tens" = some (some (.ref f4)))
    (l4 : K.lookup f4 = some ⟨oc4, od4, .func (PySem.W.fnOf "_law_tens" "_law_tens" (defArgs s_law_tens) (defBody s_law_tens) (defScope s_law_tens) .none kV4 dc4 pm4 an4 cd4 ct4), sl4⟩)
    (c4 : PySem.W.codeIn K cd4 "_law_tens" = true)
    (k4 : PySem.W.keepIn K (.ref f4) = true)
    (a5 : PySem.W.nsIn K mainGlobals "_law_low" = some (some (.ref f5)))
    (l5 : K.lookup f5 = some ⟨oc5, od5, .func (PySem.W.fnOf "_law_low" "_law_low" (defArgs s_law_low) (defBody s_law_low) (defScope s_law_low) .none kV5 dc5 pm5 an5 cd5 ct5), sl5⟩)
    (c5 : PySem.W.codeIn K cd5 "_law_low" = true)
    (k5 : PySem.W.keepIn K (.ref f5) = true)
    (a6 : PySem.W.nsIn K mainGlobals "sum_of" = some (some (.ref f6)))
    (l6 : K.lookup f6 = some ⟨oc6, od6, .func (PySem.W.fnOf "sum_of" "sum_of" (defArgs s_sum_of) (defBody s_sum_of) (defScope s_sum_of) .none kV6 dc6 pm6 an6 cd6 ct6), sl6⟩)
    (c6 : PySem.W.codeIn K cd6 "sum_of" = true)
    (k6 : PySem.W.keepIn K (.ref f6) = true)
    (a7 : PySem.W.nsIn K mainGlobals "_law_figures" = some (some (.ref f7)))
    (l7 : K.lookup f7 = some ⟨oc7, od7, .func (PySem.W.fnOf "_law_figures" "_law_figures" (defArgs s_law_figures) (defBody s_law_figures) (defScope s_law_figures) .none kV7 dc7 pm7 an7 cd7 ct7), sl7⟩)
    (c7 : PySem.W.codeIn K cd7 "_law_figures" = true)
    (k7 : PySem.W.keepIn K (.ref f7) = true)
    (a8 : PySem.W.nsIn K mainGlobals "_law_whole" = some (some (.ref f8)))
    (l8 : K.lookup f8 = some ⟨oc8, od8, .func (PySem.W.fnOf "_law_whole" "_law_whole" (defArgs s_law_whole) (defBody s_law_whole) (defScope s_law_whole) .none kV8 dc8 pm8 an8 cd8 ct8), sl8⟩)
    (c8 : PySem.W.codeIn K cd8 "_law_whole" = true)
    (k8 : PySem.W.keepIn K (.ref f8) = true)
    (a9 : PySem.W.nsIn K mainGlobals "_law_some_share" = some (some (.ref f9)))
    (l9 : K.lookup f9 = some ⟨oc9, od9, .func (PySem.W.fnOf "_law_some_share" "_law_some_share" (defArgs s_law_some_share) (defBody s_law_some_share) (defScope s_law_some_share) .none kV9 dc9 pm9 an9 cd9 ct9), sl9⟩)
    (c9 : PySem.W.codeIn K cd9 "_law_some_share" = true)
    (k9 : PySem.W.keepIn K (.ref f9) = true)
    (a10 : PySem.W.nsIn K mainGlobals "_law_near" = some (some (.ref f10)))
    (l10 : K.lookup f10 = some ⟨oc10, od10, .func (PySem.W.fnOf "_law_near" "_law_near" (defArgs s_law_near) (defBody s_law_near) (defScope s_law_near) .none kV10 dc10 pm10 an10 cd10 ct10), sl10⟩)
    (c10 : PySem.W.codeIn K cd10 "_law_near" = true)
    (k10 : PySem.W.keepIn K (.ref f10) = true)
    (a11 : PySem.W.nsIn K mainGlobals "law" = some (some (.ref f11)))
    (l11 : K.lookup f11 = some ⟨oc11, od11, .func (PySem.W.fnOf "law" "law" (defArgs s_law) (defBody s_law) (defScope s_law) .none kV11 dc11 pm11 an11 cd11 ct11), sl11⟩)
    (c11 : PySem.W.codeIn K cd11 "law" = true)
    (k11 : PySem.W.keepIn K (.ref f11) = true)
    (z0 : PySem.W.nsIn K mainGlobals "abs" = some none)
    (z1 : PySem.W.nsIn K mainGlobals "max" = some none)
    (z2 : PySem.W.nsIn K mainGlobals "list" = some none)
    (z3 : PySem.W.nsIn K mainGlobals "reversed" = some none)
    (z4 : PySem.W.nsIn K mainGlobals "len" = some none)
    (z5 : PySem.W.nsIn K mainGlobals "int" = some none)
    (z6 : PySem.W.nsIn K mainGlobals "range" = some none)
    (z7 : PySem.W.nsIn K mainGlobals "isinstance" = some none)
    (z8 : PySem.W.nsIn K mainGlobals "bool" = some none) :
    ∃ fd : FuncData, (∀ (s : Shared) (v : Value), BindsTo s fd ⟨[v], []⟩ [("_law_script", v)]) ∧ ∀ base : Heap, K.In base → base.Ns mainGlobals mg → base.NoDigits → FnG l.prog w K mg base CX0 6 fa fd ["_law_script"] (spL K) := by
  have e := hfa.symm.trans (PySem.W.mg_of X G a11)
  obtain rfl : f11 = fa := by cases e; rfl
  have F0 := fun_mk (st := s_share_of) l0 c0 k0
  have F1 := fun_mk (st := s_is_less) l1 c1 k1
  have b1 := F1.binds (ps := ["one", "other"]) fun _ _ _ _ _ _ us hl => match us, hl with | [_, _], _ => rfl
  have F2 := fun_mk (st := s_law_deal) l2 c2 k2
  have b2 := F2.binds (ps := ["_law_script"]) fun _ _ _ _ _ _ us hl => match us, hl with | [_], _ => rfl
  have F3 := fun_mk (st := s_law_draw) l3 c3 k3
  have b3 := F3.binds (ps := ["_law_deal_here", "_law_many"]) fun _ _ _ _ _ _ us hl => match us, hl with | [_, _], _ => rfl
  have F4 := fun_mk (st := s_law_tens) l4 c4 k4
  have b4 := F4.binds (ps := ["_law_many"]) fun _ _ _ _ _ _ us hl => match us, hl with | [_], _ => rfl
  have F5 := fun_mk (st := s_law_low) l5 c5 k5
  have b5 := F5.binds (ps := ["_law_upper", "_law_below"]) fun _ _ _ _ _ _ us hl => match us, hl with | [_, _], _ => rfl
  have F6 := fun_mk (st := s_sum_of) l6 c6 k6
  have b6 := F6.binds (ps := ["one", "other"]) fun _ _ _ _ _ _ us hl => match us, hl with | [_, _], _ => rfl
  have F7 := fun_mk (st := s_law_figures) l7 c7 k7
  have b7 := F7.binds (ps := ["_law_deal_here", "_law_many"]) fun _ _ _ _ _ _ us hl => match us, hl with | [_, _], _ => rfl
  have F8 := fun_mk (st := s_law_whole) l8 c8 k8
  have b8 := F8.binds (ps := ["_law_deal_here"]) fun _ _ _ _ _ _ us hl => match us, hl with | [_], _ => rfl
  have F9 := fun_mk (st := s_law_some_share) l9 c9 k9
  have b9 := F9.binds (ps := ["_law_deal_here"]) fun _ _ _ _ _ _ us hl => match us, hl with | [_], _ => rfl
  have F10 := fun_mk (st := s_law_near) l10 c10 k10
  have b10 := F10.binds (ps := ["_law_deal_here", "_law_mine"]) fun _ _ _ _ _ _ us hl => match us, hl with | [_, _], _ => rfl
  have F11 := fun_mk (st := s_law) l11 c11 k11
  have b11 := F11.binds (ps := ["_law_script"]) fun _ _ _ _ _ _ us hl => match us, hl with | [_], _ => rfl
  let ad : String → Addr := fun s => if s = "share_of" then f0 else if s = "is_less" then f1 else if s = "_law_deal" then f2 else if s = "_law_draw" then f3 else if s = "_law_tens" then f4 else if s = "_law_low" then f5 else if s = "sum_of" then f6 else if s = "_law_figures" then f7 else if s = "_law_whole" then f8 else if s = "_law_some_share" then f9 else if s = "_law_near" then f10 else if s = "law" then f11 else 0
  let fd : String → FuncData := fun s => if s = "share_of" then PySem.W.fnOf "share_of" "share_of" (defArgs s_share_of) (defBody s_share_of) (defScope s_share_of) .none kV0 dc0 pm0 an0 cd0 ct0 else if s = "is_less" then PySem.W.fnOf "is_less" "is_less" (defArgs s_is_less) (defBody s_is_less) (defScope s_is_less) .none kV1 dc1 pm1 an1 cd1 ct1 else if s = "_law_deal" then PySem.W.fnOf "_law_deal" "_law_deal" (defArgs s_law_deal) (defBody s_law_deal) (defScope s_law_deal) .none kV2 dc2 pm2 an2 cd2 ct2 else if s = "_law_draw" then PySem.W.fnOf "_law_draw" "_law_draw" (defArgs s_law_draw) (defBody s_law_draw) (defScope s_law_draw) .none kV3 dc3 pm3 an3 cd3 ct3 else if s = "_law_tens" then PySem.W.fnOf "_law_tens" "_law_tens" (defArgs s_law_tens) (defBody s_law_tens) (defScope s_law_tens) .none kV4 dc4 pm4 an4 cd4 ct4 else if s = "_law_low" then PySem.W.fnOf "_law_low" "_law_low" (defArgs s_law_low) (defBody s_law_low) (defScope s_law_low) .none kV5 dc5 pm5 an5 cd5 ct5 else if s = "sum_of" then PySem.W.fnOf "sum_of" "sum_of" (defArgs s_sum_of) (defBody s_sum_of) (defScope s_sum_of) .none kV6 dc6 pm6 an6 cd6 ct6 else if s = "_law_figures" then PySem.W.fnOf "_law_figures" "_law_figures" (defArgs s_law_figures) (defBody s_law_figures) (defScope s_law_figures) .none kV7 dc7 pm7 an7 cd7 ct7 else if s = "_law_whole" then PySem.W.fnOf "_law_whole" "_law_whole" (defArgs s_law_whole) (defBody s_law_whole) (defScope s_law_whole) .none kV8 dc8 pm8 an8 cd8 ct8 else if s = "_law_some_share" then PySem.W.fnOf "_law_some_share" "_law_some_share" (defArgs s_law_some_share) (defBody s_law_some_share) (defScope s_law_some_share) .none kV9 dc9 pm9 an9 cd9 ct9 else if s = "_law_near" then PySem.W.fnOf "_law_near" "_law_near" (defArgs s_law_near) (defBody s_law_near) (defScope s_law_near) .none kV10 dc10 pm10 an10 cd10 ct10 else if s = "law" then PySem.W.fnOf "law" "law" (defArgs s_law) (defBody s_law) (defScope s_law) .none kV11 dc11 pm11 an11 cd11 ct11 else default
  have ha0 : ad "share_of" = f0 := by simp [ad]
  have hf0 : fd "share_of" = PySem.W.fnOf "share_of" "share_of" (defArgs s_share_of) (defBody s_share_of) (defScope s_share_of) .none kV0 dc0 pm0 an0 cd0 ct0 := by simp [fd]
  have ha1 : ad "is_less" = f1 := by simp [ad]
  have hf1 : fd "is_less" = PySem.W.fnOf "is_less" "is_less" (defArgs s_is_less) (defBody s_is_less) (defScope s_is_less) .none kV1 dc1 pm1 an1 cd1 ct1 := by simp [fd]
  have ha2 : ad "_law_deal" = f2 := by simp [ad]
  have hf2 : fd "_law_deal" = PySem.W.fnOf "_law_deal" "_law_deal" (defArgs s_law_deal) (defBody s_law_deal) (defScope s_law_deal) .none kV2 dc2 pm2 an2 cd2 ct2 := by simp [fd]
  have ha3 : ad "_law_draw" = f3 := by simp [ad]
  have hf3 : fd "_law_draw" = PySem.W.fnOf "_law_draw" "_law_draw" (defArgs s_law_draw) (defBody s_law_draw) (defScope s_law_draw) .none kV3 dc3 pm3 an3 cd3 ct3 := by simp [fd]
  have ha4 : ad "_law_tens" = f4 := by simp [ad]
  have hf4 : fd "_law_tens" = PySem.W.fnOf "_law_tens" "_law_tens" (defArgs s_law_tens) (defBody s_law_tens) (defScope s_law_tens) .none kV4 dc4 pm4 an4 cd4 ct4 := by simp [fd]
  have ha5 : ad "_law_low" = f5 := by simp [ad]
  have hf5 : fd "_law_low" = PySem.W.fnOf "_law_low" "_law_low" (defArgs s_law_low) (defBody s_law_low) (defScope s_law_low) .none kV5 dc5 pm5 an5 cd5 ct5 := by simp [fd]
  have ha6 : ad "sum_of" = f6 := by simp [ad]
  have hf6 : fd "sum_of" = PySem.W.fnOf "sum_of" "sum_of" (defArgs s_sum_of) (defBody s_sum_of) (defScope s_sum_of) .none kV6 dc6 pm6 an6 cd6 ct6 := by simp [fd]
  have ha7 : ad "_law_figures" = f7 := by simp [ad]
  have hf7 : fd "_law_figures" = PySem.W.fnOf "_law_figures" "_law_figures" (defArgs s_law_figures) (defBody s_law_figures) (defScope s_law_figures) .none kV7 dc7 pm7 an7 cd7 ct7 := by simp [fd]
  have ha8 : ad "_law_whole" = f8 := by simp [ad]
  have hf8 : fd "_law_whole" = PySem.W.fnOf "_law_whole" "_law_whole" (defArgs s_law_whole) (defBody s_law_whole) (defScope s_law_whole) .none kV8 dc8 pm8 an8 cd8 ct8 := by simp [fd]
  have ha9 : ad "_law_some_share" = f9 := by simp [ad]
  have hf9 : fd "_law_some_share" = PySem.W.fnOf "_law_some_share" "_law_some_share" (defArgs s_law_some_share) (defBody s_law_some_share) (defScope s_law_some_share) .none kV9 dc9 pm9 an9 cd9 ct9 := by simp [fd]
  have ha10 : ad "_law_near" = f10 := by simp [ad]
  have hf10 : fd "_law_near" = PySem.W.fnOf "_law_near" "_law_near" (defArgs s_law_near) (defBody s_law_near) (defScope s_law_near) .none kV10 dc10 pm10 an10 cd10 ct10 := by simp [fd]
  have ha11 : ad "law" = f11 := by simp [ad]
  have hf11 : fd "law" = PySem.W.fnOf "law" "law" (defArgs s_law) (defBody s_law) (defScope s_law) .none kV11 dc11 pm11 an11 cd11 ct11 := by simp [fd]
  clear_value ad fd
  have T : Txt K mg ad fd := {
    F_share_of := by rw [ha0, hf0]; exact F0
    g_share_of := by rw [ha0]; exact PySem.W.mg_of X G a0
    F_is_less := by rw [ha1, hf1]; exact F1
    g_is_less := by rw [ha1]; exact PySem.W.mg_of X G a1
    b_is_less := by rw [hf1]; exact b1
    F_law_deal := by rw [ha2, hf2]; exact F2
    g_law_deal := by rw [ha2]; exact PySem.W.mg_of X G a2
    b_law_deal := by rw [hf2]; exact b2
    F_law_draw := by rw [ha3, hf3]; exact F3
    g_law_draw := by rw [ha3]; exact PySem.W.mg_of X G a3
    b_law_draw := by rw [hf3]; exact b3
    F_law_tens := by rw [ha4, hf4]; exact F4
    g_law_tens := by rw [ha4]; exact PySem.W.mg_of X G a4
    b_law_tens := by rw [hf4]; exact b4
    F_law_low := by rw [ha5, hf5]; exact F5
    g_law_low := by rw [ha5]; exact PySem.W.mg_of X G a5
    b_law_low := by rw [hf5]; exact b5
    F_sum_of := by rw [ha6, hf6]; exact F6
    g_sum_of := by rw [ha6]; exact PySem.W.mg_of X G a6
    b_sum_of := by rw [hf6]; exact b6
    F_law_figures := by rw [ha7, hf7]; exact F7
    g_law_figures := by rw [ha7]; exact PySem.W.mg_of X G a7
    b_law_figures := by rw [hf7]; exact b7
    F_law_whole := by rw [ha8, hf8]; exact F8
    g_law_whole := by rw [ha8]; exact PySem.W.mg_of X G a8
    b_law_whole := by rw [hf8]; exact b8
    F_law_some_share := by rw [ha9, hf9]; exact F9
    g_law_some_share := by rw [ha9]; exact PySem.W.mg_of X G a9
    b_law_some_share := by rw [hf9]; exact b9
    F_law_near := by rw [ha10, hf10]; exact F10
    g_law_near := by rw [ha10]; exact PySem.W.mg_of X G a10
    b_law_near := by rw [hf10]; exact b10
    F_law := by rw [ha11, hf11]; exact F11
    g_law := by rw [ha11]; exact PySem.W.mg_of X G a11
    b_law := by rw [hf11]; exact b11
    k_share_of_1_lower := by rw [hf0]; exact fun_kb F0 1 ["lower"] (fun us ws => [us.getD 0 .none, ws.getD 0 .none]) (fun vs zs => [vs.getD 0 .non, zs.getD 0 .non]) (fun r1 r2 => .cons (rel_getD 0 r1) (.cons (rel_getD 0 r2) (.nil))) (fun _ _ _ _ _ _ us ws l1 l2 => match us, ws, l1, l2 with | [_], [_], _, _ => rfl)
    k_is_less_0_other_one := by rw [hf1]; exact fun_kb F1 0 ["other", "one"] (fun us ws => [ws.getD 1 .none, ws.getD 0 .none]) (fun vs zs => [zs.getD 1 .non, zs.getD 0 .non]) (fun r1 r2 => .cons (rel_getD 1 r2) (.cons (rel_getD 0 r2) (.nil))) (fun _ _ _ _ _ _ us ws l1 l2 => match us, ws, l1, l2 with | [], [_, _], _, _ => rfl)
    z_abs := PySem.W.mg_none_of X G z0
    z_max := PySem.W.mg_none_of X G z1
    z_list := PySem.W.mg_none_of X G z2
    z_reversed := PySem.W.mg_none_of X G z3
    z_len := PySem.W.mg_none_of X G z4
    z_int := PySem.W.mg_none_of X G z5
    z_range := PySem.W.mg_none_of X G z6
    z_isinstance := PySem.W.mg_none_of X G z7
    z_bool := PySem.W.mg_none_of X G z8
  }
  refine ⟨PySem.W.fnOf "law" "law" (defArgs s_law) (defBody s_law) (defScope s_law) .none kV11 dc11 pm11 an11 cd11 ct11, fun s v => .of_eq rfl, fun base _ _ hnd => ?_⟩
  have r := ok_law (P := l.prog) (w := w) (base := base) T hnd
  rw [ha11, hf11] at r
  exact FnG.of r
end Ct
open PySem PySem.W PyProof.Rows Ct
set_option maxHeartbeats 0 in
theorem PySem.Challenge.cw_chancetongue_k03_which_share_is_less_holds : PySem.Challenge.rw_chancetongue_k03_which_share_is_less.Holds := by
  w_on; o_law; k_head; (case hw => w_witness2)
  k_fill
  refine Ct.walk_ofG (l := PySem.Challenge.rw_chancetongue_k03_which_share_is_less) (n := 63) (k := 6) (x := "_law_script") (CX := fun _ => L2.CX0) (sp := fun w => spL _) rfl (by decide) rfl ⟨rfl, by decide, by decide⟩ (fun w h Y => PySem.W.kIn_of Y) ?F (fun _ _ a ns hl hb hO hS => ⟨a, ns, rfl, hS, hl, hb, hO, fun _ => rfl⟩) (fun _ _ _ _ _ h => h)
  case F =>
    intro w mg fa h KX G hmg
    refine' all_mk KX G hmg ?y_a0 ?y_l0 ?y_c0 ?y_k0 ?y_a1 ?y_l1 ?y_c1 ?y_k1 ?y_a2 ?y_l2 ?y_c2 ?y_k2 ?y_a3 ?y_l3 ?y_c3 ?y_k3 ?y_a4 ?y_l4 ?y_c4 ?y_k4 ?y_a5 ?y_l5 ?y_c5 ?y_k5 ?y_a6 ?y_l6 ?y_c6 ?y_k6 ?y_a7 ?y_l7 ?y_c7 ?y_k7 ?y_a8 ?y_l8 ?y_c8 ?y_k8 ?y_a9 ?y_l9 ?y_c9 ?y_k9 ?y_a10 ?y_l10 ?y_c10 ?y_k10 ?y_a11 ?y_l11 ?y_c11 ?y_k11 ?y_z0 ?y_z1 ?y_z2 ?y_z3 ?y_z4 ?y_z5 ?y_z6 ?y_z7 ?y_z8
    (case y_a0 => k_is); (case y_l0 => k_is); (case y_c0 => k_is); (case y_k0 => k_is); (case y_a1 => k_is); (case y_l1 => k_is); (case y_c1 => k_is); (case y_k1 => k_is); (case y_a2 => k_is); (case y_l2 => k_is); (case y_c2 => k_is); (case y_k2 => k_is); (case y_a3 => k_is); (case y_l3 => k_is); (case y_c3 => k_is); (case y_k3 => k_is); (case y_a4 => k_is); (case y_l4 => k_is); (case y_c4 => k_is); (case y_k4 => k_is); (case y_a5 => k_is); (case y_l5 => k_is); (case y_c5 => k_is); (case y_k5 => k_is); (case y_a6 => k_is); (case y_l6 => k_is); (case y_c6 => k_is); (case y_k6 => k_is); (case y_a7 => k_is); (case y_l7 => k_is); (case y_c7 => k_is); (case y_k7 => k_is); (case y_a8 => k_is); (case y_l8 => k_is); (case y_c8 => k_is); (case y_k8 => k_is); (case y_a9 => k_is); (case y_l9 => k_is); (case y_c9 => k_is); (case y_k9 => k_is); (case y_a10 => k_is); (case y_l10 => k_is); (case y_c10 => k_is); (case y_k10 => k_is); (case y_a11 => k_is); (case y_l11 => k_is); (case y_c11 => k_is); (case y_k11 => k_is); (case y_z0 => k_is); (case y_z1 => k_is); (case y_z2 => k_is); (case y_z3 => k_is); (case y_z4 => k_is); (case y_z5 => k_is); (case y_z6 => k_is); (case y_z7 => k_is); (case y_z8 => k_is)
