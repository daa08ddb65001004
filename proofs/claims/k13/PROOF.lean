import PyProof.Rows.All
import Wide.All
import OpenK.AllK
import Wide.FinOn
import HandS.ForMost
import HandS.Rev
import HandS.RevTup
import HandS.EndBits
import PyProof.Rows.Digits
import PyProof.ReprRoads
import PyProof.FString2
import PyProof.FactsAll.bool_2
import PyProof.FactsAll.str_2
import HandS.TupMul
import HandS.TupAny
import HandS.WideBits
import HandS.Style
import HandS.Deep
import HandS.IsInst
import HandS.WordsDict
import HandS.RaiseMore
import HandS.Flow
import PyProof.StrBlock2
import HandS.Codes
import HandS.Walk
import HandS.Small
import HandS.Zip
import HandS.RevRange
import PyProof.StrBlockL
import HandS.Defaults
import HandS.MakeKwOnly
import HandS.ExcOwn
import HandS.WordsExc
import HandS.TryOnly
import HandS.TryMany
import HandS.ExcIs
import HandS.ExcField
import HandS.ExcInit
import KE.KIntText
import KE.IntText
import PyProof.CollectIter
import PyProof.WalksMore
import PyProof.TupleOfSeq
import HandS.ExcValue
import HandS.DictComp
import PySem.Challenge.RW_chancetongue_k13_rows_of_data
set_option Elab.async false
set_option linter.all false
set_option maxRecDepth 100000
set_option maxHeartbeats 4000000
/-! list(reversed(xs)), xs a list -/
namespace Ct
open PySem PySem.Spec PyProof.Rows L2
section
variable {prog : Program} {w : World} {A : Around} {E : Value → Shared → Prop} {s : Shared}
theorem extend_rev {R : Result → Shared → Prop} {it l : Addr} {items : Array Value} (hh : A.handled = none) (hit : s.heap.IsRevIter it l ((items.size : Int) - 1)) (hl : s.heap.IsList l items) (hne : l ≠ it) (hn : items.size ≤ sizeLine)
    (S : Addr) (res : Value) (c₀ : Nat) (hSi : S ≠ it) (hSl : S ≠ l) (hS : s.heap.get? S = some { cls := .type "list", data := .seq #[] c₀ })
    (hR : ∀ h' tk acc' c', (∀ b o, b ≠ S → b ≠ it → s.heap.get? b = some o → h'.get? b = some o) → h'.get? S = some { cls := .type "list", dict := none, data := .seq acc' c', slots := #[] } → ItemsOf (fun i v => items[items.size - 1 - i]? = some v) acc' items.size → R (.ok (.ret res)) { s with heap := h', toks := tk }) :
    wpAny (model prog w) A.in1 (Builtin.List.listExtendWith (.ref S) (.ref it) res)
      (fun fin s' => match fin with | .done f => R (.ok f) s' | .again c' => c'.quiet = true ∧ codeAny (model prog w) A c' R s') (fun e s' => R (.error e) s') s := by
  have hT : s.TypeIs (.ref it) "list_reverseiterator" := Heap.IsRevIter.typeIs hit
  have hSf : S ∉ [it, l] := by simp only [List.mem_cons, List.not_mem_nil, or_false, not_or]; exact ⟨hSi, hSl⟩
  have h1 : Builtin.List.listSameRef (.ref S) (.ref it) = false := by simp [Builtin.List.listSameRef, hSi]
  have W := (Walks.listRev (prog := prog) (w := w) (A := A.in1) hh it l hne items).toS
  have e0 : ((items.size : Nat) : Int) - 1 - ((0 : Nat) : Int) = (items.size : Int) - 1 := by omega
  unfold Builtin.List.listExtendWith
  refine wpAny_bind (wpAny_typeOf hT ?_)
  rw [if_neg (by rw [h1]; decide)]
  refine wpAny_bind (wpAny_pyIter_revIter hit ?_)
  refine wpAny_bind (wpAny_holding ?_)
  unfold Builtin.List.listLengthHint
  refine wpAny_bind (wpAny_specialOf hT RT.nolen_lri ?_)
  show wpAny _ A.in1 (specialOf (Value.ref it) (Str.ofString "__length_hint__") >>= _) _ _ _
  refine wpAny_bind (wpAny_specialOf hT RT.hint_lri ?_)
  generalize hid : ("list_reverseiterator.__length_hint__" : String) = id0
  wp_delta
  rw [show splitId id0 = some ("list_reverseiterator", "__length_hint__") from by subst hid; decide +kernel]
  subst hid
  refine wpAny_bind (wpAny_isInstance (b := true) hT (by rw [isSubtype_type]; kernel_rfl) ?_)
  refine wpAny_pure ?_
  rw [if_neg (by decide)]
  refine wpAny_pure ⟨plainId_quiet PySem.F.plain_extend_loop _, codeAny_extend_loopS W hn _ hSf _ items.size 0 _ _ _ rfl (Nat.zero_le _) ⟨Nat.zero_le _, by rw [e0]; exact hit, hl⟩ hS (ItemsOf.nil _) fun s' acc' c' hm hS' hacc => ?_⟩
  rw [Moved.eq_with hm]
  refine hR s'.heap s'.toks acc' c' (fun b o hb hb2 e => hm.heap b o (fun hmem => ?_) e) hS' hacc
  rcases List.mem_cons.mp hmem with e' | hmem
  · exact hb e'
  · exact hb2 (List.mem_singleton.mp hmem)
theorem init_rev {R : Result → Shared → Prop} {it l : Addr} {items : Array Value} (hh : A.handled = none) (hit : s.heap.IsRevIter it l ((items.size : Int) - 1)) (hl : s.heap.IsList l items) (hne : l ≠ it) (hn : items.size ≤ sizeLine)
    (S : Addr) (hSi : S ≠ it) (hSl : S ≠ l) (hS : s.heap.get? S = some { cls := .type "list", data := .seq #[] })
    (hR : ∀ h' tk acc' c', (∀ b o, b ≠ S → b ≠ it → s.heap.get? b = some o → h'.get? b = some o) → h'.get? S = some { cls := .type "list", dict := none, data := .seq acc' c', slots := #[] } → ItemsOf (fun i v => items[items.size - 1 - i]? = some v) acc' items.size → R (.ok (.ret .none)) { s with heap := h', toks := tk }) :
    wpAny (model prog w) A.in1 (Builtin.«list.__init__» ⟨[.ref S, .ref it], []⟩)
      (fun fin s' => match fin with | .done f => R (.ok f) s' | .again c' => c'.quiet = true ∧ codeAny (model prog w) A c' R s') (fun e s' => R (.error e) s') s := by
  show wpAny _ A.in1 (do let old ← Builtin.List.listItems (.ref S); Builtin.List.listUpdate (.ref S) (fun _ => #[]); letGo old.toList.reverse; Builtin.List.listExtendWith (.ref S) (.ref it) .none) _ _ s
  refine wpAny_bind ?_
  unfold Builtin.List.listItems
  refine wpAny_bind (wpAny_seqItems hS rfl (wpAny_pure ?_))
  show wpAny _ A.in1 (updateSeq S (fun _ => #[]) >>= fun _ => letGo (#[] : Array Value).toList.reverse >>= fun _ => Builtin.List.listExtendWith (.ref S) (.ref it) .none) _ _ s
  refine wpAny_bind (wpAny_updateSeq hS rfl ?_)
  have hS₂ := Heap.get?_update_self (Obj.mapSeq (fun _ => (#[] : Array Value))) hS rfl
  have oth : ∀ b o, b ≠ S → s.heap.get? b = some o → (s.heap.update S (Obj.mapSeq (fun _ => (#[] : Array Value)))).get? b = some o :=
    fun b o hb e => (Heap.get?_update_other _ _ (Ne.symm hb)).trans e
  refine wpAny_bind (wpAny_letGo ?_)
  have hl2 : (s.heap.update S (Obj.mapSeq (fun _ => (#[] : Array Value)))).IsList l items := by
    obtain ⟨o, ho, r⟩ := hl
    exact ⟨o, oth _ _ hSl.symm ho, r⟩
  refine extend_rev (s := { s with heap := s.heap.update S (Obj.mapSeq (fun _ => (#[] : Array Value))) }) hh (hit.at fun o e => oth _ _ hSi.symm e) hl2 hne hn S .none _ hSi hSl hS₂ fun h' tk acc' c' hk hS' hacc => ?_
  exact hR h' tk acc' c' (fun b o hb hb2 e => hk b o hb hb2 (oth b o hb e)) hS' hacc
theorem call_list_rev {it l : Addr} {items : Array Value} {Q : Value → Shared → Prop} (hh : A.handled = none) (hit : s.heap.IsRevIter it l ((items.size : Int) - 1)) (hl : s.heap.IsList l items) (hne : l ≠ it) (hn : items.size ≤ sizeLine)
    (hQ : ∀ h' tk acc' c', (∀ b o, b ≠ it → s.heap.get? b = some o → h'.get? b = some o) → h'.get? s.heap.objs.size = some { cls := .type "list", dict := none, data := .seq acc' c', slots := #[] } → ItemsOf (fun i v => items[items.size - 1 - i]? = some v) acc' items.size → Q (.ref s.heap.objs.size) { s with heap := h', toks := tk }) :
    wpAny (model prog w) A (call (.type "list") [.ref it]) Q E s := by
  refine callType_codes (Q₁ := fun obj s₁ => obj = .ref s.heap.objs.size ∧ s₁ = { s with heap := s.heap.push { cls := .type "list", data := .seq #[] } }) PySem.F.called_list (PySem.F.typeCall_list_1 _) PySem.F.entry_list_init
    (code_list_new _ ⟨rfl, rfl⟩) fun obj s₁ h₁ => ?_
  obtain ⟨rfl, rfl⟩ := h₁
  have hS : (s.heap.push { cls := .type "list", data := .seq #[] }).get? s.heap.objs.size = some { cls := .type "list", data := .seq #[] } := Heap.get?_push_size _ rfl
  have hlt1 : it < s.heap.objs.size := by obtain ⟨o, ho, _⟩ := hit; exact Heap.lt_size ho
  have hlt2 : l < s.heap.objs.size := by obtain ⟨o, ho, _⟩ := id hl; exact Heap.lt_size ho
  refine ⟨⟨_, hS, rfl⟩, PySem.F.args_list_init_2 _ _, init_rev (A := A.in1) (s := { s with heap := s.heap.push { cls := .type "list", data := .seq #[] } }) hh (hit.at fun o e => Heap.get?_push_of_some _ e) (hl.push _) hne hn _ (Nat.ne_of_gt hlt1) (Nat.ne_of_gt hlt2) hS (fun h' tk acc' c' hk hS' hacc => ?_)⟩
  exact ⟨rfl, hQ h' tk acc' c' (fun b o hb e => hk b o (Nat.ne_of_lt (Heap.lt_size e)) hb (Heap.get?_push_of_some _ e)) hS' hacc⟩
end
section
variable {X : Cx}
/-- list(reversed(x)), x a list: a new list -/
def tListRev (K : PySem.W.Frag) (te : TE) : TE := fun σ H Q => te σ H fun v H1 => ∃ (a : Addr) (xs : List V), v = .ref a ∧ SqL K H1 a xs ∧ ∀ q, H1 q = none → Q (.ref q) (upd H1 q (.lst xs.reverse))
theorem pe_listRev {e : Expr} {te : TE} {p p2 pos pos2 : Pos} (hc : X.calm = true) (hg : Gl X "list") (hm : X.mg "list" = none) (hg2 : Gl X "reversed") (hm2 : X.mg "reversed" = none) (he : PE X e te)
    (hs : starEach [e] X.env = (false, eval e X.env) :: starEach [] X.env := by rfl)
    (hs2 : starEach [.Call (.Name "reversed" p2) [e] [] pos2] X.env = (false, eval (.Call (.Name "reversed" p2) [e] [] pos2) X.env) :: starEach [] X.env := by rfl) :
    PE X (.Call (.Name "list" p) [.Call (.Name "reversed" p2) [e] [] pos2] [] pos) (tListRev X.K te) := by
  refine ⟨fun pins s σ H Q I h => ?_⟩
  refine Call_ (ld_blt I hg hm PyProof.Rows.boot_list (PyProof.Rows.callWith_type1 (args_cons (Call_ (ld_blt I hg2 hm2 PyProof.Rows.boot_reversed (PyProof.Rows.callWith_type1 (args_cons (thn (he.run pins s σ H _ I h) fun u s1 ⟨v, H1, I1, r1, q1⟩ => args_nil ?_) hs) hs rfl))) hs2) hs2 rfl))
  obtain ⟨a, xs, ev, hq, q⟩ := q1
  subst ev
  obtain rfl : u = Value.ref a := r1
  obtain ⟨its, rv, p', hz⟩ := I1.list hq
  refine call_reversed_list p'.isList (args_nil ?_)
  have hl := p'.isList
  obtain ⟨ol, hol, _⟩ := id hl
  have hne : a ≠ s1.heap.objs.size := Nat.ne_of_lt (Heap.lt_size hol)
  have hn : its.toArray.size ≤ sizeLine := by rw [List.size_toArray, ← rv.length]; exact hz
  refine call_list_rev (s := { s1 with heap := s1.heap.push (revObj a ((its.toArray.size : Int) - 1)) }) (I1.ok.hd hc) ⟨_, Heap.get?_push_size _ rfl, rfl, rfl⟩ (hl.push _) hne hn fun h' tk acc c' hk hS hi => ?_
  have old : ∀ b o, s1.heap.get? b = some o → h'.get? b = some o := fun b o e => hk b o (Nat.ne_of_lt (Heap.lt_size e)) (Heap.get?_push_of_some _ e)
  have ns : s1.heap.objs.size ≤ (s1.heap.push (revObj a ((its.toArray.size : Int) - 1))).objs.size := by rw [Heap.size_push]; exact Nat.le_succ _
  refine ⟨.ref (s1.heap.push (revObj a ((its.toArray.size : Int) - 1))).objs.size, upd H1 _ (.lst xs.reverse), I1.laid (t' := tk) old ns (show ObjOk X.prog X.w _ _ _ (.lst xs.reverse) from ⟨by rw [List.length_reverse]; exact hz, acc.toList, c', RT.vals_rev rv hi, ?_⟩), rfl, q _ (I1.hok.fresh ns)⟩
  rw [Array.toArray_toList]
  exact hS
end
end Ct
/-! defs that are called where no display is under way (repr of lists wants it) -/
namespace Ct
open PySem PySem.Spec PyProof.Rows L2
/-- the promise of a def, asked only where no repr is under way -/
structure FnG (P : Program) (w : World) (K : PySem.W.Frag) (mg : Str → Option Value) (base : Heap) (CX : CXT) (k : Nat) (f : Addr) (fd : FuncData) (ps : List Str) (sp : Sp) : Prop where
  len : ∀ vs H Q E, sp vs H Q E → vs.length = ps.length
  go : ∀ (B : Around) (out : List Env) (t : Shared) (H : Hp) (ar : Args) (us : List Value) (vs : List V) (Q : VK) (E : XK),
    B.guards = some [] → Room k B → Env0 P w K mg base B out t H → BindsTo t fd ar (ps.zip us) → Vals vs us → sp vs H Q E →
    codeAny (model P w) B (.call (.ref f) ar) (CR CX out P w H t Q E) t
section
variable {P : Program} {w : World} {K : PySem.W.Frag} {mg : Str → Option Value} {base : Heap} {CX : CXT} {k : Nat} {f : Addr} {fd : FuncData} {ps : List Str} {sp : Sp}
theorem FnG.of (F : FnOk P w K mg base CX k f fd ps sp) : FnG P w K mg base CX k f fd ps sp :=
  ⟨F.len, fun B out t H ar us vs Q E _ hr => F.run B out t H ar us vs Q E hr⟩
/-- by its body -/
theorem fnG_of {name qual : Str} {params : Arguments} {body : List Stmt} {scope : Scope} {dV kV doc pm cdv ct oc : Value} {an od : Option Addr} {osl : Array (Option Value)} {N : List Str}
    (lk : K.lookup f = some ⟨oc, od, .func (PySem.W.fnOf name qual params body scope dV kV doc pm an cdv ct), osl⟩) (hcd : PySem.W.codeIn K cdv qual = true) (S : FnScope N ps scope) (len : ∀ vs H Q E, sp vs H Q E → vs.length = ps.length)
    (bd : ∀ (B : Around) (out : List Env) (t : Shared) (H : Hp) (vs : List V) (Q : VK) (E : XK), B.guards = some [] → Room k (B.deeper (envOfC qual scope t.heap.objs.size f cdv)) → sp vs H Q E →
      ∃ r, PSs (cxOf CX P w K mg base N qual scope f cdv B out t H E) body r ∧ r { nx := fun _ H' => Q .non H', rt := Q } (start N vs) H) :
    FnG P w K mg base CX (k + 1) f (PySem.W.fnOf name qual params body scope dV kV doc pm an cdv ct) ps sp := by
  refine ⟨len, fun B out t H ar us vs Q E hgd hr e0 hb rr hs => ?_⟩
  have hl : vs.length = ps.length := len _ _ _ _ hs
  have KX : K.In t.heap := e0.mod.kin.keeps fun c o z => (e0.bs c o z).1
  have nl : t.heap.NoLimit := e0.mod.nolimit.keeps fun c o z => (e0.bs c o z).1
  have kn : ∀ y ∈ ps.zip us, scope.names.lookup y.1 = some .local ∨ (scope.names.lookup y.1 = some .cell ∧ ((cellsFrom (t.heap.objs.size + 1) scope.names []).lookup y.1).isSome = true) := by
    rintro ⟨n, v⟩ hy
    rcases S.par n (List.of_mem_zip hy).1 with z | z
    · exact .inl z
    · exact .inr ⟨z, PySem.W.cellsFrom_some _ _ _ (.inl z)⟩
  refine codeAny_call_function hr.depth (KX _ _ lk) rfl S.co S.gen rfl (PySem.W.codeRec_of KX hcd) (hb _ _ _ _ (wpAny_newFunctionEnv_cells S.kind kn fun ev hev t1 x => ?_))
  subst hev
  refine ⟨nl.keeps x.toInCall.keep, codeAny_func ?_⟩
  obtain ⟨r, hrd, hq⟩ := bd B out t H vs Q E hgd (hr.deeper _) hs
  have I := inv_start (CX := CX) (cd := cdv) (E := E) S hr.hd e0 hl rr x
  refine wpAny_mono (hrd.run [] t1 (start N vs) H _ I hq) (fun fl t2 h2 => ?_) fun _ _ h2 => h2
  cases fl with
  | ret u =>
    obtain ⟨v, σ', H', J, rv, q⟩ := h2
    exact ⟨v, H', J.os, J.bare, J.base, J.hok, rv, q⟩
  | next =>
    obtain ⟨σ', H', J, q⟩ := h2
    exact ⟨V.non, H', J.os, J.bare, J.base, J.hok, rfl, q⟩
  | brk =>
    obtain ⟨_, _, _, q⟩ := h2
    exact q.elim
  | cont =>
    obtain ⟨_, _, _, q⟩ := h2
    exact q.elim
theorem okG {x qual : Str} {st : Stmt} {N : List Str} (F : Fun K x qual st f fd) (S : FnScope N ps (defScope st)) (len : ∀ vs H Q E, sp vs H Q E → vs.length = ps.length)
    (bd : ∀ (cdv : Value) (B : Around) (out : List Env) (t : Shared) (H : Hp) (vs : List V) (Q : VK) (E : XK), B.guards = some [] → Room k (B.deeper (envOfC qual (defScope st) t.heap.objs.size f cdv)) → sp vs H Q E →
      ∃ r, PSs (cxOf CX0 P w K mg base N qual (defScope st) f cdv B out t H E).nox (defBody st) r ∧ r { nx := fun _ H' => Q .non H', rt := Q } (start N vs) H) : FnG P w K mg base CX0 (k + 1) f fd ps sp := by
  obtain ⟨oc, od, kV, doc, pm, an, cdv, ct, osl, rfl, lk, hcd⟩ := F.ex
  refine fnG_of lk hcd S len fun B out t H vs Q E hgd hr hs => ?_
  obtain ⟨r, h, q⟩ := bd cdv B out t H vs Q E hgd hr hs
  exact ⟨r, h.nox, q⟩
end
section
variable {X : Cx} {CX : CXT} {k : Nat} {f : Addr} {fd : FuncData} {ps : List Str} {sp : Sp} {dvs : List V} {ds : List Value} {E : XK} {x : Str} {p pos : Pos} {e : Expr} {es : List Expr} {t : TA}
theorem runG {pins : List (Addr × Obj)} {σ : L2.St} {H : Hp} {s : Shared} {Q : VK} {us : List Value} {vs : List V} (F : FnG X.prog X.w X.K X.mg X.base CX k f fd ps sp) (hgd : X.A.guards = some []) (hr : Room k X.A) (hb : Binds X.K fd ps ds) (hd : Vals dvs ds) (hx : Passes CX X E)
    (I : Inv X pins σ H s) (r : Vals vs us) (h : sp (vs ++ dvs) H Q E) : wpAny (model X.prog X.w) X.A (call (.ref f) us) (EP X pins σ Q) X.xe s := by
  have r2 := r.append hd
  have hl : (us ++ ds).length = ps.length := r2.length.symm.trans (F.len _ _ _ _ h)
  refine wpAny_call (codeAny_mono (F.go X.A X.stack s H ⟨us, []⟩ (us ++ ds) (vs ++ dvs) Q E hgd hr I.env0 (hb s us I.kIn hl) r2 h) fun y s' hq => ?_)
  cases y with
  | error e => exact hx pins σ H s e s' I hq
  | ok fl => cases fl <;> first | exact I.after hq | exact hq.elim
theorem pe_callG (F : FnG X.prog X.w X.K X.mg X.base CX k f fd ps sp) (hgd : X.A.guards = some []) (hr : Room k X.A) (hg : Gl X x) (hm : X.mg x = some (.ref f)) (hk : PySem.W.keepIn X.K (.ref f) = true) (hb : Binds X.K fd ps ds) (hd : Vals dvs ds) (hx : Passes CX X E)
    (ha : PA X (e :: es) t) (hdb : (x == ("__debug__" : Str)) = false := by decide) (he : starEach (e :: es) X.env = (false, eval e X.env) :: starEach es X.env := by rfl) (hpl : (backTo pos (starEach es X.env)).any (·.1) = false := by rfl) :
    PE X (.Call (.Name x p) (e :: es) [] pos) (tCall sp dvs E t) :=
  ⟨fun pins s σ H Q I h => wpAny_Call_Name_kw (ld_glob I hg hm (PySem.W.callWith_K (h₀ := X.base) I.ok.mod.kin hk (thn (ha.run pos pins s σ H _ I h) fun us s1 ⟨vs, H1, I1, r, q⟩ => ⟨I1.kIn, runG F hgd hr hb hd hx I1 r q⟩) he hpl) hdb)⟩
theorem pe_callG0 (F : FnG X.prog X.w X.K X.mg X.base CX k f fd ps sp) (hgd : X.A.guards = some []) (hr : Room k X.A) (hg : Gl X x) (hm : X.mg x = some (.ref f)) (hk : PySem.W.keepIn X.K (.ref f) = true) (hb : Binds X.K fd ps ds) (hd : Vals dvs ds) (hx : Passes CX X E)
    (hdb : (x == ("__debug__" : Str)) = false := by decide) : PE X (.Call (.Name x p) [] [] pos) (tCall sp dvs E tNil) :=
  ⟨fun pins s σ H Q I h => wpAny_Call_Name_kw (ld_glob I hg hm (PySem.W.callWith_K0 I.kIn hk (runG (us := []) F hgd hr hb hd hx I .nil h)) hdb)⟩
end
/-! ### the law's own end -/
section
variable {P : Program} {w : World} {K : PySem.W.Frag} {mg mb : Str → Option Value} {CX : CXT} {k : Nat} {fa a : Addr} {fd : FuncData} {x : Str} {sp : Sp} {t : Shared} {vs : List Value} {ns : List Int}
/-- the same, from an abstract heap in which nothing but the script may be tracked -/
theorem law_core (hns : t.heap.Ns mainGlobals mg) (hb : t.heap.Ns builtinsNs mb) (hbb : ∀ x : Str, x ≠ "__name__" → mb x = bootBuiltins x) (hlim : t.heap.NoLimit) (hdig : t.heap.NoDigits) (hg : t.gens = #[])
    (ha : t.heap.get? a = some { cls := .type "list", data := .seq vs.toArray }) (KX : K.In t.heap) (hr : Room k callerA)
    (F : ∀ base : Heap, K.In base → base.Ns mainGlobals mg → base.NoDigits → FnG P w K mg base CX k fa fd [x] sp) (hbind : ∀ (s : Shared) (u : Value), BindsTo s fd ⟨[u], []⟩ [(x, u)])
    (hCX : ∀ H e s', CX [] H t (fun _ _ _ => False) e s' → False) (H : Hp) (hO : Only H) (hok : HOk P w H t.heap) (hA : ∀ b, H b ≠ none → b = a) (hK : H a ≠ none → K.lookup a = none)
    (hsp : sp [.ref a] H (fun v _ => v = .bl true) fun _ _ _ => False) :
    codeAny (model P w) callerA (.call (.ref fa) ⟨[.ref a], []⟩) (fun r s' => r = .ok (.ret (.bool true)) ∧ OldK t.heap s'.heap ∧ s'.os = t.os ∧ AllBare s'.gens) t := by
  have at_ : ∀ {b : Addr} {o : Obj}, t.heap.get? b = some o → H b = none → (hidT t.heap H).get? b = some o := fun e n => hidT_get e n
  have ofdict : ∀ {b : Addr} {o : Obj} {es : Array DictEntry} {ep : Nat}, t.heap.get? b = some o → o.data = .dict es ep → H b = none := by
    intro b o es ep e d
    cases q : H b with
    | none => rfl
    | some u =>
      have eb := hA b (by rw [q]; exact Option.some_ne_none u)
      subst eb
      rw [ha] at e
      cases e
      exact nomatch d
  have ns' : ∀ {b : Addr} {m : Str → Option Value}, t.heap.Ns b m → (hidT t.heap H).Ns b m := fun {b m} ⟨o, es, ep, e, d, r⟩ => ⟨o, es, ep, at_ e (ofdict e d), d, r⟩
  have KB : K.In (hidT t.heap H) := by
    intro b o e
    refine at_ (KX b o e) ?_
    cases q : H b with
    | none => rfl
    | some u =>
      have eb := hA b (by rw [q]; exact Option.some_ne_none u)
      subst eb
      have := hK (by rw [q]; exact Option.some_ne_none u)
      rw [this] at e
      cases e
  have hM : Mod K mg (hidT t.heap H) := ⟨KB, ns' hns, ⟨mb, ns' hb, hbb⟩, let ⟨mc, h1, h2⟩ := hlim; ⟨mc, ns' h1, h2⟩⟩
  have e0 : Env0 P w K mg (hidT t.heap H) callerA [] t H := ⟨rfl, hM, fun _ _ e => of_hidT e, Nat.le_of_eq (hidT_size _ _), trivial, fun _ z => (List.not_mem_nil z).elim, hok, .of_eq hg⟩
  refine codeAny_mono ((F _ KB (ns' hns) (let ⟨mc, h1, h2⟩ := hdig; ⟨mc, ns' h1, h2⟩)).go callerA [] t H ⟨[.ref a], []⟩ [.ref a] [.ref a] _ _ rfl hr e0 (hbind t (.ref a)) (.cons rfl .nil) hsp) fun r s' h => ?_
  cases r with
  | error e => exact (hCX H e s' h).elim
  | ok fl =>
    cases fl with
    | next => exact h.elim
    | brk => exact h.elim
    | cont => exact h.elim
    | ret u =>
      obtain ⟨v, H', os, bare, un, hok', rv, q⟩ := h
      obtain rfl : v = .bl true := q
      obtain rfl : u = Value.bool true := rv
      refine ⟨rfl, OldK.of_keep fun b o e => ?_, os, bare⟩
      cases q : H b with
      | none => exact un.keep b o e q (List.not_mem_nil) (List.not_mem_nil)
      | some u =>
        rcases hO b with z | ⟨ob, xs, z⟩
        · rw [q] at z
          cases z
        · obtain ⟨e1, _⟩ := hok b _ z
          obtain ⟨e2, _⟩ := hok' b _ (un.frzs b ob _ z)
          rw [e] at e1
          cases e1
          exact e2
theorem law_callG (KX : K.In t.heap) (hns : t.heap.Ns mainGlobals mg) (hb : t.heap.Ns builtinsNs mb) (hbb : ∀ x : Str, x ≠ "__name__" → mb x = bootBuiltins x) (hlim : t.heap.NoLimit) (hdig : t.heap.NoDigits) (hg : t.gens = #[])
    (ha : t.heap.get? a = some { cls := .type "list", data := .seq vs.toArray }) (hi : IntsAre vs ns) (hl : ns.length ≤ sizeLine) (hr : Room k callerA)
    (F : ∀ base : Heap, K.In base → base.Ns mainGlobals mg → base.NoDigits → FnG P w K mg base CX k fa fd [x] sp) (hbind : ∀ (s : Shared) (u : Value), BindsTo s fd ⟨[u], []⟩ [(x, u)])
    (hsp : ∀ H : Hp, Only H → SqL K H a (ns.map V.int) → sp [.ref a] H (fun v _ => v = .bl true) fun _ _ _ => False)
    (hCX : ∀ H e s', CX [] H t (fun _ _ _ => False) e s' → False) :
    codeAny (model P w) callerA (.call (.ref fa) ⟨[.ref a], []⟩) (fun r s' => r = .ok (.ret (.bool true)) ∧ OldK t.heap s'.heap ∧ s'.os = t.os ∧ AllBare s'.gens) t := by
  have rv := vals_ints hi
  have lenV := hi.length
  cases hk : K.lookup a with
  | some o =>
    have e := KX a o hk
    rw [ha] at e
    cases e
    have sq : SqL K (fun _ => none) a (ns.map V.int) := .inr ⟨_, vs.toArray, _, hk, rfl, rfl, rfl, by rw [List.size_toArray, lenV]; exact hl, by simpa using rv⟩
    exact law_core hns hb hbb hlim hdig hg ha KX hr F hbind hCX (fun _ => none) (fun _ => .inl rfl) (fun _ _ z => nomatch z) (fun _ z => absurd rfl z) (fun z => absurd rfl z) (hsp _ (fun _ => .inl rfl) sq)
  | none =>
    let G : Hp := fun b => if b = a then some (.frz { cls := .type "list", data := .seq vs.toArray } (.lst (ns.map V.int))) else none
    have here : G a = some (.frz { cls := .type "list", data := .seq vs.toArray } (.lst (ns.map V.int))) := if_pos rfl
    have away : ∀ b, b ≠ a → G b = none := fun b hb => if_neg hb
    have only : Only G := fun b => by
      by_cases hb : b = a
      · subst hb
        exact .inr ⟨_, _, here⟩
      · exact .inl (away b hb)
    refine law_core hns hb hbb hlim hdig hg ha KX hr F hbind hCX G only (fun b u z => ?_) (fun b z => ?_) (fun _ => hk) (hsp _ only (.inl (.inr ⟨_, here⟩)))
    · by_cases hb : b = a
      · subst hb
        rw [here] at z
        cases z
        exact ⟨ha, by rw [List.length_map]; exact hl, vs, _, rv, ha⟩
      · rw [away b hb] at z
        cases z
    · by_cases hb : b = a
      · exact hb
      · exact absurd (away b hb) z
end
/-- what the head leaves of a law, from its promise -/
theorem walk_ofG {l : PySem.W.OpenLaw} {n k : Nat} {q : Program} {loose : List Str} {XP : (Str → Option Value) → Heap → Prop} {YP : World → Heap → Prop} {d : DefRec} {K : Params → PySem.W.Frag} {CX : World → CXT} {sp : World → Sp} {x : Str}
    (hn : l.most = some n) (hn2 : n ≤ sizeLine) (hdf : d.params.defaults = []) (hr : Room k callerA) (hY : ∀ (w : World) (h : Heap), YP w h → (K w.params).In h)
    (F : ∀ (w : World) (mg : Str → Option Value) (fa : Addr) (h : Heap), (K w.params).In h → h.Ns mainGlobals mg → mg d.name = some (.ref fa) →
      ∃ fd : FuncData, (∀ (s : Shared) (u : Value), BindsTo s fd ⟨[u], []⟩ [(x, u)]) ∧ ∀ base : Heap, (K w.params).In base → base.Ns mainGlobals mg → base.NoDigits → FnG l.prog w (K w.params) mg base (CX w) k fa fd [x] (sp w))
    (hsp : ∀ (w : World) (H : Hp) (a : Addr) (ns : List Int), ns.length ≤ n → (∀ i ∈ ns, Builtin.Int.intBits i ≤ 1048576) → Only H → SqL (K w.params) H a (ns.map V.int) → sp w [.ref a] H (fun v _ => v = .bl true) fun _ _ _ => False)
    (hCX : ∀ (w : World) (H : Hp) (s : Shared) (e : Value) (s' : Shared), CX w [] H s (fun _ _ _ => False) e s' → False) :
    PySem.W.WalkO q loose XP YP l.row.toRowW d [] (fun f vs => PySem.call f vs) := by
  refine Att.attach_callB hn hdf fun w s₀ s₁ mg mb fa o pm cd doc a vs ns G Y ho hd hcd hmg hobj hints hlen hbits hg => ?_
  obtain ⟨fd, hb, hF⟩ := F w mg fa _ (hY w _ Y) G.T.g hmg
  exact law_callG (hY w _ Y) G.T.g G.T.b G.T.builtins G.T.nolimit G.T.nodigits hg hobj hints (Nat.le_trans hlen hn2) hr hF hb (fun H hO hS => hsp w H a ns hlen hbits hO hS) fun H e s' => hCX w H s₁ e s'
end Ct
/-! repr of data -/
namespace Ct
open PySem PySem.Spec PyProof.Rows L2
theorem bool_shown (b : Bool) : (PyData.bool b).shown = (if b then "True" else "False" : Str) := by cases b <;> rfl
section
variable {prog : Program} {w : World} {A : Around} {E : Value → Shared → Prop} {s : Shared} {Q : Value → Shared → Prop}
theorem repr_bool (b : Bool) (h : Q (.str (PyData.bool b).shown s.toks) { s with toks := s.toks + 1 }) : wpAny (model prog w) A (call (.builtin "repr") [.bool b]) Q E s :=
  call_repr_gives (x := (PyData.bool b).shown) (T := "bool") rfl PySem.F.slot_bool_repr PySem.F.entry_bool_repr (PySem.F.args_bool_repr_1 _) (by
    have g := gives_bool_repr b
    cases b <;> exact g) h rfl (by cases b <;> (show _ ≤ sizeLine; decide))
theorem repr_str (x : Str) (t : Tok) (hz : (reprText x).length ≤ sizeLine) (h : Q (.str (reprText x) s.toks) { s with toks := s.toks + 1 }) : wpAny (model prog w) A (call (.builtin "repr") [.str x t]) Q E s :=
  call_repr_gives (x := reprText x) (T := "str") rfl PySem.F.slot_str_repr PySem.F.entry_str_repr (PySem.F.args_str_repr_1 _) (gives_str_repr x t) h rfl hz
end
/-- what repr of data asks -/
def ShowOk (d : PyData) : Prop := d.showable = true ∧ d.hasDict = false ∧ d.depth ≤ 100 ∧ d.shown.length ≤ sizeLine
def rRepr (K : PySem.W.Frag) : List V → Hp → VK → Prop := fun xs H Q => ∃ x d, xs = [x] ∧ x ≠ .non ∧ Dp K H x d ∧ ShowOk d ∧ Q (.str d.shown) H
section
variable {X : Cx}
theorem call_repr (hg : X.A.guards = some []) (hu : X.A.units + 120 < cLine) : CallR X (.builtin "repr") (rRepr X.K) := by
  intro pins s σ H xs us Q I r h
  obtain ⟨x, d, rfl, hn, hd, ⟨h1, h2, h3, h4⟩, q⟩ := h
  obtain ⟨u, rfl, rx⟩ := vals1 r
  have inv : ∀ t, Inv X pins σ H { s with toks := t } := fun t => I.tok t
  have rd := Dp.reads I d x u hd rx
  cases hd with
  | non => exact absurd rfl hn
  | bl b =>
    obtain rfl : u = Value.bool b := rx
    exact repr_bool b ⟨.str _, H, I.tok _, ⟨_, rfl⟩, q⟩
  | int i =>
    obtain ⟨t, rfl⟩ := rx
    have hz : i.natAbs.log2 < 1920 := by simpa [PyData.showable] using h1
    exact PySem.P.repr_of_int hz ⟨.str _, H, I.tok _, ⟨_, rfl⟩, q⟩
  | str y =>
    obtain ⟨t, rfl⟩ := rx
    exact repr_str y t h4 ⟨.str _, H, I.tok _, ⟨_, rfl⟩, q⟩
  | lst hs ha =>
    obtain rfl := rx
    obtain ⟨as, r1⟩ := rd
    exact repr_of_reads' r1 h1 (PyData.noDict_hsm h2) hg (by omega) (fun _ _ e => e) (fun h' u tk hk => ⟨.str _, H, I.kept (t' := tk) hk, ⟨u, rfl⟩, q⟩) h4
  | tup hs ha =>
    obtain rfl := rx
    obtain ⟨as, r1⟩ := rd
    exact repr_of_reads' r1 h1 (PyData.noDict_hsm h2) hg (by omega) (fun _ _ e => e) (fun h' u tk hk => ⟨.str _, H, I.kept (t' := tk) hk, ⟨u, rfl⟩, q⟩) h4
end
end Ct
/-! t * n where it is t itself -/
namespace Ct
open PySem PySem.Spec PyProof.Rows L2
theorem mul_self (l : Addr) (items : Array Value) (n : Nat) (dd : Option Addr) (sl : Array (Option Value)) (x : Int) (u : Tok) (c0 : (decide (x < -(2 ^ 63)) || decide (x ≥ 2 ^ 63)) = false) (c1 : (items.isEmpty || x == 1) = true) :
    Meets (Builtin.«tuple.__mul__» ⟨[.ref l, .int x u], []⟩) (fun _ R s => s.heap.get? l = some { cls := .type "tuple", dict := dd, data := .seq items n, slots := sl } ∧ R (.ok (.ret (Value.ref l))) s) :=
  .of_wp fun prog w A R s h => by
    obtain ⟨hp, g, d, tk, os⟩ := s
    obtain ⟨hl, h⟩ := h
    have f1 := AutoSeq1.idx_int
    wp_walk using wpAny_loadPart' hl
    repeat (first
      | (refine wpAny_ite_false (decide_eq_false (by rw [c0]; exact Bool.false_ne_true)) ?_; wp_walk using wpAny_loadPart' hl)
      | (refine wpAny_ite_true (decide_eq_true c1) ?_; wp_walk using wpAny_loadPart' hl))
    all_goals first | exact ⟨_, rfl, h⟩ | trace_state
def rRep1 (K : PySem.W.Frag) : R2 := fun x y H Q => ∃ l k xs, x = .ref l ∧ y = .int k ∧ SqT K H l xs ∧ (xs = [] ∨ k = 1) ∧ 0 ≤ k ∧ k ≤ 1000 ∧ Q (.ref l) H
theorem op_rep1 {X : Cx} : OpR X (binaryOp .Mult) (rRep1 X.K) := by
  intro pins s σ H x y v u Q I rx ry h
  obtain ⟨l, k, xs, rfl, rfl, hT, hk, h1, h2, q⟩ := h
  obtain rfl : v = Value.ref l := rx
  obtain ⟨t, rfl⟩ := ry
  obtain ⟨its, r, ⟨⟨cls, dd, data, sl⟩, ho, hc, n, hd⟩, hs⟩ := I.tuple hT
  simp only at hc hd
  subst hc hd
  have c0 : (decide (k < -(2 ^ 63)) || decide (k ≥ 2 ^ 63)) = false := by rw [decide_eq_false (by omega), decide_eq_false (by omega)] <;> rfl
  have c1 : (its.toArray.isEmpty || k == 1) = true := by
    rcases hk with rfl | rfl
    · cases r
      rfl
    · rw [Bool.or_eq_true]
      exact .inr rfl
  exact wpAny_binaryOp_repeat_ref (T := "tuple") (U := "int") (by decide) ⟨_, ho, rfl⟩ (fun s' => typeIs_int s' k t) noFill_tuple_mul F.fills_int_mul F.slot_int_rmul repeat_tuple F.slot_int_index.lookup
    (call_meets F.slot_int_rmul (typeIs_int s k t) F.entry_int_rmul (F.args_int_rmul_2 _ _) (int_rmul_tuple k t l its.toArray n dd sl)
      ⟨ho, rfl, ⟨_, ho, rfl⟩, call_meets F.slot_tuple_mul ⟨_, ho, rfl⟩ F.entry_tuple_mul (F.args_tuple_mul_2 _ _) (mul_self l its.toArray n dd sl k t c0 c1) ⟨ho, ⟨.ref l, H, I, rfl, q⟩⟩⟩)
end Ct
/-! operators by values, whatever the values are -/
namespace Ct
open PySem PySem.Spec PyProof.Rows L2
section
variable {X : Cx}
/-! ### sums, products, .. -/
def rAddA (K : PySem.W.Frag) : R2 := fun x y H Q => rI0 (fun i j => .int (i + j)) x y H Q ∨ (∃ i j, x = .str i ∧ y = .str j ∧ i.length + j.length ≤ sizeLine ∧ Q (.str (i ++ j)) H) ∨ rCat x y H Q ∨ rCatA K x y H Q
theorem op_addA : OpR X (binaryOp .Add) (rAddA X.K) := op_add.or (op_add_str.or (op_cat.or op_catA))
def rMulS : R2 := fun x y H Q => ∃ z n, x = .str z ∧ y = .int n ∧ MulOk z n ∧ Q (.str (Txt.mul z n)) H
theorem op_mulS : OpR X (binaryOp .Mult) rMulS := by
  intro pins s σ H x y v u Q I rx ry h
  obtain ⟨z, n, rfl, rfl, hk, q⟩ := h
  obtain ⟨t, rfl⟩ := rx
  obtain ⟨t', rfl⟩ := ry
  exact PySem.SB.mul hk fun t2 k => ⟨.str _, H, I.tok _, ⟨t2, rfl⟩, q⟩
def rMulA (K : PySem.W.Frag) : R2 := fun x y H Q => rI CMul (fun i j => .int (i * j)) x y H Q ∨ rI CMulX (fun i j => .int (i * j)) x y H Q ∨ rMulS x y H Q ∨ rRep x y H Q ∨ rRepT K x y H Q ∨ rRep1 K x y H Q
theorem op_mulA : OpR X (binaryOp .Mult) (rMulA X.K) := op_mul.or (op_mulX.or (op_mulS.or (op_rep.or (op_repT.or op_rep1))))
/-- i // j, the sizes such that the plain division does it -/
def CDivA (i j : Int) : Prop := j ≠ 0 ∧ Builtin.divisionGoesByPylong i j = false
theorem op_fdivA : OpR X (binaryOp .FloorDiv) (rI CDivA fun i j => .int (i.fdiv j)) := opI fun i j _ _ _ _ _ hc q => floordiv_int hc.1 q (.inl hc.2)
theorem op_modA : OpR X (binaryOp .Mod) (rI (fun _ j => j ≠ 0) fun i j => .int (i.fmod j)) := op_modN
/-! ### comparisons -/
def rEqA (K : PySem.W.Frag) : R2 := fun x y H Q => rEq x y H Q ∨ rEqD K x y H Q
def rNeA (K : PySem.W.Frag) : R2 := fun x y H Q => rNe x y H Q ∨ rNeD K x y H Q
theorem op_eqA (hu : X.A.units + 64 < cLine) : OpR X (compareOp .Eq) (rEqA X.K) := op_eq.or (op_eqD hu)
theorem op_neA (hu : X.A.units + 64 < cLine) : OpR X (compareOp .NotEq) (rNeA X.K) := op_ne.or (op_neD hu)
def rLtA : R2 := fun x y H Q => rI0 (fun i j => .bl (decide (i < j))) x y H Q ∨ (∃ i j, x = .str i ∧ y = .str j ∧ Q (.bl (decide (i.cps.toList < j.cps.toList))) H)
def rGtA : R2 := fun x y H Q => rI0 (fun i j => .bl (decide (j < i))) x y H Q ∨ (∃ i j, x = .str i ∧ y = .str j ∧ Q (.bl (decide (j.cps.toList < i.cps.toList))) H)
theorem op_ltA : OpR X (compareOp .Lt) rLtA := op_lt.or op_lt_str
theorem op_gtA : OpR X (compareOp .Gt) rGtA := op_gt.or op_gt_str
abbrev rLe : R2 := rI0 fun i j => .bl (decide (i ≤ j))
abbrev rGe : R2 := rI0 fun i j => .bl (decide (j ≤ i))
theorem op_leA : OpR X (compareOp .LtE) rLe := op_le
theorem op_geA : OpR X (compareOp .GtE) rGe := op_ge
def rInD' : R2 := fun y x H Q => ∃ a o, x = .ref a ∧ DGet H a y o ∧ Q (.bl o.isSome) H
def rNiD' : R2 := fun y x H Q => ∃ a o, x = .ref a ∧ DGet H a y o ∧ Q (.bl (!o.isSome)) H
theorem op_inDi (hu : X.A.units + 1 < cLine) : OpR X (compareOp .In) rInD' := by
  intro pins s σ H x y v u Q I rx ry h
  obtain ⟨a, o, rfl, g, q⟩ := h
  obtain rfl : u = Value.ref a := ry
  exact d_in hu I g rx fun s3 I3 => ⟨.bl o.isSome, H, I3, rfl, q⟩
theorem op_niDi (hu : X.A.units + 1 < cLine) : OpR X (compareOp .NotIn) rNiD' := by
  intro pins s σ H x y v u Q I rx ry h
  obtain ⟨a, o, rfl, g, q⟩ := h
  obtain rfl : u = Value.ref a := ry
  exact d_notIn hu I g rx fun s3 I3 => ⟨.bl (!o.isSome), H, I3, rfl, q⟩
def rSignIn : R2 := fun x y H Q => ∃ (c : Nat) (z : Str), x = .str ⟨#[c]⟩ ∧ y = .str z ∧ Q (.bl (decide (c ∈ z.cps.toList))) H
def rSignNi : R2 := fun x y H Q => ∃ (c : Nat) (z : Str), x = .str ⟨#[c]⟩ ∧ y = .str z ∧ Q (.bl (!decide (c ∈ z.cps.toList))) H
def rInA (K : PySem.W.Frag) : R2 := fun x y H Q => rSignIn x y H Q ∨ rIn K false x y H Q ∨ rInD K x y H Q ∨ rInD' x y H Q
def rNiA (K : PySem.W.Frag) : R2 := fun x y H Q => rSignNi x y H Q ∨ rIn K true x y H Q ∨ rNotInD K x y H Q ∨ rNiD' x y H Q
theorem op_inA (hu : X.A.units + 65 < cLine) : OpR X (compareOp .In) (rInA X.K) := OpR.or op_in_sign (op_in_seq.or ((op_inD hu).or (op_inDi (by omega))))
theorem op_niA (hu : X.A.units + 65 < cLine) : OpR X (compareOp .NotIn) (rNiA X.K) := OpR.or op_notIn_sign (op_notIn_seq.or ((op_notInD hu).or (op_niDi (by omega))))
def rIsN : R2 := fun x y H Q => y = .non ∧ Q (.bl (decide (x = .non))) H
def rNotN : R2 := fun x y H Q => y = .non ∧ Q (.bl (!decide (x = .non))) H
def rIsA : R2 := fun x y H Q => rIsN x y H Q ∨ rIsB x y H Q
def rNotA : R2 := fun x y H Q => rNotN x y H Q ∨ rNotB x y H Q
theorem op_isA : OpR X (compareOp .Is) rIsA := OpR.or op_isN op_isBl
theorem op_notA : OpR X (compareOp .IsNot) rNotA := OpR.or op_notN op_notBl
/-! ### subscripts, slices -/
def rIxDi : R2 := fun x y H Q => ∃ a v, x = .ref a ∧ DGet H a y (some v) ∧ Q v H
theorem ix_dict (hu : X.A.units + 1 < cLine) : IxR X rIxDi := by
  intro value slice pins s σ H x y v u Q I rx ry h hs
  obtain ⟨a, w, rfl, g, q⟩ := h
  obtain rfl : v = Value.ref a := rx
  have hT := dict_typeIs I g
  unfold subscriptTail
  refine wpAny_bind ?_
  rw [getitemInPython_of_ne hT.not_modules]
  refine wpAny_bind (wpAny_specialOf hT PySem.F.slot_dict_getitem.lookup ?_)
  have fin : wpAny (model X.prog X.w) X.A (subscripted slice false (.ref a) u) (fun r s₃ => wpAny (model X.prog X.w) X.A (letTemporaryGo value (.ref a) r >>= fun _ => pure r) (EP X pins σ Q) X.xe s₃) X.xe s := by
    rw [hs]
    exact wpAny_operating (d_getItem hu I g ry fun w' s3 I3 rw' => wpAny_bind (wpAny_letTemporaryGo (wpAny_pure ⟨w, H, I3, rw', q⟩)))
  first
    | exact wpAny_pure (wpAny_bind fin)
    | exact wpAny_bind (wpAny_pure (wpAny_bind fin))
    | exact wpAny_bind fin
def rIxA (K : PySem.W.Frag) : R2 := fun x y H Q => rIx K x y H Q ∨ rIxDi x y H Q
theorem ix_any (hu : X.A.units + 1 < cLine) : IxR X (rIxA X.K) := ix_seq.or (ix_dict hu)
def rSlAny (K : PySem.W.Frag) : V → Option Int → Option Int → Hp → VK → Prop := fun x lo hi H Q => rSlL K x lo hi H Q ∨ rSlA K x lo hi H Q ∨ rSlS x lo hi H Q
theorem sl_any : SlR X (rSlAny X.K) := sl_list.or (sl_tupA.or sl_str)
/-! ### calls -/
def rLenA (K : PySem.W.Frag) : List V → Hp → VK → Prop := fun xs H Q => (∃ x n, xs = [x] ∧ LenV K x H n ∧ Q (.int n) H) ∨ ∃ a kvs, xs = [V.ref a] ∧ H a = some (.dK kvs) ∧ Q (.int kvs.length) H
theorem call_lenA : CallR X (.builtin "len") (rLenA X.K) := call_len.or call_lenD
def rIntA : List V → Hp → VK → Prop := fun xs H Q => ((∃ i, xs = [.int i] ∧ Q (.int i) H) ∨ ∃ k, xs = [.bl k] ∧ Q (.int (if k then 1 else 0)) H) ∨ ∃ a n, xs = [.str a] ∧ PySem.intText? a = some n ∧ a.length ≤ 640 ∧ Q (.int n) H
theorem call_intA : CallR X (.type "int") rIntA := call_int1.or call_int_str
def rStrA : List V → Hp → VK → Prop := fun xs H Q => (∃ i, xs = [.int i] ∧ i.natAbs.log2 < 1920 ∧ Q (.str (toString i)) H) ∨ ∃ a, xs = [.str a] ∧ Q (.str a) H
theorem call_strA : CallR X (.type "str") rStrA := call_str_int.or SkE.call_str_str
def rMax2' : List V → Hp → VK → Prop := fun xs H Q => ∃ i j, xs = [.int i, .int j] ∧ Q (.int (if j > i then j else i)) H
def rMin2' : List V → Hp → VK → Prop := fun xs H Q => ∃ i j, xs = [.int i, .int j] ∧ Q (.int (if j < i then j else i)) H
theorem call_max2' (hc : X.calm = true) : CallR X (.builtin "max") rMax2' := call_max2 hc
theorem call_min2' (hc : X.calm = true) : CallR X (.builtin "min") rMin2' := call_min2 hc
def rAbs' : List V → Hp → VK → Prop := fun xs H Q => ∃ i, xs = [.int i] ∧ Q (.int (if i < 0 then -i else i)) H
theorem call_abs' : CallR X (.builtin "abs") rAbs' := call_abs
def rListOf (K : PySem.W.Frag) : List V → Hp → VK → Prop := fun xs H Q => ∃ p ys, xs = [.ref p] ∧ (SqL K H p ys ∨ SqT K H p ys) ∧ ∀ l, H l = none → Q (.ref l) (upd H l (.lst ys))
theorem call_listOf : CallR X (.type "list") (rListOf X.K) := call_list_of
def rTupOf (K : PySem.W.Frag) : List V → Hp → VK → Prop := fun xs H Q => ∃ p ys, xs = [.ref p] ∧ ((SqL K H p ys ∧ ∀ l, H l = none → Q (.ref l) (upd H l (.tup ys))) ∨ (SqT K H p ys ∧ Q (.ref p) H))
theorem call_tupOf : CallR X (.type "tuple") (rTupOf X.K) := call_tuple_of
/-! ### what a for walks: a list, a tuple, a text -/
def wSeq (K : PySem.W.Frag) (x : V) (H : Hp) (R : It → Hp → Prop) : Prop :=
  (∃ a, x = .ref a ∧ (∃ xs, SqL K H a xs) ∧ R (Itl K a) H) ∨ (∃ a, x = .ref a ∧ (∃ xs, SqT K H a xs) ∧ R (Itt K a) H) ∨ ∃ z, x = .str z ∧ R (Its z) H
def iSeq (K : PySem.W.Frag) (tl : TE) : TI := fun σ H R => tl σ H fun x H1 => wSeq K x H1 R
theorem pi_seq {tg l : Expr} {tl : TE} (hl : PE X l tl) : PI X tg l (iSeq X.K tl) := by
  refine ⟨fun pins s σ H R I h => thn (hl.run pins s σ H _ I h) fun v s1 ⟨x, H1, I1, r1, q1⟩ => ?_⟩
  rcases q1 with ⟨a, rfl, ⟨xs, hq⟩, q⟩ | ⟨a, rfl, ⟨xs, hq⟩, q⟩ | ⟨z, rfl, q⟩
  · obtain rfl : v = Value.ref a := r1
    obtain ⟨its, rv, p, hz⟩ := I1.list hq
    exact wpAny_pyIter_list p.isList (pi_one (tk := s1.toks) I1 _ (turn_list a _) ⟨_, Heap.get?_push_size _ rfl, rfl, rfl⟩ q)
  · obtain rfl : v = Value.ref a := r1
    obtain ⟨its, rv, p, hz⟩ := I1.tuple hq
    exact wpAny_pyIter_tuple (show s1.heap.IsTuple a its.toArray from p) (pi_one (tk := s1.toks) I1 _ (turn_tuple a _) ⟨_, Heap.get?_push_size _ rfl, rfl, rfl⟩ q)
  · obtain ⟨t, rfl⟩ := r1
    by_cases ha : z.cps.all (· < 128) = true
    · exact wpAny_pyIter_ascii ha (pi_one (tk := s1.toks) I1 _ (turn_str _ z t "str_ascii_iterator" (.inl rfl)) ⟨_, Heap.get?_push_size _ rfl, rfl, rfl⟩ q)
    · exact wpAny_pyIter_wide (by simpa using ha) (pi_one (tk := s1.toks) I1 _ (turn_str _ z t "str_iterator" (.inr rfl)) ⟨_, Heap.get?_push_size _ rfl, rfl, rfl⟩ q)
end
end Ct
/-! what is known of the heap, in one fact -/
namespace Ct
open PySem PySem.Spec PyProof.Rows L2
/-- a fact of a heap -/
abbrev Kn := Hp → Prop
abbrev Cells := List (Addr × HO)
/-- Γ: facts that stay whatever comes; L: cells of one's own, which may change; G: what stays -/
def WW (Γ : List Kn) (L : Cells) (H : Hp) : Prop :=
  ∃ G : Hp, Same G H ∧ (∀ c ∈ L, H c.1 = some c.2 ∧ G c.1 = none) ∧ (L.map (·.1)).Nodup ∧ ∀ k ∈ Γ, ∀ G', Same G G' → k G'
/-- the same, with further cells of which M alone is known -/
def WR (M : Cells → Prop) (Γ : List Kn) (L : Cells) (H : Hp) : Prop := ∃ L0, M L0 ∧ WW Γ (L0 ++ L) H
def noM : Cells → Prop := fun L => L = []
theorem same_new {H : Hp} {p : Addr} {o : HO} (h : H p = none) : Same H (upd H p o) := fun b u e => by
  rw [upd_ne (ne_of_none e h)]
  exact e
section
variable {M : Cells → Prop} {Γ Γ' : List Kn} {L L' L0 : Cells} {H H' : Hp} {p q : Addr} {o o' : HO} {k : Kn}
theorem WW.get (w : WW Γ L H) (h : k ∈ Γ) : k H := by
  obtain ⟨G, g, _, _, f⟩ := w
  exact f k h H g
theorem WW.cell (w : WW Γ L H) (h : (p, o) ∈ L) : H p = some o := by
  obtain ⟨G, _, f, _⟩ := w
  exact (f _ h).1
theorem WW.know (w : WW Γ L H) (o : HO) (h : H p = none) : WW ((fun G => G p = some o) :: Γ) L (upd H p o) := by
  obtain ⟨G, g, f, n, t⟩ := w
  have hG : G p = none := g.free h
  refine ⟨upd G p o, fun b u e => ?_, fun c hc => ?_, n, fun k hk G' s => ?_⟩
  · by_cases hb : b = p
    · subst hb
      rw [upd_same] at e ⊢
      exact e
    · rw [upd_ne hb] at e ⊢
      exact g b u e
  · have hne : c.1 ≠ p := ne_of_none (f c hc).1 h
    rw [upd_ne hne, upd_ne hne]
    exact f c hc
  · cases hk with
    | head => exact s p o upd_same
    | tail _ hk => exact t k hk G' (Same.trans (same_new hG) s)
theorem WW.new (w : WW Γ L H) (o : HO) (h : H p = none) : WW Γ ((p, o) :: L) (upd H p o) := by
  obtain ⟨G, g, f, n, t⟩ := w
  have hG : G p = none := g.free h
  have out : ∀ c ∈ L, c.1 ≠ p := fun c hc => ne_of_none (f c hc).1 h
  refine ⟨G, Same.trans g (same_new h), fun c hc => ?_, ?_, t⟩
  · cases hc with
    | head => exact ⟨upd_same, hG⟩
    | tail _ hc =>
      rw [upd_ne (out c hc)]
      exact f c hc
  · rw [List.map_cons, List.nodup_cons]
    refine ⟨fun hm => ?_, n⟩
    obtain ⟨c, hc, e⟩ := List.mem_map.mp hm
    exact out c hc e
theorem nodup_at {α β : Type} : ∀ {l : List (α × β)} {i j : Nat} {x y : α × β}, (l.map (·.1)).Nodup → l[i]? = some x → l[j]? = some y → x.1 = y.1 → i = j := by
  intro l i j x y n hi hj e
  have h1 : (l.map (·.1))[i]? = some x.1 := by rw [List.getElem?_map, hi] <;> rfl
  have h2 : (l.map (·.1))[j]? = some x.1 := by rw [List.getElem?_map, hj, e] <;> rfl
  obtain ⟨b1, e1⟩ := List.getElem?_eq_some_iff.mp h1
  obtain ⟨b2, e2⟩ := List.getElem?_eq_some_iff.mp h2
  exact (List.getElem_inj n).mp (e1.trans e2.symm)
theorem WW.put (w : WW Γ L H) (i : Nat) (o' : HO) (h : L[i]? = some (p, o)) : WW Γ (L.set i (p, o')) (upd H p o') := by
  obtain ⟨G, g, f, n, t⟩ := w
  have hm : (p, o) ∈ L := List.mem_of_getElem? h
  have hG : G p = none := (f _ hm).2
  refine ⟨G, fun b u e => ?_, fun c hc => ?_, ?_, t⟩
  · rw [upd_ne (ne_of_none e hG)]
    exact g b u e
  · obtain ⟨j, hj⟩ := List.mem_iff_getElem?.mp hc
    by_cases e : i = j
    · subst e
      have hl : i < L.length := (List.getElem?_eq_some_iff.mp h).1
      rw [List.getElem?_set_self hl] at hj
      cases hj
      exact ⟨upd_same, hG⟩
    · rw [List.getElem?_set_ne e] at hj
      have hc' := List.mem_of_getElem? hj
      have hne : c.1 ≠ p := fun z => e (nodup_at n h hj z.symm)
      rw [upd_ne hne]
      exact f c hc'
  · have e : (L.set i (p, o')).map (·.1) = L.map (·.1) := by
      rw [List.map_set]
      refine List.ext_getElem? fun j => ?_
      by_cases ej : i = j
      · subst ej
        have hl : i < L.length := (List.getElem?_eq_some_iff.mp h).1
        rw [List.getElem?_set_self (by rw [List.length_map]; exact hl), List.getElem?_map, h] <;> rfl
      · rw [List.getElem?_set_ne ej]
    rw [e]
    exact n
theorem WW.fix (w : WW Γ ((p, o) :: L) H) : WW ((fun G => G p = some o) :: Γ) L H := by
  obtain ⟨G, g, f, n, t⟩ := w
  obtain ⟨hp, hG⟩ := f (p, o) List.mem_cons_self
  rw [List.map_cons, List.nodup_cons] at n
  refine ⟨upd G p o, fun b u e => ?_, fun c hc => ?_, n.2, fun k hk G' s => ?_⟩
  · by_cases hb : b = p
    · subst hb
      rw [upd_same] at e
      cases e
      exact hp
    · rw [upd_ne hb] at e
      exact g b u e
  · have hne : c.1 ≠ p := fun z => n.1 (List.mem_map.mpr ⟨c, hc, z⟩)
    rw [upd_ne hne]
    exact f c (List.mem_cons_of_mem _ hc)
  · cases hk with
    | head => exact s p o upd_same
    | tail _ hk => exact t k hk G' (Same.trans (same_new hG) s)
theorem WW.perm (w : WW Γ L H) (h : L'.Perm L) : WW Γ L' H := by
  obtain ⟨G, g, f, n, t⟩ := w
  exact ⟨G, g, fun c hc => f c (h.mem_iff.mp hc), (h.map _).nodup_iff.mpr n, t⟩
theorem WW.sub (w : WW Γ L H) (h : ∀ k ∈ Γ', k ∈ Γ) : WW Γ' L H := by
  obtain ⟨G, g, f, n, t⟩ := w
  exact ⟨G, g, f, n, fun k hk => t k (h k hk)⟩
theorem WW.drop (w : WW Γ (L0 ++ L) H) : WW Γ L H := by
  obtain ⟨G, g, f, n, t⟩ := w
  rw [List.map_append, List.nodup_append] at n
  exact ⟨G, g, fun c hc => f c (List.mem_append_right _ hc), n.2.1, t⟩
theorem WW.more (w : WW Γ L H) (k : Kn) (h : ∀ G, (∀ k ∈ Γ, k G) → k G) : WW (k :: Γ) L H := by
  obtain ⟨G, g, f, n, t⟩ := w
  refine ⟨G, g, f, n, fun k' hk G' s => ?_⟩
  cases hk with
  | head => exact h G' fun k hk => t k hk G' s
  | tail _ hk => exact t k' hk G' s
theorem WW.same (w : WW Γ L H) (h : Same H H') : WW Γ L H' := by
  obtain ⟨G, g, f, n, t⟩ := w
  exact ⟨G, Same.trans g h, fun c hc => ⟨h _ _ (f c hc).1, (f c hc).2⟩, n, t⟩
theorem WW.all (w : WW Γ L H) : ∀ k ∈ Γ, k H := fun k h => w.get h
/-- two cells of one's own stand apart -/
theorem WW.ne (w : WW Γ L H) {i j : Nat} (hi : L[i]? = some (p, o)) (hj : L[j]? = some (q, o')) (h : i ≠ j) : p ≠ q := by
  obtain ⟨G, g, f, n, t⟩ := w
  exact fun e => h (nodup_at n hi hj e)
theorem WW.of {H : Hp} {Γ : List Kn} (h : ∀ k ∈ Γ, ∀ G, Same H G → k G) : WW Γ [] H := ⟨H, Same.refl H, fun _ hc => (List.not_mem_nil hc).elim, List.nodup_nil, h⟩
/-! ### the same of WR -/
theorem WR.of (w : WW Γ L H) : WR noM Γ L H := ⟨[], rfl, w⟩
theorem WR.get (w : WR M Γ L H) (h : k ∈ Γ) : k H := by
  obtain ⟨_, _, w⟩ := w
  exact w.get h
theorem WR.all (w : WR M Γ L H) : ∀ k ∈ Γ, k H := fun k h => w.get h
theorem WR.cell (w : WR M Γ L H) (h : (p, o) ∈ L) : H p = some o := by
  obtain ⟨_, _, w⟩ := w
  exact w.cell (List.mem_append_right _ h)
theorem WR.know (w : WR M Γ L H) (o : HO) (h : H p = none) : WR M ((fun G => G p = some o) :: Γ) L (upd H p o) := by
  obtain ⟨L0, m, w⟩ := w
  exact ⟨L0, m, w.know o h⟩
theorem WR.new (w : WR M Γ L H) (o : HO) (h : H p = none) : WR M Γ ((p, o) :: L) (upd H p o) := by
  obtain ⟨L0, m, w⟩ := w
  exact ⟨L0, m, (w.new o h).perm List.perm_middle⟩
theorem WR.put (w : WR M Γ L H) (i : Nat) (o' : HO) (h : L[i]? = some (p, o)) : WR M Γ (L.set i (p, o')) (upd H p o') := by
  obtain ⟨L0, m, w⟩ := w
  refine ⟨L0, m, ?_⟩
  have x := w.put (L0.length + i) o' (by rw [List.getElem?_append_right (Nat.le_add_right _ _), Nat.add_sub_cancel_left]; exact h)
  rw [List.set_append_right _ _ (Nat.le_add_right _ _), Nat.add_sub_cancel_left] at x
  exact x
theorem WR.put0 (w : WR M Γ ((p, o) :: L) H) (o' : HO) : WR M Γ ((p, o') :: L) (upd H p o') := w.put 0 o' rfl
theorem WR.put1 {c : Addr × HO} (w : WR M Γ (c :: (p, o) :: L) H) (o' : HO) : WR M Γ (c :: (p, o') :: L) (upd H p o') := w.put 1 o' rfl
theorem WR.put2 {c d : Addr × HO} (w : WR M Γ (c :: d :: (p, o) :: L) H) (o' : HO) : WR M Γ (c :: d :: (p, o') :: L) (upd H p o') := w.put 2 o' rfl
theorem WR.fix (w : WR M Γ ((p, o) :: L) H) : WR M ((fun G => G p = some o) :: Γ) L H := by
  obtain ⟨L0, m, w⟩ := w
  exact ⟨L0, m, (w.perm List.perm_middle.symm).fix⟩
theorem WR.sub (w : WR M Γ L H) (h : ∀ k ∈ Γ', k ∈ Γ) : WR M Γ' L H := by
  obtain ⟨L0, m, w⟩ := w
  exact ⟨L0, m, w.sub h⟩
theorem WR.more (w : WR M Γ L H) (k : Kn) (h : ∀ G, (∀ k ∈ Γ, k G) → k G) : WR M (k :: Γ) L H := by
  obtain ⟨L0, m, w⟩ := w
  exact ⟨L0, m, w.more k h⟩
theorem WR.same (w : WR M Γ L H) (h : Same H H') : WR M Γ L H' := by
  obtain ⟨L0, m, w⟩ := w
  exact ⟨L0, m, w.same h⟩
theorem WR.perm (w : WR M Γ L H) (h : L'.Perm L) : WR M Γ L' H := by
  obtain ⟨L0, m, w⟩ := w
  exact ⟨L0, m, w.perm ((List.Perm.refl L0).append h)⟩
theorem WR.drop1 {c : Addr × HO} (w : WR M Γ (c :: L) H) : WR M Γ L H := by
  obtain ⟨L0, m, w⟩ := w
  refine ⟨L0, m, WW.drop (L0 := [c]) (w.perm (show (c :: (L0 ++ L)).Perm (L0 ++ c :: L) from (List.perm_middle (a := c) (l₁ := L0) (l₂ := L)).symm))⟩
theorem WR.tail (w : WR M (k :: Γ) L H) : WR M Γ L H := w.sub fun _ h => List.mem_cons_of_mem _ h
end
/-! ### what lists and tuples are -/
section
variable {K : PySem.W.Frag} {H : Hp} {a : Addr} {xs : List V} {v : V} {vs : List V} {d : PyData} {ds : List PyData}
theorem sqL (h : H a = some (.lst xs)) : SqL K H a xs := .inl (.inl h)
theorem sqT (h : H a = some (.tup xs)) : SqT K H a xs := .inl (.inl h)
/-- a written tuple -/
def KT (K : PySem.W.Frag) (a : Addr) (xs : List V) : Prop := ∀ H, SqT K H a xs
end
/-! ### readings, step by step -/
section
variable {K : PySem.W.Frag} {σ : L2.St} {H : Hp} {Q : VK} {D : Ends} {i : Nat} {v x y : V} {ta tb te : TE} {r : R2} {t u : TS} {n m : Int} {z w : Str} {c c' : Bool} {tt tt' : TT} {QB : Bool → Hp → Prop}
theorem g_seq (q : t { D with nx := u D } σ H) : tSeq t u D σ H := q
theorem g_next (q : D.nx σ H) : tNext D σ H := q
theorem g_set (q : te σ H fun x H1 => D.nx (σ.set i (some x)) H1) : tAsg te (gName i) D σ H := q
theorem g_ret (q : te σ H D.rt) : tRet te D σ H := q
theorem g_retN (q : D.rt .non H) : tRetN D σ H := q
theorem g_drop (q : te σ H fun _ H1 => D.nx σ H1) : tDrop te D σ H := q
theorem g_if (q : tt σ H fun b H1 => if b = true then t D σ H1 else u D σ H1) : tIfS tt t u D σ H := q
theorem g_var (h : σ[i]? = some (some v)) (q : Q v H) : tVar i σ H Q := ⟨v, h, q⟩
theorem g_c (q : Q v H) : tC v σ H Q := q
theorem g_op (q : ta σ H fun x H1 => tb σ H1 fun y H2 => r x y H2 Q) : tOp r ta tb σ H Q := q
theorem g_un {r : V → Hp → VK → Prop} (q : ta σ H fun x H1 => r x H1 Q) : tUn r ta σ H Q := q
theorem g_neg (q : Q (.int (-n)) H) : rU (fun i => .int (-i)) (.int n) H Q := ⟨n, rfl, q⟩
theorem g_test (q : te σ H fun x H' => ∃ k, x = .bl k ∧ QB k H') : tTest te σ H QB := q
theorem g_B (q : te σ H fun x H1 => ∃ c, x = .bl c ∧ QB c H1) : tB te σ H QB := q
theorem g_bl {P : Bool → Prop} (q : P c) : ∃ k, V.bl c = .bl k ∧ P k := ⟨c, rfl, q⟩
theorem g_and (q : tt σ H fun c H1 => if c = true then tt' σ H1 QB else QB false H1) : tAnd tt tt' σ H QB := q
theorem g_or (q : tt σ H fun c H1 => if c = true then QB true H1 else tt' σ H1 QB) : tOr tt tt' σ H QB := q
theorem g_not (q : tt σ H fun c H1 => QB (!c) H1) : tNot tt σ H QB := q
theorem g_andV (q : ta σ H fun x H1 => ∃ c, x = .bl c ∧ if c = true then tb σ H1 Q else Q (.bl false) H1) : tAndV ta tb σ H Q := q
theorem g_orV (q : ta σ H fun x H1 => ∃ c, x = .bl c ∧ if c = true then Q (.bl true) H1 else tb σ H1 Q) : tOrV ta tb σ H Q := q
theorem g_notV (q : ta σ H fun x H1 => ∃ c, x = .bl c ∧ Q (.bl (!c)) H1) : tNotV ta σ H Q := q
theorem g_ifE (q : tt σ H fun c H1 => if c = true then ta σ H1 Q else tb σ H1 Q) : tIf tt ta tb σ H Q := q
theorem g_chain {r r' : R2} {tc : TE} (q : ta σ H fun x H1 => tb σ H1 fun y H2 => r x y H2 fun z H3 => ∃ k, z = .bl k ∧ (if k = true then tc σ H3 fun w' H4 => r' y w' H4 Q else Q (.bl false) H3)) : tChain r r' ta tb tc σ H Q := q
theorem g_nil {Q : List V → Hp → Prop} (q : Q [] H) : tNil σ H Q := q
theorem g_cons {tr : TA} {Q : List V → Hp → Prop} (q : ta σ H fun x H1 => tr σ H1 fun xs H2 => Q (x :: xs) H2) : tCons ta tr σ H Q := q
theorem g_tup {t : TA} (q : t σ H fun xs H1 => xs.length ≤ sizeLine ∧ ∀ p, H1 p = none → Q (.ref p) (upd H1 p (.tup xs))) : tTup t σ H Q := q
theorem g_lst {t : TA} (q : t σ H fun xs H1 => xs.length ≤ sizeLine ∧ ∀ p, H1 p = none → Q (.ref p) (upd H1 p (.lst xs))) : tLst t σ H Q := q
theorem g_cb {r : List V → Hp → VK → Prop} {t : TA} (q : t σ H fun vs H1 => r vs H1 Q) : tCB r t σ H Q := q
theorem g_call {sp : Sp} {dvs : List V} {E : XK} {t : TA} (q : t σ H fun vs H1 => sp (vs ++ dvs) H1 Q E) : tCall sp dvs E t σ H Q := q
theorem g_nop {Q : Option Int → Hp → Prop} (q : Q none H) : tNoPart σ H Q := q
theorem g_part {Q : Option Int → Hp → Prop} (q : te σ H fun x H1 => ∃ i, x = .int i ∧ Q (some i) H1) : tPart te σ H Q := q
theorem g_int {P : Int → Prop} (q : P n) : ∃ i, V.int n = .int i ∧ P i := ⟨n, rfl, q⟩
theorem g_sl {r : V → Option Int → Option Int → Hp → VK → Prop} {tl th : TO} (q : te σ H fun x H1 => tl σ H1 fun lo H2 => th σ H2 fun hi H3 => r x lo hi H3 Q) : tSl r te tl th σ H Q := q
theorem g_bm0 {T : String} {r : V → List V → Hp → VK → Prop} (q : ta σ H fun x H1 => tyV K T x H1 ∧ r x [] H1 Q) : tBM0 K T r ta σ H Q := q
theorem g_bm {T : String} {r : V → List V → Hp → VK → Prop} {t : TA} (q : ta σ H fun x H1 => tyV K T x H1 ∧ t σ H1 fun xs H2 => r x xs H2 Q) : tBM K T r ta t σ H Q := q
theorem g_m0 {r : V → List V → Hp → VK → Prop} (q : ta σ H fun x H1 => (∃ a, x = .str a) ∧ r x [] H1 Q) : tM0 r ta σ H Q := q
theorem g_m1 {r : V → List V → Hp → VK → Prop} (q : ta σ H fun x H1 => (∃ a, x = .str a) ∧ te σ H1 fun y H2 => r x [y] H2 Q) : tM1 r ta te σ H Q := q
/-! #### values -/
theorem g_addI (q : Q (.int (n + m)) H) : rAddA K (.int n) (.int m) H Q := .inl ⟨n, m, rfl, rfl, q⟩
theorem g_addS (h : z.length + w.length ≤ sizeLine) (q : Q (.str (z ++ w)) H) : rAddA K (.str z) (.str w) H Q := .inr (.inl ⟨z, w, rfl, rfl, h, q⟩)
theorem g_addL {a b : Addr} {xs ys : List V} (ha : H a = some (.lst xs)) (hb : H b = some (.lst ys)) (hl : xs.length + ys.length ≤ sizeLine) (q : ∀ p, H p = none → Q (.ref p) (upd H p (.lst (xs ++ ys)))) : rAddA K (.ref a) (.ref b) H Q := .inr (.inr (.inl ⟨a, b, xs, ys, rfl, rfl, ha, hb, hl, q⟩))
theorem g_subI (q : Q (.int (n - m)) H) : rI0 (fun i j => .int (i - j)) (.int n) (.int m) H Q := ⟨n, m, rfl, rfl, q⟩
theorem g_mulI (h : CMul n m ∨ CMulX n m) (q : Q (.int (n * m)) H) : rMulA K (.int n) (.int m) H Q := h.elim (fun h => .inl ⟨n, m, rfl, rfl, h, q⟩) fun h => .inr (.inl ⟨n, m, rfl, rfl, h, q⟩)
theorem g_mulS (h : MulOk z n) (q : Q (.str (Txt.mul z n)) H) : rMulA K (.str z) (.int n) H Q := .inr (.inr (.inl ⟨z, n, rfl, rfl, h, q⟩))
theorem g_divI (h : CDivA n m) (q : Q (.int (n.fdiv m)) H) : rI CDivA (fun i j => .int (i.fdiv j)) (.int n) (.int m) H Q := ⟨n, m, rfl, rfl, h, q⟩
theorem g_modI (h : 0 < m) (q : Q (.int (n % m)) H) : rI (fun _ j => j ≠ 0) (fun i j => .int (i.fmod j)) (.int n) (.int m) H Q := ⟨n, m, rfl, rfl, by omega, by (show Q (.int (n.fmod m)) H); rw [Int.fmod_eq_emod_of_nonneg n (by omega)]; exact q⟩
theorem g_powI (h : CPow n m) (q : Q (.int (n ^ m.toNat)) H) : rI CPow (fun i j => .int (i ^ j.toNat)) (.int n) (.int m) H Q := ⟨n, m, rfl, rfl, h, q⟩
theorem g_eqI (q : Q (.bl (decide (n = m))) H) : rEqA K (.int n) (.int m) H Q := .inl ⟨rfl, by rw [show decide (V.int n = V.int m) = decide (n = m) from decide_eq_decide.mpr ⟨fun e => V.int.inj e, fun e => by rw [e]⟩]; exact q⟩
theorem g_neI (q : Q (.bl (!decide (n = m))) H) : rNeA K (.int n) (.int m) H Q := .inl ⟨rfl, by rw [show decide (V.int n = V.int m) = decide (n = m) from decide_eq_decide.mpr ⟨fun e => V.int.inj e, fun e => by rw [e]⟩]; exact q⟩
theorem g_eqS (q : Q (.bl (decide (z = w))) H) : rEqA K (.str z) (.str w) H Q := .inl ⟨rfl, by rw [show decide (V.str z = V.str w) = decide (z = w) from decide_eq_decide.mpr ⟨fun e => V.str.inj e, fun e => by rw [e]⟩]; exact q⟩
theorem g_neS (q : Q (.bl (!decide (z = w))) H) : rNeA K (.str z) (.str w) H Q := .inl ⟨rfl, by rw [show decide (V.str z = V.str w) = decide (z = w) from decide_eq_decide.mpr ⟨fun e => V.str.inj e, fun e => by rw [e]⟩]; exact q⟩
theorem g_eqB (q : Q (.bl (decide (c = c'))) H) : rEqA K (.bl c) (.bl c') H Q := .inl ⟨rfl, by rw [show decide (V.bl c = V.bl c') = decide (c = c') from decide_eq_decide.mpr ⟨fun e => V.bl.inj e, fun e => by rw [e]⟩]; exact q⟩
theorem g_neB (q : Q (.bl (!decide (c = c'))) H) : rNeA K (.bl c) (.bl c') H Q := .inl ⟨rfl, by rw [show decide (V.bl c = V.bl c') = decide (c = c') from decide_eq_decide.mpr ⟨fun e => V.bl.inj e, fun e => by rw [e]⟩]; exact q⟩
theorem g_eqD {d e : PyData} (h1 : Dp K H x d) (h2 : Dp K H y e) (s1 : SeqAt.shaped d = true) (s2 : SeqAt.shaped e = true) (q : Q (.bl (PyData.eqv d e)) H) : rEqA K x y H Q := .inr ⟨d, e, h1, h2, s1, s2, q⟩
theorem g_neD {d e : PyData} (h1 : Dp K H x d) (h2 : Dp K H y e) (s1 : SeqAt.shaped d = true) (s2 : SeqAt.shaped e = true) (q : Q (.bl (!PyData.eqv d e)) H) : rNeA K x y H Q := .inr ⟨d, e, h1, h2, s1, s2, q⟩
theorem g_ltI (q : Q (.bl (decide (n < m))) H) : rLtA (.int n) (.int m) H Q := .inl ⟨n, m, rfl, rfl, q⟩
theorem g_gtI (q : Q (.bl (decide (m < n))) H) : rGtA (.int n) (.int m) H Q := .inl ⟨n, m, rfl, rfl, q⟩
theorem g_leI (q : Q (.bl (decide (n ≤ m))) H) : rLe (.int n) (.int m) H Q := ⟨n, m, rfl, rfl, q⟩
theorem g_geI (q : Q (.bl (decide (m ≤ n))) H) : rGe (.int n) (.int m) H Q := ⟨n, m, rfl, rfl, q⟩
theorem g_inS {s : Nat} (q : Q (.bl (decide (s ∈ z.cps.toList))) H) : rInA K (.str ⟨#[s]⟩) (.str z) H Q := .inl ⟨s, z, rfl, rfl, q⟩
theorem g_niS {s : Nat} (q : Q (.bl (!decide (s ∈ z.cps.toList))) H) : rNiA K (.str ⟨#[s]⟩) (.str z) H Q := .inl ⟨s, z, rfl, rfl, q⟩
theorem g_inQ {a : Addr} {xs : List V} (h : SqL K H a xs ∨ SqT K H a xs) (h1 : flatV x = true) (h2 : xs.all flatV = true) (q : Q (.bl (inV x xs)) H) : rInA K x (.ref a) H Q := .inr (.inl ⟨a, xs, rfl, h, h1, h2, q⟩)
theorem g_niQ {a : Addr} {xs : List V} (h : SqL K H a xs ∨ SqT K H a xs) (h1 : flatV x = true) (h2 : xs.all flatV = true) (q : Q (.bl (!inV x xs)) H) : rNiA K x (.ref a) H Q := .inr (.inl ⟨a, xs, rfl, h, h1, h2, q⟩)
theorem g_inDc {a : Addr} {o : Option V} (h : DGet H a x o) (q : Q (.bl o.isSome) H) : rInA K x (.ref a) H Q := .inr (.inr (.inr ⟨a, o, rfl, h, q⟩))
theorem g_niDc {a : Addr} {o : Option V} (h : DGet H a x o) (q : Q (.bl (!o.isSome)) H) : rNiA K x (.ref a) H Q := .inr (.inr (.inr ⟨a, o, rfl, h, q⟩))
theorem g_isN (q : Q (.bl (decide (x = .non))) H) : rIsA x .non H Q := .inl ⟨rfl, q⟩
theorem g_notN (q : Q (.bl (!decide (x = .non))) H) : rNotA x .non H Q := .inl ⟨rfl, q⟩
theorem g_isB (q : Q (.bl (decide (c = c'))) H) : rIsA (.bl c) (.bl c') H Q := .inr ⟨c, c', rfl, rfl, q⟩
theorem g_notB (q : Q (.bl (!decide (c = c'))) H) : rNotA (.bl c) (.bl c') H Q := .inr ⟨c, c', rfl, rfl, q⟩
theorem g_ixL {a : Addr} {xs : List V} (h : SqL K H a xs) (ha : atI xs n = some v) (q : Q v H) : rIxA K (.ref a) (.int n) H Q := .inl (.inl ⟨a, xs, n, v, rfl, rfl, h, ha, q⟩)
theorem g_ixT {a : Addr} {xs : List V} (h : SqT K H a xs) (ha : atI xs n = some v) (q : Q v H) : rIxA K (.ref a) (.int n) H Q := .inl (.inr (.inl ⟨a, xs, n, v, rfl, rfl, h, ha, q⟩))
theorem g_ixS {s : Nat} (h : z.length ≤ sizeLine) (ha : atI z.cps.toList n = some s) (q : Q (.str ⟨#[s]⟩) H) : rIxA K (.str z) (.int n) H Q := .inl (.inr (.inr ⟨z, n, s, rfl, rfl, h, ha, q⟩))
theorem g_ixD {a : Addr} (h : DGet H a x (some v)) (q : Q v H) : rIxA K (.ref a) x H Q := .inr ⟨a, v, rfl, h, q⟩
theorem g_slL {a : Addr} {xs : List V} {lo hi : Option Int} (h : SqL K H a xs) (q : ∀ p, H p = none → Q (.ref p) (upd H p (.lst (cutV xs lo hi)))) : rSlAny K (.ref a) lo hi H Q := .inl ⟨a, xs, rfl, h, q⟩
theorem g_slS {lo hi : Option Int} (h : z.length ≤ sizeLine) (q : Q (.str (cutS z lo hi)) H) : rSlAny K (.str z) lo hi H Q := .inr (.inr ⟨z, rfl, h, q⟩)
theorem g_lenS (h : z.length ≤ sizeLine) (q : Q (.int z.length) H) : rLenA K [.str z] H Q := .inl ⟨.str z, z.length, rfl, ⟨h, rfl⟩, q⟩
theorem g_lenL {a : Addr} {xs : List V} (h : SqL K H a xs) (q : Q (.int xs.length) H) : rLenA K [.ref a] H Q := .inl ⟨.ref a, xs.length, rfl, .inl ⟨xs, h, rfl⟩, q⟩
theorem g_lenT {a : Addr} {xs : List V} (h : SqT K H a xs) (q : Q (.int xs.length) H) : rLenA K [.ref a] H Q := .inl ⟨.ref a, xs.length, rfl, .inr ⟨xs, h, rfl⟩, q⟩
theorem g_lenD {a : Addr} {kvs : List (Key × V)} (h : H a = some (.dK kvs)) (q : Q (.int kvs.length) H) : rLenA K [.ref a] H Q := .inr ⟨a, kvs, rfl, h, q⟩
theorem g_intB (q : Q (.int (if c then 1 else 0)) H) : rIntA [.bl c] H Q := .inl (.inr ⟨c, rfl, q⟩)
theorem g_intI (q : Q (.int n) H) : rIntA [.int n] H Q := .inl (.inl ⟨n, rfl, q⟩)
theorem g_intS (h : PySem.intText? z = some n) (hl : z.length ≤ 640) (q : Q (.int n) H) : rIntA [.str z] H Q := .inr ⟨z, n, rfl, h, hl, q⟩
theorem g_max (q : Q (.int (if m > n then m else n)) H) : rMax2' [.int n, .int m] H Q := ⟨n, m, rfl, q⟩
theorem g_min (q : Q (.int (if m < n then m else n)) H) : rMin2' [.int n, .int m] H Q := ⟨n, m, rfl, q⟩
theorem g_abs (q : Q (.int (if n < 0 then -n else n)) H) : rAbs' [.int n] H Q := ⟨n, rfl, q⟩
theorem g_repr {d : PyData} (hx : x ≠ .non) (h : Dp K H x d) (hs : ShowOk d) (q : Q (.str d.shown) H) : rRepr K [x] H Q := ⟨x, d, rfl, hx, h, hs, q⟩
/-! #### tests -/
theorem g_ite {A B : Prop} (h1 : c = true → A) (h2 : c = false → B) : if c = true then A else B := by
  cases c with
  | true => exact iteT (h1 rfl)
  | false => exact iteF (h2 rfl)
theorem g_nF {A B : Prop} (h : A) : if (!false) = true then A else B := iteT h
theorem g_nT {A B : Prop} (h : B) : if (!true) = true then A else B := iteF h
theorem g_iteD {P : Prop} [Decidable P] {A B : Prop} (h1 : P → A) (h2 : ¬ P → B) : if decide P = true then A else B := by
  by_cases h : P
  · rw [if_pos (decide_eq_true h)]
    exact h1 h
  · rw [decide_eq_false h]
    exact iteF (h2 h)
theorem g_iteN {P : Prop} [Decidable P] {A B : Prop} (h1 : ¬ P → A) (h2 : P → B) : if (!decide P) = true then A else B := by
  by_cases h : P
  · rw [decide_eq_true h]
    exact iteF (h2 h)
  · rw [decide_eq_false h]
    exact iteT (h1 h)
end
end Ct
/-! stores, room, loops, comprehensions -/
namespace Ct
open PySem PySem.Spec PyProof.Rows L2
theorem hu1 {k : Nat} {A : Around} (r : Room k A) : A.units + 1 < cLine := by have := r.un; omega
theorem hu64 {k : Nat} {A : Around} (r : Room k A) : A.units + 64 < cLine := by have := r.un; omega
theorem hu65 {k : Nat} {A : Around} (r : Room k A) : A.units + 65 < cLine := by have := r.un; omega
theorem hu120 {k : Nat} {A : Around} (r : Room k A) : A.units + 120 < cLine := by have := r.un; omega
section
variable {X : Cx}
def rSetA : TSet := fun o i v H Q => rSetL o i v H Q ∨ rSetD o i v H Q
theorem set_any (hu : X.A.units + 1 < cLine) : PSet X rSetA := by
  intro pins s σ H o i v ov iv u Q I ro ri rv h
  rcases h with h | h
  · exact set_list pins s σ H o i v ov iv u Q I ro ri rv h
  · exact set_dict hu pins s σ H o i v ov iv u Q I ro ri rv h
def rAugA : TIp := fun x y H Q => (ipI fun i j => i + j) x y H Q ∨ ∃ i j, x = .str i ∧ y = .str j ∧ i.length + j.length ≤ sizeLine ∧ Q (.str (i ++ j)) H
theorem ip_addA : PIp X .Add rAugA := by
  intro pins s σ H x y v u Q I rx ry h
  rcases h with h | h
  · exact ip_add pins s σ H x y v u Q I rx ry h
  · exact iop_add_str pins s σ H x y v u Q I rx ry h
end
abbrev rSplit : V → List V → Hp → VK → Prop := fun x xs H Q => ∃ a b, x = .str a ∧ xs = [.str b] ∧ (b.length == 0) = false ∧ a.length + 2 ≤ sizeLine ∧ rNewStrs (Txt.split a b) H Q
abbrev rJoin (K : PySem.W.Frag) : V → List V → Hp → VK → Prop := fun x xs H Q => ∃ a p, ∃ ys : List Str, x = .str a ∧ xs = [.ref p] ∧ (SqL K H p (ys.map V.str) ∨ SqT K H p (ys.map V.str)) ∧ (ys.map (·.length)).sum + ys.length * a.length ≤ 16777216 ∧ Q (.str (Txt.join a ys)) H
section
variable {K : PySem.W.Frag} {σ : L2.St} {H : Hp} {Q : VK} {D : Ends} {x y v : V} {z w : Str} {a : Addr} {xs : List V} {n m : Int} {k : Key} {kvs : List (Key × V)}
theorem g_setI {o i : V} {QH : Hp → Prop} {j : Nat} (h : H a = some (.lst xs)) (hj : ixN xs.length n = some j) (q : QH (upd H a (.lst (xs.set j v)))) : rSetA (.ref a) (.int n) v H QH := .inl ⟨a, xs, n, j, rfl, rfl, h, hj, q⟩
theorem g_setK {QH : Hp → Prop} (k : Key) (h : H a = some (.dK kvs)) (hl : kvs.length < sizeLine) (q : QH (upd H a (.dK (putK kvs k v)))) : rSetA (.ref a) (kV k) v H QH := .inr ⟨a, _, rfl, DPut.k h hl, q⟩
theorem g_augI (q : Q (.int (n + m)) H) : rAugA (.int n) (.int m) H Q := .inl ⟨n, m, rfl, rfl, q⟩
theorem g_augS (h : z.length + w.length ≤ sizeLine) (q : Q (.str (z ++ w)) H) : rAugA (.str z) (.str w) H Q := .inr ⟨z, w, rfl, rfl, h, q⟩
theorem g_split (h : (w.length == 0) = false) (hl : z.length + 2 ≤ sizeLine) (q : ∀ p, H p = none → Q (.ref p) (upd H p (.lst ((Txt.split z w).map V.str)))) : rSplit (.str z) [.str w] H Q := ⟨z, w, rfl, rfl, h, hl, q⟩
theorem g_join {ys : List Str} (h : SqL K H a (ys.map V.str) ∨ SqT K H a (ys.map V.str)) (hl : (ys.map (·.length)).sum + ys.length * z.length ≤ 16777216) (q : Q (.str (Txt.join z ys)) H) : rJoin K (.str z) [.ref a] H Q := ⟨z, a, ys, rfl, rfl, h, hl, q⟩
theorem g_pop (h : H a = some (.lst xs)) (hx : xs[xs.length - 1]? = some y) (q : Q y (upd H a (.lst xs.dropLast))) : rPop (.ref a) [] H Q := ⟨a, xs, y, rfl, rfl, h, hx, q⟩
theorem g_app (h : H a = some (.lst xs)) (hl : xs.length < sizeLine) (q : Q .non (upd H a (.lst (xs ++ [y])))) : rAppend (.ref a) [y] H Q := ⟨a, xs, y, rfl, rfl, h, hl, q⟩
theorem g_all {bs : List Bool} (h : SqL K H a (bs.map V.bl)) (q : Q (.bl (bs.all id)) H) : rAll K [.ref a] H Q := ⟨a, bs, rfl, h, q⟩
theorem g_any {bs : List Bool} (h : SqL K H a (bs.map V.bl)) (q : Q (.bl (bs.any id)) H) : rAny K [.ref a] H Q := ⟨a, bs, rfl, h, q⟩
theorem g_tyL (h : SqL K H a xs) : tyV K "list" (.ref a) H := .inl ⟨rfl, _, h⟩
theorem g_lrev {te : TE} (q : te σ H fun v H1 => ∃ (a : Addr) (xs : List V), v = .ref a ∧ SqL K H1 a xs ∧ ∀ q, H1 q = none → Q (.ref q) (upd H1 q (.lst xs.reverse))) : tListRev K te σ H Q := q
theorem g_par {i j : Nat} {ta : TA} (q : ta σ H fun vs H1 => ∃ v w, vs = [v, w] ∧ D.nx ((σ.set i (some v)).set j (some w)) H1) : tPar i j ta D σ H := q
theorem g_par3 {i j l : Nat} {ta : TA} (q : ta σ H fun vs H1 => ∃ u v w, vs = [u, v, w] ∧ D.nx (((σ.set i (some u)).set j (some v)).set l (some w)) H1) : tPar3 i j l ta D σ H := q
theorem g_asg {te : TE} {g : TG} (q : te σ H fun x H1 => g x σ H1 D.nx) : tAsg te g D σ H := q
theorem g_sub {to ti : TE} {t : TSet} {QS : L2.St → Hp → Prop} (q : to σ H fun o H1 => ti σ H1 fun i H2 => t o i v H2 fun H3 => QS σ H3) : gSub to ti t v σ H QS := q
theorem g_name {i : Nat} {QS : L2.St → Hp → Prop} (q : QS (σ.set i (some v)) H) : gName i v σ H QS := q
theorem g_aug {i : Nat} {te : TE} {ti : TIp} (h : σ[i]? = some (some x)) (q : te σ H fun y H1 => ti x y H1 fun z H2 => D.nx (σ.set i (some z)) H2) : tAug i te ti D σ H := ⟨x, h, q⟩
/-! ### loops: W, the invariant; B, what holds behind -/
theorem l_while {c : TT} {tb : TS} (W : Nat → L2.St → Hp → Prop) (B : L2.St → Hp → Prop) (h0 : ∃ m, W m σ H)
    (hs : ∀ X : L2.St → Hp → Prop, (∀ σ H, B σ H → X σ H) → ∀ m σ H, W m σ H → c σ H fun b H1 => if b = true then ∃ N : L2.St → Hp → Prop, (∀ σ' H', N σ' H' → ∃ m', m' < m ∧ W m' σ' H') ∧ tb { D with nx := N, ct := N, bk := X } σ H1 else X σ H1)
    (hd : ∀ σ H, B σ H → D.nx σ H) : tWhile c tb D σ H := ⟨W, h0, hs D.nx hd⟩
theorem g_turn {W : Nat → L2.St → Hp → Prop} {k : Nat} {P : (L2.St → Hp → Prop) → Prop} (q : P fun σ' H' => ∃ m', m' < k ∧ W m' σ' H') : ∃ N : L2.St → Hp → Prop, (∀ σ' H', N σ' H' → ∃ m', m' < k ∧ W m' σ' H') ∧ P N := ⟨_, fun _ _ h => h, q⟩
def LcGo (J : It) (g : TG) (tt : TT) (te : TE) (vs : List Nat) (σ : L2.St) (H : Hp) (Q : VK) : Prop :=
  ∀ D, H D = none → ∃ W : Nat → Nat → Hp → Prop, (∃ m, W 0 m (upd H D (.lst []))) ∧ ∀ i m H, W i m H →
      (J.stop i H ∧ Q (.ref D) H) ∨ (J.go i H ∧ ∃ Nx : Hp → Prop, (∀ H', Nx H' → ∃ m', m' < m ∧ W (i + 1) m' H') ∧ ∀ x H', J.yld i H x H' → g x (wipe σ vs) H' fun σ2 H2 => wipe σ2 vs = wipe σ vs ∧ tt σ2 H2 fun b H3 =>
        if b = true then te σ2 H3 fun y H4 => ∃ acc, H4 D = some (.lst acc) ∧ acc.length < sizeLine ∧ Nx (upd H4 D (.lst (acc ++ [y]))) else Nx H3)
def ForGo (J : It) (g : TG) (tb : TS) (D : Ends) (σ : L2.St) (H : Hp) : Prop :=
  ∃ W : Nat → Nat → L2.St → Hp → Prop, (∃ m, W 0 m σ H) ∧ ∀ i m σ H, W i m σ H →
      (J.stop i H ∧ D.nx σ H) ∨ (J.go i H ∧ ∃ N : L2.St → Hp → Prop, (∀ σ' H', N σ' H' → ∃ m', m' < m ∧ W (i + 1) m' σ' H') ∧ ∀ x H', J.yld i H x H' → g x σ H' fun σ2 H2 => tb { D with nx := N, ct := N, bk := D.nx } σ2 H2)
/-! ### comprehensions: R, what is known of the list so far behind i turns -/
theorem c_lc {M : Cells → Prop} {Γ : List Kn} {L : Cells} {J : It} {n : Nat} {G : Hp → Prop} {Y : Nat → Hp → V → Hp → Prop} {g : TG} {tt : TT} {te : TE} {vs : List Nat} (wk : Walk J n G Y) (w : WR M Γ L H) (R : Nat → List V → Hp → Prop)
    (r0 : ∀ G, R 0 [] G) (hz : ∀ i acc G, i < n → R i acc G → acc.length < sizeLine) (hG : ∀ i acc D H, i ≤ n → WR M (R i acc :: Γ) ((D, .lst acc) :: L) H → G H)
    (hs : ∀ i x D acc H H' (N : V → Hp → Prop) (N0 : Hp → Prop), i < n → WR M (R i acc :: Γ) ((D, .lst acc) :: L) H → Y i H x H' →
      (∀ y H4, WR M (R (i + 1) (acc ++ [y]) :: R i acc :: Γ) ((D, .lst acc) :: L) H4 → N y H4) → (∀ H3, WR M (R (i + 1) acc :: R i acc :: Γ) ((D, .lst acc) :: L) H3 → N0 H3) →
      g x (wipe σ vs) H' fun σ2 H2 => wipe σ2 vs = wipe σ vs ∧ tt σ2 H2 fun b H3 => if b = true then te σ2 H3 N else N0 H3)
    (hd : ∀ D acc H, WR M (R n acc :: Γ) ((D, .lst acc) :: L) H → Q (.ref D) H) :
    LcGo J g tt te vs σ H Q := by
  intro D hD
  refine lc_it wk (fun i H => ∃ acc, WR M (R i acc :: Γ) ((D, .lst acc) :: L) H) ⟨[], (w.new (.lst []) hD).more _ fun G _ => r0 G⟩ (fun i H hi ⟨acc, w⟩ => hG i acc D H hi w) ?_ (fun H ⟨acc, w⟩ => hd D acc H w)
  rintro i x H H' hi ⟨acc, w⟩ y
  have two : ∀ {k : Kn} {L' : Cells} {H' : Hp}, WR M (k :: R i acc :: Γ) L' H' → WR M (k :: Γ) L' H' := fun w => w.sub fun k hk => by
    cases hk with
    | head => exact .head _
    | tail _ hk => exact .tail _ (.tail _ hk)
  exact hs i x D acc H H' _ _ hi w y (fun v H4 w4 => ⟨acc, w4.cell (.head _), hz i acc H4 hi (w4.get (.tail _ (.head _))), acc ++ [v], two (w4.put0 _)⟩) (fun H3 w3 => ⟨acc, two w3⟩)
theorem g_lc {wi : TI} {g : TG} {tt : TT} {te : TE} {vs : List Nat} (q : wi σ H fun J H1 => LcGo J g tt te vs σ H1 Q) : tLc wi g tt te vs σ H Q := q
theorem g_for {wi : TI} {g : TG} {tb : TS} (q : wi σ H fun J H1 => ForGo J g tb D σ H1) : tFor wi g tb D σ H := q
/-- a for: J and Y as the walk tells -/
theorem c_for {J : It} {n : Nat} {G : Hp → Prop} {Y : Nat → Hp → V → Hp → Prop} {g : TG} {tb : TS} (wk : Walk J n G Y) (Pv : Nat → L2.St → Hp → Prop) (B : L2.St → Hp → Prop) (h0 : Pv 0 σ H) (hG : ∀ i σ H, i ≤ n → Pv i σ H → G H)
    (hs : ∀ X : L2.St → Hp → Prop, (∀ σ H, B σ H → X σ H) → ∀ i x σ H H', i < n → Pv i σ H → Y i H x H' → g x σ H' fun σ2 H2 => tb { D with nx := Pv (i + 1), ct := Pv (i + 1), bk := X } σ2 H2) (he : ∀ σ H, Pv n σ H → B σ H) (hd : ∀ σ H, B σ H → D.nx σ H) :
    ForGo J g tb D σ H :=
  for_it wk Pv h0 hG (hs D.nx hd) fun σ H p => hd σ H (he σ H p)
/-! ### what is walked -/
theorem g_seqI {tl : TE} {R : It → Hp → Prop} (q : tl σ H fun x H1 => wSeq K x H1 R) : iSeq K tl σ H R := q
theorem g_inL {R : It → Hp → Prop} (h : SqL K H a xs) (q : R (Itl K a) H) : wSeq K (.ref a) H R := .inl ⟨a, rfl, ⟨_, h⟩, q⟩
theorem g_inT {R : It → Hp → Prop} (h : SqT K H a xs) (q : R (Itt K a) H) : wSeq K (.ref a) H R := .inr (.inl ⟨a, rfl, ⟨_, h⟩, q⟩)
theorem g_inStr {R : It → Hp → Prop} (q : R (Its z) H) : wSeq K (.str z) H R := .inr (.inr ⟨z, rfl, q⟩)
theorem g_rng {ta : TA} {R : It → Hp → Prop} (q : ta σ H fun vs H1 => ∃ j : Int, vs = [.int j] ∧ -(2 ^ 62) ≤ j ∧ j < 2 ^ 62 ∧ R (Itr 0 j.toNat) H1) : iRng1 ta σ H R := q
theorem g_rngI {R : It → Hp → Prop} (h1 : -(2 ^ 62) ≤ n) (h2 : n < 2 ^ 62) (q : R (Itr 0 n.toNat) H) : ∃ j : Int, [V.int n] = [.int j] ∧ -(2 ^ 62) ≤ j ∧ j < 2 ^ 62 ∧ R (Itr 0 j.toNat) H := ⟨n, rfl, h1, h2, q⟩
theorem g_yes {QB : Bool → Hp → Prop} (q : QB true H) : tYes σ H QB := q
theorem g_cut {t u : TS} (M : L2.St → Hp → Prop) (h1 : t { D with nx := M } σ H) (h2 : ∀ σ' H', M σ' H' → u D σ' H') : C8.tCut t u D σ H := ⟨M, h1, h2⟩
theorem g_gtup {k : Nat} {t : TGs} {QS : L2.St → Hp → Prop} (h : SqT K H a xs) (hl : xs.length = k) (q : t xs σ H QS) : gTup K k t (.ref a) σ H QS := ⟨a, xs, rfl, h, hl, q⟩
theorem g_gcons {t : TG} {u : TGs} {vs : List V} {QS : L2.St → Hp → Prop} (q : t v σ H fun σ' H' => u vs σ' H' QS) : gCons t u (v :: vs) σ H QS := ⟨v, vs, rfl, q⟩
theorem g_gnil {QS : L2.St → Hp → Prop} (q : QS σ H) : gNil [] σ H QS := ⟨rfl, q⟩
theorem at_in {α : Type} {l : List α} {r : Int} (h0 : 0 ≤ r) (h1 : r < (l.length : Int)) : ∃ x, atI l r = some x ∧ x ∈ l ∧ l[r.toNat]? = some x := by
  obtain ⟨j, rfl⟩ : ∃ j : Nat, r = (j : Int) := ⟨r.toNat, by omega⟩
  have hj : j < l.length := by omega
  exact ⟨l[j], atI_nat (List.getElem?_eq_getElem hj), List.getElem_mem hj, by simp [hj]⟩
theorem g_disp {trs : List (TE × TE)} (q : ∀ p, H p = none → tPairs trs σ (upd H p (.dK [])) fun ps H2 => H2 p = some (.dK []) ∧ ∃ kvs : List (Key × V), ps = kvs.map (fun kv => (kV kv.1, kv.2)) ∧ kvs.length ≤ 15 ∧ Q (.ref p) (upd H2 p (.dK (mergeK [] kvs)))) : tDisp trs σ H Q := q
theorem g_pairs {tk tv : TE} {r : List (TE × TE)} {Q : List (V × V) → Hp → Prop} (q : tk σ H fun x H1 => tv σ H1 fun y H2 => tPairs r σ H2 fun ps H3 => Q ((x, y) :: ps) H3) : tPairs ((tk, tv) :: r) σ H Q := q
theorem g_pairs0 {Q : List (V × V) → Hp → Prop} (q : Q [] H) : tPairs [] σ H Q := q
theorem cut_map {α : Type} (f : α → V) (xs : List α) (lo hi : Option Int) : ∃ ys : List α, cutV (xs.map f) lo hi = ys.map f ∧ (∀ y ∈ ys, y ∈ xs) ∧ ys.length ≤ xs.length := by
  refine ⟨(xs.drop (HT.sIx xs.length 0 lo)).take (HT.sIx xs.length xs.length hi - HT.sIx xs.length 0 lo), ?_, fun y hy => List.mem_of_mem_drop (List.mem_of_mem_take hy), ?_⟩
  · unfold cutV
    rw [List.map_take, List.map_drop, List.length_map]
  · rw [List.length_take, List.length_drop]
    omega
theorem sz {n : Nat} (h : n ≤ 1000000) : n ≤ sizeLine := Nat.le_trans h (by decide)
theorem szl {n : Nat} (h : n ≤ 1000000) : n < sizeLine := Nat.lt_of_le_of_lt h (by decide)
theorem at_map {α : Type} {f : α → V} {xs : List α} {i : Nat} {v : V} (h : (xs.map f)[i]? = some v) : ∃ x, xs[i]? = some x ∧ v = f x := by
  rw [List.getElem?_map] at h
  cases e : xs[i]? with
  | none =>
    rw [e] at h
    cases h
  | some x =>
    rw [e] at h
    exact ⟨x, rfl, (Option.some.inj h).symm⟩
end
end Ct
/-! texts: their sizes and signs -/
namespace Ct
open PySem PySem.Spec PyProof.Rows L2
/-- at most n signs, all of them below 128 -/
def TX (n : Nat) (z : Str) : Prop := z.length ≤ n ∧ ∀ c ∈ z.cps.toList, c < 128
theorem TX.mono {n m : Nat} {z : Str} (h : TX n z) (l : n ≤ m) : TX m z := ⟨Nat.le_trans h.1 l, h.2⟩
theorem cps_app (a b : Str) : (a ++ b).cps.toList = a.cps.toList ++ b.cps.toList := by rw [Str.cps_append, Array.toList_append]
theorem len_app (a b : Str) : (a ++ b).length = a.length + b.length := Str.length_append a b
theorem len_list (z : Str) : z.cps.toList.length = z.length := Array.length_toList
theorem TX.app {n m : Nat} {a b : Str} (h : TX n a) (h' : TX m b) : TX (n + m) (a ++ b) := by
  refine ⟨by rw [len_app]; exact Nat.add_le_add h.1 h'.1, fun c hc => ?_⟩
  rw [cps_app] at hc
  rcases List.mem_append.mp hc with hc | hc
  · exact h.2 c hc
  · exact h'.2 c hc
theorem TX.cut {n : Nat} {z : Str} (h : TX n z) (lo hi : Option Int) : TX n (cutS z lo hi) := by
  refine ⟨Nat.le_trans (cutS_length z lo hi) h.1, fun c hc => h.2 c ?_⟩
  have hc' : c ∈ (z.cps.toList.drop (HT.sIx z.length 0 lo)).take (HT.sIx z.length z.length hi - HT.sIx z.length 0 lo) := by simpa [cutS] using hc
  exact List.mem_of_mem_drop (List.mem_of_mem_take hc')
theorem cut_len (z : Str) (k : Nat) : (cutS z none (some (k : Int))).length ≤ k := by
  unfold cutS
  show ((((z.cps.toList.drop (HT.sIx z.length 0 none)).take (HT.sIx z.length z.length (some (k : Int)) - HT.sIx z.length 0 none)).toArray)).size ≤ k
  rw [HT.sIx_nat, HT.sIx_none, List.size_toArray, List.length_take]
  omega
theorem TX.cutN {n : Nat} {z : Str} (h : TX n z) (k : Nat) : TX k (cutS z none (some (k : Int))) := ⟨cut_len z k, (h.cut none (some (k : Int))).2⟩
theorem TX.sign {n : Nat} {z : Str} {c : Nat} (h : TX n z) (hc : c ∈ z.cps.toList) : TX 1 ⟨#[c]⟩ := ⟨Nat.le_refl 1, fun d hd => by
  have e : d = c := by simpa using hd
  subst e
  exact h.2 d hc⟩
theorem reps_list (c : Array Nat) : ∀ (k : Nat) (acc : Array Nat) (x : Nat), x ∈ ((List.replicate k c).foldl (· ++ ·) acc).toList → x ∈ acc.toList ∨ x ∈ c.toList
  | 0, acc, x, h => .inl h
  | k + 1, acc, x, h => by
    rw [List.replicate_succ, List.foldl_cons] at h
    rcases reps_list c k (acc ++ c) x h with h | h
    · rw [Array.toList_append] at h
      exact List.mem_append.mp h
    · exact .inr h
theorem mul_ok {z : Str} {k : Int} {n : Nat} (h : z.length ≤ n) (hn : n ≤ 10000) (h0 : 0 ≤ k) (h1 : k ≤ 1000) : MulOk z k := by
  refine ⟨?_, fun a b => ?_, fun a b => ?_⟩
  · rw [decide_eq_false (by omega), decide_eq_false (by omega)] <;> rfl
  · have hk : 0 < k := by omega
    have e0 : (9223372036854775 : Int) * k ≤ 9223372036854775 * 1000 := Int.mul_le_mul_of_nonneg_left h1 (by decide)
    have e : (9223372036854775 : Int) ≤ ((2 : Int) ^ 63 - 1) / k := (Int.le_ediv_iff_mul_le hk).mpr (by omega)
    omega
  · show decide (z.length * k.toNat > sizeLine) = false
    refine decide_eq_false ?_
    have e : z.length * k.toNat ≤ 10000 * 1000 := Nat.mul_le_mul (by omega) (by omega)
    have e2 : (10000 * 1000 : Nat) ≤ sizeLine := by decide
    omega
theorem TX.mul {n m : Nat} {z : Str} {k : Int} (h : TX n z) (h1 : k ≤ m) : TX (n * m) (Txt.mul z k) := by
  unfold Txt.mul
  split
  · exact ⟨Nat.zero_le _, fun c hc => absurd hc (List.not_mem_nil)⟩
  · rename_i hk
    have hm : 1 ≤ m := by omega
    split
    · exact ⟨Nat.le_trans h.1 (Nat.le_mul_of_pos_right _ hm), h.2⟩
    · refine ⟨?_, fun c hc => ?_⟩
      · show ((List.replicate k.toNat z.cps).foldl (· ++ ·) #[]).size ≤ n * m
        rw [size_reps]
        have e1 : k.toNat * z.cps.size ≤ m * n := Nat.mul_le_mul (by omega) h.1
        rw [Nat.mul_comm n m]
        simpa using e1
      · rcases reps_list z.cps k.toNat #[] c hc with hc | hc
        · exact absurd hc (by simp)
        · exact h.2 c hc
theorem joinL (sep : Str) : ∀ (ys : List Str) (c : Nat), c ∈ (Str.join sep ys).cps.toList → c ∈ sep.cps.toList ∨ ∃ y ∈ ys, c ∈ y.cps.toList
  | [], c, h => absurd h (by simp [Str.join, Str.empty])
  | [x], c, h => .inr ⟨x, .head _, h⟩
  | x :: y :: r, c, h => by
    have e : Str.join sep (x :: y :: r) = x ++ sep ++ Str.join sep (y :: r) := rfl
    rw [e, cps_app, cps_app] at h
    rcases List.mem_append.mp h with h | h
    · rcases List.mem_append.mp h with h | h
      · exact .inr ⟨x, .head _, h⟩
      · exact .inl h
    · rcases joinL sep (y :: r) c h with h | ⟨u, hu, h⟩
      · exact .inl h
      · exact .inr ⟨u, .tail _ hu, h⟩
theorem sum_le {n : Nat} : ∀ (ys : List Str), (∀ y ∈ ys, TX n y) → (ys.map (·.length)).sum ≤ n * ys.length
  | [], _ => Nat.zero_le _
  | y :: r, h => by
    rw [List.map_cons, List.sum_cons, List.length_cons, Nat.mul_succ]
    have h1 := (h y (.head _)).1
    have h2 := sum_le r fun z hz => h z (.tail _ hz)
    omega
theorem TX.join {n m k : Nat} {sep : Str} {ys : List Str} (hs : TX k sep) (h : ∀ y ∈ ys, TX n y) (hl : ys.length ≤ m) : TX (n * m + m * k) (Txt.join sep ys) := by
  have e : Txt.join sep ys = Str.join sep ys := StrLaws.glued_eq_join sep ys
  rw [e]
  refine ⟨Nat.le_trans (StrLaws.join_length_le sep ys) (Nat.add_le_add (Nat.le_trans (sum_le ys h) (Nat.mul_le_mul_left n hl)) (Nat.mul_le_mul hl hs.1)), fun c hc => ?_⟩
  rcases joinL sep ys c hc with hc | ⟨y, hy, hc⟩
  · exact hs.2 c hc
  · exact (h y hy).2 c hc
theorem join_fits {n m k : Nat} {sep : Str} {ys : List Str} (hs : TX k sep) (h : ∀ y ∈ ys, TX n y) (hl : ys.length ≤ m) (hz : n * m + m * k ≤ 16777216) : (ys.map (·.length)).sum + ys.length * sep.length ≤ 16777216 :=
  Nat.le_trans (Nat.add_le_add (Nat.le_trans (sum_le ys h) (Nat.mul_le_mul_left n hl)) (Nat.mul_le_mul hl hs.1)) hz
theorem tx_lit {n : Nat} {z : Str} (h : (decide (z.length ≤ n) && z.cps.toList.all fun c => decide (c < 128)) = true) : TX n z := by
  simp only [Bool.and_eq_true, decide_eq_true_eq, List.all_eq_true] at h
  exact h
theorem tx_lits {n : Nat} {zs : List Str} (h : (zs.all fun z => decide (z.length ≤ n) && z.cps.toList.all fun c => decide (c < 128)) = true) : ∀ z ∈ zs, TX n z := fun z hz => tx_lit (List.all_eq_true.mp h z hz)
theorem TX.ok {n : Nat} {z : Str} (h : TX n z) : PyData.strOk z = true := by
  unfold PyData.strOk
  rw [Array.all_eq_true_iff_forall_mem]
  intro c hc
  have := h.2 c (by simpa using hc)
  exact decide_eq_true (by omega)
/-! ### words in lists of words -/
theorem inV_str (z : Str) : ∀ ws : List Str, inV (.str z) (ws.map V.str) = decide (z ∈ ws)
  | [] => rfl
  | w :: r => by
    have ih := inV_str z r
    show (eqV (.str w) (.str z) || inV (.str z) (r.map V.str)) = _
    rw [ih]
    show ((w == z) || _) = _
    by_cases e : z = w
    · subst e
      simp
    · have e' : ¬ w = z := fun q => e q.symm
      simp [e, e']
theorem flat_strs : ∀ ws : List Str, (ws.map V.str).all flatV = true
  | [] => rfl
  | w :: r => flat_strs r
/-! ### data -/
theorem dp_strs {K : PySem.W.Frag} {H : Hp} : ∀ ws : List Str, DpAll K H (ws.map V.str) (ws.map PyData.str)
  | [] => .nil
  | w :: r => .cons (.str w) (dp_strs r)
theorem lay_strs : ∀ ws : List Str, (∀ w ∈ ws, PyData.strOk w = true) → PyData.canLayAll0 (ws.map PyData.str) = true
  | [], _ => rfl
  | w :: r, h => by
    have ih := lay_strs r fun z hz => h z (.tail _ hz)
    show (PyData.strOk w && PyData.canLayAll0 (r.map PyData.str)) = true
    rw [h w (.head _), ih] <;> rfl
theorem dep_strs : ∀ ws : List Str, PyData.depthAll (ws.map PyData.str) = 0
  | [] => rfl
  | w :: r => by
    show max 0 (PyData.depthAll (r.map PyData.str)) = 0
    rw [dep_strs r] <;> rfl
theorem shaped_strs {ws : List Str} (h : ∀ w ∈ ws, PyData.strOk w = true) : SeqAt.shaped (.list (ws.map PyData.str)) = true := by
  unfold SeqAt.shaped
  have e1 : PyData.canLay0 (.list (ws.map PyData.str)) = true := lay_strs ws h
  have e2 : PyData.depth (.list (ws.map PyData.str)) = 1 := by
    show PyData.depthAll (ws.map PyData.str) + 1 = 1
    rw [dep_strs]
  rw [e1, e2] <;> rfl
theorem g_neRefl {K : PySem.W.Frag} {H : Hp} {Q : VK} {z : Str} (q : Q (.bl false) H) : rNeA K (.str z) (.str z) H Q := g_neS (by
  rw [show (!decide (z = z)) = false by simp]
  exact q)
theorem show_bool (b : Bool) : ShowOk (.bool b) := by
  cases b <;> exact ⟨rfl, rfl, by decide, by decide⟩
end Ct
/-! calls by names of arguments; of defs that may raise -/
namespace Ct
open PySem PySem.Spec PyProof.Rows L2
section
variable {K : PySem.W.Frag} {x qual : Str} {st : Stmt} {f : Addr} {fd : FuncData} {ps : List Str}
/-- all parameters are written, n of them by place, those of ks by name; g puts them in the parameters' order -/
theorem fun_kbn (F : Fun K x qual st f fd) (n : Nat) (ks : List Str) (g : {α : Type} → List α → List α → List α)
    (hrel : ∀ {vs zs : List V} {us ws : List Value}, Vals vs us → Vals zs ws → Vals (g vs zs) (g us ws))
    (h : ∀ (kV doc pm : Value) (an : Option Addr) (cdv ct : Value) (us ws : List Value), us.length = n → ws.length = ks.length →
      bindArgs (PySem.W.fnOf x qual (defArgs st) (defBody st) (defScope st) .none kV doc pm an cdv ct) ⟨us, ks.zip ws⟩ = pure (ps.zip (g us ws))) : KBn K fd ps n ks (fun us ws => g us ws) (fun vs zs => g vs zs) := by
  obtain ⟨oc, od, kV, doc, pm, an, cdv, ct, osl, rfl, lk, hcd⟩ := F.ex
  exact ⟨fun s us ws _ l1 l2 => .of_eq (h kV doc pm an cdv ct us ws l1 l2), fun r1 r2 => hrel r1 r2⟩
/-- keyword-only parameters that are left out: their defaults -/
theorem fun_kbd {kws : List (Str × V)} (F : Fun K x qual st f fd) (KD : ∃ D : Addr, (∀ oc od kV doc pm an cdv ct osl, K.lookup f = some ⟨oc, od, .func (PySem.W.fnOf x qual (defArgs st) (defBody st) (defScope st) .none kV doc pm an cdv ct), osl⟩ → kV = .ref D) ∧ ∀ q ∈ kws, ∃ u, PySem.W.nsIn K D q.1 = some (some u) ∧ RelV q.2 u)
    (n : Nat) (ks : List Str) (ms : List (Str × V)) (g : {α : Type} → List α → List α → List α → List α) (hms : ∀ q ∈ ms, q ∈ kws)
    (hrel : ∀ {vs mz zs : List V} {us mv ws : List Value}, Vals vs us → Vals mz mv → Vals zs ws → Vals (g vs mz zs) (g us mv ws))
    (h : ∀ (D : Addr) (doc pm : Value) (an : Option Addr) (cdv ct : Value) (us mv ws : List Value), us.length = n → mv.length = ms.length → ws.length = ks.length →
      KwChain D ((ms.map (·.1)).zip mv) (bindArgs (PySem.W.fnOf x qual (defArgs st) (defBody st) (defScope st) .none (.ref D) doc pm an cdv ct) ⟨us, ks.zip ws⟩) (ps.zip (g us mv ws))) :
    ∃ mv : List Value, KBn K fd ps n ks (fun us ws => g us mv ws) (fun vs zs => g vs (ms.map (·.2)) zs) := by
  obtain ⟨oc, od, kV, doc, pm, an, cdv, ct, osl, rfl, lk, hcd⟩ := F.ex
  obtain ⟨D, hD, hq⟩ := KD
  obtain rfl := hD _ _ _ _ _ _ _ _ _ lk
  obtain ⟨mv, hl, rk, hks⟩ := kwd_vals (ms := ms) fun q hm => hq q (hms q hm)
  exact ⟨mv, ⟨fun s us ws X l1 l2 => BindsTo.of_looks fun M => KwChain.looks X hks (h D doc pm an cdv ct us mv ws l1 hl l2), fun r1 r2 => hrel r1 rk r2⟩⟩
end
section
variable {X : Cx} {CX : CXT} {k n : Nat} {f : Addr} {fd : FuncData} {ps ks : List Str} {sp : Sp} {E : XK} {EE : L2.St → XK} {x : Str} {p pos : Pos} {e : Expr} {es : List Expr} {kws : List Keyword} {t tk : TA} {g : List Value → List Value → List Value} {gV : List V → List V → List V}
/-- f(k = v, ..) -/
theorem pe_callN0 (F : FnOk X.prog X.w X.K X.mg X.base CX k f fd ps sp) (hr : Room k X.A) (hg : Gl X x) (hm : X.mg x = some (.ref f)) (hk : PySem.W.keepIn X.K (.ref f) = true) (hb : KBn X.K fd ps 0 ks g gV) (hx : Passes CX X E)
    (hkw : PK X kws tk) (hall : (backToKw pos (keywordEach kws X.env)).all (·.1.isSome) = true := by rfl) (hks : (backToKw pos (keywordEach kws X.env)).filterMap (·.1) = ks := by rfl)
    (hdb : (x == ("__debug__" : Str)) = false := by decide) (hpl : ((backTo pos (starEach [] X.env)).any (·.1) || (backToKw pos (keywordEach kws X.env)).any (·.1.isNone)) = false := by rfl) :
    PE X (.Call (.Name x p) [] kws pos) (tCallN 0 ks.length sp gV E tNil tk) :=
  ⟨fun pins s σ H Q I h => wpAny_Call_Name_kw (ld_glob I hg hm (PySem.W.callWith_KW0 (h₀ := X.base) I.ok.mod.kin hk hall (thn (hkw.run pos pins s σ H _ I h) fun ws s2 ⟨zs, H2, I2, rz, l1, l2, q2⟩ => ⟨I2.kIn, by
    rw [hks]
    exact run_fnN F hr hb hx I2 .nil rz l1 l2 q2⟩) hpl) hdb)⟩
/-- the same of a def that may raise -/
def tCallNS (n m : Nat) (sp : Sp) (gV : List V → List V → List V) (EE : L2.St → XK) (t tk : TA) : TE := fun σ H Q => t σ H fun vs H1 => tk σ H1 fun zs H2 => vs.length = n ∧ zs.length = m ∧ sp (gV vs zs) H2 Q (EE σ)
theorem run_fnNS {pins : List (Addr × Obj)} {σ : L2.St} {H : Hp} {s : Shared} {Q : VK} {us ws : List Value} {vs zs : List V} (F : FnOk X.prog X.w X.K X.mg X.base CX k f fd ps sp) (hr : Room k X.A) (hb : KBn X.K fd ps n ks g gV) (hx : PassesAt CX X σ (EE σ))
    (I : Inv X pins σ H s) (r : Vals vs us) (rz : Vals zs ws) (l1 : vs.length = n) (l2 : zs.length = ks.length) (h : sp (gV vs zs) H Q (EE σ)) : wpAny (model X.prog X.w) X.A (call (.ref f) us (ks.zip ws)) (EP X pins σ Q) X.xe s := by
  refine wpAny_call (codeAny_mono (F.run X.A X.stack s H ⟨us, ks.zip ws⟩ (g us ws) (gV vs zs) Q (EE σ) hr I.env0 (hb.to s us ws I.kIn (r.length.symm.trans l1) (rz.length.symm.trans l2)) (hb.rel r rz) h) fun y s' hq => ?_)
  cases y with
  | error e => exact hx pins H s e s' I hq
  | ok fl => cases fl <;> first | exact I.after hq | exact hq.elim
theorem pe_callNS (F : FnOk X.prog X.w X.K X.mg X.base CX k f fd ps sp) (hr : Room k X.A) (hg : Gl X x) (hm : X.mg x = some (.ref f)) (hk : PySem.W.keepIn X.K (.ref f) = true) (hb : KBn X.K fd ps n ks g gV) (hx : ∀ σ, PassesAt CX X σ (EE σ))
    (ha : PA X (e :: es) t) (hkw : PK X kws tk) (hall : (backToKw pos (keywordEach kws X.env)).all (·.1.isSome) = true := by rfl) (hks : (backToKw pos (keywordEach kws X.env)).filterMap (·.1) = ks := by rfl)
    (hdb : (x == ("__debug__" : Str)) = false := by decide) (he : starEach (e :: es) X.env = (false, eval e X.env) :: starEach es X.env := by rfl)
    (hpl : ((backTo pos (starEach (e :: es) X.env)).any (·.1) || (backToKw pos (keywordEach kws X.env)).any (·.1.isNone)) = false := by rfl) :
    PE X (.Call (.Name x p) (e :: es) kws pos) (tCallNS n ks.length sp gV EE t tk) :=
  ⟨fun pins s σ H Q I h => wpAny_Call_Name_kw (ld_glob I hg hm (PySem.W.callWith_KW (h₀ := X.base) I.ok.mod.kin hk hall (thn (ha.run pos pins s σ H _ I h) fun us s1 ⟨vs, H1, I1, r, q⟩ =>
    thn (hkw.run pos pins s1 σ H1 _ I1 q) fun ws s2 ⟨zs, H2, I2, rz, l1, l2, q2⟩ => ⟨I2.kIn, by
      rw [hks]
      exact run_fnNS F hr hb (hx σ) I2 r rz l1 l2 q2⟩) hpl he) hdb)⟩
theorem pe_callNS0 (F : FnOk X.prog X.w X.K X.mg X.base CX k f fd ps sp) (hr : Room k X.A) (hg : Gl X x) (hm : X.mg x = some (.ref f)) (hk : PySem.W.keepIn X.K (.ref f) = true) (hb : KBn X.K fd ps 0 ks g gV) (hx : ∀ σ, PassesAt CX X σ (EE σ))
    (hkw : PK X kws tk) (hall : (backToKw pos (keywordEach kws X.env)).all (·.1.isSome) = true := by rfl) (hks : (backToKw pos (keywordEach kws X.env)).filterMap (·.1) = ks := by rfl)
    (hdb : (x == ("__debug__" : Str)) = false := by decide) (hpl : ((backTo pos (starEach [] X.env)).any (·.1) || (backToKw pos (keywordEach kws X.env)).any (·.1.isNone)) = false := by rfl) :
    PE X (.Call (.Name x p) [] kws pos) (tCallNS 0 ks.length sp gV EE tNil tk) :=
  ⟨fun pins s σ H Q I h => wpAny_Call_Name_kw (ld_glob I hg hm (PySem.W.callWith_KW0 (h₀ := X.base) I.ok.mod.kin hk hall (thn (hkw.run pos pins s σ H _ I h) fun ws s2 ⟨zs, H2, I2, rz, l1, l2, q2⟩ => ⟨I2.kIn, by
    rw [hks]
    exact run_fnNS F hr hb (hx σ) I2 .nil rz l1 l2 q2⟩) hpl) hdb)⟩
/-- f() of a def that may raise -/
theorem pe_callS0 (F : FnOk X.prog X.w X.K X.mg X.base CX k f fd ps sp) (hr : Room k X.A) (hg : Gl X x) (hm : X.mg x = some (.ref f)) (hk : PySem.W.keepIn X.K (.ref f) = true) (hb : Binds X.K fd ps []) (hx : ∀ σ, PassesAt CX X σ (EE σ))
    (hdb : (x == ("__debug__" : Str)) = false := by decide) : PE X (.Call (.Name x p) [] [] pos) (tCallS sp EE tNil) :=
  ⟨fun pins s σ H Q I h => wpAny_Call_Name_kw (ld_glob I hg hm (PySem.W.callWith_K0 I.kIn hk (run_fnS (us := []) F hr hb (hx σ) I .nil h)) hdb)⟩
end
section
variable {σ : L2.St} {H : Hp} {Q : VK}
theorem g_callN {n m : Nat} {sp : Sp} {gV : List V → List V → List V} {E : XK} {t tk : TA} (q : t σ H fun vs H1 => tk σ H1 fun zs H2 => vs.length = n ∧ zs.length = m ∧ sp (gV vs zs) H2 Q E) : tCallN n m sp gV E t tk σ H Q := q
theorem g_callNS {n m : Nat} {sp : Sp} {gV : List V → List V → List V} {EE : L2.St → XK} {t tk : TA} (q : t σ H fun vs H1 => tk σ H1 fun zs H2 => vs.length = n ∧ zs.length = m ∧ sp (gV vs zs) H2 Q (EE σ)) : tCallNS n m sp gV EE t tk σ H Q := q
theorem g_callS {sp : Sp} {EE : L2.St → XK} {t : TA} (q : t σ H fun vs H1 => sp vs H1 Q (EE σ)) : tCallS sp EE t σ H Q := q
end
end Ct
/-! own errors -/
namespace Ct
open PySem PySem.Spec PyProof.Rows L2
theorem rel_getD {vs : List V} {us : List Value} (i : Nat) (r : Vals vs us) : RelV (vs.getD i .non) (us.getD i .none) := by
  cases e : vs[i]? with
  | none =>
    have e2 := r.none_of e
    rw [List.getD_eq_getElem?_getD, List.getD_eq_getElem?_getD, e, e2]
    rfl
  | some x =>
    obtain ⟨u, e2, rx⟩ := r.get e
    rw [List.getD_eq_getElem?_getD, List.getD_eq_getElem?_getD, e, e2]
    exact rx
theorem fun_kb {K : PySem.W.Frag} {x qual : Str} {st : Stmt} {f : Addr} {fd : FuncData} {ps : List Str} (F : Fun K x qual st f fd) (n : Nat) (ks : List Str) (g : List Value → List Value → List Value) (gV : List V → List V → List V)
    (hrel : ∀ {vs zs : List V} {us ws : List Value}, Vals vs us → Vals zs ws → Vals (gV vs zs) (g us ws))
    (h : ∀ (kV doc pm : Value) (an : Option Addr) (cdv ct : Value) (us ws : List Value), us.length = n → ws.length = ks.length →
      bindArgs (PySem.W.fnOf x qual (defArgs st) (defBody st) (defScope st) .none kV doc pm an cdv ct) ⟨us, ks.zip ws⟩ = pure (ps.zip (g us ws))) : ∃ g', KBn K fd ps n ks g' gV := by
  obtain ⟨oc, od, kV, doc, pm, an, cdv, ct, osl, rfl, lk, hcd⟩ := F.ex
  exact ⟨g, fun s us ws _ l1 l2 => .of_eq (h kV doc pm an cdv ct us ws l1 l2), fun r1 r2 => hrel r1 r2⟩
/-- an own error without an __init__ of its own -/
structure Exc0 (K : PySem.W.Frag) (mg : Str → Option Value) (x : Str) (C : Addr) (bmB : List Value) (newId : String) : Prop where
  g : mg x = some (.ref C)
  q : PySem.W.excIn K C bmB newId = true
  k : PySem.W.keepIn K (.ref C) = true
  b : PySem.W.subIn K (.ref C) (.type "BaseException") = some true
  t : PySem.W.typeIn K (.ref C) = some (.type "type")
section
variable {X : Cx}
theorem pmk_own0 {C : Addr} {bmB : List Value} {B newId initId : String} {x : Str} {p pos : Pos} (F : ExcBaseFacts B newId initId bmB) (T : Exc0 X.K X.mg x C bmB newId) (hg : Gl X x) (hdb : (x == ("__debug__" : Str)) = false := by decide) :
    PMk X (.Call (.Name x p) [] [] pos) (fun _ H Q => Q (.ref C) none H) := by
  intro pins s σ H Q I h
  refine wpAny_Call_Name_kw (ld_glob I hg T.g (PySem.W.callWith_K0 I.kIn T.k ?_) hdb)
  obtain ⟨bm, N, nm, qn, bs, hdct, sn, sub, ab, col, dd, k0, k1, k2, k3, k5, mN, hC, hN, hni, TT⟩ := exc_obj I.kIn T.q
  exact wpAny_call_exc_subT F TT hC hN hni (fun h' e hm => mk_of I hm (raises_own T.b T.t) h (I.hok.gone hm.new)) (Nat.zero_le _)
/-- raise C() -/
def tRaise0 (C : Addr) (W : WX) : TS := fun _ σ H => W (.ref C) none σ H
theorem ps_raise0 {C : Addr} {bmB : List Value} {B newId initId : String} {x : Str} {p pos pos2 : Pos} {W : WX} (hc : X.calm = true) (tk : Takes X W) (F : ExcBaseFacts B newId initId bmB) (T : Exc0 X.K X.mg x C bmB newId) (hg : Gl X x) (hdb : (x == ("__debug__" : Str)) = false := by decide) :
    PS X (.Raise (some (.Call (.Name x p) [] [] pos)) none pos2) (tRaise0 C W) := ps_raise hc tk (pmk_own0 F T hg hdb)
end
abbrev veB : List Value := [.type "ValueError", .type "Exception", .type "BaseException", .type "object"]
abbrev zdB : List Value := [.type "ZeroDivisionError", .type "ArithmeticError", .type "Exception", .type "BaseException", .type "object"]
end Ct
/-! int(text) of more than 640 signs -/
namespace Ct
open PySem PySem.Spec PyProof.Rows L2 PySem.NumText PySem.Calls PySem.W.KIN
theorem wp_textD {M : Model} {A : Around} {E : Value → Shared → Prop} {s : Shared} {Q : Value → Shared → Prop} {v : Value} {text : List Nat} {n : Int} (hd : s.heap.NoDigits)
    (hs : ¬ (text.takeWhile (· != 0)).length ≤ 640) (hr : (int_private% "readNumeral") 4300 10 (text.takeWhile (· != 0)) = (int_private% "Numeral.value") n)
    (ha : ((text.takeWhile (· != 0)).length == text.length) = true) (h : Q (.int n s.toks) { s with toks := s.toks + 1 }) :
    wpAny M A ((int_private% "intFromText") v text 10) Q E s := by
  obtain ⟨mc, hns, hnone⟩ := hd
  wp_step
  with_reducible refine wpAny_ite_false (decide_eq_false hs) ?_
  unfold Builtin.intMaxStrDigits
  refine wpAny_bind (wpAny_bind (wpAny_nsGet hns ?_))
  rw [hnone]
  refine wpAny_pure ?_
  dsimp only
  rw [hr]
  dsimp only
  rw [if_pos ha]
  exact wpAny_mkInt h
set_option maxHeartbeats 8000000 in
theorem meets_textD {x : PySem.Str} {u : Tok} {n : Int} (hl : ¬ (numSeenOf x).length ≤ 640) (hz : x.length ≤ sizeLine) (hn : PySem.intText? x = some n) :
    Meets (Builtin.«int.__new__» ⟨[.type "int", .str x u], []⟩) (fun _ R s => s.heap.NoDigits ∧ (Made.int n).post (fun v s' => R (.ok (.ret v)) s') s) :=
  .of_wp fun prog w A R s h => by
    obtain ⟨hd, h⟩ := h
    generalize hE : (fun (e : Value) (s' : Shared) => R (.error e) s') = E
    generalize hQ : (fun (v : Value) (s' : Shared) => R (.ok (.ret v)) s') = Q at h
    have hQ2 : ∀ v s', Q v s' → R (.ok (.ret v)) s' := fun v s' q => by rw [← hQ] at q; exact q
    generalize A.in1 = A
    generalize model prog w = M
    have f1 := F.conv_sub_int
    have f2 := F.madeHere_int
    have f3 := str_int
    have f4 := str_idx
    have f5 := str_trunc
    have f6 : typeOf (.str x u) = pure (.type "str") := rfl
    have hr : (int_private% "readNumeral") 4300 10 (numSeenOf x) = (int_private% "Numeral.value") n ∧ ((numSeenOf x).length == (numTextOf x).length) = true := by
      rcases read4300 x hz with ⟨m, h1, h2, h3⟩ | ⟨h1, _⟩
      · rw [hn] at h1
        injection h1 with h1
        subst h1
        exact ⟨h3, h2⟩
      · rw [hn] at h1
        cases h1
    have hk := W.KIN.Hid.mk (And.intro hl hr)
    have hdd := W.KIN.Hid.mk hd
    clear hl hr hn hz hd hE hQ
    repeat (any_goals (first
      | assumption
      | ((with_reducible show wpAny _ _ ((int_private% "intFromText") _ _ _) _ _ _); refine wp_textD hdd.out hk.out.1 hk.out.2.1 hk.out.2.2 ?_)
      | wp_step))
    all_goals first | exact ⟨_, rfl, hQ2 _ _ h⟩ | skip
set_option maxHeartbeats 4000000 in
theorem gives_textS {x : PySem.Str} {u : Tok} {n : Int} (hl : (numSeenOf x).length ≤ 640) (hn : PySem.intText? x = some n) : Gives (Builtin.«int.__new__» ⟨[.type "int", .str x u], []⟩) (.int n) :=
  .of_wp fun M A E s Q h => by
    obtain ⟨hp, g, d, tk, os⟩ := s
    have f1 := F.conv_sub_int
    have f2 := F.madeHere_int
    have f3 := str_int
    have f4 := str_idx
    have f5 := str_trunc
    have f6 : typeOf (.str x u) = pure (.type "str") := rfl
    have hr : (int_private% "readNumeral") 0 10 (numSeenOf x) = (int_private% "Numeral.value") n ∧ ((numSeenOf x).length == (numTextOf x).length) = true := by
      rcases read0 x hl with ⟨m, h1, h2, h3⟩ | ⟨h1, _⟩
      · rw [hn] at h1
        injection h1 with h1
        subst h1
        exact ⟨h3, h2⟩
      · rw [hn] at h1
        cases h1
    have hk := W.KIN.Hid.mk (And.intro hl hr)
    clear hr hl hn
    repeat (any_goals (first
      | assumption
      | ((with_reducible show wpAny _ _ ((int_private% "intFromText") _ _ _) _ _ _); refine wp_text hk.out.1 hk.out.2.1 hk.out.2.2 ?_)
      | wp_step))
    all_goals first | exact ⟨_, rfl, h⟩ | skip
section
variable {prog : Program} {w : World} {A : Around} {E : Value → Shared → Prop} {s : Shared} {Q : Value → Shared → Prop} {x : PySem.Str} {t : Tok} {n : Int}
theorem call_textD (hd : s.heap.NoDigits) (hn : PySem.intText? x = some n) (hz : x.length ≤ sizeLine) (h : Q (.int n s.toks) { s with toks := s.toks + 1 }) : wpAny (model prog w) A (call (.type "int") [.str x t]) Q E s := by
  by_cases hl : (numSeenOf x).length ≤ 640
  · by_cases hl2 : x.length ≤ 640
    · exact call_text hn hl2 h
    · exact call_int_1 (gives_textS hl hn).meets (show (Made.int n).post _ s from ⟨rfl, h⟩)
  · exact call_int_1 (meets_textD hl hz hn) ⟨hd, show (Made.int n).post _ s from ⟨rfl, h⟩⟩
end
def rIntT : List V → Hp → VK → Prop := fun xs H Q => ∃ a n, xs = [.str a] ∧ PySem.intText? a = some n ∧ a.length ≤ sizeLine ∧ Q (.int n) H
theorem call_intT {X : Cx} (hd : X.base.NoDigits) : CallR X (.type "int") rIntT := by
  intro pins s σ H xs us Q I rs h
  obtain ⟨a, n, rfl, hn, hl, h⟩ := h
  cases rs with
  | cons r1 rs =>
    cases rs
    obtain ⟨t, rfl⟩ := r1
    exact call_textD (hd.keeps I.bk) hn hl ⟨.int n, H, I.tok _, ⟨_, rfl⟩, h⟩
end Ct
/-! sizes of whole numbers; shares in lowest terms -/
namespace Ct
open PySem PySem.Spec PyProof.Rows L2
/-- below 2 ^ n -/
def SZ (n : Nat) (i : Int) : Prop := i.natAbs < 2 ^ n
section
variable {n m : Nat} {i j : Int}
theorem SZ.mono (h : SZ n i) (l : n ≤ m) : SZ m i := Nat.lt_of_lt_of_le h (Nat.pow_le_pow_right (by decide) l)
theorem SZ.mul (h : SZ n i) (h' : SZ m j) : SZ (n + m) (i * j) := by
  unfold SZ at *
  rw [Int.natAbs_mul, Nat.pow_add]
  exact Nat.mul_lt_mul'' h h'
theorem SZ.add (h : SZ n i) (h' : SZ n j) : SZ (n + 1) (i + j) := by
  unfold SZ at *
  rw [Nat.pow_succ]
  have := Int.natAbs_add_le i j
  omega
theorem SZ.neg (h : SZ n i) : SZ n (0 - i) := by
  unfold SZ at *
  omega
theorem SZ.le (h : SZ n i) (l : j.natAbs ≤ i.natAbs) : SZ n j := Nat.lt_of_le_of_lt l h
theorem SZ.bits (h : SZ n i) : Builtin.Int.intBits i ≤ n := intBits_le h
theorem SZ.mulx (h : SZ n i) (h' : SZ m j) (l : n + m ≤ 134217728) : CMulX i j := by
  have h1 := h.bits
  have h2 := h'.bits
  show (Builtin.Int.intBits i : Int) + (Builtin.Int.intBits j : Int) ≤ 134217728
  omega
theorem SZ.div (h : SZ 13500 i) (hj : j ≠ 0) : CDivA i j := by
  refine ⟨hj, ?_⟩
  unfold Builtin.divisionGoesByPylong
  have hx : (if (i == 0) = true then 0 else i.natAbs.log2 / 30 + 1) ≤ 450 := by
    by_cases e : i = 0
    · subst e
      exact Nat.zero_le _
    · rw [if_neg (by simpa using e)]
      have : i.natAbs.log2 < 13500 := (Nat.log2_lt (by omega)).mpr h
      omega
  simp only [Bool.and_eq_false_iff, decide_eq_false_iff_not]
  omega
theorem SZ.of_lt {k : Nat} (h0 : 0 ≤ i) (h1 : i < ((2 ^ k : Nat) : Int)) : SZ k i := by
  unfold SZ
  omega
theorem SZ.lit {k : Nat} (h : decide (i.natAbs < 2 ^ k) = true) : SZ k i := by
  unfold SZ
  exact of_decide_eq_true h
end
/-! ### tens -/
theorem ten_list : ∀ (k : Nat) (acc : Array Nat), ((List.replicate k (#[48] : Array Nat)).foldl (· ++ ·) acc).toList = acc.toList ++ List.replicate k 48
  | 0, acc => by simp
  | k + 1, acc => by
    rw [List.replicate_succ, List.foldl_cons, ten_list k (acc ++ #[48])]
    simp [List.replicate_succ]
theorem str_ext {a b : Str} (h : a.cps.toList = b.cps.toList) : a = b := TL.ext_tl h
theorem ten_str {k : Int} (h0 : 0 ≤ k) : ("1" : Str) ++ Txt.mul "0" k = SX.S (49 :: List.replicate k.toNat 48) := by
  refine str_ext ?_
  rw [cps_app]
  have e1 : ("1" : Str).cps.toList = [49] := by decide +kernel
  have e2 : (Txt.mul "0" k).cps.toList = List.replicate k.toNat 48 := by
    unfold Txt.mul
    split
    · have : k = 0 := by omega
      subst this
      rfl
    · split
      · rename_i h1 h2
        have e0 : ((("0" : Str).length == 0)) = false := by decide +kernel
        rw [e0] at h2
        simp at h2
        subst h2
        decide +kernel
      · have e0 : ("0" : Str).cps = #[48] := by decide +kernel
        rw [e0]
        have := ten_list k.toNat #[]
        simpa using this
  rw [e1, e2]
  rfl
theorem ten_val : ∀ k : Nat, NumText.digitsVal (49 :: List.replicate k 48) = 10 ^ k
  | 0 => rfl
  | k + 1 => by
    rw [List.replicate_succ', ← List.cons_append, NumText.digitsVal_snoc, ten_val k, Nat.pow_succ] <;> rfl
theorem ten_text {k : Int} (h0 : 0 ≤ k) (h1 : k ≤ 4000) : intText? (("1" : Str) ++ Txt.mul "0" k) = some (((10 ^ k.toNat : Nat)) : Int) := by
  rw [ten_str h0, SX.int_S, ten_val]
  · simp
  · simp
  · simp
    omega
/-! ### shares in lowest terms -/
/-- u by b in lowest terms is p by q -/
structure Low (u b p q : Int) : Prop where
  pos : 0 < q
  cop : Int.gcd p q = 1
  eq : p * b = u * q
  lp : p.natAbs ≤ u.natAbs
  lq : q.natAbs ≤ b.natAbs
theorem low_parts (u b : Int) (hb : b ≠ 0) : ∃ u' b', 0 < Nat.gcd u.natAbs b.natAbs ∧ u = u' * (Nat.gcd u.natAbs b.natAbs : Nat) ∧ b = b' * (Nat.gcd u.natAbs b.natAbs : Nat) ∧ Int.gcd u' b' = 1 := by
  have hg : 0 < Int.gcd u b := Int.gcd_pos_of_ne_zero_right u hb
  refine ⟨u / (Int.gcd u b : Int), b / (Int.gcd u b : Int), hg, ?_, ?_, Int.gcd_ediv_gcd_ediv_gcd hg⟩
  · exact (Int.ediv_mul_cancel (Int.gcd_dvd_left ..)).symm
  · exact (Int.ediv_mul_cancel (Int.gcd_dvd_right ..)).symm
theorem abs_le_mul (a : Int) {g : Nat} (h : 0 < g) : a.natAbs ≤ (a * (g : Int)).natAbs := by
  rw [Int.natAbs_mul]
  exact Nat.le_mul_of_pos_right _ h
theorem low_pos {u b u' b' : Int} {g : Nat} (hg : 0 < g) (hu : u = u' * (g : Int)) (hb : b = b' * (g : Int)) (hc : Int.gcd u' b' = 1) (h : 0 < b) : Low u b u' b' := by
  have hp : 0 < b' := by
    rw [hb] at h
    exact Int.pos_of_mul_pos_left h (by omega)
  refine ⟨hp, hc, ?_, ?_, ?_⟩
  · rw [hu, hb, ← Int.mul_assoc, Int.mul_assoc u' (g : Int) b', Int.mul_comm (g : Int) b', ← Int.mul_assoc]
  · rw [hu]
    exact abs_le_mul _ hg
  · rw [hb]
    exact abs_le_mul _ hg
theorem low_neg {u b u' b' : Int} {g : Nat} (hg : 0 < g) (hu : u = u' * (g : Int)) (hb : b = b' * (g : Int)) (hc : Int.gcd u' b' = 1) (h : b < 0) : Low u b (-u') (-b') := by
  have l := low_pos (u := -u) (b := -b) (u' := -u') (b' := -b') hg (by rw [hu, Int.neg_mul]) (by rw [hb, Int.neg_mul]) (by rw [Int.gcd_neg, Int.neg_gcd]; exact hc) (by omega)
  refine ⟨l.pos, l.cop, ?_, by simpa using l.lp, by simpa using l.lq⟩
  have := l.eq
  rw [Int.mul_neg, Int.neg_mul (a := u)] at this
  omega
/-- one reckons it so: the common part signed as the lower -/
theorem low_share {u b : Int} (hb : b ≠ 0) : let c : Int := if b < 0 then 0 - (Nat.gcd u.natAbs b.natAbs : Nat) else (Nat.gcd u.natAbs b.natAbs : Nat)
    c ≠ 0 ∧ Low u b (u.fdiv c) (b.fdiv c) := by
  obtain ⟨u', b', hg, hu, hb', hc⟩ := low_parts u b hb
  generalize Nat.gcd u.natAbs b.natAbs = g at hg hu hb'
  have g0 : (g : Int) ≠ 0 := by omega
  intro c
  by_cases h : b < 0
  · have e : c = -(g : Int) := by
      show (if b < 0 then 0 - (g : Int) else (g : Int)) = _
      rw [if_pos h]
      omega
    rw [e]
    have e1 : u.fdiv (-(g : Int)) = -u' := by
      rw [hu, show u' * (g : Int) = (-u') * (-(g : Int)) by rw [Int.neg_mul_neg]]
      exact Int.mul_fdiv_cancel _ (by omega)
    have e2 : b.fdiv (-(g : Int)) = -b' := by
      rw [hb', show b' * (g : Int) = (-b') * (-(g : Int)) by rw [Int.neg_mul_neg]]
      exact Int.mul_fdiv_cancel _ (by omega)
    rw [e1, e2]
    exact ⟨by omega, low_neg hg hu hb' hc h⟩
  · have e : c = (g : Int) := by
      show (if b < 0 then 0 - (g : Int) else (g : Int)) = _
      rw [if_neg h]
    rw [e]
    have e1 : u.fdiv (g : Int) = u' := by
      rw [hu]
      exact Int.mul_fdiv_cancel _ g0
    have e2 : b.fdiv (g : Int) = b' := by
      rw [hb']
      exact Int.mul_fdiv_cancel _ g0
    rw [e1, e2]
    exact ⟨g0, low_pos hg hu hb' hc (by omega)⟩
/-- another one so: signed ahead -/
theorem low_law {u b : Int} (hb : b ≠ 0) : let s : Int := 1 - 2 * (if decide (b < 0) = true then 1 else 0)
    ((Nat.gcd u.natAbs b.natAbs : Nat) : Int) ≠ 0 ∧ Low u b ((s * u).fdiv (Nat.gcd u.natAbs b.natAbs : Nat)) ((s * b).fdiv (Nat.gcd u.natAbs b.natAbs : Nat)) := by
  obtain ⟨u', b', hg, hu, hb', hc⟩ := low_parts u b hb
  generalize Nat.gcd u.natAbs b.natAbs = g at hg hu hb'
  have g0 : (g : Int) ≠ 0 := by omega
  intro s
  by_cases h : b < 0
  · have e : s = -1 := by
      show 1 - 2 * (if decide (b < 0) = true then (1 : Int) else 0) = _
      rw [if_pos (decide_eq_true h)] <;> rfl
    rw [e]
    have e1 : (-1 * u).fdiv (g : Int) = -u' := by
      rw [hu, show -1 * (u' * (g : Int)) = (-u') * (g : Int) by rw [Int.neg_mul, Int.one_mul, Int.neg_mul]]
      exact Int.mul_fdiv_cancel _ g0
    have e2 : (-1 * b).fdiv (g : Int) = -b' := by
      rw [hb', show -1 * (b' * (g : Int)) = (-b') * (g : Int) by rw [Int.neg_mul, Int.one_mul, Int.neg_mul]]
      exact Int.mul_fdiv_cancel _ g0
    rw [e1, e2]
    exact ⟨g0, low_neg hg hu hb' hc h⟩
  · have e : s = 1 := by
      show 1 - 2 * (if decide (b < 0) = true then (1 : Int) else 0) = _
      rw [if_neg (by simpa using h)] <;> rfl
    rw [e, Int.one_mul, Int.one_mul]
    have e1 : u.fdiv (g : Int) = u' := by
      rw [hu]
      exact Int.mul_fdiv_cancel _ g0
    have e2 : b.fdiv (g : Int) = b' := by
      rw [hb']
      exact Int.mul_fdiv_cancel _ g0
    rw [e1, e2]
    exact ⟨g0, low_pos hg hu hb' hc (by omega)⟩
/-- a share: lowest terms, n bits -/
structure Shr (n : Nat) (p q : Int) : Prop where
  pos : 0 < q
  cop : Int.gcd p q = 1
  sp : SZ n p
  sq : SZ n q
theorem Low.shr {n : Nat} {u b p q : Int} (l : Low u b p q) (hu : SZ n u) (hb : SZ n b) : Shr n p q := ⟨l.pos, l.cop, hu.le l.lp, hb.le l.lq⟩
theorem Shr.mono {n m : Nat} {p q : Int} (h : Shr n p q) (l : n ≤ m) : Shr m p q := ⟨h.pos, h.cop, h.sp.mono l, h.sq.mono l⟩
theorem Shr.neg {n : Nat} {p q : Int} (h : Shr n p q) : Shr n (0 - p) q := ⟨h.pos, by rw [Int.zero_sub, Int.neg_gcd]; exact h.cop, h.sp.neg, h.sq⟩
theorem dvd_cop {q p s : Int} (h : q ∣ p * s) (c : Int.gcd p q = 1) : q ∣ s := by
  rw [← Int.natAbs_dvd_natAbs] at h ⊢
  rw [Int.natAbs_mul] at h
  exact Nat.Coprime.dvd_of_dvd_mul_left (show Nat.gcd q.natAbs p.natAbs = 1 by rw [Nat.gcd_comm]; exact c) h
theorem shr_eq {n m : Nat} {p q r s : Int} (h : Shr n p q) (h' : Shr m r s) (e : p * s = r * q) : p = r ∧ q = s := by
  have d1 : q ∣ s := by
    have : q ∣ p * s := ⟨r, by rw [e, Int.mul_comm]⟩
    exact dvd_cop this h.cop
  have d2 : s ∣ q := by
    have : s ∣ r * q := ⟨p, by rw [← e, Int.mul_comm]⟩
    exact dvd_cop this h'.cop
  have p1 := h.pos
  have p2 := h'.pos
  have l1 := Int.le_of_dvd p2 d1
  have l2 := Int.le_of_dvd p1 d2
  have e2 : q = s := by omega
  subst e2
  exact ⟨Int.eq_of_mul_eq_mul_right (by omega) e, rfl⟩
/-- the one is less or the other is, just of unlike ones -/
theorem less_or {n m : Nat} {p q r s : Int} (h : Shr n p q) (h' : Shr m r s) : (decide (p * s < r * q) || decide (r * q < p * s)) = !(decide (p = r) && decide (q = s)) := by
  by_cases e : p * s = r * q
  · obtain ⟨rfl, rfl⟩ := shr_eq h h' e
    simp
  · have ne : ¬ (p = r ∧ q = s) := by
      rintro ⟨rfl, rfl⟩
      exact e rfl
    rw [← Bool.decide_and, decide_eq_false ne]
    rcases Int.lt_or_gt_of_ne e with h | h
    · simp [h]
    · rw [decide_eq_true (show r * q < p * s from h)]
      simp
/-- a sum with something above nought is greater -/
theorem more {a b n p q : Int} (hb : 0 < b) (hn : 0 < n) (l : Low (a * n + 1 * b) (b * n) p q) : a * q < p * b := by
  have e := l.eq
  have hq := l.pos
  have e2 : p * b * n = a * q * n + b * q := by
    have e1 : p * (b * n) = p * b * n := (Int.mul_assoc p b n).symm
    rw [← e1, e, Int.add_mul, Int.one_mul, Int.mul_assoc a n q, Int.mul_comm n q, ← Int.mul_assoc]
  have hbq : 0 < b * q := Int.mul_pos hb hq
  have : a * q * n < p * b * n := by omega
  exact Int.lt_of_mul_lt_mul_right this (by omega)
end Ct
/-! a, .., *b = a tuple or a list -/
namespace Ct
open PySem PySem.Spec PyProof.Rows L2
section
variable {prog : Program} {w : World} {A : Around} {E : Value → Shared → Prop} {s : Shared} {I : Addr} {fp wr : List Addr} {G : Array GenState → Array GenState → Prop} {n c : Nat} {P : Nat → Value → Prop} {St : Nat → Shared → Prop}
theorem walk_shift (W : WalksS prog w A I fp wr G (c + n) P St) : WalksS prog w A I fp wr G n (fun i => P (c + i)) (fun i => St (c + i)) where
  sub := W.sub
  grefl := W.grefl
  gtrans := W.gtrans
  frame := fun i s h' tk st => W.frame (c + i) s h' tk st
  item := fun i s Q E hi st hQ => W.item (c + i) s Q E (by omega) st fun v s' p st' m => hQ v s' p st' m
  done := fun s Q E st hQ => W.done s Q E st hQ
  self := fun i s Q E st hQ => W.self (c + i) s Q E st hQ
theorem draw_walk (W : WalksS prog w A I fp wr G n P St) : ∀ (m j : Nat) (s : Shared) (Q : List Value → Shared → Prop), j + m ≤ n → St j s →
    (∀ s' xs, xs.length = m → (∀ (k : Nat) (v : Value), xs[k]? = some v → P (j + k) v) → St (j + m) s' → Moved wr G s s' → Q xs s') → wpAny (model prog w) A (draw (.ref I) m) Q E s
  | 0, j, s, Q, _, st, hQ => wpAny_pure (hQ s [] rfl (fun k v e => by simp at e) st (Moved.refl W.grefl))
  | m + 1, j, s, Q, hj, st, hQ => by
    show wpAny _ _ (pyNext (.ref I) >>= _) Q E s
    refine wpAny_bind (W.item j s _ _ (by omega) st fun v s1 p st1 mv => ?_)
    refine wpAny_bind (wpAny_holding (draw_walk W m (j + 1) s1 _ (by omega) st1 fun s' xs hl hp st' mv' => wpAny_pure ?_))
    refine hQ s' (v :: xs) (by rw [List.length_cons, hl]) (fun k u e => ?_) (by rw [show j + (m + 1) = j + 1 + m by omega]; exact st') (Moved.trans W.gtrans mv mv')
    cases k with
    | zero =>
      simp at e
      subst e
      exact p
    | succ k =>
      simp at e
      have := hp k u e
      rw [show j + (k + 1) = j + 1 + k by omega]
      exact this
theorem unpackItems_star {v : Value} {T : String} {f : Value} {i : Nat} {Sh : Nat → Heap → Prop} {s1 : Shared} {TI : String} {Q : List Value → Shared → Prop} (hh : A.handled = none) (hT : s.TypeIs v T) (hs : typeLookup (.type T) "__iter__" = pure (some f))
    (hi : ∀ (Q : Value → Shared → Prop), Q (.ref I) s1 → wpAny (model prog w) A (pyIter v) Q E s)
    (W : ∀ A' : Around, A'.handled = none → Walks prog w A' I fp [I] (i + n) P Sh) (hst : Sh 0 s1.heap) (hfp : ∀ (i : Nat) (h : Heap), Sh i h → ∀ b ∈ fp, b < h.objs.size) (hI : I ∈ fp)
    (hTm : TI = "list_iterator" ∨ TI = "tuple_iterator") (hTI : ∀ (i : Nat) (s : Shared), Sh i s.heap → s.TypeIs (.ref I) TI) (hn : n ≤ sizeLine)
    (hQ : ∀ (h' : Heap) (tk : Nat) (xs ys : List Value), xs.length = i → ys.length = n → (∀ (k : Nat) (v : Value), xs[k]? = some v → P k v) → (∀ (k : Nat) (v : Value), ys[k]? = some v → P (i + k) v) → (∀ b o, b ≠ I → s1.heap.get? b = some o → h'.get? b = some o) →
      Q (xs ++ [.ref h'.objs.size]) { s1 with heap := h'.push { cls := .type "list", data := .seq ys.toArray }, toks := tk }) :
    wpAny (model prog w) A (unpackItems v (i + 1) (some i)) Q E s := by
  unfold unpackItems
  refine wpAny_bind ?_
  unfold notIterableAtAll
  refine wpAny_bind (wpAny_specialOf hT hs ?_)
  refine wpAny_pure ?_
  simp only [Bool.false_eq_true, if_false]
  refine wpAny_bind (wpAny_holding (hi _ ?_))
  refine wpAny_bind (wpAny_holding (draw_walk (W A hh).toS i 0 s1 _ (by omega) hst fun s2 xs hl hp st2 mv => ?_))
  rw [if_neg (by omega)]
  refine wpAny_bind (wpAny_holding (wpAny_collect_iter (by rcases hTm with h | h; exact .inr (.inr (.inl h)); exact .inr (.inr (.inr h))) (walk_shift (c := i) (W A.in1 hh).toS) (fun k s => hTI (i + k) s) (by simpa using st2) (hfp _ _ (by simpa using st2)) hI ?_ hn))
  intro s3 acc mv3 hacc
  have hl2 : acc.toList.length = n := by rw [Array.length_toList]; exact hacc.1
  rw [show i + 1 - 1 - i = 0 by omega]
  rw [if_neg (by omega)]
  have et : acc.toList.take (acc.toList.length - 0) = acc.toList := by rw [Nat.sub_zero, List.take_length]
  have ed : acc.toList.drop (acc.toList.length - 0) = [] := by rw [Nat.sub_zero, List.drop_length]
  simp only [et, ed]
  refine wpAny_bind ?_
  have mv4 := Moved.trans (fun _ _ _ h1 h2 => h2.trans h1) mv mv3
  rw [Moved.eq_with mv4]
  refine wpAny_newList ?_
  refine wpAny_pure ?_
  rw [List.append_nil]
  refine hQ s3.heap s3.toks xs acc.toList hl hl2 (fun k v e => by simpa using hp k v e) (fun k v e => hacc.2 k v (by simpa using e)) fun b o hb e => mv4.heap b o (by simpa using hb) e
end
theorem list_of {xs ys its : List Value} {i n : Nat} (hz : its.length = i + n) (h1 : xs.length = i) (h2 : ys.length = n) (p1 : ∀ (k : Nat) (v : Value), xs[k]? = some v → its.toArray[k]? = some v) (p2 : ∀ (k : Nat) (v : Value), ys[k]? = some v → its.toArray[i + k]? = some v) :
    xs = its.take i ∧ ys = its.drop i := by
  refine ⟨List.ext_getElem? fun k => ?_, List.ext_getElem? fun k => ?_⟩
  · by_cases hk : k < i
    · have e := p1 k _ (List.getElem?_eq_getElem (by omega : k < xs.length))
      rw [List.getElem?_take_of_lt hk, List.getElem?_eq_getElem (by omega : k < xs.length), ← e]
      simp
    · rw [List.getElem?_eq_none (by omega), List.getElem?_eq_none (by rw [List.length_take]; omega)]
  · by_cases hk : k < n
    · have e := p2 k _ (List.getElem?_eq_getElem (by omega : k < ys.length))
      rw [List.getElem?_drop, List.getElem?_eq_getElem (by omega : k < ys.length), ← e]
      simp
    · rw [List.getElem?_eq_none (by omega), List.getElem?_eq_none (by rw [List.length_drop]; omega)]
section
variable {X : Cx} {pos p2 : Pos}
/-- (a, .., *b) = a tuple or a list: i names ahead of the star -/
def gStar (K : PySem.W.Frag) (i : Nat) (t : TGs) : TG := fun v σ H Q => ∃ a xs, v = .ref a ∧ (SqT K H a xs ∨ SqL K H a xs) ∧ i ≤ xs.length ∧ ∀ p, H p = none → t (xs.take i ++ [.ref p]) σ (upd H p (.lst (xs.drop i))) Q
theorem pgs_star {e : Expr} {t : TG} (h1 : PG X e t) (hs : (assignEach [.Starred e p2] X.env).map (·.2) = [assign e X.env] := by rfl) : PGs X [.Starred e p2] (gCons t gNil) := by
  refine ⟨fun pins s σ H vs us Q I r h => ?_⟩
  obtain ⟨v, vr, e1, h⟩ := h
  subst e1
  cases r with
  | cons r rr =>
    rw [hs]
    refine assignInOrder_cons (thn (h1.run pins s σ H _ _ _ I r h) fun _ s1 ⟨σ1, H1, I1, e2, q1⟩ => ?_)
    subst e2
    cases rr
    exact assignInOrder_nil ⟨σ1, H1, I1, q1⟩
theorem pg_star {es : List Expr} {k : Nat} {t : TGs} {i : Nat} (hc : X.calm = true) (h : PGs X es t)
    (hn : (assignEach es X.env).length = i + 1 := by rfl) (hst : (assignEach es X.env).findIdx? (·.1) = some i := by rfl) : PG X (.Tuple es k pos) (gStar X.K i t) := by
  refine ⟨fun pins s σ H v u Q I r hw => ?_⟩
  obtain ⟨a, xs, e1, hq, hl, hw⟩ := hw
  subst e1
  obtain rfl : u = Value.ref a := r
  rw [assign_Tuple]
  refine wpAny_bind (wpAny_standAt ?_)
  unfold unpack
  rw [hn, hst]
  refine wpAny_bind (wpAny_holding ?_)
  have fin : ∀ (its : List Value), Vals xs its → xs.length ≤ sizeLine → ∀ (ob : Obj) (h' : Heap) (tk : Nat) (us ys : List Value), us.length = i → ys.length = xs.length - i → (∀ (k : Nat) (v : Value), us[k]? = some v → its.toArray[k]? = some v) → (∀ (k : Nat) (v : Value), ys[k]? = some v → its.toArray[i + k]? = some v) →
      (∀ b o, b ≠ s.heap.objs.size → (s.heap.push ob).get? b = some o → h'.get? b = some o) →
      wpAny (model X.prog X.w) X.A (assignInOrder (List.map (·.2) (assignEach es X.env)) (us ++ [Value.ref h'.objs.size])) (fun _ s' => ∃ σ' H', Inv X pins σ' H' s' ∧ Q σ' H') X.xe
        { s with heap := h'.push { cls := .type "list", data := .seq ys.toArray }, toks := tk } := by
    intro its rv hz ob h' tk us ys l1 l2 q1 q2 old
    have hlen := rv.length
    obtain ⟨rfl, rfl⟩ := list_of (i := i) (n := xs.length - i) (by omega) l1 l2 q1 q2
    have old2 : ∀ b o, s.heap.get? b = some o → (h'.push { cls := .type "list", data := .seq (its.drop i).toArray }).get? b = some o := fun b o e => Heap.get?_push_of_some _ (old b o (Nat.ne_of_lt (Heap.lt_size e)) (Heap.get?_push_of_some _ e))
    have sf : s.heap.get? h'.objs.size = none := by
      cases e : s.heap.get? h'.objs.size with
      | none => rfl
      | some o =>
        have := Heap.lt_size (old _ o (Nat.ne_of_lt (Heap.lt_size e)) (Heap.get?_push_of_some _ e))
        exact absurd this (Nat.lt_irrefl _)
    have nf : H h'.objs.size = none := I.hok.gone sf
    have I2 := I.laidN (t' := tk) (o := .lst (xs.drop i)) old2 sf nf (show ObjOk X.prog X.w _ _ _ (.lst (xs.drop i)) from ⟨by rw [List.length_drop]; omega, its.drop i, 0, rv.drop i, Heap.get?_push_size _ rfl⟩)
    exact h.run pins _ σ _ _ _ Q I2 ((rv.take i).append (.cons (show RelV (.ref h'.objs.size) (.ref h'.objs.size) from rfl) .nil)) (hw _ nf)
  rcases hq with hq | hq
  · obtain ⟨its, rv, ht, hz⟩ := I.tuple hq
    have hlen := rv.length
    obtain ⟨ot, hot, _⟩ := id ht
    have hlt := Heap.lt_size hot
    have hne : a ≠ s.heap.objs.size := Nat.ne_of_lt hlt
    refine unpackItems_star (I := s.heap.objs.size) (fp := [s.heap.objs.size, a]) (n := xs.length - i) (P := fun k v => its.toArray[k]? = some v) (Sh := fun k h => h.IsTupleIter s.heap.objs.size a k ∧ h.IsTuple a its.toArray) (I.ok.hd hc) ht.typeIs PySem.F.slot_tuple_iter.lookup
      (fun Q h => wpAny_pyIter_tuple (show s.heap.IsTuple a its.toArray from ht) h) (fun A' hh => ?_) ⟨⟨_, Heap.get?_push_size _ rfl, rfl, rfl⟩, ht.push _⟩ ?_ (.head _) (.inr rfl) (fun k s h => Heap.IsTupleIter.typeIs h.1) (by omega) ?_
    · have W := Walks.tuple (prog := X.prog) (w := X.w) hh s.heap.objs.size a hne its.toArray
      rw [show its.toArray.size = i + (xs.length - i) by rw [List.size_toArray]; omega] at W
      exact W
    · rintro k h ⟨⟨o1, e1, _⟩, ⟨o2, e2, _⟩⟩ b hb
      rcases List.mem_cons.mp hb with rfl | hb
      · exact Heap.lt_size e1
      · rw [List.mem_singleton.mp hb]
        exact Heap.lt_size e2
    · intro h' tk us ys l1 l2 q1 q2 old
      exact fin its rv hz _ h' tk us ys l1 l2 q1 q2 old
  · obtain ⟨its, rv, ht, hz⟩ := I.list hq
    have ht := ht.isList
    have hlen := rv.length
    obtain ⟨ot, hot, _⟩ := id ht
    have hlt := Heap.lt_size hot
    have hne : a ≠ s.heap.objs.size := Nat.ne_of_lt hlt
    refine unpackItems_star (I := s.heap.objs.size) (fp := [s.heap.objs.size, a]) (n := xs.length - i) (P := fun k v => its.toArray[k]? = some v) (Sh := fun k h => h.IsListIter s.heap.objs.size a k ∧ h.IsList a its.toArray) (I.ok.hd hc) ht.typeIs PySem.slot_list_iter.lookup
      (fun Q h => wpAny_pyIter_list ht h) (fun A' hh => ?_) ⟨⟨_, Heap.get?_push_size _ rfl, rfl, rfl⟩, ht.push _⟩ ?_ (.head _) (.inl rfl) (fun k s h => Heap.IsListIter.typeIs h.1) (by omega) ?_
    · have W := Walks.list (prog := X.prog) (w := X.w) hh s.heap.objs.size a hne its.toArray
      rw [show its.toArray.size = i + (xs.length - i) by rw [List.size_toArray]; omega] at W
      exact W
    · rintro k h ⟨⟨o1, e1, _⟩, ⟨o2, e2, _⟩⟩ b hb
      rcases List.mem_cons.mp hb with rfl | hb
      · exact Heap.lt_size e1
      · rw [List.mem_singleton.mp hb]
        exact Heap.lt_size e2
    · intro h' tk us ys l1 l2 q1 q2 old
      exact fin its rv hz _ h' tk us ys l1 l2 q1 q2 old
end
end Ct
/-! defs that call themselves; lists of dicts -/
namespace Ct
open PySem PySem.Spec PyProof.Rows L2
section
variable {P : Program} {w : World} {K : PySem.W.Frag} {mg : Str → Option Value} {base : Heap} {CX : CXT} {k : Nat} {f : Addr} {fd : FuncData} {ps : List Str} {sp : Sp}
theorem fn_none (h : ∀ vs H Q E, sp vs H Q E → False) : FnOk P w K mg base CX k f fd ps sp := ⟨fun vs H Q E z => (h vs H Q E z).elim, fun _ _ _ _ _ _ _ _ _ _ _ _ _ z => (h _ _ _ _ z).elim⟩
theorem fnG_none (h : ∀ vs H Q E, sp vs H Q E → False) : FnG P w K mg base CX k f fd ps sp := ⟨fun vs H Q E z => (h vs H Q E z).elim, fun _ _ _ _ _ _ _ _ _ _ _ _ _ _ z => (h _ _ _ _ z).elim⟩
end
section
variable {X : Cx}
def rListD : List V → Hp → VK → Prop := fun xs H Q => ∃ (a : Addr) (kvs : List (Key × V)), xs = [.ref a] ∧ Rd H a (.dK kvs) ∧ ∀ p, H p = none → Q (.ref p) (upd H p (.lst (kvs.map fun kv => kV kv.1)))
def rListA (K : PySem.W.Frag) : List V → Hp → VK → Prop := fun xs H Q => rListOf K xs H Q ∨ rListD xs H Q
theorem call_listA (hc : X.calm = true) : CallR X (.type "list") (rListA X.K) := call_listOf.or (call_listD hc)
end
section
variable {X : Cx}
/-- name = {.. for ..} on one line, the name a local -/
theorem ps_setDc {i : Nat} {y : Str} {py : Pos} {kx vx tg iter : Expr} {ifs : List Expr} {scope : Scope} {own : List (Str × Nat)} {pos spos : Pos} {wi : TI} {g : TG} {tt : TT} {tk tv : TE} (hc : X.calm = true) (hN : X.N.Nodup) (hy : X.N[i]? = some y) (hyl : X.env.scope.names.lookup y = some .local)
    (hsw : swapsWith (.DictComp kx vx [⟨tg, iter, ifs, 0⟩] scope pos) (some (.Name y py)) spos.line X.env = pure true) (hi : PI X tg iter wi) (ok : BlkOk X.N X.env.scope scope own)
    (hg : ∀ (s : Shared) (H : Hp) (C : Addr) (cl : List (Str × Addr)) (fp : List Addr), PG (X.blk s H scope (compEnvC scope cl C X.env) fp) tg g) (ht : ∀ (s : Shared) (H : Hp) (C : Addr) (cl : List (Str × Addr)) (fp : List Addr), PTs (X.blk s H scope (compEnvC scope cl C X.env) fp) ifs tt)
    (hk : ∀ (s : Shared) (H : Hp) (C : Addr) (cl : List (Str × Addr)) (fp : List Addr), PE (X.blk s H scope (compEnvC scope cl C X.env) fp) kx tk)
    (he : ∀ (s : Shared) (H : Hp) (C : Addr) (cl : List (Str × Addr)) (fp : List Addr), PE (X.blk s H scope (compEnvC scope cl C X.env) fp) vx tv) (hs : ∀ x, foldedSetIterable iter X.env x = pure x := by intro _; rfl) :
    PS X (.Assign [.Name y py] (.DictComp kx vx [⟨tg, iter, ifs, 0⟩] scope pos) spos) (tAsg (tDc wi g tt tk tv (own.map (·.2))) (gName i)) := by
  refine ⟨fun pins s σ H D I h => ?_⟩
  rw [exec_Assign_Name_used _ _ _ _ hsw]
  refine wpAny_bind (wpAny_standAt (wpAny_bind ?_))
  show wpAny _ X.A (do let _ ← comprehension (.DictComp kx vx [⟨tg, iter, ifs, 0⟩] scope pos) scope X.env (firstIterPos [⟨tg, iter, ifs, 0⟩] pos) newDict false (eval iter X.env) (some (assign (.Name y py) X.env))) _ _ s
  have h : tDc wi g tt tk tv (own.map (·.2)) σ H (fun x H1 => gName i x σ H1 D.nx) := h
  refine wpAny_bind (thn (dc_core (Qf := fun _ s' => SP X pins D .next s') hc hN I hi ok hg ht hk he hs h fun L C s' m H' I' q hn f => ?_) fun _ s' hq => wpAny_pure (wpAny_pure hq))
  show wpAny _ _ (assign (.Name y py) X.env (.ref L)) _ _ _
  refine wpAny_assign_Name (store_ok2 (v := V.ref L) I' hN hy (.inl hyl) rfl (fun s2 I2 ⟨a, sb, ha⟩ => ?_) (.inr hyl))
  obtain ⟨f0, f1, f2, f3, f4, f5⟩ := f
  have haC : C ≠ a := by
    rcases ha with z | z
    · rw [z]; exact f1
    · exact fun e => f4 y a z e.symm
  refine ⟨m, hn.sameBut sb haC, fun h3 sb3 => ?_⟩
  exact ⟨_, H', I2.turned (t' := s2.toks) (fun b o hb e => (sb3.2 b hb).trans e) f0 f1 f3 f4 f5, q⟩
theorem sw_trueD {kx vx : Expr} {gs : List Comprehension} {scope : Scope} {pos py : Pos} {y : Str} {l : Nat} {env : Env} (hk : env.scope.kind = .function) (hy : env.scope.names.lookup y = some .local) (hl : (py.line == pos.line) = true)
    (ha : (scope.names.any fun (n, k) => n == y && (k == .local || k == .cell)) = false) : swapsWith (.DictComp kx vx gs scope pos) (some (.Name y py)) l env = pure true := by
  have ky : env.kindOf y = some .local := hy
  have hb : env.blockKind = .function := by unfold Env.blockKind; rw [hk]; rfl
  unfold swapsWith
  simp only [hb, ky, ha, Expr.pos, hl]
  rfl
end
end Ct
/-! more steps -/
namespace Ct
open PySem PySem.Spec PyProof.Rows L2
section
variable {K : PySem.W.Frag} {σ : L2.St} {H : Hp} {Q : VK} {D : Ends} {x y v : V} {z w : Str} {a b : Addr} {xs ys : List V} {n m : Int} {k : Key} {kvs : List (Key × V)}
theorem g_ext (h : H a = some (.lst xs)) (h' : H b = some (.lst ys)) (hl : xs.length + ys.length ≤ sizeLine) (q : Q .non (upd H a (.lst (xs ++ ys)))) : rExtend (.ref a) [.ref b] H Q := ⟨a, b, xs, ys, rfl, rfl, h, h', hl, q⟩
theorem g_addT (h : SqT K H a xs) (h' : SqT K H b ys) (hx : xs ≠ []) (hy : ys ≠ []) (hl : xs.length + ys.length ≤ sizeLine) (q : ∀ p, H p = none → Q (.ref p) (upd H p (.tup (xs ++ ys)))) : rAddA K (.ref a) (.ref b) H Q :=
  .inr (.inr (.inr ⟨a, b, xs, ys, rfl, rfl, h, h', hl, fun e => absurd e hx, fun _ e => absurd e hy, fun _ _ => q⟩))
/-- a slice of a tuple from i on, or up to i -/
theorem g_slT {lo hi : Option Int} (h : SqT K H a xs) (hw : ¬ (HT.sIx xs.length 0 lo = 0 ∧ HT.sIx xs.length xs.length hi = xs.length)) (q : ∀ p, H p = none → Q (.ref p) (upd H p (.tup (cutV xs lo hi)))) : rSlAny K (.ref a) lo hi H Q :=
  .inr (.inl ⟨a, xs, rfl, h, fun e => absurd e hw, fun _ => q⟩)
theorem g_slTall {lo hi : Option Int} (h : SqT K H a xs) (hw : HT.sIx xs.length 0 lo = 0 ∧ HT.sIx xs.length xs.length hi = xs.length) (q : Q (.ref a) H) : rSlAny K (.ref a) lo hi H Q :=
  .inr (.inl ⟨a, xs, rfl, h, fun _ => q, fun e => absurd hw e⟩)
theorem g_star {i : Nat} {t : TGs} {QS : L2.St → Hp → Prop} (h : SqT K H a xs ∨ SqL K H a xs) (hl : i ≤ xs.length) (q : ∀ p, H p = none → t (xs.take i ++ [.ref p]) σ (upd H p (.lst (xs.drop i))) QS) : gStar K i t (.ref a) σ H QS := ⟨a, xs, rfl, h, hl, q⟩
theorem g_listL (h : SqL K H a xs) (q : ∀ l, H l = none → Q (.ref l) (upd H l (.lst xs))) : rListA K [.ref a] H Q := .inl ⟨a, xs, rfl, .inl h, q⟩
theorem g_listT (h : SqT K H a xs) (q : ∀ l, H l = none → Q (.ref l) (upd H l (.lst xs))) : rListA K [.ref a] H Q := .inl ⟨a, xs, rfl, .inr h, q⟩
theorem g_listD (h : H a = some (.dK kvs)) (q : ∀ l, H l = none → Q (.ref l) (upd H l (.lst (kvs.map fun kv => kV kv.1)))) : rListA K [.ref a] H Q := .inr ⟨a, kvs, rfl, .inl h, q⟩
theorem g_tupL (h : SqL K H a xs) (q : ∀ l, H l = none → Q (.ref l) (upd H l (.tup xs))) : rTupOf K [.ref a] H Q := ⟨a, xs, rfl, .inl ⟨h, q⟩⟩
theorem g_enum {ta : TA} {R : It → Hp → Prop} (q : ta σ H fun vs H1 => ∃ a xs, vs = [.ref a] ∧ SqL K H1 a xs ∧ R (Ite K a) H1) : iEnum K ta σ H R := q
/-! ### dict comprehensions -/
def DcGo (J : It) (g : TG) (tt : TT) (tk tv : TE) (vs : List Nat) (σ : L2.St) (H : Hp) (Q : VK) : Prop :=
  ∀ D, H D = none → ∃ W : Nat → Nat → Hp → Prop, (∃ m, W 0 m (upd H D (.dK []))) ∧ ∀ i m H, W i m H →
  (J.stop i H ∧ Q (.ref D) H) ∨ (J.go i H ∧ ∃ Nx : Hp → Prop, (∀ H', Nx H' → ∃ m', m' < m ∧ W (i + 1) m' H') ∧ ∀ x H', J.yld i H x H' → g x (wipe σ vs) H' fun σ2 H2 => wipe σ2 vs = wipe σ vs ∧ tt σ2 H2 fun b H3 =>
    if b = true then tk σ2 H3 fun y H4 => tv σ2 H4 fun z H5 => ∃ kvs k, y = kV k ∧ H5 D = some (.dK kvs) ∧ kvs.length < sizeLine ∧ Nx (upd H5 D (.dK (putK kvs k z))) else Nx H3)
theorem g_dc {wi : TI} {g : TG} {tt : TT} {tk tv : TE} {vs : List Nat} (q : wi σ H fun J H1 => DcGo J g tt tk tv vs σ H1 Q) : tDc wi g tt tk tv vs σ H Q := q
theorem c_dc {M : Cells → Prop} {Γ : List Kn} {L : Cells} {J : It} {n : Nat} {G : Hp → Prop} {Y : Nat → Hp → V → Hp → Prop} {g : TG} {tt : TT} {tk tv : TE} {vs : List Nat} (wk : Walk J n G Y) (w : WR M Γ L H) (R : Nat → List (Key × V) → Hp → Prop)
    (r0 : ∀ G, R 0 [] G) (hz : ∀ i acc G, i < n → R i acc G → acc.length < sizeLine) (hG : ∀ i acc D H, i ≤ n → WR M (R i acc :: Γ) ((D, .dK acc) :: L) H → G H)
    (hs : ∀ i x D acc H H' (N : V → V → Hp → Prop) (N0 : Hp → Prop), i < n → WR M (R i acc :: Γ) ((D, .dK acc) :: L) H → Y i H x H' →
      (∀ k z H4, WR M (R (i + 1) (putK acc k z) :: R i acc :: Γ) ((D, .dK acc) :: L) H4 → N (kV k) z H4) → (∀ H3, WR M (R (i + 1) acc :: R i acc :: Γ) ((D, .dK acc) :: L) H3 → N0 H3) →
      g x (wipe σ vs) H' fun σ2 H2 => wipe σ2 vs = wipe σ vs ∧ tt σ2 H2 fun b H3 => if b = true then tk σ2 H3 fun y H4 => tv σ2 H4 fun z H5 => N y z H5 else N0 H3)
    (hd : ∀ D acc H, WR M (R n acc :: Γ) ((D, .dK acc) :: L) H → Q (.ref D) H) :
    DcGo J g tt tk tv vs σ H Q := by
  intro D hD
  have two : ∀ {k : Kn} {i : Nat} {acc : List (Key × V)} {L' : Cells} {H' : Hp}, WR M (k :: R i acc :: Γ) L' H' → WR M (k :: Γ) L' H' := fun w => w.sub fun k hk => by
    cases hk with
    | head => exact .head _
    | tail _ hk => exact .tail _ (.tail _ hk)
  refine ⟨fun i m H => m = n - i ∧ i ≤ n ∧ ∃ acc, WR M (R i acc :: Γ) ((D, .dK acc) :: L) H, ⟨n, by simp, Nat.zero_le _, [], (w.new (.dK []) hD).more _ fun G _ => r0 G⟩, ?_⟩
  rintro i m H ⟨rfl, hi, acc, w⟩
  have q := hG i acc D H hi w
  by_cases hlt : i < n
  · refine .inr ⟨wk.goes i H hlt q, fun H => ∃ acc, WR M (R (i + 1) acc :: Γ) ((D, .dK acc) :: L) H, fun H' p' => ⟨n - (i + 1), by omega, rfl, hlt, p'⟩, fun x H' y => ?_⟩
    exact hs i x D acc H H' (fun y z H5 => ∃ kvs k, y = kV k ∧ H5 D = some (.dK kvs) ∧ kvs.length < sizeLine ∧ ∃ acc, WR M (R (i + 1) acc :: Γ) ((D, .dK acc) :: L) (upd H5 D (.dK (putK kvs k z)))) (fun H => ∃ acc, WR M (R (i + 1) acc :: Γ) ((D, .dK acc) :: L) H) hlt w (wk.yields i H x H' hlt q y)
      (fun k z H4 w4 => ⟨acc, k, rfl, w4.cell (.head _), hz i acc H4 hlt (w4.get (.tail _ (.head _))), putK acc k z, two (w4.put0 _)⟩) (fun H3 w3 => ⟨acc, two w3⟩)
  · have e : i = n := by omega
    subst e
    exact .inl ⟨wk.stops H q, hd D acc H w⟩
end
end Ct
/-! xs[:c] = ys, xs[a:c] = ys -/
namespace Ct
open PySem PySem.Spec PyProof.Rows L2
section
variable {prog : Program} {w : World} {A : Around} {E : Value → Shared → Prop} {s : Shared}
theorem bounds_at {lo : Option Int} {a c n : Nat} (hl : lo = none ∧ a = 0 ∨ lo = some (a : Int)) (hac : a ≤ c) (hc : c ≤ n) : sliceBounds lo (some (c : Int)) none n = ((a : Int), (c : Int), 1) := by
  rcases hl with ⟨rfl, rfl⟩ | rfl
  · have h2 : ¬ ((c : Int) < 0) := by omega
    simp only [sliceBounds, Option.getD_none, h2, if_false, show (1 : Int) > 0 by decide, if_true]
    exact Prod.ext rfl (Prod.ext (by show max 0 (min (c : Int) (n : Int)) = c; omega) rfl)
  · exact bounds_run hac hc
theorem store_cut {l b sl : Addr} {items new : Array Value} {n n2 : Nat} {vl vu : Value} {lo : Option Int} {a c : Nat} {Q : Unit → Shared → Prop}
    (e : s.heap.get? l = some { cls := .type "list", data := .seq items n }) (e2 : s.heap.get? b = some { cls := .type "list", data := .seq new n2 }) (hne : l ≠ b)
    (hs : s.heap.IsSliceOf sl vl vu .none) (pl : IsPart vl lo) (pu : IsPart vu (some (c : Int))) (hl0 : lo = none ∧ a = 0 ∨ lo = some (a : Int)) (hac : a ≤ c) (hc : c ≤ items.size)
    (hsz : items.size + new.size ≤ sizeLine) (h : Q () { s with heap := s.heap.update l (Obj.mapSeq fun xs => xs.extract 0 a ++ new ++ xs.extract c xs.size) }) :
    wpAny (model prog w) A (setItem (.ref l) (.ref sl) (.ref b)) Q E s := by
  have hL := PySem.IsL.isList e
  have hB := PySem.IsL.isList e2
  obtain ⟨os, hos, hcs, hds⟩ := id hs
  have hTs : s.TypeIs (.ref sl) "slice" := ⟨os, hos, hcs⟩
  have hsame : Builtin.List.listSameRef (.ref l) (.ref b) = false := beq_eq_false_iff_ne.mpr hne
  have hbd := bounds_at hl0 hac hc
  have room : ((fun xs : Array Value => xs.extract 0 a ++ new ++ xs.extract c xs.size) items).size ≤ sizeLine + 1 := by
    simp only [Array.size_append, Array.size_extract]
    omega
  unfold setItem
  refine wpAny_holding ?_
  refine wpAny_bind (wpAny_sequenceKey hL.typeIs (by decide) ?_)
  refine wpAny_bind (wpAny_callSpecial?_slot (name := Str.ofString "__setitem__") hL.typeIs slot_list_setitem (wpAny_call_entry slot_list_setitem hL.typeIs entry_list_setitem ?_ (args_list_setitem _ _ _)))
  show wpAny _ _ (Builtin.List.listSubscript? (.ref sl) >>= _) _ _ s
  refine wpAny_bind (wpAny_bind (wpAny_specialOf hTs slice_no_index ?_))
  simp only [Option.isNone_none, if_true]
  refine wpAny_pure (wpAny_bind (wpAny_typeOf hTs ?_))
  refine PySem.W.KFB.if_not (by decide) ?_
  rw [listSliceParts_eq]
  refine wpAny_bind (wpAny_bind (wpAny_field hos hds (x := .none) rfl (wpAny_bind (wpAny_listPart .none ?_))))
  rw [if_neg (show ¬ ((rawPart none == rawInt 0) = true) from Bool.false_ne_true)]
  refine wpAny_bind (wpAny_field hos hds (x := vl) rfl (wpAny_bind (wpAny_listPart pl (wpAny_bind (wpAny_field hos hds (x := vu) rfl (wpAny_bind (wpAny_listPart pu (wpAny_pure ?_))))))))
  dsimp only
  rw [if_neg (by rw [hsame]; exact Bool.false_ne_true)]
  refine wpAny_bind (m := Builtin.List.listAllItems (.ref b) "must assign iterable to extended slice") (wpAny_bind (wpAny_typeOf hB.typeIs ?_))
  rw [if_pos (by decide)]
  refine wpAny_bind (wpAny_seqItems e2 rfl (wpAny_pure (wpAny_bind (wpAny_bind (wpAny_seqItems e rfl (wpAny_pure (wpAny_bind (wpAny_of_eq ((sliceIndices_raw lo (some (c : Int)) none items.size (by simp)).trans (congrArg (pure : Int × Int × Int → Sem (Int × Int × Int)) hbd)) ?_))))))))
  refine PySem.W.KFB.if_so (show ((1 : Int) == 1) = true from rfl) (wpAny_bind (wpAny_rule ?_))
  refine PySem.W.KFB.if_not (notLongL hsz) ?_
  show wpAny _ _ (updateSeq l (fun xs => xs.extract 0 ((a : Int)).toNat ++ new ++ xs.extract (max (a : Int) (c : Int)).toNat xs.size) >>= _) _ _ s
  rw [show (max (a : Int) (c : Int)).toNat = c by omega, Int.toNat_natCast]
  refine wpAny_bind (wpAny_updateSeq (hz := Nat.le_trans (Nat.le_add_right _ _) hsz) (_hz' := room) e rfl (wpAny_bind (wpAny_letGo ?_)))
  exact wpAny_pure ⟨.none, rfl, wpAny_pure h⟩
end
section
variable {X : Cx} {o : Expr} {lo hi : Option Expr} {to : TE} {tl th : TO} {pos p2 : Pos}
/-- xs[lo:c] = ys, ys another list -/
def gCut (to : TE) (tl th : TO) : TG := fun v σ H Q => to σ H fun x H1 => tl σ H1 fun l H2 => th σ H2 fun h H3 => ∃ (p q : Addr) (xs ys : List V) (a c : Nat), x = .ref p ∧ v = .ref q ∧ H3 p = some (.lst xs) ∧ H3 q = some (.lst ys) ∧ p ≠ q ∧
  (l = none ∧ a = 0 ∨ l = some (a : Int)) ∧ h = some (c : Int) ∧ a ≤ c ∧ c ≤ xs.length ∧ xs.length + ys.length ≤ sizeLine ∧ Q σ (upd H3 p (.lst (xs.take a ++ ys ++ xs.drop c)))
theorem pg_cut (ho : PE X o to) (hl : PO X lo tl) (hh : PO X hi th)
    (ha : ∀ v, assign (.Subscript o (.Slice lo hi none p2) pos) X.env v = (do
      let ov ← holding [v] (eval o X.env)
      let iv ← holding [v, ov] (eval (.Slice lo hi none p2) X.env)
      standAt pos
      holding [v, ov, iv] (setItem ov iv v)
      release [iv, v, ov] []) := by intro _; rfl) : PG X (.Subscript o (.Slice lo hi none p2) pos) (gCut to tl th) := by
  refine ⟨fun pins s σ H v u Q I r h => ?_⟩
  rw [ha]
  refine wpAny_bind (wpAny_holding (thn (ho.run pins s σ H _ I h) fun ov s1 ⟨x, H1, I1, r1, q1⟩ => ?_))
  refine wpAny_bind (wpAny_holding (wpAny_Slice (thn (hl.run pins s1 σ H1 _ I1 q1) fun vl s2 ⟨l, H2, I2, pl, q2⟩ => thn (hh.run pins s2 σ H2 _ I2 q2) fun vu s3 ⟨c, H3, I3, pu, q3⟩ => ?_)))
  rw [evalPart_none]
  refine wpAny_pure (wpAny_bind (wpAny_standAt (wpAny_bind (wpAny_holding ?_))))
  obtain ⟨p, q, xs, ys, a, c', rfl, rfl, hp, hq, hne, hl0, rfl, hac, hc, hz, fin⟩ := q3
  obtain rfl : ov = Value.ref p := r1
  obtain rfl : u = Value.ref q := r
  have I4 : Inv X pins σ H3 { s3 with heap := s3.heap.push { cls := .type "slice", data := .fields #[vl, vu, .none] } } := I3.kept (t' := s3.toks) fun b ob q => Heap.get?_push_of_some _ q
  obtain ⟨z, its, n, rv, hlz, e⟩ := I4.lstM hp
  obtain ⟨z2, its2, n2, rv2, hlz2, e2⟩ := I4.lstM hq
  refine store_cut (a := a) (c := c') e e2 hne (Heap.IsSliceOf.new ..) pl pu hl0 hac (by rw [List.size_toArray]; omega) (by rw [List.size_toArray, List.size_toArray]; omega) (wpAny_release ⟨σ, _, ?_, fin⟩)
  refine I4.lset (its' := its.take a ++ its2 ++ its.drop c') (t' := s3.toks) hp e ?_ (Vals.append (Vals.append (rv.take _) rv2) (rv.drop _)) ?_
  · exact splice_eq its its2 a c'
  · rw [List.length_append, List.length_append, List.length_take, List.length_drop]
    omega
end
section
variable {σ : L2.St} {H : Hp} {v : V}
theorem g_cutS {to : TE} {tl th : TO} {QS : L2.St → Hp → Prop} (q : to σ H fun x H1 => tl σ H1 fun l H2 => th σ H2 fun h H3 => ∃ (p q : Addr) (xs ys : List V) (a c : Nat), x = .ref p ∧ v = .ref q ∧ H3 p = some (.lst xs) ∧ H3 q = some (.lst ys) ∧ p ≠ q ∧
  (l = none ∧ a = 0 ∨ l = some (a : Int)) ∧ h = some (c : Int) ∧ a ≤ c ∧ c ≤ xs.length ∧ xs.length + ys.length ≤ sizeLine ∧ QS σ (upd H3 p (.lst (xs.take a ++ ys ++ xs.drop c)))) : gCut to tl th v σ H QS := q
end
end Ct
namespace Ct
open PySem PySem.Spec PyProof.Rows L2
local macro_rules | `(tactic| walk_at "g") => `(tactic| first
  | with_reducible refine g_seq ?_
  | with_reducible refine g_set ?_
  | with_reducible refine g_asg ?_
  | with_reducible refine g_sub ?_
  | with_reducible refine g_name ?_
  | with_reducible refine g_ret ?_
  | with_reducible refine g_if ?_
  | ((with_reducible refine' g_var ?gh ?_); (case gh => rfl))
  | with_reducible refine g_c ?_
  | with_reducible refine g_op ?_
  | with_reducible refine g_test ?_
  | with_reducible refine g_bl ?_
  | with_reducible refine g_int ?_
  | with_reducible refine g_cons ?_
  | with_reducible refine g_nil ?_
  | with_reducible refine g_call ?_
  | with_reducible refine g_cb ?_
  | with_reducible refine g_and ?_
  | with_reducible refine g_or ?_
  | with_reducible refine g_not ?_
  | with_reducible refine g_B ?_
  | with_reducible refine g_un ?_
  | with_reducible refine g_neg ?_
  | with_reducible refine g_chain ?_
  | with_reducible refine g_drop ?_
  | with_reducible refine g_par ?_
  | with_reducible refine g_par3 ?_
  | with_reducible refine g_tup ?_
  | with_reducible refine g_lst ?_
  | with_reducible refine g_sl ?_
  | with_reducible refine g_nop ?_
  | with_reducible refine g_part ?_
  | with_reducible refine g_bm0 ?_
  | with_reducible refine g_bm ?_
  | with_reducible refine g_m0 ?_
  | with_reducible refine g_m1 ?_
  | with_reducible refine g_lrev ?_
  | with_reducible refine g_ifE ?_
  | with_reducible refine g_andV ?_
  | with_reducible refine g_orV ?_
  | with_reducible refine g_notV ?_
  | with_reducible refine g_addI ?_
  | with_reducible refine g_subI ?_
  | with_reducible refine g_eqI ?_
  | with_reducible refine g_neI ?_
  | with_reducible refine g_eqS ?_
  | with_reducible refine g_neS ?_
  | with_reducible refine g_eqB ?_
  | with_reducible refine g_neB ?_
  | with_reducible refine g_ltI ?_
  | with_reducible refine g_gtI ?_
  | with_reducible refine g_leI ?_
  | with_reducible refine g_geI ?_
  | with_reducible refine g_inS ?_
  | with_reducible refine g_niS ?_
  | with_reducible refine g_max ?_
  | with_reducible refine g_min ?_
  | with_reducible refine g_abs ?_
  | with_reducible refine g_isN ?_
  | with_reducible refine g_notN ?_
  | with_reducible refine g_isB ?_
  | with_reducible refine g_notB ?_
  | with_reducible refine g_intB ?_
  | with_reducible refine g_intI ?_
  | with_reducible refine g_lc ?_
  | with_reducible refine g_for ?_
  | with_reducible refine g_seqI ?_
  | with_reducible refine g_inStr ?_
  | with_reducible refine g_rng ?_
  | with_reducible refine g_yes ?_
  | with_reducible refine g_pairs ?_
  | with_reducible refine g_pairs0 ?_
  | with_reducible refine iteT ?_
  | with_reducible refine iteF ?_
  | with_reducible refine g_nF ?_
  | with_reducible refine g_nT ?_
  | with_reducible refine g_gcons ?_
  | with_reducible refine g_gnil ?_
  | with_reducible refine g_next ?_
  | ((with_reducible refine' g_mulI ?gh ?_); (case gh => first | exact .inl (.inl ⟨by omega, by omega⟩) | exact .inl (.inr ⟨by omega, by omega⟩)))
  | ((with_reducible refine' g_modI ?gh ?_); (case gh => omega)))
local macro_rules | `(tactic| walk_at "gg") => `(tactic| (repeat walk_at "g"))
theorem st_of {N : List Str} {vs : List V} {n : Nat} (h : N.length = n) : L2.start N vs = vs.map some ++ List.replicate (n - vs.length) none := by
  unfold L2.start
  rw [h]
theorem cdiv_small {n m : Int} (h0 : 0 < m) (h1 : m < 2 ^ 60) : CDivA n m := by
  refine ⟨by omega, ?_⟩
  have e : m.natAbs < 2 ^ 60 := by omega
  have h2 : m.natAbs.log2 < 60 := (Nat.log2_lt (by omega)).mpr e
  have hm : (m == 0) = false := by simp; omega
  unfold Builtin.divisionGoesByPylong
  simp only [hm, Bool.false_eq_true, if_false, Bool.and_eq_false_iff, decide_eq_false_iff_not]
  left
  omega
/-- the dict of draws -/
def dealK (s n : Int) (l : Addr) : List (Key × V) := [(.inr "seed", .int s), (.inr "number", .int n), (.inr "left", .ref l)]
theorem dealK_len {s n : Int} {l : Addr} : (dealK s n l).length < sizeLine := (by decide : 3 < 16777216)
theorem dealK_seed {s n : Int} {l : Addr} : valV (dealK s n l) (.inr "seed") = some (.int s) := rfl
theorem dealK_number {s n : Int} {l : Addr} : valV (dealK s n l) (.inr "number") = some (.int n) := rfl
theorem dealK_left {s n : Int} {l : Addr} : valV (dealK s n l) (.inr "left") = some (.ref l) := rfl
theorem dealK_putN {s n m : Int} {l : Addr} : putK (dealK s n l) (.inr "number") (.int m) = dealK s m l := rfl
theorem dealK_putS {s n m : Int} {l : Addr} : putK (dealK s n l) (.inr "seed") (.int m) = dealK m n l := rfl
/-- where draws come from: a dict at d, its list at l -/
structure DealOk (s n : Int) (ns : List Int) : Prop where
  s0 : 0 ≤ s
  s1 : s < 2147483647
  n0 : 0 ≤ n
  nn : ∀ x ∈ ns, 0 ≤ x
  ln : ns.length ≤ 1000
def dealM (d l : Addr) : Cells → Prop := fun L => ∃ s n ns, DealOk s n ns ∧ L = [(d, .dK (dealK s n l)), (l, .lst (ns.map V.int))]

section
variable {K : PySem.W.Frag} {H : Hp} {Q : VK} {d l : Addr} {s n m : Int}
theorem dg_seed (h : H d = some (.dK (dealK s n l))) (q : Q (.int s) H) : rIxA K (.ref d) (.str "seed") H Q := g_ixD (DGet.k (k := .inr "seed") h) q
theorem dg_number (h : H d = some (.dK (dealK s n l))) (q : Q (.int n) H) : rIxA K (.ref d) (.str "number") H Q := g_ixD (DGet.k (k := .inr "number") h) q
theorem dg_left (h : H d = some (.dK (dealK s n l))) (q : Q (.ref l) H) : rIxA K (.ref d) (.str "left") H Q := g_ixD (DGet.k (k := .inr "left") h) q
theorem dp_number {QH : Hp → Prop} (h : H d = some (.dK (dealK s n l))) (q : QH (upd H d (.dK (dealK s m l)))) : rSetA (.ref d) (.str "number") (.int m) H QH := g_setK (.inr "number") h dealK_len q
theorem dp_seed {QH : Hp → Prop} (h : H d = some (.dK (dealK s n l))) (q : QH (upd H d (.dK (dealK m n l)))) : rSetA (.ref d) (.str "seed") (.int m) H QH := g_setK (.inr "seed") h dealK_len q
end
local macro_rules | `(tactic| walk_at "g") => `(tactic| first
  | ((with_reducible refine' dg_seed ?gh ?_); (case gh => assumption))
  | ((with_reducible refine' dg_number ?gh ?_); (case gh => assumption))
  | ((with_reducible refine' dg_left ?gh ?_); (case gh => assumption))
  | ((with_reducible refine' dp_number ?gh ?_); (case gh => assumption))
  | ((with_reducible refine' dp_seed ?gh ?_); (case gh => assumption)))
def t_law_draw (K : PySem.W.Frag) (ad : String → Addr) : TS := (tSeq (tWhile (tAnd (tTest (tOp (rEqA K) (tOp (rIxA K) (tVar 0) (tC (.str "number"))) (tC (.int 0)))) (tTest (tOp rGtA (tCB (rLenA K) (tCons (tOp (rIxA K) (tVar 0) (tC (.str "left"))) tNil)) (tC (.int 0))))) (tAsg (tBM0 K "list" rPop (tOp (rIxA K) (tVar 0) (tC (.str "left")))) (gSub (tVar 0) (tC (.str "number")) rSetA))) (tSeq (tAsg (tOp (rIxA K) (tVar 0) (tC (.str "number"))) (gName 2)) (tSeq (tIfS (tTest (tOp rGtA (tVar 2) (tC (.int 0)))) (tSeq (tAsg (tOp (rI CDivA fun i j => .int (i.fdiv j)) (tVar 2) (tVar 1)) (gSub (tVar 0) (tC (.str "number")) rSetA)) (tRet (tOp (rI (fun _ j => j ≠ 0) fun i j => .int (i.fmod j)) (tVar 2) (tVar 1)))) tNext) (tSeq (tAsg (tOp (rI (fun _ j => j ≠ 0) fun i j => .int (i.fmod j)) (tOp (rAddA K) (tOp (rMulA K) (tOp (rIxA K) (tVar 0) (tC (.str "seed"))) (tC (.int 48271))) (tC (.int 7919))) (tC (.int 2147483647))) (gName 3)) (tSeq (tAsg (tOp (rI (fun _ j => j ≠ 0) fun i j => .int (i.fmod j)) (tOp (rAddA K) (tOp (rMulA K) (tVar 3) (tC (.int 40692))) (tC (.int 104729))) (tC (.int 2147483399))) (gSub (tVar 0) (tC (.str "seed")) rSetA)) (tSeq (tAsg (tOp (rI (fun _ j => j ≠ 0) fun i j => .int (i.fmod j)) (tOp (rMulA K) (tOp (rIxA K) (tVar 0) (tC (.str "seed"))) (tOp (rIxA K) (tVar 0) (tC (.str "seed")))) (tC (.int 2147483563))) (gName 4)) (tRet (tOp (rI (fun _ j => j ≠ 0) fun i j => .int (i.fmod j)) (tOp (rAddA K) (tOp (rMulA K) (tOp (rI (fun _ j => j ≠ 0) fun i j => .int (i.fmod j)) (tOp (rMulA K) (tVar 3) (tVar 3)) (tC (.int 2147483629))) (tC (.int 2147483563))) (tVar 4)) (tVar 1)))))))))
def sp_law_draw (K : PySem.W.Frag) (ad : String → Addr) : Sp := fun vs H Q _ => ∃ (d l : Addr) (m : Int) (Γ : List Kn) (L : Cells), vs = [.ref d, .int m] ∧ 0 < m ∧ m < 2 ^ 60 ∧ WR (dealM d l) Γ L H ∧
  ∀ r H', 0 ≤ r → r < m → WR (dealM d l) Γ L H' → Q (.int r) H'
theorem ln_law_draw {K : PySem.W.Frag} {ad : String → Addr} : ∀ vs H Q E, sp_law_draw K ad vs H Q E → vs.length = 2 := by
  rintro vs H Q E ⟨d, l, m, Γ, L, rfl, _⟩
  rfl
theorem rd_law_draw {K : PySem.W.Frag} {ad : String → Addr} (N : List Str) (hN : N.length = 5) : ∀ vs H Q E, sp_law_draw K ad vs H Q E → t_law_draw K ad { nx := fun _ H' => Q .non H', rt := Q } (L2.start N vs) H := by
  rintro vs H Q E ⟨d, l, m, Γ, L, rfl, m0, m1, w, q⟩
  rw [st_of hN]
  unfold t_law_draw
  obtain ⟨L0, ⟨s, n, ns, ok, rfl⟩, w⟩ := w
  walk_at "g"
  refine l_while (fun k σ H => ∃ n ns, σ = [some (.ref d), some (.int m), none, none, none] ∧ DealOk s n ns ∧ ns.length = k ∧ WW Γ ((d, .dK (dealK s n l)) :: (l, .lst (ns.map V.int)) :: L) H)
    (fun σ H => ∃ n ns, σ = [some (.ref d), some (.int m), none, none, none] ∧ DealOk s n ns ∧ WW Γ ((d, .dK (dealK s n l)) :: (l, .lst (ns.map V.int)) :: L) H) ⟨_, n, ns, rfl, ok, rfl, w⟩ ?_ ?_
  · rintro X hX k σ H ⟨n, ns, rfl, ok, rfl, w⟩
    have cd : H d = some (.dK (dealK s n l)) := w.cell (.head _)
    have cl : H l = some (.lst (ns.map V.int)) := w.cell (.tail _ (.head _))
    walk_at "gg"
    refine g_iteD (fun e => ?_) (fun e => hX _ _ ⟨n, ns, rfl, ok, w⟩)
    walk_at "gg"
    refine g_lenL (sqL cl) ?_
    walk_at "gg"
    refine g_iteD (fun e1 => ?_) (fun e1 => hX _ _ ⟨n, ns, rfl, ok, w⟩)
    refine g_turn ?_
    walk_at "gg"
    refine ⟨g_tyL (sqL cl), ?_⟩
    obtain ⟨ms, z, rfl⟩ : ∃ ms z, ns = ms ++ [z] := by
      refine ⟨ns.dropLast, ns.getLast ?_, (List.dropLast_concat_getLast _).symm⟩
      rintro rfl
      simp at e1
    refine g_pop cl (y := .int z) (by simp) ?_
    have w1 := w.put 1 (.lst (ms.map V.int)) rfl
    have cd1 : (upd H l (.lst ((ms ++ [z]).map V.int).dropLast)) d = some (.dK (dealK s n l)) := by
      rw [upd_ne (w.ne (i := 0) (j := 1) rfl rfl (by decide))]
      exact cd
    walk_at "gg"
    have w2 := w1.put 0 (.dK (dealK s z l)) rfl
    have hz : (((ms ++ [z]).map V.int).dropLast) = ms.map V.int := by simp
    rw [hz]
    have zn : 0 ≤ z := ok.nn z (by simp)
    exact ⟨ms.length, by simp, z, ms, rfl, ⟨ok.s0, ok.s1, zn, fun x hx => ok.nn x (by simp [hx]), by have := ok.ln; simp at this; omega⟩, rfl, w2⟩
  · rintro σ H ⟨n, ns, rfl, ok, w⟩
    have cd : H d = some (.dK (dealK s n l)) := w.cell (.head _)
    have cl : H l = some (.lst (ns.map V.int)) := w.cell (.tail _ (.head _))
    have s0 := ok.s0
    have s1 := ok.s1
    walk_at "gg"
    refine g_iteD (fun hn => ?_) (fun hn => ?_)
    · walk_at "gg"
      refine g_divI (cdiv_small m0 m1) ?_
      walk_at "gg"
      refine q _ _ (Int.emod_nonneg _ (by omega)) (Int.emod_lt_of_pos _ m0) ⟨_, ⟨_, _, _, ⟨ok.s0, ok.s1, ?_, ok.nn, ok.ln⟩, rfl⟩, w.put 0 _ rfl⟩
      rw [Int.fdiv_eq_ediv_of_nonneg n (by omega)]
      exact Int.ediv_nonneg (by omega) (by omega)
    · walk_at "gg"
      have a0 : 0 ≤ (s * 48271 + 7919) % 2147483647 := Int.emod_nonneg _ (by decide)
      have a1 : (s * 48271 + 7919) % 2147483647 < 2147483647 := Int.emod_lt_of_pos _ (by decide)
      generalize (s * 48271 + 7919) % 2147483647 = a at a0 a1 ⊢
      walk_at "gg"
      have b0 : 0 ≤ (a * 40692 + 104729) % 2147483399 := Int.emod_nonneg _ (by decide)
      have b1 : (a * 40692 + 104729) % 2147483399 < 2147483399 := Int.emod_lt_of_pos _ (by decide)
      generalize (a * 40692 + 104729) % 2147483399 = b at b0 b1 ⊢
      have w2 := w.put 0 (.dK (dealK b n l)) rfl
      have cd2 := w2.cell (.head _)
      walk_at "gg"
      have c0 : 0 ≤ a * a % 2147483629 := Int.emod_nonneg _ (by decide)
      have c1 : a * a % 2147483629 < 2147483629 := Int.emod_lt_of_pos _ (by decide)
      walk_at "gg"
      exact q _ _ (Int.emod_nonneg _ (by omega)) (Int.emod_lt_of_pos _ m0) ⟨_, ⟨_, _, _, ⟨b0, by omega, ok.n0, ok.nn, ok.ln⟩, rfl⟩, w2⟩
end Ct
namespace Ct
open PySem PySem.Spec PyProof.Rows L2
local macro_rules | `(tactic| walk_at "g") => `(tactic| first
  | with_reducible refine g_seq ?_
  | with_reducible refine g_set ?_
  | with_reducible refine g_asg ?_
  | with_reducible refine g_sub ?_
  | with_reducible refine g_name ?_
  | with_reducible refine g_ret ?_
  | with_reducible refine g_if ?_
  | ((with_reducible refine' g_var ?gh ?_); (case gh => rfl))
  | with_reducible refine g_c ?_
  | with_reducible refine g_op ?_
  | with_reducible refine g_test ?_
  | with_reducible refine g_bl ?_
  | with_reducible refine g_int ?_
  | with_reducible refine g_cons ?_
  | with_reducible refine g_nil ?_
  | with_reducible refine g_call ?_
  | with_reducible refine g_cb ?_
  | with_reducible refine g_and ?_
  | with_reducible refine g_or ?_
  | with_reducible refine g_not ?_
  | with_reducible refine g_B ?_
  | with_reducible refine g_un ?_
  | with_reducible refine g_neg ?_
  | with_reducible refine g_chain ?_
  | with_reducible refine g_drop ?_
  | with_reducible refine g_par ?_
  | with_reducible refine g_par3 ?_
  | with_reducible refine g_tup ?_
  | with_reducible refine g_lst ?_
  | with_reducible refine g_sl ?_
  | with_reducible refine g_nop ?_
  | with_reducible refine g_part ?_
  | with_reducible refine g_bm0 ?_
  | with_reducible refine g_bm ?_
  | with_reducible refine g_m0 ?_
  | with_reducible refine g_m1 ?_
  | with_reducible refine g_lrev ?_
  | with_reducible refine g_ifE ?_
  | with_reducible refine g_andV ?_
  | with_reducible refine g_orV ?_
  | with_reducible refine g_notV ?_
  | with_reducible refine g_addI ?_
  | with_reducible refine g_subI ?_
  | with_reducible refine g_eqI ?_
  | with_reducible refine g_neI ?_
  | with_reducible refine g_eqS ?_
  | with_reducible refine g_neS ?_
  | with_reducible refine g_eqB ?_
  | with_reducible refine g_neB ?_
  | with_reducible refine g_ltI ?_
  | with_reducible refine g_gtI ?_
  | with_reducible refine g_leI ?_
  | with_reducible refine g_geI ?_
  | with_reducible refine g_inS ?_
  | with_reducible refine g_niS ?_
  | with_reducible refine g_max ?_
  | with_reducible refine g_min ?_
  | with_reducible refine g_abs ?_
  | with_reducible refine g_isN ?_
  | with_reducible refine g_notN ?_
  | with_reducible refine g_isB ?_
  | with_reducible refine g_notB ?_
  | with_reducible refine g_intB ?_
  | with_reducible refine g_intI ?_
  | with_reducible refine g_lc ?_
  | with_reducible refine g_for ?_
  | with_reducible refine g_seqI ?_
  | with_reducible refine g_inStr ?_
  | with_reducible refine g_rng ?_
  | with_reducible refine g_yes ?_
  | with_reducible refine g_pairs ?_
  | with_reducible refine g_pairs0 ?_
  | with_reducible refine iteT ?_
  | with_reducible refine iteF ?_
  | with_reducible refine g_nF ?_
  | with_reducible refine g_nT ?_
  | with_reducible refine g_gcons ?_
  | with_reducible refine g_gnil ?_
  | with_reducible refine g_next ?_
  | ((with_reducible refine' g_mulI ?gh ?_); (case gh => first | exact .inl (.inl ⟨by omega, by omega⟩) | exact .inl (.inr ⟨by omega, by omega⟩)))
  | ((with_reducible refine' g_modI ?gh ?_); (case gh => omega)))
local macro_rules | `(tactic| walk_at "gg") => `(tactic| (repeat walk_at "g"))
local macro_rules | `(tactic| walk_at "g") => `(tactic| first
  | ((with_reducible refine' dg_seed ?gh ?_); (case gh => assumption))
  | ((with_reducible refine' dg_number ?gh ?_); (case gh => assumption))
  | ((with_reducible refine' dg_left ?gh ?_); (case gh => assumption))
  | ((with_reducible refine' dp_number ?gh ?_); (case gh => assumption))
  | ((with_reducible refine' dp_seed ?gh ?_); (case gh => assumption)))
def t_law_deal (K : PySem.W.Frag) (ad : String → Addr) : TS := (tSeq (tAsg (tLc (iSeq K (tSl (rSlAny K) (tVar 0) (tPart (tVar 1)) (tPart (tC (.int 63))))) (gName 2) tYes (tCB rMax2' (tCons (tVar 2) (tCons (tOp (rI0 fun i j => .int (i - j)) (tC (.int 0)) (tVar 2)) tNil))) [2]) (gName 3)) (tSeq (tAsg (tOp (rAddA K) (tC (.int 7919)) (tVar 1)) (gName 4)) (tSeq (tFor (iSeq K (tVar 3)) (gName 2) (tAsg (tOp (rI (fun _ j => j ≠ 0) fun i j => .int (i.fmod j)) (tOp (rAddA K) (tOp (rMulA K) (tVar 4) (tC (.int 48271))) (tOp (rI (fun _ j => j ≠ 0) fun i j => .int (i.fmod j)) (tVar 2) (tC (.int 2147483629)))) (tC (.int 2147483647))) (gName 4))) (tRet (tDisp [((tC (.str "seed")), (tVar 4)), ((tC (.str "number")), (tC (.int 0))), ((tC (.str "left")), (tListRev K (tLc (iSeq K (tVar 3)) (gName 2) (tTest (tOp rGe (tVar 2) (tOp (rI CPow fun i j => .int (i ^ j.toNat)) (tC (.int 10)) (tC (.int 18))))) (tVar 2) [2])))])))))
def sp_law_deal (K : PySem.W.Frag) (ad : String → Addr) : Sp := fun vs H Q _ => ∃ (a : Addr) (ns : List Int) (b : Int) (Γ : List Kn), vs = [.ref a, .int b] ∧ ns.length ≤ 1000 ∧ 0 ≤ b ∧ b ≤ 1000 ∧ WR noM ((fun G => SqL K G a (ns.map V.int)) :: Γ) [] H ∧
  ∀ d l H', WR (dealM d l) ((fun G => SqL K G a (ns.map V.int)) :: Γ) [] H' → Q (.ref d) H'
theorem ln_law_deal {K : PySem.W.Frag} {ad : String → Addr} : ∀ vs H Q E, sp_law_deal K ad vs H Q E → vs.length = 2 := by
  rintro vs H Q E ⟨a, ns, b, Γ, rfl, _⟩
  rfl
/-- a list of whole numbers, none below 0 -/
def Rnn : Nat → List V → Hp → Prop := fun i acc _ => ∃ ks : List Int, acc = ks.map V.int ∧ ks.length ≤ i ∧ ∀ k ∈ ks, 0 ≤ k
theorem rd_law_deal {K : PySem.W.Frag} {ad : String → Addr} (N : List Str) (hN : N.length = 5) : ∀ vs H Q E, sp_law_deal K ad vs H Q E → t_law_deal K ad { nx := fun _ H' => Q .non H', rt := Q } (L2.start N vs) H := by
  rintro vs H Q E ⟨a, ns, b, Γ, rfl, hl, hb0, hb1, w, q⟩
  rw [st_of hN]
  show t_law_deal K ad _ [some (.ref a), some (.int b), none, none, none] H
  unfold t_law_deal
  have ha := w.get (.head _)
  walk_at "gg"
  refine g_slL ha fun p np => ?_
  obtain ⟨ms, em, hm, hml⟩ := cut_map V.int ns (some b) (some 63)
  rw [em]
  have w1 := w.know (.lst (ms.map V.int)) np
  refine g_inL (sqL (w1.get (.head _))) ?_
  refine c_lc (walk_list (xs := ms.map V.int)) w1 Rnn (fun _ => ⟨[], rfl, by simp, by simp⟩) ?_ ?_ ?_ ?_
  · rintro i acc G hi ⟨ks, rfl, h, _⟩
    rw [List.length_map] at hi ⊢
    exact szl (by omega)
  · intro i acc D H hi w
    exact sqL (w.get (.tail _ (.head _)))
  · rintro i x D acc H H' N N0 hi w ⟨rfl, hx⟩ k k0
    obtain ⟨z, hz, rfl⟩ := at_map hx
    walk_at "g"
    refine ⟨rfl, ?_⟩
    walk_at "gg"
    refine k _ _ (w.more _ fun G hG => ?_)
    obtain ⟨ks, rfl, h1, h2⟩ := hG _ (.head _)
    refine ⟨ks ++ [if 0 - z > z then 0 - z else z], by simp, by simp; omega, ?_⟩
    intro y hy
    rcases List.mem_append.mp hy with hy | hy
    · exact h2 y hy
    · simp only [List.mem_singleton] at hy
      subst hy
      split <;> omega
  · intro p2 acc H w
    obtain ⟨ks, rfl, h1, h2⟩ := w.get (.head _)
    rw [List.length_map] at h1
    have w := w.fix
    walk_at "gg"
    refine g_inL (sqL (w.get (.head _))) ?_
    refine c_for (walk_list (xs := ks.map V.int)) (fun i σ H => ∃ y s, σ = [some (.ref a), some (.int b), y, some (.ref p2), some (.int s)] ∧ 0 ≤ s ∧ s < 2147483647 ∧ WR noM ((fun G => G p2 = some (.lst (ks.map V.int))) :: (fun G => SqL K G a (ns.map V.int)) :: Γ) [] H)
      (fun σ H => ∃ y s, σ = [some (.ref a), some (.int b), y, some (.ref p2), some (.int s)] ∧ 0 ≤ s ∧ s < 2147483647 ∧ WR noM ((fun G => G p2 = some (.lst (ks.map V.int))) :: (fun G => SqL K G a (ns.map V.int)) :: Γ) [] H)
      ⟨_, _, rfl, by omega, by omega, w.sub fun k hk => ?_⟩ ?_ ?_ (fun _ _ h => h) ?_
    · rcases hk with _ | ⟨_, _ | ⟨_, hk⟩⟩
      · exact .head _
      · exact .tail _ (.tail _ (.tail _ (.head _)))
      · exact .tail _ (.tail _ (.tail _ (.tail _ hk)))
    · rintro i σ H _ ⟨_, _, _, _, _, w⟩
      exact sqL (w.get (.head _))
    · rintro X hX i x σ H H' hi ⟨y, s, rfl, s0, s1, w⟩ ⟨rfl, hx⟩
      obtain ⟨z, hz, rfl⟩ := at_map hx
      have zm : 0 ≤ z % 2147483629 := Int.emod_nonneg _ (by decide)
      walk_at "gg"
      exact ⟨_, _, rfl, Int.emod_nonneg _ (by decide), Int.emod_lt_of_pos _ (by decide), w⟩
    · rintro σ H ⟨y, s, rfl, s0, s1, w⟩
      walk_at "gg"
      refine g_disp fun d nd => ?_
      have w := w.new (.dK []) nd
      walk_at "gg"
      refine g_inL (sqL (w.get (.head _))) ?_
      refine c_lc (walk_list (xs := ks.map V.int)) w Rnn (fun _ => ⟨[], rfl, by simp, by simp⟩) ?_ ?_ ?_ ?_
      · rintro i acc G hi ⟨ks, rfl, h, _⟩
        rw [List.length_map] at hi ⊢
        exact szl (by omega)
      · intro i acc D H hi w
        exact sqL (w.get (.tail _ (.head _)))
      · rintro i x D acc H H' N N0 hi w ⟨rfl, hx⟩ k k0
        obtain ⟨z, hz, rfl⟩ := at_map hx
        walk_at "g"
        refine ⟨rfl, ?_⟩
        walk_at "gg"
        refine g_powI ⟨by decide, by decide, by decide⟩ ?_
        walk_at "gg"
        have hzk : 0 ≤ z := h2 z (List.mem_of_getElem? hz)
        refine g_iteD (fun _ => ?_) (fun _ => ?_)
        · walk_at "gg"
          refine k _ _ (w.more _ fun G hG => ?_)
          obtain ⟨us, rfl, h3, h4⟩ := hG _ (.head _)
          refine ⟨us ++ [z], by simp, by simp; omega, ?_⟩
          intro y hy
          rcases List.mem_append.mp hy with hy | hy
          · exact h4 y hy
          · simp only [List.mem_singleton] at hy
            subst hy
            exact hzk
        · refine k0 _ (w.more _ fun G hG => ?_)
          obtain ⟨us, rfl, h3, h4⟩ := hG _ (.head _)
          exact ⟨us, rfl, by omega, h4⟩
      · intro p4 acc H w
        obtain ⟨us, rfl, h3, h4⟩ := w.get (.head _)
        rw [List.length_map] at h3
        refine ⟨p4, us.map V.int, rfl, sqL (w.cell (.head _)), fun l nl => ?_⟩
        have w := w.drop1.new (.lst (us.map V.int).reverse) nl
        walk_at "gg"
        refine ⟨w.cell (.tail _ (.head _)), [(.inr "seed", .int s), (.inr "number", .int 0), (.inr "left", .ref l)], rfl, (by decide : 3 ≤ 15), ?_⟩
        have w := w.put1 (.dK (dealK s 0 l))
        have w := (w.perm (List.Perm.swap _ _ _)).sub (Γ' := (fun G => SqL K G a (ns.map V.int)) :: Γ) fun k hk => by
          rcases hk with _ | ⟨_, hk⟩
          · exact .tail _ (.tail _ (.head _))
          · exact .tail _ (.tail _ (.tail _ hk))
        obtain ⟨L0, m0, w⟩ := w
        obtain rfl : L0 = [] := m0
        refine q d l _ ⟨_, ⟨s, 0, us.reverse, ⟨s0, s1, by decide, fun x hx => h4 x (by simpa using hx), by rw [List.length_reverse]; omega⟩, rfl⟩, ?_⟩
        rw [List.map_reverse]
        exact w
end Ct
namespace Ct
open PySem PySem.Spec PyProof.Rows L2
local macro_rules | `(tactic| walk_at "g") => `(tactic| first
  | with_reducible refine g_seq ?_
  | with_reducible refine g_set ?_
  | with_reducible refine g_asg ?_
  | with_reducible refine g_sub ?_
  | with_reducible refine g_name ?_
  | with_reducible refine g_ret ?_
  | with_reducible refine g_if ?_
  | ((with_reducible refine' g_var ?gh ?_); (case gh => rfl))
  | with_reducible refine g_c ?_
  | with_reducible refine g_op ?_
  | with_reducible refine g_test ?_
  | with_reducible refine g_bl ?_
  | with_reducible refine g_int ?_
  | with_reducible refine g_cons ?_
  | with_reducible refine g_nil ?_
  | with_reducible refine g_call ?_
  | with_reducible refine g_cb ?_
  | with_reducible refine g_and ?_
  | with_reducible refine g_or ?_
  | with_reducible refine g_not ?_
  | with_reducible refine g_B ?_
  | with_reducible refine g_un ?_
  | with_reducible refine g_neg ?_
  | with_reducible refine g_chain ?_
  | with_reducible refine g_drop ?_
  | with_reducible refine g_par ?_
  | with_reducible refine g_par3 ?_
  | with_reducible refine g_tup ?_
  | with_reducible refine g_lst ?_
  | with_reducible refine g_sl ?_
  | with_reducible refine g_nop ?_
  | with_reducible refine g_part ?_
  | with_reducible refine g_bm0 ?_
  | with_reducible refine g_bm ?_
  | with_reducible refine g_m0 ?_
  | with_reducible refine g_m1 ?_
  | with_reducible refine g_lrev ?_
  | with_reducible refine g_ifE ?_
  | with_reducible refine g_andV ?_
  | with_reducible refine g_orV ?_
  | with_reducible refine g_notV ?_
  | with_reducible refine g_addI ?_
  | with_reducible refine g_subI ?_
  | with_reducible refine g_eqI ?_
  | with_reducible refine g_neI ?_
  | with_reducible refine g_eqS ?_
  | with_reducible refine g_neS ?_
  | with_reducible refine g_eqB ?_
  | with_reducible refine g_neB ?_
  | with_reducible refine g_ltI ?_
  | with_reducible refine g_gtI ?_
  | with_reducible refine g_leI ?_
  | with_reducible refine g_geI ?_
  | with_reducible refine g_inS ?_
  | with_reducible refine g_niS ?_
  | with_reducible refine g_max ?_
  | with_reducible refine g_min ?_
  | with_reducible refine g_abs ?_
  | with_reducible refine g_isN ?_
  | with_reducible refine g_notN ?_
  | with_reducible refine g_isB ?_
  | with_reducible refine g_notB ?_
  | with_reducible refine g_intB ?_
  | with_reducible refine g_intI ?_
  | with_reducible refine g_lc ?_
  | with_reducible refine g_for ?_
  | with_reducible refine g_seqI ?_
  | with_reducible refine g_inStr ?_
  | with_reducible refine g_rng ?_
  | with_reducible refine g_yes ?_
  | with_reducible refine g_pairs ?_
  | with_reducible refine g_pairs0 ?_
  | with_reducible refine iteT ?_
  | with_reducible refine iteF ?_
  | with_reducible refine g_nF ?_
  | with_reducible refine g_nT ?_
  | with_reducible refine g_gcons ?_
  | with_reducible refine g_gnil ?_
  | with_reducible refine g_next ?_
  | ((with_reducible refine' g_mulI ?gh ?_); (case gh => first | exact .inl (.inl ⟨by omega, by omega⟩) | exact .inl (.inr ⟨by omega, by omega⟩)))
  | ((with_reducible refine' g_modI ?gh ?_); (case gh => omega)))
local macro_rules | `(tactic| walk_at "gg") => `(tactic| (repeat walk_at "g"))

/-- the words that are no names -/
def keptW : List Str := ["unknown", "fields", "draw", "from", "set", "see", "if", "else", "end", "times", "not", "ask", "at", "given"]
def bookW : List Str := ["unknown", "fields", "draw", "from", "set", "see", "if", "else", "end", "times"]
def askW : List Str := ["not", "ask", "at", "given"]
def lettersW : Str := "abcdefghijklmnopqrstuvwxyz"
/-- a name -/
def nameB (z : Str) : Bool := decide (1 ≤ z.length) && decide (z.length ≤ 6) && !decide (z ∈ keptW) && z.cps.toList.all fun c => decide (c ∈ lettersW.cps.toList)
def t_law_kept (K : PySem.W.Frag) (ad : String → Addr) : TS := (tRet (tM1 rSplit (tC (.str "unknown fields draw from set see if else end times not ask at given")) (tC (.str " "))))
def sp_law_kept (K : PySem.W.Frag) (ad : String → Addr) : Sp := fun vs H Q _ => ∃ (M : Cells → Prop) (Γ : List Kn) (L : Cells), vs = [] ∧ WR M Γ L H ∧ ∀ p H', WR M ((fun G => G p = some (.lst (keptW.map V.str))) :: Γ) L H' → Q (.ref p) H'
theorem ln_law_kept {K : PySem.W.Frag} {ad : String → Addr} : ∀ vs H Q E, sp_law_kept K ad vs H Q E → vs.length = 0 := by
  rintro vs H Q E ⟨M, Γ, L, rfl, _⟩
  rfl
theorem kept_split : Txt.split "unknown fields draw from set see if else end times not ask at given" " " = keptW := by decide +kernel
theorem rd_law_kept {K : PySem.W.Frag} {ad : String → Addr} (N : List Str) (hN : N.length = 0) : ∀ vs H Q E, sp_law_kept K ad vs H Q E → t_law_kept K ad { nx := fun _ H' => Q .non H', rt := Q } (L2.start N vs) H := by
  rintro vs H Q E ⟨M, Γ, L, rfl, w, q⟩
  rw [st_of hN]
  unfold t_law_kept
  walk_at "gg"
  refine ⟨⟨_, rfl⟩, ?_⟩
  walk_at "gg"
  refine g_split (by decide) (by decide) fun p np => ?_
  rw [kept_split]
  exact q p _ (w.know _ np)
theorem nameB_short {z : Str} (h : ¬ (1 ≤ (z.length : Int))) : nameB z = false := by
  unfold nameB
  rw [show decide (1 ≤ z.length) = false from decide_eq_false (by omega)] <;> rfl
theorem nameB_long {z : Str} (h : ¬ ((z.length : Int) ≤ 6)) : nameB z = false := by
  unfold nameB
  rw [show decide (z.length ≤ 6) = false from decide_eq_false (by omega), Bool.and_false] <;> rfl
theorem nameB_word {z : Str} (h : z ∈ keptW) : nameB z = false := by
  unfold nameB
  rw [show decide (z ∈ keptW) = true from decide_eq_true h, Bool.not_true, Bool.and_false] <;> rfl
theorem none_all {α : Type} (p : α → Bool) : ∀ l : List α, (l.filter fun c => !p c).isEmpty = l.all p
  | [] => rfl
  | x :: r => by
    have ih := none_all p r
    cases e : p x <;> simp [List.filter_cons, e, ih]
theorem eqv_none {α : Type} (f : α → PyData) : ∀ l : List α, PyData.eqv (.list (l.map f)) (.list []) = l.isEmpty
  | [] => rfl
  | _ :: _ => rfl
theorem nameB_rest {z : Str} (h1 : 1 ≤ z.length) (h2 : z.length ≤ 6) (h3 : z ∉ keptW) : nameB z = z.cps.toList.all fun c => decide (c ∈ lettersW.cps.toList) := by
  unfold nameB
  rw [decide_eq_true h1, decide_eq_true h2, decide_eq_false h3] <;> rfl
/-- of each sign so far, whether it is a small letter -/
def Rlet (z : Str) : Nat → List V → Hp → Prop := fun i acc _ => acc = (z.cps.toList.take i).map fun c => V.bl (decide (c ∈ lettersW.cps.toList))
theorem take_at {α : Type} {l : List α} {i : Nat} {x : α} (h : l[i]? = some x) : l.take (i + 1) = l.take i ++ [x] := by
  rw [List.take_add_one, h] <;> rfl
def t_is_name (K : PySem.W.Frag) (ad : String → Addr) : TS := (tSeq (tIfS (tOr (tNot (tTest (tChain rLe rLe (tC (.int 1)) (tCB (rLenA K) (tCons (tVar 0) tNil)) (tC (.int 6))))) (tOr (tTest (tOp (rInA K) (tVar 0) (tC (.ref (ad "BOOK_WORDS"))))) (tTest (tOp (rInA K) (tVar 0) (tC (.ref (ad "ASK_WORDS"))))))) (tRet (tC (.bl false))) tNext) (tRet (tCB (rAll K) (tCons (tLc (iSeq K (tVar 0)) (gName 1) tYes (tOp (rInA K) (tVar 1) (tC (.str "abcdefghijklmnopqrstuvwxyz"))) [1]) tNil))))
def sp_is_name (K : PySem.W.Frag) (ad : String → Addr) : Sp := fun vs H Q _ => ∃ (z : Str) (M : Cells → Prop) (Γ : List Kn) (L : Cells), vs = [.str z] ∧ z.length ≤ 100000 ∧ WR M Γ L H ∧ ∀ H', WR M Γ L H' → Q (.bl (nameB z)) H'
theorem ln_is_name {K : PySem.W.Frag} {ad : String → Addr} : ∀ vs H Q E, sp_is_name K ad vs H Q E → vs.length = 1 := by
  rintro vs H Q E ⟨z, M, Γ, L, rfl, _⟩
  rfl
theorem rd_is_name {K : PySem.W.Frag} {ad : String → Addr} (hB : KT K (ad "BOOK_WORDS") [.str "unknown", .str "fields", .str "draw", .str "from", .str "set", .str "see", .str "if", .str "else", .str "end", .str "times"]) (hA : KT K (ad "ASK_WORDS") [.str "not", .str "ask", .str "at", .str "given"])
    (N : List Str) (hN : N.length = 2) : ∀ vs H Q E, sp_is_name K ad vs H Q E → t_is_name K ad { nx := fun _ H' => Q .non H', rt := Q } (L2.start N vs) H := by
  rintro vs H Q E ⟨z, M, Γ, L, rfl, hz, w, q⟩
  rw [st_of hN]
  show t_is_name K ad _ [some (.str z), none] H
  unfold t_is_name
  walk_at "gg"
  refine g_lenS (sz (by omega)) ?_
  walk_at "gg"
  refine g_iteD (fun e1 => ?_) (fun e1 => ?_)
  · walk_at "gg"
    refine g_iteN (fun e2 => ?_) (fun e2 => ?_)
    · walk_at "gg"
      rw [← nameB_long e2]
      exact q _ w
    · walk_at "gg"
      refine g_inQ (.inr (hB _)) rfl rfl ?_
      rw [show inV (.str z) [.str "unknown", .str "fields", .str "draw", .str "from", .str "set", .str "see", .str "if", .str "else", .str "end", .str "times"] = decide (z ∈ (["unknown", "fields", "draw", "from", "set", "see", "if", "else", "end", "times"] : List Str)) from inV_str z ["unknown", "fields", "draw", "from", "set", "see", "if", "else", "end", "times"]]
      walk_at "gg"
      refine g_iteD (fun e3 => ?_) (fun e3 => ?_)
      · walk_at "gg"
        rw [← nameB_word (z := z) (show z ∈ bookW ++ askW from List.mem_append_left askW e3)]
        exact q _ w
      · walk_at "gg"
        refine g_inQ (.inr (hA _)) rfl rfl ?_
        rw [show inV (.str z) [.str "not", .str "ask", .str "at", .str "given"] = decide (z ∈ (["not", "ask", "at", "given"] : List Str)) from inV_str z ["not", "ask", "at", "given"]]
        walk_at "gg"
        refine g_iteD (fun e4 => ?_) (fun e4 => ?_)
        · walk_at "gg"
          rw [← nameB_word (z := z) (show z ∈ bookW ++ askW from List.mem_append_right bookW e4)]
          exact q _ w
        · walk_at "gg"
          have nk : z ∉ keptW := fun h => (List.mem_append.mp (show z ∈ bookW ++ askW from h)).elim e3 e4
          refine c_lc (walk_str (z := z)) w (Rlet z) (fun _ => rfl) ?_ (fun _ _ _ _ _ _ => trivial) ?_ ?_
          · rintro i acc G hi rfl
            rw [List.length_map, List.length_take]
            have := len_list z
            exact szl (by omega)
          · rintro i x D acc H H' N N0 hi w ⟨rfl, c, hc, rfl⟩ k k0
            walk_at "g"
            refine ⟨rfl, ?_⟩
            walk_at "gg"
            refine k _ _ (w.more _ fun G hG => ?_)
            have e : acc = _ := hG _ (.head _)
            show acc ++ _ = _
            rw [take_at (x := c) (by rw [Array.getElem?_toList]; exact hc), List.map_append, e]
            rfl
          · intro D acc H w
            have e : acc = _ := w.get (.head _)
            have cD := w.cell (.head _)
            walk_at "gg"
            rw [show z.cps.size = z.cps.toList.length from (Array.length_toList).symm, List.take_length] at e
            subst e
            refine g_all (bs := z.cps.toList.map fun c => decide (c ∈ lettersW.cps.toList)) (sqL (by rw [cD, List.map_map]; rfl)) ?_
            rw [List.all_map]
            rw [show (z.cps.toList.all (id ∘ fun c => decide (c ∈ lettersW.cps.toList))) = nameB z from (nameB_rest (by omega) (by omega) nk).symm]
            exact q _ (w.drop1.tail)
  · walk_at "gg"
    rw [← nameB_short e1]
    exact q _ w
def t_law_signs (K : PySem.W.Frag) (ad : String → Addr) : TS := (tRet (tC (.str " !\"#$&'()*+,-./0123456789:;<=>?@ABCDEFGHIJKLMNOPQRSTUVWXYZ[\\]^_`abcdefghijklmnopqrstuvwxyz{|}~\n")))
def signsW : Str := " !\"#$&'()*+,-./0123456789:;<=>?@ABCDEFGHIJKLMNOPQRSTUVWXYZ[\\]^_`abcdefghijklmnopqrstuvwxyz{|}~\n"
def sp_law_signs (K : PySem.W.Frag) (ad : String → Addr) : Sp := fun vs H Q _ => vs = [] ∧ Q (.str signsW) H
theorem ln_law_signs {K : PySem.W.Frag} {ad : String → Addr} : ∀ vs H Q E, sp_law_signs K ad vs H Q E → vs.length = 0 := by
  rintro vs H Q E ⟨rfl, _⟩
  rfl
theorem rd_law_signs {K : PySem.W.Frag} {ad : String → Addr} (N : List Str) (hN : N.length = 0) : ∀ vs H Q E, sp_law_signs K ad vs H Q E → t_law_signs K ad { nx := fun _ H' => Q .non H', rt := Q } (L2.start N vs) H := by
  rintro vs H Q E ⟨rfl, q⟩
  rw [st_of hN]
  exact q
def t_law_is_name (K : PySem.W.Frag) (ad : String → Addr) : TS := (tSeq (tIfS (tOr (tTest (tOp (rInA K) (tVar 0) (tCall (sp_law_kept K ad) [] E0 tNil))) (tNot (tTest (tChain rLtA rLtA (tC (.int 0)) (tCB (rLenA K) (tCons (tVar 0) tNil)) (tC (.int 7)))))) (tRet (tC (.bl false))) tNext) (tRet (tOp (rEqA K) (tLc (iSeq K (tVar 0)) (gName 1) (tTest (tOp (rNiA K) (tVar 1) (tC (.str "abcdefghijklmnopqrstuvwxyz")))) (tVar 1) [1]) (tLst tNil))))
def sp_law_is_name (K : PySem.W.Frag) (ad : String → Addr) : Sp := fun vs H Q _ => ∃ (z : Str) (M : Cells → Prop) (Γ : List Kn) (L : Cells), vs = [.str z] ∧ TX 1000 z ∧ WR M Γ L H ∧ ∀ H', WR M Γ L H' → Q (.bl (nameB z)) H'
theorem ln_law_is_name {K : PySem.W.Frag} {ad : String → Addr} : ∀ vs H Q E, sp_law_is_name K ad vs H Q E → vs.length = 1 := by
  rintro vs H Q E ⟨z, M, Γ, L, rfl, _⟩
  rfl
/-- the signs so far that are no small letters -/
def Rnol (z : Str) : Nat → List V → Hp → Prop := fun i acc _ => acc = ((z.cps.toList.take i).filter fun c => !decide (c ∈ lettersW.cps.toList)).map fun c => V.str ⟨#[c]⟩
theorem rd_law_is_name {K : PySem.W.Frag} {ad : String → Addr} (N : List Str) (hN : N.length = 2) : ∀ vs H Q E, sp_law_is_name K ad vs H Q E → t_law_is_name K ad { nx := fun _ H' => Q .non H', rt := Q } (L2.start N vs) H := by
  rintro vs H Q E ⟨z, M, Γ, L, rfl, hz, w, q⟩
  rw [st_of hN]
  show t_law_is_name K ad _ [some (.str z), none] H
  unfold t_law_is_name
  walk_at "gg"
  refine ⟨M, Γ, L, rfl, w, fun p H w => ?_⟩
  refine g_inQ (.inl (sqL (w.get (.head _)))) rfl (flat_strs _) ?_
  rw [inV_str]
  walk_at "gg"
  refine g_iteD (fun e1 => ?_) (fun e1 => ?_)
  · walk_at "gg"
    rw [← nameB_word e1]
    exact q _ w.tail
  · walk_at "gg"
    have hz1 := hz.1
    refine g_lenS (sz (by omega)) ?_
    walk_at "gg"
    refine g_iteD (fun e2 => ?_) (fun e2 => ?_)
    · walk_at "gg"
      refine g_iteN (fun e3 => ?_) (fun e3 => ?_)
      · walk_at "gg"
        rw [← nameB_long (z := z) (by omega)]
        exact q _ w.tail
      · walk_at "gg"
        refine c_lc (walk_str (z := z)) w.tail (Rnol z) (fun _ => rfl) ?_ (fun _ _ _ _ _ _ => trivial) ?_ ?_
        · rintro i acc G hi rfl
          rw [List.length_map]
          have h1 := List.length_filter_le (fun c => !decide (c ∈ lettersW.cps.toList)) (z.cps.toList.take i)
          rw [List.length_take] at h1
          have := len_list z
          exact szl (by omega)
        · rintro i x D acc H H' N N0 hi w ⟨rfl, c, hc, rfl⟩ k k0
          have ec := take_at (l := z.cps.toList) (i := i) (x := c) (by rw [Array.getElem?_toList]; exact hc)
          walk_at "g"
          refine ⟨rfl, ?_⟩
          walk_at "gg"
          refine g_iteN (fun e4 => ?_) (fun e4 => ?_)
          · walk_at "gg"
            refine k _ _ (w.more _ fun G hG => ?_)
            have e : acc = _ := hG _ (.head _)
            show acc ++ _ = _
            rw [ec, List.filter_append, List.map_append, e, List.filter_cons, if_pos (by rw [Bool.not_eq_true']; exact decide_eq_false e4)]
            rfl
          · refine k0 _ (w.more _ fun G hG => ?_)
            have e : acc = _ := hG _ (.head _)
            show acc = _
            rw [ec, List.filter_append, List.map_append, e, List.filter_cons, if_neg (by rw [Bool.not_eq_true', Bool.not_eq_false]; exact decide_eq_true e4)]
            simp
        · intro D acc H w
          have e : acc = _ := w.get (.head _)
          have cD := w.cell (.head _)
          rw [show z.cps.size = z.cps.toList.length from (Array.length_toList).symm, List.take_length] at e
          walk_at "gg"
          refine ⟨Nat.zero_le _, fun p2 np => ?_⟩
          have w2 := w.know (.lst []) np
          have c2 := w2.get (.head _)
          have cD2 := w2.cell (.head _)
          subst e
          have hs : ∀ u ∈ ((z.cps.toList.filter fun c => !decide (c ∈ lettersW.cps.toList)).map fun c => (⟨#[c]⟩ : Str)), PyData.strOk u = true := by
            intro u hu
            obtain ⟨c, hc, rfl⟩ := List.mem_map.mp hu
            exact (hz.sign (List.mem_filter.mp hc).1).ok
          have d1 : Dp K (upd H p2 (.lst [])) (.ref D) (.list (((z.cps.toList.filter fun c => !decide (c ∈ lettersW.cps.toList)).map fun c => (⟨#[c]⟩ : Str)).map PyData.str)) :=
            .lst (sqL cD2) (by
              have := dp_strs (K := K) (H := upd H p2 (.lst [])) ((z.cps.toList.filter fun c => !decide (c ∈ lettersW.cps.toList)).map fun c => (⟨#[c]⟩ : Str))
              rw [List.map_map] at this
              exact this)
          refine g_eqD d1 (.lst (sqL c2) .nil) (shaped_strs hs) rfl ?_
          rw [List.map_map, eqv_none, none_all, ← nameB_rest (z := z) (by omega) (by omega) e1]
          exact q _ w2.drop1.tail.tail
    · walk_at "gg"
      rw [← nameB_short (z := z) (by omega)]
      exact q _ w.tail
end Ct
namespace Ct
open PySem PySem.Spec PyProof.Rows L2
local macro_rules | `(tactic| walk_at "g") => `(tactic| first
  | with_reducible refine g_seq ?_
  | with_reducible refine g_set ?_
  | with_reducible refine g_asg ?_
  | with_reducible refine g_sub ?_
  | with_reducible refine g_name ?_
  | with_reducible refine g_ret ?_
  | with_reducible refine g_if ?_
  | ((with_reducible refine' g_var ?gh ?_); (case gh => rfl))
  | with_reducible refine g_c ?_
  | with_reducible refine g_op ?_
  | with_reducible refine g_test ?_
  | with_reducible refine g_bl ?_
  | with_reducible refine g_int ?_
  | with_reducible refine g_cons ?_
  | with_reducible refine g_nil ?_
  | with_reducible refine g_call ?_
  | with_reducible refine g_cb ?_
  | with_reducible refine g_and ?_
  | with_reducible refine g_or ?_
  | with_reducible refine g_not ?_
  | with_reducible refine g_B ?_
  | with_reducible refine g_un ?_
  | with_reducible refine g_neg ?_
  | with_reducible refine g_chain ?_
  | with_reducible refine g_drop ?_
  | with_reducible refine g_par ?_
  | with_reducible refine g_par3 ?_
  | with_reducible refine g_tup ?_
  | with_reducible refine g_lst ?_
  | with_reducible refine g_sl ?_
  | with_reducible refine g_nop ?_
  | with_reducible refine g_part ?_
  | with_reducible refine g_bm0 ?_
  | with_reducible refine g_bm ?_
  | with_reducible refine g_m0 ?_
  | with_reducible refine g_m1 ?_
  | with_reducible refine g_lrev ?_
  | with_reducible refine g_ifE ?_
  | with_reducible refine g_andV ?_
  | with_reducible refine g_orV ?_
  | with_reducible refine g_notV ?_
  | with_reducible refine g_addI ?_
  | with_reducible refine g_subI ?_
  | with_reducible refine g_eqI ?_
  | with_reducible refine g_neI ?_
  | with_reducible refine g_eqS ?_
  | with_reducible refine g_neS ?_
  | with_reducible refine g_eqB ?_
  | with_reducible refine g_neB ?_
  | with_reducible refine g_ltI ?_
  | with_reducible refine g_gtI ?_
  | with_reducible refine g_leI ?_
  | with_reducible refine g_geI ?_
  | with_reducible refine g_inS ?_
  | with_reducible refine g_niS ?_
  | with_reducible refine g_max ?_
  | with_reducible refine g_min ?_
  | with_reducible refine g_abs ?_
  | with_reducible refine g_isN ?_
  | with_reducible refine g_notN ?_
  | with_reducible refine g_isB ?_
  | with_reducible refine g_notB ?_
  | with_reducible refine g_intB ?_
  | with_reducible refine g_intI ?_
  | with_reducible refine g_lc ?_
  | with_reducible refine g_for ?_
  | with_reducible refine g_seqI ?_
  | with_reducible refine g_inStr ?_
  | with_reducible refine g_rng ?_
  | with_reducible refine g_yes ?_
  | with_reducible refine g_pairs ?_
  | with_reducible refine g_pairs0 ?_
  | with_reducible refine iteT ?_
  | with_reducible refine iteF ?_
  | with_reducible refine g_nF ?_
  | with_reducible refine g_nT ?_
  | with_reducible refine g_gcons ?_
  | with_reducible refine g_gnil ?_
  | with_reducible refine g_next ?_
  | ((with_reducible refine' g_mulI ?gh ?_); (case gh => first | exact .inl (.inl ⟨by omega, by omega⟩) | exact .inl (.inr ⟨by omega, by omega⟩)))
  | ((with_reducible refine' g_modI ?gh ?_); (case gh => omega)))
local macro_rules | `(tactic| walk_at "gg") => `(tactic| (repeat walk_at "g"))

/-- words so far, each of n signs at most -/
def Rwords (n : Nat) : Nat → List V → Hp → Prop := fun i acc _ => ∃ ys : List Str, acc = ys.map V.str ∧ ys.length = i ∧ ∀ y ∈ ys, TX n y
theorem Rwords.one {n i : Nat} {acc : List V} {z : Str} {G : Hp} (h : Rwords n i acc G) (hz : TX n z) : Rwords n (i + 1) (acc ++ [.str z]) G := by
  obtain ⟨ys, rfl, h1, h2⟩ := h
  refine ⟨ys ++ [z], by simp, by simp [h1], fun y hy => ?_⟩
  rcases List.mem_append.mp hy with hy | hy
  · exact h2 y hy
  · simp only [List.mem_singleton] at hy
    subst hy
    exact hz
theorem kept_tx : ∀ w ∈ keptW, TX 7 w := by
  intro w hw
  have h : keptW.all (fun w => decide (w.length ≤ 7) && w.cps.toList.all fun c => decide (c < 128)) = true := by decide +kernel
  have := List.all_eq_true.mp h w hw
  simp only [Bool.and_eq_true, decide_eq_true_eq, List.all_eq_true] at this
  exact this
theorem letters_tx : TX 26 lettersW := by
  have h : (decide (lettersW.length ≤ 26) && lettersW.cps.toList.all fun c => decide (c < 128)) = true := by decide +kernel
  simp only [Bool.and_eq_true, decide_eq_true_eq, List.all_eq_true] at h
  exact h
theorem letters_len : lettersW.cps.toList.length = 26 := by decide +kernel
theorem signs_tx : TX 95 signsW := by
  have h : (decide (signsW.length ≤ 95) && signsW.cps.toList.all fun c => decide (c < 128)) = true := by decide +kernel
  simp only [Bool.and_eq_true, decide_eq_true_eq, List.all_eq_true] at h
  exact h
def t_law_name (K : PySem.W.Frag) (ad : String → Addr) : TS := (tSeq (tAsg (tTup (tCons (tC (.str "abcdefghijklmnopqrstuvwxyz")) (tCons (tCall (sp_law_kept K ad) [] E0 tNil) tNil))) (gTup K 2 (gCons (gName 1) (gCons (gName 2) gNil)))) (tSeq (tAsg (tM1 (rJoin K) (tC (.str "")) (tLc (iRng1 (tCons (tOp (rAddA K) (tC (.int 1)) (tCall (sp_law_draw K ad) [] E0 (tCons (tVar 0) (tCons (tC (.int 6)) tNil)))) tNil)) (gName 6) tYes (tOp (rIxA K) (tVar 1) (tCall (sp_law_draw K ad) [] E0 (tCons (tVar 0) (tCons (tC (.int 26)) tNil)))) [6])) (gName 3)) (C8.tCut (tIfS (tTest (tOp (rEqA K) (tCall (sp_law_draw K ad) [] E0 (tCons (tVar 0) (tCons (tC (.int 3)) tNil))) (tC (.int 0)))) (tSeq (tAsg (tOp (rIxA K) (tVar 2) (tCall (sp_law_draw K ad) [] E0 (tCons (tVar 0) (tCons (tC (.int 14)) tNil)))) (gName 4)) (tSeq (tAsg (tCall (sp_law_draw K ad) [] E0 (tCons (tVar 0) (tCons (tOp (rAddA K) (tCB (rLenA K) (tCons (tVar 4) tNil)) (tC (.int 1))) tNil))) (gName 5)) (tAsg (tOp (rAddA K) (tOp (rAddA K) (tSl (rSlAny K) (tVar 4) tNoPart (tPart (tVar 5))) (tOp (rMulA K) (tOp (rIxA K) (tVar 1) (tCall (sp_law_draw K ad) [] E0 (tCons (tVar 0) (tCons (tC (.int 26)) tNil)))) (tCall (sp_law_draw K ad) [] E0 (tCons (tVar 0) (tCons (tC (.int 2)) tNil))))) (tSl (rSlAny K) (tVar 4) (tPart (tOp (rAddA K) (tVar 5) (tCall (sp_law_draw K ad) [] E0 (tCons (tVar 0) (tCons (tC (.int 2)) tNil))))) tNoPart)) (gName 3)))) tNext) (tSeq (tAsg (tSl (rSlAny K) (tVar 3) tNoPart (tPart (tC (.int 6)))) (gName 3)) (C8.tCut (tIfS (tOr (tTest (tOp (rEqA K) (tVar 3) (tC (.str "")))) (tTest (tOp (rInA K) (tVar 3) (tVar 2)))) (tAsg (tOp (rAddA K) (tSl (rSlAny K) (tVar 3) tNoPart (tPart (tC (.int 5)))) (tC (.str "q"))) (gName 3)) tNext) (tRet (tVar 3)))))))
def sp_law_name (K : PySem.W.Frag) (ad : String → Addr) : Sp := fun vs H Q _ => ∃ (d l : Addr) (Γ : List Kn) (L : Cells), vs = [.ref d] ∧ WR (dealM d l) Γ L H ∧ ∀ z H', TX 6 z → WR (dealM d l) Γ L H' → Q (.str z) H'
theorem ln_law_name {K : PySem.W.Frag} {ad : String → Addr} : ∀ vs H Q E, sp_law_name K ad vs H Q E → vs.length = 1 := by
  rintro vs H Q E ⟨d, l, Γ, L, rfl, _⟩
  rfl
theorem rd_law_name {K : PySem.W.Frag} {ad : String → Addr} (N : List Str) (hN : N.length = 7) : ∀ vs H Q E, sp_law_name K ad vs H Q E → t_law_name K ad { nx := fun _ H' => Q .non H', rt := Q } (L2.start N vs) H := by
  rintro vs H Q E ⟨d, l, Γ, L, rfl, w, q⟩
  rw [st_of hN]
  show t_law_name K ad _ [some (.ref d), none, none, none, none, none, none] H
  unfold t_law_name
  walk_at "gg"
  refine ⟨_, _, _, rfl, w, fun p H w => ?_⟩
  walk_at "gg"
  refine ⟨sz (by decide : 2 ≤ 1000000), fun p2 np => ?_⟩
  have w := w.know (.tup [.str "abcdefghijklmnopqrstuvwxyz", .ref p]) np
  refine g_gtup (sqT (w.get (.head _))) rfl ?_
  walk_at "gg"
  refine ⟨⟨_, rfl⟩, ?_⟩
  walk_at "gg"
  refine ⟨d, l, 6, _, _, rfl, by decide, by decide, w, fun r H r0 r1 w => ?_⟩
  walk_at "gg"
  refine ⟨_, rfl, by omega, by omega, ?_⟩
  refine c_lc walk_range w (Rwords 1) (fun _ => ⟨[], rfl, rfl, by simp⟩) ?_ (fun _ _ _ _ _ _ => trivial) ?_ ?_
  · rintro i acc G hi ⟨ys, rfl, h, _⟩
    rw [List.length_map]
    exact szl (by omega)
  · rintro i x D acc H H' N N0 hi w ⟨rfl, rfl⟩ k k0
    walk_at "g"
    refine ⟨rfl, ?_⟩
    walk_at "gg"
    refine ⟨d, l, 26, _, _, rfl, by decide, by decide, w, fun r H r0 r1 w => ?_⟩
    obtain ⟨c, hc, hcm, _⟩ := at_in (l := lettersW.cps.toList) r0 (by rw [letters_len]; exact r1)
    refine g_ixS (z := lettersW) (by decide) hc ?_
    exact k _ _ (w.more _ fun G hG => (hG _ (.head _)).one (letters_tx.sign hcm))
  · intro D acc H w
    obtain ⟨ys, rfl, hl, hy⟩ := w.get (.head _)
    have cD := w.cell (.head _)
    walk_at "gg"
    have t0 : TX 0 ("" : Str) := tx_lit (by decide +kernel)
    refine g_join (.inl (sqL cD)) (join_fits (m := 6) t0 hy (by omega) (by decide)) ?_
    have tz : TX 6 (Txt.join "" ys) := by simpa using (TX.join (m := 6) t0 hy (by omega))
    have w := w.drop1.tail
    generalize Txt.join "" ys = z at tz
    walk_at "gg"
    refine g_cut (fun σ H => ∃ z y4 y5, σ = [some (.ref d), some (.str "abcdefghijklmnopqrstuvwxyz"), some (.ref p), some (.str z), y4, y5, none] ∧ TX 100 z ∧ WR (dealM d l) ((fun G => G p = some (.lst (keptW.map V.str))) :: Γ) L H) ?_ ?_
    · walk_at "gg"
      refine ⟨d, l, 3, _, _, rfl, by decide, by decide, w, fun r H r0 r1 w => ?_⟩
      walk_at "gg"
      refine g_iteD (fun e1 => ?_) (fun e1 => ?_)
      · walk_at "gg"
        refine ⟨d, l, 14, _, _, rfl, by decide, by decide, w, fun r H r0 r1 w => ?_⟩
        obtain ⟨v, hc, hcm, _⟩ := at_in (l := keptW.map V.str) r0 (by rw [List.length_map]; exact r1)
        obtain ⟨u, hu, rfl⟩ := List.mem_map.mp hcm
        have tu := kept_tx u hu
        refine g_ixL (sqL (w.get (.tail _ (.head _)))) hc ?_
        walk_at "gg"
        refine g_lenS (sz (by have := tu.1; omega)) ?_
        walk_at "gg"
        refine ⟨d, l, _, _, _, rfl, by omega, by have := tu.1; omega, w, fun r H r0 r1 w => ?_⟩
        walk_at "gg"
        refine g_slS (sz (by have := tu.1; omega)) ?_
        walk_at "gg"
        refine ⟨d, l, 26, _, _, rfl, by decide, by decide, w, fun r2 H r20 r21 w => ?_⟩
        obtain ⟨c, hc, hcm, _⟩ := at_in (l := lettersW.cps.toList) r20 (by rw [letters_len]; exact r21)
        refine g_ixS (z := lettersW) (by decide) hc ?_
        walk_at "gg"
        refine ⟨d, l, 2, _, _, rfl, by decide, by decide, w, fun r3 H r30 r31 w => ?_⟩
        have tc := letters_tx.sign hcm
        refine g_mulS (mul_ok tc.1 (by decide) r30 (by omega)) ?_
        have tm := tc.mul (m := 2) (k := r3) (by omega)
        have ta := (tu.cut none (some r)).app tm
        refine g_addS (sz (by have h1 := (tu.cut none (some r)).1; have h2 := tm.1; omega)) ?_
        walk_at "gg"
        refine ⟨d, l, 2, _, _, rfl, by decide, by decide, w, fun r4 H r40 r41 w => ?_⟩
        walk_at "gg"
        refine g_slS (sz (by have := tu.1; omega)) ?_
        have tb := ta.app (tu.cut (some (r + r4)) none)
        refine g_addS (sz (by have h1 := ta.1; have h2 := (tu.cut (some (r + r4)) none).1; omega)) ?_
        walk_at "gg"
        exact ⟨_, _, _, rfl, tb.mono (by decide), w.tail⟩
      · walk_at "gg"
        exact ⟨_, _, _, rfl, tz.mono (by decide), w.tail⟩
    · rintro σ H ⟨z, y4, y5, rfl, tz, w⟩
      have hz1 := tz.1
      walk_at "gg"
      refine g_slS (sz (by omega)) ?_
      have tz := tz.cutN 6
      generalize cutS z none (some 6) = z at tz
      have hz1 := tz.1
      walk_at "gg"
      refine g_cut (fun σ H => ∃ z, σ[3]? = some (some (.str z)) ∧ TX 6 z ∧ WR (dealM d l) Γ L H) ?_ ?_
      · walk_at "gg"
        refine g_iteD (fun e1 => ?_) (fun e1 => ?_)
        · walk_at "gg"
          refine g_slS (sz (by omega)) ?_
          have tz5 : TX 5 (cutS z none (some 5)) := tz.cutN 5
          have tq : TX 1 ("q" : Str) := tx_lit (by decide +kernel)
          walk_at "gg"
          refine g_addS (sz (by have h1 := tz5.1; have h2 := tq.1; omega)) ?_
          walk_at "gg"
          exact ⟨_, rfl, tz5.app tq, w.tail⟩
        · walk_at "gg"
          refine g_inQ (.inl (sqL (w.get (.head _)))) rfl (flat_strs _) ?_
          walk_at "gg"
          refine g_ite (fun e2 => ?_) (fun e2 => ?_)
          · walk_at "gg"
            refine g_slS (sz (by omega)) ?_
            have tz5 : TX 5 (cutS z none (some 5)) := tz.cutN 5
            have tq : TX 1 ("q" : Str) := tx_lit (by decide +kernel)
            walk_at "gg"
            refine g_addS (sz (by have h1 := tz5.1; have h2 := tq.1; omega)) ?_
            walk_at "gg"
            exact ⟨_, rfl, tz5.app tq, w.tail⟩
          · walk_at "gg"
            exact ⟨_, rfl, tz, w.tail⟩
      · rintro σ H ⟨z, h3, tz, w⟩
        walk_at "g"
        refine g_var h3 ?_
        exact q z H tz w
end Ct
/-! expressions -/
namespace Ct
open PySem PySem.Spec PyProof.Rows L2
inductive Ex where
  | num (n : Int)
  | name (z : Str)
  | neg (a : Ex)
  | op (s : Str) (a b : Ex)
  | cond (a b c : Ex)
namespace Ex
def kids : Ex → List Ex
  | num _ => []
  | name _ => []
  | neg a => [a]
  | op _ a b => [a, b]
  | cond a b c => [a, b, c]
def word : Ex → Str
  | num _ => "num"
  | name _ => "name"
  | neg _ => "not"
  | op _ _ _ => "op"
  | cond _ _ _ => "if"
/-- what stands behind the word and ahead of the parts -/
def mid : Ex → List V
  | num n => [.int n]
  | name z => [.str z]
  | neg _ => []
  | op s _ _ => [.str s]
  | cond _ _ _ => []
def size : Ex → Nat
  | num _ => 1
  | name _ => 1
  | neg a => a.size + 1
  | op _ a b => a.size + b.size + 1
  | cond a b c => a.size + b.size + c.size + 1
def hgt : Ex → Nat
  | num _ => 1
  | name _ => 1
  | neg a => a.hgt + 1
  | op _ a b => max a.hgt b.hgt + 1
  | cond a b c => max (max a.hgt b.hgt) c.hgt + 1
def Ok : Ex → Prop
  | num n => 0 ≤ n ∧ n < 1000
  | name z => TX 6 z
  | neg a => a.Ok
  | op s a b => TX 1 s ∧ a.Ok ∧ b.Ok
  | cond a b c => a.Ok ∧ b.Ok ∧ c.Ok
def data : Ex → PyData
  | num n => .tuple [.str "num", .int n]
  | name z => .tuple [.str "name", .str z]
  | neg a => .tuple [.str "not", a.data]
  | op s a b => .tuple [.str "op", .str s, a.data, b.data]
  | cond a b c => .tuple [.str "if", a.data, b.data, c.data]
/-- itself, then all in its parts -/
def all : Ex → List Ex
  | num n => [num n]
  | name z => [name z]
  | neg a => neg a :: a.all
  | op s a b => op s a b :: (a.all ++ b.all)
  | cond a b c => cond a b c :: (a.all ++ (b.all ++ c.all))
def At : Ex → V → Hp → Prop
  | num n, v, G => ∃ t, v = .ref t ∧ G t = some (.tup [.str "num", .int n])
  | name z, v, G => ∃ t, v = .ref t ∧ G t = some (.tup [.str "name", .str z])
  | neg a, v, G => ∃ t x, v = .ref t ∧ G t = some (.tup [.str "not", x]) ∧ a.At x G
  | op s a b, v, G => ∃ t x y, v = .ref t ∧ G t = some (.tup [.str "op", .str s, x, y]) ∧ a.At x G ∧ b.At y G
  | cond a b c, v, G => ∃ t x y z, v = .ref t ∧ G t = some (.tup [.str "if", x, y, z]) ∧ a.At x G ∧ b.At y G ∧ c.At z G
def Ats : List Ex → List V → Hp → Prop
  | [], vs, _ => vs = []
  | e :: es, vs, G => ∃ v r, vs = v :: r ∧ e.At v G ∧ Ats es r G
theorem At.parts {e : Ex} {v : V} {G : Hp} (h : e.At v G) : ∃ t xs, v = .ref t ∧ G t = some (.tup (.str e.word :: (e.mid ++ xs))) ∧ Ats e.kids xs G := by
  cases e with
  | num n =>
    obtain ⟨t, rfl, h⟩ := h
    exact ⟨t, [], rfl, h, rfl⟩
  | name z =>
    obtain ⟨t, rfl, h⟩ := h
    exact ⟨t, [], rfl, h, rfl⟩
  | neg a =>
    obtain ⟨t, x, rfl, h, ha⟩ := h
    exact ⟨t, [x], rfl, h, x, [], rfl, ha, rfl⟩
  | op s a b =>
    obtain ⟨t, x, y, rfl, h, ha, hb⟩ := h
    exact ⟨t, [x, y], rfl, h, x, [y], rfl, ha, y, [], rfl, hb, rfl⟩
  | cond a b c =>
    obtain ⟨t, x, y, z, rfl, h, ha, hb, hc⟩ := h
    exact ⟨t, [x, y, z], rfl, h, x, [y, z], rfl, ha, y, [z], rfl, hb, z, [], rfl, hc, rfl⟩
theorem Ats.len : ∀ {es : List Ex} {vs : List V} {G : Hp}, Ats es vs G → vs.length = es.length
  | [], _, _, h => by
    obtain rfl := h
    rfl
  | e :: es, _, _, h => by
    obtain ⟨v, r, rfl, _, h⟩ := h
    rw [List.length_cons, List.length_cons, Ats.len h]
theorem Ats.get : ∀ {es : List Ex} {vs : List V} {G : Hp} {i : Nat} {v : V}, Ats es vs G → vs[i]? = some v → ∃ e, es[i]? = some e ∧ e.At v G
  | [], _, _, i, v, h, e => by
    obtain rfl := h
    simp at e
  | x :: es, _, _, 0, v, h, e => by
    obtain ⟨u, r, rfl, h1, h⟩ := h
    simp at e
    subst e
    exact ⟨x, rfl, h1⟩
  | x :: es, _, _, i + 1, v, h, e => by
    obtain ⟨u, r, rfl, h1, h⟩ := h
    obtain ⟨y, e2, h2⟩ := Ats.get (es := es) (i := i) (v := v) h (by simpa using e)
    exact ⟨y, by simpa using e2, h2⟩
theorem Ats.app : ∀ {es fs : List Ex} {vs us : List V} {G : Hp}, Ats es vs G → Ats fs us G → Ats (es ++ fs) (vs ++ us) G
  | [], _, _, _, _, h, h' => by
    obtain rfl := h
    exact h'
  | e :: es, _, _, _, _, h, h' => by
    obtain ⟨v, r, rfl, h1, h⟩ := h
    exact ⟨v, _, rfl, h1, Ats.app h h'⟩
theorem Ats.one {e : Ex} {v : V} {G : Hp} (h : e.At v G) : Ats [e] [v] G := ⟨v, [], rfl, h, rfl⟩
theorem Ats.rev : ∀ {es : List Ex} {vs : List V} {G : Hp}, Ats es vs G → Ats es.reverse vs.reverse G
  | [], _, _, h => by
    obtain rfl := h
    rfl
  | e :: es, _, _, h => by
    obtain ⟨v, r, rfl, h1, h⟩ := h
    rw [List.reverse_cons, List.reverse_cons]
    exact (Ats.rev h).app (Ats.one h1)
theorem Ats.split : ∀ {es fs : List Ex} {vs : List V} {G : Hp}, Ats (es ++ fs) vs G → ∃ us ws, vs = us ++ ws ∧ Ats es us G ∧ Ats fs ws G
  | [], _, vs, _, h => ⟨[], vs, rfl, rfl, h⟩
  | e :: es, _, _, _, h => by
    obtain ⟨v, r, rfl, h1, h⟩ := h
    obtain ⟨us, ws, rfl, h2, h3⟩ := Ats.split h
    exact ⟨v :: us, ws, rfl, ⟨v, us, rfl, h1, h2⟩, h3⟩
theorem all_kids (e : Ex) : e.all = e :: e.kids.flatMap all := by
  cases e <;> simp [all, kids]
theorem size_pos (e : Ex) : 0 < e.size := by cases e <;> simp [size]
theorem size_kids (e : Ex) : e.size = (e.kids.map size).sum + 1 := by
  cases e <;> simp [size, kids] <;> omega
theorem all_len : ∀ e : Ex, e.all.length = e.size
  | num _ => rfl
  | name _ => rfl
  | neg a => by simp [all, size, all_len a]
  | op _ a b => by simp [all, size, all_len a, all_len b]
  | cond a b c => by simp [all, size, all_len a, all_len b, all_len c]; omega
theorem all_ok : ∀ e : Ex, e.Ok → ∀ x ∈ e.all, x.Ok ∧ x.size ≤ e.size ∧ x.hgt ≤ e.hgt
  | num n, h, x, hx => by
    simp [all] at hx
    subst hx
    exact ⟨h, Nat.le_refl _, Nat.le_refl _⟩
  | name n, h, x, hx => by
    simp [all] at hx
    subst hx
    exact ⟨h, Nat.le_refl _, Nat.le_refl _⟩
  | neg a, h, x, hx => by
    rcases List.mem_cons.mp hx with rfl | hx
    · exact ⟨h, Nat.le_refl _, Nat.le_refl _⟩
    · obtain ⟨h1, h2, h3⟩ := all_ok a h x hx
      exact ⟨h1, by simp only [size]; omega, by simp only [hgt]; omega⟩
  | op s a b, h, x, hx => by
    rcases List.mem_cons.mp hx with rfl | hx
    · exact ⟨h, Nat.le_refl _, Nat.le_refl _⟩
    · rcases List.mem_append.mp hx with hx | hx
      · obtain ⟨h1, h2, h3⟩ := all_ok a h.2.1 x hx
        exact ⟨h1, by simp only [size]; omega, by simp only [hgt]; omega⟩
      · obtain ⟨h1, h2, h3⟩ := all_ok b h.2.2 x hx
        exact ⟨h1, by simp only [size]; omega, by simp only [hgt]; omega⟩
  | cond a b c, h, x, hx => by
    rcases List.mem_cons.mp hx with rfl | hx
    · exact ⟨h, Nat.le_refl _, Nat.le_refl _⟩
    · rcases List.mem_append.mp hx with hx | hx
      · obtain ⟨h1, h2, h3⟩ := all_ok a h.1 x hx
        exact ⟨h1, by simp only [size]; omega, by simp only [hgt]; omega⟩
      · rcases List.mem_append.mp hx with hx | hx
        · obtain ⟨h1, h2, h3⟩ := all_ok b h.2.1 x hx
          exact ⟨h1, by simp only [size]; omega, by simp only [hgt]; omega⟩
        · obtain ⟨h1, h2, h3⟩ := all_ok c h.2.2 x hx
          exact ⟨h1, by simp only [size]; omega, by simp only [hgt]; omega⟩
theorem At.dp {K : PySem.W.Frag} : ∀ {e : Ex} {v : V} {G : Hp}, e.At v G → Dp K G v e.data
  | num n, v, G, h => by
    obtain ⟨t, rfl, h⟩ := h
    exact .tup (sqT h) (.cons (.str _) (.cons (.int _) .nil))
  | name n, v, G, h => by
    obtain ⟨t, rfl, h⟩ := h
    exact .tup (sqT h) (.cons (.str _) (.cons (.str _) .nil))
  | neg a, v, G, h => by
    obtain ⟨t, x, rfl, h, ha⟩ := h
    exact .tup (sqT h) (.cons (.str _) (.cons ha.dp .nil))
  | op s a b, v, G, h => by
    obtain ⟨t, x, y, rfl, h, ha, hb⟩ := h
    exact .tup (sqT h) (.cons (.str _) (.cons (.str _) (.cons ha.dp (.cons hb.dp .nil))))
  | cond a b c, v, G, h => by
    obtain ⟨t, x, y, z, rfl, h, ha, hb, hc⟩ := h
    exact .tup (sqT h) (.cons (.str _) (.cons ha.dp (.cons hb.dp (.cons hc.dp .nil))))
theorem Ats.dp {K : PySem.W.Frag} : ∀ {es : List Ex} {vs : List V} {G : Hp}, Ats es vs G → DpAll K G vs (es.map data)
  | [], _, _, h => by
    obtain rfl := h
    exact .nil
  | e :: es, _, _, h => by
    obtain ⟨v, r, rfl, h1, h⟩ := h
    exact .cons h1.dp (Ats.dp h)
end Ex
/-! ### data that repr can show -/
structure GD (m k : Nat) (d : PyData) : Prop where
  lay : d.canLay0 = true
  short : d.intsShort 13 = true
  show_ : d.showable = true
  dep : d.depth ≤ m
  wt : d.weight ≤ k
theorem GD.mono {m k m' k' : Nat} {d : PyData} (h : GD m k d) (h1 : m ≤ m') (h2 : k ≤ k') : GD m' k' d := ⟨h.lay, h.short, h.show_, Nat.le_trans h.dep h1, Nat.le_trans h.wt h2⟩
theorem GD.ok {m k : Nat} {d : PyData} (h : GD m k d) (h1 : m ≤ 64) (h2 : k ≤ 2 ^ 20) : ShowOk d := by
  have hl : PyData.layable0 d = true := by
    unfold PyData.layable0
    rw [h.lay, decide_eq_true (Nat.le_trans h.dep h1), decide_eq_true (Nat.le_trans h.wt h2)] <;> rfl
  refine ⟨h.show_, PyData.hasDict_of_canLay d h.lay, Nat.le_trans h.dep (by omega), ?_⟩
  have := shown_le13 hl h.short
  have e : (15728653 : Nat) ≤ sizeLine := by decide
  omega
theorem gd_str {n : Nat} {z : Str} (h : TX n z) : GD 0 n (.str z) := ⟨h.ok, rfl, rfl, Nat.le_refl _, h.1⟩
theorem short_ints : ∀ n : Fin 1000, (PyData.shown (.int (n.val : Int))).length ≤ 13 := by decide +kernel
theorem gd_int {n : Int} (h0 : 0 ≤ n) (h1 : n < 1000) : GD 0 10 (.int n) := by
  obtain ⟨k, rfl⟩ : ∃ k : Nat, n = (k : Int) := ⟨n.toNat, by omega⟩
  have hk : k < 1000 := by omega
  have hs := short_ints ⟨k, hk⟩
  have hl : ((k : Int)).natAbs.log2 < 10 ∨ (k : Int) = 0 := by
    by_cases e : k = 0
    · exact .inr (by omega)
    · exact .inl ((Nat.log2_lt (by omega)).mpr (by show ((k : Int)).natAbs < 1024; omega))
  refine ⟨rfl, decide_eq_true hs, decide_eq_true ?_, Nat.le_refl _, ?_⟩
  · rcases hl with h | h
    · omega
    · rw [h]
      decide
  · show (if ((k : Int) == 0) = true then 0 else ((k : Int)).natAbs.log2 + 1) ≤ 10
    split
    · omega
    · rename_i h
      rcases hl with h' | h'
      · omega
      · exact absurd (by simpa using h') h
theorem gds_cons {m k k' : Nat} {d : PyData} {ds : List PyData} (h : GD m k d) (h' : GD (m + 1) k' (.tuple ds)) : GD (m + 1) (k + 1 + k') (.tuple (d :: ds)) := by
  obtain ⟨a1, a2, a3, a4, a5⟩ := h
  obtain ⟨b1, b2, b3, b4, b5⟩ := h'
  refine ⟨?_, ?_, ?_, ?_, ?_⟩
  · show (PyData.canLay0 d && PyData.canLayAll0 ds) = true
    rw [a1]
    exact b1
  · show (PyData.intsShort 13 d && PyData.intsShortAll 13 ds) = true
    rw [a2]
    exact b2
  · show (PyData.showable d && PyData.showableAll ds) = true
    rw [a3]
    exact b3
  · show max (PyData.depth d) (PyData.depthAll ds) + 1 ≤ m + 1
    have : PyData.depthAll ds + 1 ≤ m + 1 := b4
    omega
  · show PyData.weight d + 1 + PyData.weightAll ds ≤ _
    have : PyData.weightAll ds ≤ k' := b5
    omega
theorem gds_nil {m k : Nat} : GD (m + 1) k (.tuple []) := ⟨rfl, rfl, rfl, by show 0 + 1 ≤ m + 1; omega, Nat.zero_le _⟩
theorem gd_list {m k : Nat} {ds : List PyData} (h : GD m k (.tuple ds)) : GD m k (.list ds) := ⟨h.lay, h.short, h.show_, h.dep, h.wt⟩
theorem gds_all {m k : Nat} : ∀ {ds : List PyData}, (∀ d ∈ ds, GD m k d) → GD (m + 1) ((k + 1) * ds.length) (.tuple ds)
  | [], _ => gds_nil
  | d :: ds, h => (gds_cons (h d (.head _)) (gds_all fun x hx => h x (.tail _ hx))).mono (Nat.le_refl _) (by rw [List.length_cons, Nat.mul_succ]; omega)
theorem Ex.gd : ∀ e : Ex, e.Ok → GD e.hgt (16 * e.size) e.data
  | .num n, h => (gds_cons ((gd_str (n := 3) (tx_lit (by decide +kernel))).mono (Nat.zero_le 0) (Nat.le_refl _)) (gds_cons (gd_int h.1 h.2) (gds_nil (k := 0)))).mono (Nat.le_refl _) (by simp only [Ex.size]; omega)
  | .name z, h => (gds_cons (gd_str (n := 4) (tx_lit (by decide +kernel))) (gds_cons (gd_str h) (gds_nil (k := 0)))).mono (Nat.le_refl _) (by simp only [Ex.size]; omega)
  | .neg a, h => (gds_cons ((gd_str (n := 3) (tx_lit (by decide +kernel))).mono (Nat.zero_le _) (Nat.le_refl _)) (gds_cons (a.gd h) (gds_nil (k := 0)))).mono (Nat.le_refl _) (by simp only [Ex.size]; omega)
  | .op s a b, h => (gds_cons ((gd_str (n := 2) (tx_lit (by decide +kernel))).mono (Nat.zero_le _) (Nat.le_refl _)) (gds_cons ((gd_str h.1).mono (Nat.zero_le _) (Nat.le_refl _)) (gds_cons ((a.gd h.2.1).mono (Nat.le_max_left _ _) (Nat.le_refl _)) (gds_cons ((b.gd h.2.2).mono (Nat.le_max_right _ _) (Nat.le_refl _)) (gds_nil (k := 0)))))).mono (Nat.le_refl _) (by simp only [Ex.size]; omega)
  | .cond a b c, h => (gds_cons ((gd_str (n := 2) (tx_lit (by decide +kernel))).mono (Nat.zero_le _) (Nat.le_refl _)) (gds_cons ((a.gd h.1).mono (by omega) (Nat.le_refl _)) (gds_cons ((b.gd h.2.1).mono (by omega) (Nat.le_refl _)) (gds_cons ((c.gd h.2.2).mono (Nat.le_max_right (max a.hgt b.hgt) _) (Nat.le_refl _)) (gds_nil (k := 0)))))).mono (Nat.le_refl _) (by simp only [Ex.size]; omega)
end Ct
namespace Ct
open PySem PySem.Spec PyProof.Rows L2
local macro_rules | `(tactic| walk_at "g") => `(tactic| first
  | with_reducible refine g_seq ?_
  | with_reducible refine g_set ?_
  | with_reducible refine g_asg ?_
  | with_reducible refine g_sub ?_
  | with_reducible refine g_name ?_
  | with_reducible refine g_ret ?_
  | with_reducible refine g_if ?_
  | ((with_reducible refine' g_var ?gh ?_); (case gh => rfl))
  | with_reducible refine g_c ?_
  | with_reducible refine g_op ?_
  | with_reducible refine g_test ?_
  | with_reducible refine g_bl ?_
  | with_reducible refine g_int ?_
  | with_reducible refine g_cons ?_
  | with_reducible refine g_nil ?_
  | with_reducible refine g_call ?_
  | with_reducible refine g_cb ?_
  | with_reducible refine g_and ?_
  | with_reducible refine g_or ?_
  | with_reducible refine g_not ?_
  | with_reducible refine g_B ?_
  | with_reducible refine g_un ?_
  | with_reducible refine g_neg ?_
  | with_reducible refine g_chain ?_
  | with_reducible refine g_drop ?_
  | with_reducible refine g_par ?_
  | with_reducible refine g_par3 ?_
  | with_reducible refine g_tup ?_
  | with_reducible refine g_lst ?_
  | with_reducible refine g_sl ?_
  | with_reducible refine g_nop ?_
  | with_reducible refine g_part ?_
  | with_reducible refine g_bm0 ?_
  | with_reducible refine g_bm ?_
  | with_reducible refine g_m0 ?_
  | with_reducible refine g_m1 ?_
  | with_reducible refine g_lrev ?_
  | with_reducible refine g_ifE ?_
  | with_reducible refine g_andV ?_
  | with_reducible refine g_orV ?_
  | with_reducible refine g_notV ?_
  | with_reducible refine g_addI ?_
  | with_reducible refine g_subI ?_
  | with_reducible refine g_eqI ?_
  | with_reducible refine g_neI ?_
  | with_reducible refine g_eqS ?_
  | with_reducible refine g_neS ?_
  | with_reducible refine g_eqB ?_
  | with_reducible refine g_neB ?_
  | with_reducible refine g_ltI ?_
  | with_reducible refine g_gtI ?_
  | with_reducible refine g_leI ?_
  | with_reducible refine g_geI ?_
  | with_reducible refine g_inS ?_
  | with_reducible refine g_niS ?_
  | with_reducible refine g_max ?_
  | with_reducible refine g_min ?_
  | with_reducible refine g_abs ?_
  | with_reducible refine g_isN ?_
  | with_reducible refine g_notN ?_
  | with_reducible refine g_isB ?_
  | with_reducible refine g_notB ?_
  | with_reducible refine g_intB ?_
  | with_reducible refine g_intI ?_
  | with_reducible refine g_lc ?_
  | with_reducible refine g_for ?_
  | with_reducible refine g_seqI ?_
  | with_reducible refine g_inStr ?_
  | with_reducible refine g_rng ?_
  | with_reducible refine g_yes ?_
  | with_reducible refine g_pairs ?_
  | with_reducible refine g_pairs0 ?_
  | with_reducible refine iteT ?_
  | with_reducible refine iteF ?_
  | with_reducible refine g_nF ?_
  | with_reducible refine g_nT ?_
  | with_reducible refine g_gcons ?_
  | with_reducible refine g_gnil ?_
  | with_reducible refine g_next ?_
  | with_reducible refine g_callN ?_
  | with_reducible refine g_callNS ?_
  | with_reducible refine g_callS ?_
  | ((with_reducible refine' g_mulI ?gh ?_); (case gh => first | exact .inl (.inl ⟨by omega, by omega⟩) | exact .inl (.inr ⟨by omega, by omega⟩)))
  | ((with_reducible refine' g_modI ?gh ?_); (case gh => omega)))
local macro_rules | `(tactic| walk_at "gg") => `(tactic| (repeat walk_at "g"))
theorem WR.open {α : Type} {M : Cells → Prop} {Γ : List Kn} {L : Cells} {H : Hp} {k' : α → Kn} (w : WR M Γ L H) (h : ∀ G, (∀ k ∈ Γ, k G) → ∃ x, k' x G) (mono : ∀ x G G', Same G G' → k' x G → k' x G') : ∃ x, WR M (k' x :: Γ) L H := by
  obtain ⟨L0, m, G, g, f, n, t⟩ := w
  obtain ⟨x, hx⟩ := h G fun k hk => t k hk G (Same.refl G)
  refine ⟨x, L0, m, G, g, f, n, fun k hk G' s => ?_⟩
  cases hk with
  | head => exact mono x G G' s hx
  | tail _ hk => exact t k hk G' s
mutual
theorem Ex.At.mono {G G' : Hp} (s : Same G G') : ∀ {e : Ex} {v : V}, e.At v G → e.At v G'
  | .num n, v, h => by
    obtain ⟨t, rfl, h⟩ := h
    exact ⟨t, rfl, s _ _ h⟩
  | .name n, v, h => by
    obtain ⟨t, rfl, h⟩ := h
    exact ⟨t, rfl, s _ _ h⟩
  | .neg a, v, h => by
    obtain ⟨t, x, rfl, h, ha⟩ := h
    exact ⟨t, x, rfl, s _ _ h, ha.mono s⟩
  | .op _ a b, v, h => by
    obtain ⟨t, x, y, rfl, h, ha, hb⟩ := h
    exact ⟨t, x, y, rfl, s _ _ h, ha.mono s, hb.mono s⟩
  | .cond a b c, v, h => by
    obtain ⟨t, x, y, z, rfl, h, ha, hb, hc⟩ := h
    exact ⟨t, x, y, z, rfl, s _ _ h, ha.mono s, hb.mono s, hc.mono s⟩
end
theorem Ex.Ats.mono {G G' : Hp} (s : Same G G') : ∀ {es : List Ex} {vs : List V}, Ex.Ats es vs G → Ex.Ats es vs G'
  | [], _, h => h
  | e :: es, _, h => by
    obtain ⟨v, r, rfl, h1, h⟩ := h
    exact ⟨v, r, rfl, h1.mono s, Ex.Ats.mono s h⟩
/-- an expression's tuple, opened -/
theorem Ex.opened {M : Cells → Prop} {Γ : List Kn} {L : Cells} {H : Hp} {e : Ex} {v : V} (w : WR M Γ L H) (h : e.At v ∈ Γ) :
    ∃ t xs, v = .ref t ∧ WR M ((fun G => G t = some (.tup (.str e.word :: (e.mid ++ xs)))) :: Ex.Ats e.kids xs :: Γ) L H := by
  obtain ⟨⟨t, xs⟩, w⟩ := WR.open (k' := fun (x : Addr × List V) G => v = .ref x.1 ∧ G x.1 = some (.tup (.str e.word :: (e.mid ++ x.2))) ∧ Ex.Ats e.kids x.2 G) w (fun G hG => by
    obtain ⟨t, xs, h1, h2, h3⟩ := (hG _ h).parts
    exact ⟨(t, xs), h1, h2, h3⟩) (fun x G G' s ⟨h1, h2, h3⟩ => ⟨h1, s _ _ h2, h3.mono s⟩)
  have hv := (w.get (.head _)).1
  refine ⟨t, xs, hv, ((w.more (Ex.Ats e.kids xs) fun G hG => (hG _ (.head _)).2.2).more (fun G => G t = some (.tup (.str e.word :: (e.mid ++ xs)))) fun G hG => (hG _ (.tail _ (.head _))).2.1).sub fun k hk => ?_⟩
  rcases hk with _ | ⟨_, _ | ⟨_, hk⟩⟩
  · exact .head _
  · exact .tail _ (.head _)
  · exact .tail _ (.tail _ (.tail _ hk))
theorem Ex.At.one {G : Hp} {e : Ex} {v : V} (h : Ex.Ats [e] [v] G) : e.At v G := by
  obtain ⟨u, r, e1, h1, h2⟩ := h
  cases e1
  exact h1
def t_within_of (K : PySem.W.Frag) (ad : String → Addr) : TS := (tSeq (tAsg (tVar 0) (gStar K 1 (gCons (gName 1) (gCons (gName 2) gNil)))) (tSeq (tIfS (tTest (tOp (rInA K) (tVar 1) (tTup (tCons (tC (.str "num")) (tCons (tC (.str "name")) tNil))))) (tRet (tLst tNil)) tNext) (tSeq (tIfS (tTest (tOp (rEqA K) (tVar 1) (tC (.str "op")))) (tRet (tSl (rSlAny K) (tVar 2) (tPart (tC (.int 1))) tNoPart)) tNext) (tRet (tVar 2)))))
def sp_within_of (K : PySem.W.Frag) (ad : String → Addr) : Sp := fun vs H Q _ => ∃ (e : Ex) (v : V) (M : Cells → Prop) (Γ : List Kn) (L : Cells), vs = [v] ∧ WR M (e.At v :: Γ) L H ∧
  ∀ xs p H', WR M ((fun G => G p = some (.lst xs)) :: Ex.Ats e.kids xs :: e.At v :: Γ) L H' → Q (.ref p) H'
theorem ln_within_of {K : PySem.W.Frag} {ad : String → Addr} : ∀ vs H Q E, sp_within_of K ad vs H Q E → vs.length = 1 := by
  rintro vs H Q E ⟨e, v, M, Γ, L, rfl, _⟩
  rfl
theorem rd_within_of {K : PySem.W.Frag} {ad : String → Addr} (N : List Str) (hN : N.length = 3) : ∀ vs H Q E, sp_within_of K ad vs H Q E → t_within_of K ad { nx := fun _ H' => Q .non H', rt := Q } (L2.start N vs) H := by
  rintro vs H Q E ⟨e, v, M, Γ, L, rfl, w, q⟩
  rw [st_of hN]
  show t_within_of K ad _ [some v, none, none] H
  unfold t_within_of
  obtain ⟨t, xs, rfl, w⟩ := Ex.opened w (.head _)
  have fin : ∀ (ys : List V) (p : Addr) (H' : Hp), ys = xs → WR M ((fun G => G p = some (.lst ys)) :: (fun G => G t = some (.tup (.str e.word :: (e.mid ++ xs)))) :: Ex.Ats e.kids xs :: e.At (.ref t) :: Γ) L H' → Q (.ref p) H' := by
    rintro ys p H' rfl w
    exact q ys p H' (w.sub fun k hk => by
      rcases hk with _ | ⟨_, hk⟩
      · exact .head _
      · exact .tail _ (.tail _ hk))
  walk_at "gg"
  refine g_star (.inl (sqT (w.get (.head _)))) (by simp) fun p np => ?_
  simp only [List.take_succ_cons, List.take_zero, List.drop_succ_cons, List.drop_zero, List.cons_append, List.nil_append]
  have w0 := w.know (.lst (e.mid ++ xs)) np
  walk_at "gg"
  refine ⟨sz (show 2 ≤ 1000000 by decide), fun p2 np => ?_⟩
  have w2 := w0.know (.tup [.str "num", .str "name"]) np
  refine g_inQ (.inr (sqT (w2.get (.head _)))) rfl rfl ?_
  have hk := w.get (.tail _ (.head _))
  have nt : ∀ {p : Addr} {o : HO} {Γ' : List Kn} {H' : Hp}, WR M ((fun G => G p = some o) :: (fun G => G p2 = some (.tup [.str "num", .str "name"])) :: Γ') L H' → WR M ((fun G => G p = some o) :: Γ') L H' := fun w => w.sub fun k hk => by
    rcases hk with _ | ⟨_, hk⟩
    · exact .head _
    · exact .tail _ (.tail _ hk)
  cases e with
  | num n =>
    obtain rfl : xs = [] := hk
    rw [show inV (.str (Ex.word (.num n))) [.str "num", .str "name"] = true by (simp only [Ex.word]; decide +kernel)]
    walk_at "gg"
    refine ⟨Nat.zero_le _, fun p3 np => ?_⟩
    exact fin [] p3 _ rfl ((w2.know (.lst []) np).sub fun k hk => by
      rcases hk with _ | ⟨_, hk⟩
      · exact .head _
      · exact .tail _ (.tail _ (.tail _ hk)))
  | name n =>
    obtain rfl : xs = [] := hk
    rw [show inV (.str (Ex.word (.name n))) [.str "num", .str "name"] = true by (simp only [Ex.word]; decide +kernel)]
    walk_at "gg"
    refine ⟨Nat.zero_le _, fun p3 np => ?_⟩
    exact fin [] p3 _ rfl ((w2.know (.lst []) np).sub fun k hk => by
      rcases hk with _ | ⟨_, hk⟩
      · exact .head _
      · exact .tail _ (.tail _ (.tail _ hk)))
  | neg a =>
    rw [show inV (.str (Ex.word (.neg a))) [.str "num", .str "name"] = false by (simp only [Ex.word]; decide +kernel)]
    walk_at "gg"
    rw [show decide (Ex.word (.neg a) = "op") = false from decide_eq_false (by simp only [Ex.word]; decide +kernel)]
    walk_at "gg"
    exact fin xs p _ rfl (w2.tail)
  | op s a b =>
    rw [show inV (.str (Ex.word (.op s a b))) [.str "num", .str "name"] = false by (simp only [Ex.word]; decide +kernel)]
    walk_at "gg"
    rw [show decide (Ex.word (.op s a b) = "op") = true from decide_eq_true (by simp only [Ex.word])]
    walk_at "gg"
    refine g_slL (sqL (w2.get (.tail _ (.head _)))) fun p3 np => ?_
    have ec : cutV (Ex.mid (.op s a b) ++ xs) (some 1) none = xs := by
      unfold cutV
      rw [show (some (1 : Int)) = some ((1 : Nat) : Int) from rfl, HT.sIx_nat, HT.sIx_none]
      simp [Ex.mid]
    rw [ec]
    exact fin xs p3 _ rfl ((w2.know (.lst xs) np).sub fun k hk => by
      rcases hk with _ | ⟨_, hk⟩
      · exact .head _
      · exact .tail _ (.tail _ (.tail _ hk)))
  | cond a b c =>
    rw [show inV (.str (Ex.word (.cond a b c))) [.str "num", .str "name"] = false by (simp only [Ex.word]; decide +kernel)]
    walk_at "gg"
    rw [show decide (Ex.word (.cond a b c) = "op") = false from decide_eq_false (by simp only [Ex.word]; decide +kernel)]
    walk_at "gg"
    exact fin xs p _ rfl (w2.tail)
def t_law_within (K : PySem.W.Frag) (ad : String → Addr) : TS := (tSeq (tIfS (tTest (tOp (rInA K) (tOp (rIxA K) (tVar 0) (tC (.int 0))) (tTup (tCons (tC (.str "num")) (tCons (tC (.str "name")) tNil))))) (tRet (tLst tNil)) tNext) (tRet (tCB (rListA K) (tCons (tSl (rSlAny K) (tVar 0) (tPart (tOp (rAddA K) (tC (.int 1)) (tCB rIntA (tCons (tOp (rEqA K) (tOp (rIxA K) (tVar 0) (tC (.int 0))) (tC (.str "op"))) tNil)))) tNoPart) tNil))))
def sp_law_within (K : PySem.W.Frag) (ad : String → Addr) : Sp := fun vs H Q _ => ∃ (e : Ex) (v : V) (M : Cells → Prop) (Γ : List Kn) (L : Cells), vs = [v] ∧ WR M (e.At v :: Γ) L H ∧
  ∀ xs p H', WR M ((fun G => G p = some (.lst xs)) :: Ex.Ats e.kids xs :: e.At v :: Γ) L H' → Q (.ref p) H'
theorem ln_law_within {K : PySem.W.Frag} {ad : String → Addr} : ∀ vs H Q E, sp_law_within K ad vs H Q E → vs.length = 1 := by
  rintro vs H Q E ⟨e, v, M, Γ, L, rfl, _⟩
  rfl
theorem at0 {α : Type} {x : α} {l : List α} : atI (x :: l) 0 = some x := atI_nat (j := 0) rfl
theorem at1 {α : Type} {x y : α} {l : List α} : atI (x :: y :: l) 1 = some y := atI_nat (j := 1) rfl
theorem not_whole {l : List V} {k : Nat} (hk : 0 < k) (hl : 0 < l.length) : ¬ (HT.sIx l.length 0 (some (k : Int)) = 0 ∧ HT.sIx l.length l.length none = l.length) := fun h => by
  rw [HT.sIx_nat] at h
  omega
theorem six_all (n : Nat) : HT.sIx n n none = n := rfl
theorem rd_law_within {K : PySem.W.Frag} {ad : String → Addr} (N : List Str) (hN : N.length = 1) : ∀ vs H Q E, sp_law_within K ad vs H Q E → t_law_within K ad { nx := fun _ H' => Q .non H', rt := Q } (L2.start N vs) H := by
  rintro vs H Q E ⟨e, v, M, Γ, L, rfl, w, q⟩
  rw [st_of hN]
  show t_law_within K ad _ [some v] H
  unfold t_law_within
  obtain ⟨t, xs, rfl, w⟩ := Ex.opened w (.head _)
  have fin : ∀ (ys : List V) (p : Addr) (H' : Hp), ys = xs → WR M ((fun G => G p = some (.lst ys)) :: (fun G => G t = some (.tup (.str e.word :: (e.mid ++ xs)))) :: Ex.Ats e.kids xs :: e.At (.ref t) :: Γ) L H' → Q (.ref p) H' := by
    rintro ys p H' rfl w
    exact q ys p H' (w.sub fun k hk => by
      rcases hk with _ | ⟨_, hk⟩
      · exact .head _
      · exact .tail _ (.tail _ hk))
  walk_at "gg"
  refine g_ixT (n := 0) (v := .str e.word) (sqT (w.get (.head _))) at0 ?_
  walk_at "gg"
  refine ⟨sz (show 2 ≤ 1000000 by decide), fun p2 np => ?_⟩
  have w2 := w.know (.tup [.str "num", .str "name"]) np
  refine g_inQ (.inr (sqT (w2.get (.head _)))) rfl rfl ?_
  have hk := w.get (.tail _ (.head _))
  have w := w2.tail
  have go : ∀ (i : Nat) (p : Addr) (H' : Hp), cutV (.str e.word :: (e.mid ++ xs)) (some (i : Int)) none = xs → WR M ((fun G => G p = some (.tup (cutV (.str e.word :: (e.mid ++ xs)) (some (i : Int)) none))) :: (fun G => G t = some (.tup (.str e.word :: (e.mid ++ xs)))) :: Ex.Ats e.kids xs :: e.At (.ref t) :: Γ) L H' →
      rListA K [.ref p] H' Q := by
    intro i p H' ec w
    rw [ec] at w
    refine g_listT (sqT (w.get (.head _))) fun p4 np => ?_
    exact fin xs p4 _ rfl ((w.know (.lst xs) np).sub fun k hk => by
      rcases hk with _ | ⟨_, hk⟩
      · exact .head _
      · exact .tail _ (.tail _ hk))
  cases e with
  | num n =>
    obtain rfl : xs = [] := hk
    rw [show inV (.str (Ex.word (.num n))) [.str "num", .str "name"] = true by (simp only [Ex.word]; decide +kernel)]
    walk_at "gg"
    refine ⟨Nat.zero_le _, fun p3 np => ?_⟩
    exact fin [] p3 _ rfl (w.know (.lst []) np)
  | name n =>
    obtain rfl : xs = [] := hk
    rw [show inV (.str (Ex.word (.name n))) [.str "num", .str "name"] = true by (simp only [Ex.word]; decide +kernel)]
    walk_at "gg"
    refine ⟨Nat.zero_le _, fun p3 np => ?_⟩
    exact fin [] p3 _ rfl (w.know (.lst []) np)
  | neg a =>
    rw [show inV (.str (Ex.word (.neg a))) [.str "num", .str "name"] = false by (simp only [Ex.word]; decide +kernel)]
    walk_at "gg"
    refine g_ixT (n := 0) (v := .str "not") (sqT (w.get (.head _))) at0 ?_
    walk_at "gg"
    refine g_slT (lo := some ((1 : Nat) : Int)) (sqT (w.get (.head _))) (not_whole (by decide) (by simp)) fun p4 np => ?_
    · exact go 1 p4 _ (by unfold cutV; rw [HT.sIx_nat, HT.sIx_none]; simp [Ex.mid]) (w.know _ np)
  | op s a b =>
    rw [show inV (.str (Ex.word (.op s a b))) [.str "num", .str "name"] = false by (simp only [Ex.word]; decide +kernel)]
    walk_at "gg"
    refine g_ixT (n := 0) (v := .str "op") (sqT (w.get (.head _))) at0 ?_
    walk_at "gg"
    obtain ⟨x, _, rfl, _, y, _, rfl, _, rfl⟩ := hk
    refine g_slT (lo := some ((2 : Nat) : Int)) (sqT (w.get (.head _))) (not_whole (by decide) (by simp)) fun p4 np => ?_
    · exact go 2 p4 _ (by unfold cutV; rw [HT.sIx_nat, HT.sIx_none]; simp [Ex.mid]) (w.know _ np)
  | cond a b c =>
    rw [show inV (.str (Ex.word (.cond a b c))) [.str "num", .str "name"] = false by (simp only [Ex.word]; decide +kernel)]
    walk_at "gg"
    refine g_ixT (n := 0) (v := .str "if") (sqT (w.get (.head _))) at0 ?_
    walk_at "gg"
    refine g_slT (lo := some ((1 : Nat) : Int)) (sqT (w.get (.head _))) (not_whole (by decide) (by simp)) fun p4 np => ?_
    · exact go 1 p4 _ (by unfold cutV; rw [HT.sIx_nat, HT.sIx_none]; simp [Ex.mid]) (w.know _ np)
theorem Ex.Ats.cut {es fs : List Ex} {vs us : List V} {G : Hp} (h : Ex.Ats (es ++ fs) (vs ++ us) G) (hl : vs.length = es.length) : Ex.Ats es vs G ∧ Ex.Ats fs us G := by
  obtain ⟨vs', us', e, h1, h2⟩ := h.split
  have hl' := h1.len
  obtain ⟨rfl, rfl⟩ := List.append_inj e (by omega)
  exact ⟨h1, h2⟩
theorem Ex.hgt_pos (e : Ex) : 0 < e.hgt := by cases e <;> simp [Ex.hgt]
theorem Ex.kid_hgt {e x : Ex} (h : x ∈ e.kids) : x.hgt < e.hgt := by
  cases e <;> simp [Ex.kids, Ex.hgt] at h ⊢
  · subst h; omega
  · rcases h with rfl | rfl <;> omega
  · rcases h with rfl | rfl | rfl <;> omega
theorem Ex.kid_size {e x : Ex} (h : x ∈ e.kids) : x.size < e.size := by
  cases e <;> simp [Ex.kids, Ex.size] at h ⊢
  · subst h; omega
  · rcases h with rfl | rfl <;> omega
  · rcases h with rfl | rfl | rfl <;> omega
theorem Ex.kids_few (e : Ex) : e.kids.length ≤ 3 := by cases e <;> simp [Ex.kids]
def sp_law_all (K : PySem.W.Frag) (ad : String → Addr) (n : Nat) : Sp := fun vs H Q _ => ∃ (e : Ex) (v : V) (M : Cells → Prop) (Γ : List Kn) (L : Cells), vs = [v] ∧ e.hgt ≤ n ∧ e.size ≤ 10000 ∧ WR M (e.At v :: Γ) L H ∧
  ∀ xs p H', WR M (Ex.Ats e.all xs :: e.At v :: Γ) ((p, .lst xs) :: L) H' → Q (.ref p) H'
def t_law_all (K : PySem.W.Frag) (ad : String → Addr) (n : Nat) : TS := (tSeq (tAsg (tLst (tCons (tVar 0) tNil)) (gName 1)) (tSeq (tFor (iSeq K (tCall (sp_law_within K ad) [] E0 (tCons (tVar 0) tNil))) (gName 2) (tDrop (tBM K "list" rExtend (tVar 1) (tCons (tCall (sp_law_all K ad n) [] E0 (tCons (tVar 2) tNil)) tNil)))) (tRet (tVar 1))))
theorem z_law_all {K : PySem.W.Frag} {ad : String → Addr} {vs : List V} {H : Hp} {Q : VK} {E : XK} (h : sp_law_all K ad 0 vs H Q E) : False := by
  obtain ⟨e, v, M, Γ, L, rfl, h, _⟩ := h
  have := e.hgt_pos
  omega
theorem ln_law_all {K : PySem.W.Frag} {ad : String → Addr} {n : Nat} : ∀ vs H Q E, sp_law_all K ad n vs H Q E → vs.length = 1 := by
  rintro vs H Q E ⟨e, v, M, Γ, L, rfl, _⟩
  rfl
theorem rd_law_all {K : PySem.W.Frag} {ad : String → Addr} (n : Nat) (N : List Str) (hN : N.length = 3) : ∀ vs H Q E, sp_law_all K ad (n + 1) vs H Q E → t_law_all K ad n { nx := fun _ H' => Q .non H', rt := Q } (L2.start N vs) H := by
  rintro vs H Q E ⟨e, v, M, Γ, L, rfl, hg, hs, w, q⟩
  rw [st_of hN]
  show t_law_all K ad n _ [some v, none, none] H
  unfold t_law_all
  walk_at "gg"
  refine ⟨sz (show 1 ≤ 1000000 by decide), fun p np => ?_⟩
  have w := w.new (.lst [v]) np
  walk_at "gg"
  refine ⟨e, v, M, Γ, _, rfl, w, fun ks p2 H w => ?_⟩
  refine g_inL (sqL (w.get (.head _))) ?_
  have hkl : ks.length = e.kids.length := (w.get (.tail _ (.head _))).len
  refine c_for (walk_list (xs := ks)) (fun i σ H => ∃ y acc, σ = [some v, some (.ref p), y] ∧ WR M (Ex.Ats (e :: (e.kids.take i).flatMap Ex.all) acc :: (fun G => G p2 = some (.lst ks)) :: Ex.Ats e.kids ks :: e.At v :: Γ) ((p, .lst acc) :: L) H)
    (fun σ H => ∃ y acc, σ = [some v, some (.ref p), y] ∧ WR M (Ex.Ats e.all acc :: e.At v :: Γ) ((p, .lst acc) :: L) H) ⟨_, _, rfl, w.more _ fun G hG => ?_⟩ ?_ ?_ ?_ ?_
  · exact Ex.Ats.one (hG _ (.tail _ (.tail _ (.head _))))
  · rintro i σ H _ ⟨_, _, _, w⟩
    exact sqL (w.get (.tail _ (.head _)))
  · rintro X hX i x σ H H' hi ⟨y, acc, rfl, w⟩ ⟨rfl, hx⟩
    obtain ⟨k, hk, _⟩ := (w.get (.tail _ (.tail _ (.head _)))).get hx
    have hkm := List.mem_of_getElem? hk
    walk_at "gg"
    refine ⟨g_tyL (sqL (w.cell (.head _))), ?_⟩
    walk_at "gg"
    have w1 := w.more (k.At x) fun G hG => by
      obtain ⟨k', hk', h⟩ := (hG _ (.tail _ (.tail _ (.head _)))).get hx
      rw [hk] at hk'
      cases hk'
      exact h
    refine ⟨k, x, M, _, _, rfl, ?_, ?_, w1, fun zs p3 H w => ?_⟩
    · have := Ex.kid_hgt hkm
      omega
    · have := Ex.kid_size hkm
      omega
    have ha := w.get (.tail _ (.tail _ (.head _)))
    have la : acc.length ≤ 10000 := by
      have h1 := ha.len
      have h2 : (e :: (e.kids.take i).flatMap Ex.all).length ≤ e.all.length := by
        rw [Ex.all_kids e, List.length_cons, List.length_cons]
        have : e.kids.flatMap Ex.all = (e.kids.take i).flatMap Ex.all ++ (e.kids.drop i).flatMap Ex.all := by rw [← List.flatMap_append, List.take_append_drop]
        rw [this, List.length_append]
        omega
      rw [Ex.all_len] at h2
      omega
    have lz : zs.length ≤ 10000 := by
      have h1 := (w.get (.head _)).len
      rw [Ex.all_len] at h1
      have := Ex.kid_size hkm
      omega
    walk_at "gg"
    refine g_ext (w.cell (.tail _ (.head _))) (w.cell (.head _)) (sz (by omega)) ?_
    have w := (w.put1 (.lst (acc ++ zs))).drop1
    refine ⟨_, _, rfl, (w.more (Ex.Ats (e :: (e.kids.take (i + 1)).flatMap Ex.all) (acc ++ zs)) fun G hG => ?_).sub fun k hk => ?_⟩
    · have h1 := hG _ (.tail _ (.tail _ (.head _)))
      have h2 := hG _ (.head _)
      have e1 : e :: (e.kids.take (i + 1)).flatMap Ex.all = (e :: (e.kids.take i).flatMap Ex.all) ++ k.all := by
        rw [List.take_add_one, hk]
        simp
      rw [e1]
      exact h1.app h2
    · rcases hk with _ | ⟨_, hk⟩
      · exact .head _
      · exact .tail _ (.tail _ (.tail _ (.tail _ hk)))
  · rintro σ H ⟨y, acc, rfl, w⟩
    refine ⟨_, _, rfl, (w.more (Ex.Ats e.all acc) fun G hG => ?_).sub fun k hk => ?_⟩
    · have h := hG _ (.head _)
      rw [hkl, List.take_length, ← Ex.all_kids] at h
      exact h
    · rcases hk with _ | ⟨_, hk⟩
      · exact .head _
      · exact .tail _ (.tail _ (.tail _ (.tail _ hk)))
  · rintro σ H ⟨y, acc, rfl, w⟩
    walk_at "gg"
    exact q acc p _ w
def t_parts_of (K : PySem.W.Frag) (ad : String → Addr) : TS := (tSeq (tAsg (tLst tNil) (gName 1)) (tSeq (tAsg (tLst (tCons (tVar 0) tNil)) (gName 2)) (tSeq (tWhile (tTest (tOp rGtA (tCB (rLenA K) (tCons (tVar 2) tNil)) (tC (.int 0)))) (tSeq (tAsg (tBM0 K "list" rPop (tVar 2)) (gName 3)) (tSeq (tDrop (tBM K "list" rAppend (tVar 1) (tCons (tVar 3) tNil))) (tDrop (tBM K "list" rExtend (tVar 2) (tCons (tListRev K (tCall (sp_within_of K ad) [] E0 (tCons (tVar 3) tNil))) tNil)))))) (tRet (tVar 1)))))
def sp_parts_of (K : PySem.W.Frag) (ad : String → Addr) : Sp := fun vs H Q _ => ∃ (e : Ex) (v : V) (M : Cells → Prop) (Γ : List Kn) (L : Cells), vs = [v] ∧ e.size ≤ 10000 ∧ WR M (e.At v :: Γ) L H ∧
  ∀ xs p H', WR M (Ex.Ats e.all xs :: e.At v :: Γ) ((p, .lst xs) :: L) H' → Q (.ref p) H'
theorem ln_parts_of {K : PySem.W.Frag} {ad : String → Addr} : ∀ vs H Q E, sp_parts_of K ad vs H Q E → vs.length = 1 := by
  rintro vs H Q E ⟨e, v, M, Γ, L, rfl, _⟩
  rfl
theorem all_few : ∀ es : List Ex, es.length ≤ (es.flatMap Ex.all).length
  | [] => Nat.le_refl _
  | x :: es => by
    have := all_few es
    have h2 := Ex.all_len x
    have h3 := Ex.size_pos x
    rw [List.flatMap_cons, List.length_append, List.length_cons]
    omega
theorem rd_parts_of {K : PySem.W.Frag} {ad : String → Addr} (N : List Str) (hN : N.length = 4) : ∀ vs H Q E, sp_parts_of K ad vs H Q E → t_parts_of K ad { nx := fun _ H' => Q .non H', rt := Q } (L2.start N vs) H := by
  rintro vs H Q E ⟨e, v, M, Γ, L, rfl, hs, w, q⟩
  rw [st_of hN]
  show t_parts_of K ad _ [some v, none, none, none] H
  unfold t_parts_of
  walk_at "gg"
  refine ⟨Nat.zero_le _, fun p1 np => ?_⟩
  have w := w.new (.lst []) np
  walk_at "gg"
  refine ⟨sz (show 1 ≤ 1000000 by decide), fun p2 np => ?_⟩
  have w := w.new (.lst [v]) np
  walk_at "gg"
  refine l_while (fun m σ H => ∃ y es ws ds acc, σ = [some v, some (.ref p1), some (.ref p2), y] ∧ ds ++ es.reverse.flatMap Ex.all = e.all ∧ m = (es.map Ex.size).sum ∧ WR M (Ex.Ats ds acc :: Ex.Ats es ws :: e.At v :: Γ) ((p2, .lst ws) :: (p1, .lst acc) :: L) H)
    (fun σ H => ∃ y acc, σ = [some v, some (.ref p1), some (.ref p2), y] ∧ WR M (Ex.Ats e.all acc :: e.At v :: Γ) ((p1, .lst acc) :: L) H) ⟨_, _, [e], [v], [], [], rfl, by simp, rfl, (w.more (Ex.Ats [e] [v]) fun G hG => Ex.Ats.one (hG _ (.head _))).more _ fun G hG => rfl⟩ ?_ ?_
  · rintro X hX m σ H ⟨y, es, ws, ds, acc, rfl, he, rfl, w⟩
    walk_at "gg"
    refine g_lenL (sqL (w.cell (.head _))) ?_
    walk_at "gg"
    have hl := (w.get (.tail _ (.head _))).len
    have hl2 := (w.get (.head _)).len
    have hsum : ds.length + (es.reverse.flatMap Ex.all).length = e.size := by
      rw [← List.length_append, he, Ex.all_len]
    have hfew := all_few es.reverse
    rw [List.length_reverse] at hfew
    refine g_iteD (fun h => ?_) (fun h => ?_)
    · refine g_turn ?_
      obtain ⟨es', x, rfl⟩ : ∃ es' x, es = es' ++ [x] := by
        refine ⟨es.dropLast, es.getLast ?_, (List.dropLast_concat_getLast _).symm⟩
        rintro rfl
        have : ws.length = 0 := hl
        omega
      obtain ⟨ws', u, rfl⟩ : ∃ ws' u, ws = ws' ++ [u] := by
        refine ⟨ws.dropLast, ws.getLast ?_, (List.dropLast_concat_getLast _).symm⟩
        rintro rfl
        simp at hl
      have hl3 : ws'.length = es'.length := by simpa using hl
      walk_at "gg"
      refine ⟨g_tyL (sqL (w.cell (.head _))), ?_⟩
      refine g_pop (w.cell (.head _)) (y := u) (by simp) ?_
      have w := w.put0 (.lst (ws' ++ [u]).dropLast)
      rw [show (ws' ++ [u]).dropLast = ws' by simp] at w ⊢
      walk_at "gg"
      refine ⟨g_tyL (sqL (w.cell (.tail _ (.head _)))), ?_⟩
      walk_at "gg"
      refine g_app (w.cell (.tail _ (.head _))) (szl (by omega)) ?_
      have w := w.put1 (.lst (acc ++ [u]))
      walk_at "gg"
      refine ⟨g_tyL (sqL (w.cell (.head _))), ?_⟩
      walk_at "gg"
      have w := w.more (x.At u) fun G hG => Ex.At.one (((hG _ (.tail _ (.head _))).cut hl3).2)
      refine ⟨x, u, M, _, _, rfl, w, fun ks p3 H w => ?_⟩
      refine ⟨p3, ks, rfl, sqL (w.get (.head _)), fun p4 np => ?_⟩
      have hk := (w.get (.tail _ (.head _))).len
      have hk3 := x.kids_few
      have w := w.new (.lst ks.reverse) np
      walk_at "gg"
      refine g_ext (w.cell (.tail _ (.head _))) (w.cell (.head _)) (sz (by have e4 : (es' ++ [x]).length = es'.length + 1 := (by simp); rw [List.length_reverse]; omega)) ?_
      have w := (w.put1 (.lst (ws' ++ ks.reverse))).drop1
      walk_at "gg"
      refine ⟨_, ?_, _, es' ++ x.kids.reverse, ws' ++ ks.reverse, ds ++ [x], acc ++ [u], rfl, ?_, rfl, ?_⟩
      · have h1 := Ex.size_kids x
        simp only [List.map_append, List.sum_append, List.map_reverse, List.sum_reverse, List.map_cons, List.map_nil, List.sum_cons, List.sum_nil]
        omega
      · rw [← he]
        simp [Ex.all_kids x]
      · refine ((w.more (Ex.Ats (es' ++ x.kids.reverse) (ws' ++ ks.reverse)) fun G hG => ?_).more (Ex.Ats (ds ++ [x]) (acc ++ [u])) fun G hG => ?_).sub fun k hk => ?_
        · exact (((hG _ (.tail _ (.tail _ (.tail _ (.tail _ (.head _)))))).cut hl3).1).app (hG _ (.tail _ (.head _))).rev
        · exact (hG _ (.tail _ (.tail _ (.tail _ (.tail _ (.head _)))))).app (Ex.Ats.one (hG _ (.tail _ (.tail _ (.tail _ (.head _))))))
        · rcases hk with _ | ⟨_, _ | ⟨_, hk⟩⟩
          · exact .head _
          · exact .tail _ (.head _)
          · exact .tail _ (.tail _ (.tail _ (.tail _ (.tail _ (.tail _ (.tail _ hk))))))
    · obtain rfl : es = [] := by
        cases es with
        | nil => rfl
        | cons x es =>
          have : ws.length = es.length + 1 := hl
          omega
      obtain rfl : ds = e.all := by simpa using he
      refine hX _ _ ⟨_, acc, rfl, w.drop1.sub fun k hk => ?_⟩
      rcases hk with _ | ⟨_, hk⟩
      · exact .head _
      · exact .tail _ (.tail _ hk)
  · rintro σ H ⟨y, acc, rfl, w⟩
    walk_at "gg"
    exact q acc p1 _ w
def nm : Ex → Option Str
  | .name z => some z
  | _ => none
/-- each once, as they first stand -/
def nub (zs : List Str) : List Str := zs.foldl (fun acc z => if z ∈ acc then acc else acc ++ [z]) []
theorem nub_snoc (zs : List Str) (z : Str) : nub (zs ++ [z]) = if z ∈ nub zs then nub zs else nub zs ++ [z] := by
  unfold nub
  rw [List.foldl_append]
  rfl
theorem mem_fold : ∀ (zs acc : List Str) (x : Str), x ∈ zs.foldl (fun acc z => if z ∈ acc then acc else acc ++ [z]) acc ↔ x ∈ acc ∨ x ∈ zs
  | [], acc, x => by simp
  | z :: zs, acc, x => by
    rw [List.foldl_cons, mem_fold zs]
    by_cases h : z ∈ acc
    · rw [if_pos h]
      constructor
      · rintro (h1 | h1)
        · exact .inl h1
        · exact .inr (.tail _ h1)
      · rintro (h1 | h1)
        · exact .inl h1
        · rcases List.mem_cons.mp h1 with rfl | h1
          · exact .inl h
          · exact .inr h1
    · rw [if_neg h]
      constructor
      · rintro (h1 | h1)
        · rcases List.mem_append.mp h1 with h1 | h1
          · exact .inl h1
          · exact .inr (by rw [List.mem_singleton.mp h1]; exact .head _)
        · exact .inr (.tail _ h1)
      · rintro (h1 | h1)
        · exact .inl (List.mem_append_left _ h1)
        · rcases List.mem_cons.mp h1 with rfl | h1
          · exact .inl (List.mem_append_right _ (.head _))
          · exact .inr h1
theorem mem_nub (zs : List Str) (x : Str) : x ∈ nub zs ↔ x ∈ zs := by
  unfold nub
  rw [mem_fold]
  simp
theorem nub_len_le : ∀ (zs acc : List Str), (zs.foldl (fun acc z => if z ∈ acc then acc else acc ++ [z]) acc).length ≤ acc.length + zs.length
  | [], acc => by simp
  | z :: zs, acc => by
    rw [List.foldl_cons]
    refine Nat.le_trans (nub_len_le zs _) ?_
    split
    · rw [List.length_cons]; omega
    · rw [List.length_append, List.length_cons, List.length_cons, List.length_nil]; omega
theorem nub_len (zs : List Str) : (nub zs).length ≤ zs.length := by
  have := nub_len_le zs []
  rw [List.length_nil, Nat.zero_add] at this
  exact this
theorem putK_keys {α : Type} [DecidableEq α] (kvs : List (α × V)) (k : α) (v : V) : (putK kvs k v).map (·.1) = if k ∈ kvs.map (·.1) then kvs.map (·.1) else kvs.map (·.1) ++ [k] := by
  unfold putK
  have e : (kvs.any fun kv => decide (kv.1 = k)) = decide (k ∈ kvs.map (·.1)) := by
    rw [Bool.eq_iff_iff]
    simp only [List.any_eq_true, decide_eq_true_eq, List.mem_map]
  rw [e]
  by_cases h : k ∈ kvs.map (·.1)
  · rw [if_pos (decide_eq_true h), if_pos h, List.map_map]
    refine List.map_congr_left fun x hx => ?_
    show (if x.1 = k then (x.1, v) else x).1 = x.1
    split <;> rfl
  · rw [if_neg (by simpa using h), if_neg h, List.map_append]
    rfl
def t_names_of (K : PySem.W.Frag) (ad : String → Addr) : TS := (tSeq (tAsg (tDc (iSeq K (tCall (sp_parts_of K ad) [] E0 (tCons (tVar 0) tNil))) (gName 2) (tTest (tOp (rEqA K) (tOp (rIxA K) (tVar 2) (tC (.int 0))) (tC (.str "name")))) (tOp (rIxA K) (tVar 2) (tC (.int 1))) (tC (.bl true)) [2]) (gName 1)) (tRet (tCB (rTupOf K) (tCons (tCB (rListA K) (tCons (tVar 1) tNil)) tNil))))
def sp_names_of (K : PySem.W.Frag) (ad : String → Addr) : Sp := fun vs H Q _ => ∃ (e : Ex) (v : V) (M : Cells → Prop) (Γ : List Kn) (L : Cells), vs = [v] ∧ e.size ≤ 10000 ∧ WR M (e.At v :: Γ) L H ∧
  ∀ p H', WR M ((fun G => G p = some (.tup ((nub (e.all.filterMap nm)).map V.str))) :: e.At v :: Γ) L H' → Q (.ref p) H'
theorem ln_names_of {K : PySem.W.Frag} {ad : String → Addr} : ∀ vs H Q E, sp_names_of K ad vs H Q E → vs.length = 1 := by
  rintro vs H Q E ⟨e, v, M, Γ, L, rfl, _⟩
  rfl
theorem rd_names_of {K : PySem.W.Frag} {ad : String → Addr} (N : List Str) (hN : N.length = 3) : ∀ vs H Q E, sp_names_of K ad vs H Q E → t_names_of K ad { nx := fun _ H' => Q .non H', rt := Q } (L2.start N vs) H := by
  rintro vs H Q E ⟨e, v, M, Γ, L, rfl, hs, w, q⟩
  rw [st_of hN]
  show t_names_of K ad _ [some v, none, none] H
  unfold t_names_of
  walk_at "g"
  walk_at "g"
  refine g_dc ?_
  walk_at "gg"
  refine ⟨e, v, M, Γ, L, rfl, hs, w, fun xs p H w => ?_⟩
  have w := w.fix
  refine g_inL (sqL (w.get (.head _))) ?_
  have hxl : xs.length = e.all.length := (w.get (.tail _ (.head _))).len
  have hxl2 := Ex.all_len e
  have small : ∀ i : Nat, (nub ((e.all.take i).filterMap nm)).length ≤ 10000 := fun i => by
    have h1 := nub_len ((e.all.take i).filterMap nm)
    have h2 := List.length_filterMap_le nm (e.all.take i)
    have h3 : (e.all.take i).length ≤ e.all.length := List.length_take_le' i e.all
    omega
  refine c_dc (walk_list (xs := xs)) w (fun i acc _ => acc.map (·.1) = (nub ((e.all.take i).filterMap nm)).map (Sum.inr (α := Int))) (fun _ => rfl) ?_ ?_ ?_ ?_
  · intro i acc G hi h
    have h2 := congrArg List.length h
    rw [List.length_map, List.length_map] at h2
    exact szl (by have := small i; omega)
  · intro i acc D H hi w
    exact sqL (w.get (.tail _ (.head _)))
  · rintro i x D acc H H' N N0 hi w ⟨rfl, hx⟩ k k0
    obtain ⟨y, hy, _⟩ := (w.get (.tail _ (.tail _ (.head _)))).get hx
    have hacc := w.get (.head _)
    have w1 := w.more (y.At x) fun G hG => by
      obtain ⟨y', hy', h⟩ := (hG _ (.tail _ (.tail _ (.head _)))).get hx
      rw [hy] at hy'
      cases hy'
      exact h
    obtain ⟨t, us, rfl, w2⟩ := Ex.opened w1 (.head _)
    have hus := w2.get (.tail _ (.head _))
    have ht : (e.all.take (i + 1)).filterMap nm = (e.all.take i).filterMap nm ++ (nm y).toList := by
      rw [List.take_add_one, hy, List.filterMap_append]
      cases y <;> rfl
    walk_at "g"
    refine ⟨rfl, ?_⟩
    walk_at "gg"
    refine g_ixT (n := 0) (v := .str y.word) (sqT (w2.get (.head _))) at0 ?_
    walk_at "gg"
    have no : nm y = none → N0 H' := fun e0 => by
      refine k0 _ (w.more _ fun G _ => ?_)
      rw [ht, e0, Option.toList_none, List.append_nil]
      exact hacc
    cases y with
    | name z =>
      rw [show decide (Ex.word (.name z) = "name") = true from decide_eq_true (by simp only [Ex.word])]
      walk_at "gg"
      refine g_ixT (n := 1) (v := .str z) (sqT (w2.get (.head _))) at1 ?_
      walk_at "gg"
      refine k (.inr z) _ _ (w.more _ fun G _ => ?_)
      rw [ht, putK_keys, hacc]
      show _ = (nub ((e.all.take i).filterMap nm ++ [z])).map _
      rw [nub_snoc]
      by_cases hz : z ∈ nub ((e.all.take i).filterMap nm)
      · rw [if_pos hz, if_pos (List.mem_map_of_mem hz)]
      · rw [if_neg hz, if_neg (fun h => hz (by
          obtain ⟨a, ha, e2⟩ := List.mem_map.mp h
          cases e2
          exact ha)), List.map_append]
        rfl
    | num n =>
      rw [show decide (Ex.word (.num n) = "name") = false from decide_eq_false (by simp only [Ex.word]; decide +kernel)]
      walk_at "gg"
      exact no rfl
    | neg a =>
      rw [show decide (Ex.word (.neg a) = "name") = false from decide_eq_false (by simp only [Ex.word]; decide +kernel)]
      walk_at "gg"
      exact no rfl
    | op s a b =>
      rw [show decide (Ex.word (.op s a b) = "name") = false from decide_eq_false (by simp only [Ex.word]; decide +kernel)]
      walk_at "gg"
      exact no rfl
    | cond a b c =>
      rw [show decide (Ex.word (.cond a b c) = "name") = false from decide_eq_false (by simp only [Ex.word]; decide +kernel)]
      walk_at "gg"
      exact no rfl
  · intro D acc H w
    have hacc := w.get (.head _)
    rw [hxl, List.take_length] at hacc
    walk_at "gg"
    refine g_listD (w.cell (.head _)) fun p2 np => ?_
    have e2 : (acc.map fun kv => kV kv.1) = (nub (e.all.filterMap nm)).map V.str := by
      rw [show (acc.map fun kv => kV kv.1) = (acc.map (·.1)).map kV by rw [List.map_map]; rfl, hacc, List.map_map]
      rfl
    rw [e2]
    have w := w.drop1.know (.lst ((nub (e.all.filterMap nm)).map V.str)) np
    walk_at "gg"
    refine g_tupL (sqL (w.get (.head _))) fun p3 np => ?_
    have w := w.know (.tup ((nub (e.all.filterMap nm)).map V.str)) np
    refine q p3 _ (w.sub fun k hk => ?_)
    rcases hk with _ | ⟨_, hk⟩
    · exact .head _
    · exact .tail _ (.tail _ (.tail _ (.tail _ (.tail _ hk))))
end Ct
namespace Ct
open PySem PySem.Spec PyProof.Rows L2
local macro_rules | `(tactic| walk_at "g") => `(tactic| first
  | with_reducible refine g_seq ?_
  | with_reducible refine g_set ?_
  | with_reducible refine g_asg ?_
  | with_reducible refine g_sub ?_
  | with_reducible refine g_name ?_
  | with_reducible refine g_ret ?_
  | with_reducible refine g_if ?_
  | ((with_reducible refine' g_var ?gh ?_); (case gh => rfl))
  | with_reducible refine g_c ?_
  | with_reducible refine g_op ?_
  | with_reducible refine g_test ?_
  | with_reducible refine g_bl ?_
  | with_reducible refine g_int ?_
  | with_reducible refine g_cons ?_
  | with_reducible refine g_nil ?_
  | with_reducible refine g_call ?_
  | with_reducible refine g_cb ?_
  | with_reducible refine g_and ?_
  | with_reducible refine g_or ?_
  | with_reducible refine g_not ?_
  | with_reducible refine g_B ?_
  | with_reducible refine g_un ?_
  | with_reducible refine g_neg ?_
  | with_reducible refine g_chain ?_
  | with_reducible refine g_drop ?_
  | with_reducible refine g_par ?_
  | with_reducible refine g_par3 ?_
  | with_reducible refine g_tup ?_
  | with_reducible refine g_lst ?_
  | with_reducible refine g_sl ?_
  | with_reducible refine g_nop ?_
  | with_reducible refine g_part ?_
  | with_reducible refine g_bm0 ?_
  | with_reducible refine g_bm ?_
  | with_reducible refine g_m0 ?_
  | with_reducible refine g_m1 ?_
  | with_reducible refine g_lrev ?_
  | with_reducible refine g_ifE ?_
  | with_reducible refine g_andV ?_
  | with_reducible refine g_orV ?_
  | with_reducible refine g_notV ?_
  | with_reducible refine g_addI ?_
  | with_reducible refine g_subI ?_
  | with_reducible refine g_eqI ?_
  | with_reducible refine g_neI ?_
  | with_reducible refine g_eqS ?_
  | with_reducible refine g_neS ?_
  | with_reducible refine g_eqB ?_
  | with_reducible refine g_neB ?_
  | with_reducible refine g_ltI ?_
  | with_reducible refine g_gtI ?_
  | with_reducible refine g_leI ?_
  | with_reducible refine g_geI ?_
  | with_reducible refine g_inS ?_
  | with_reducible refine g_niS ?_
  | with_reducible refine g_max ?_
  | with_reducible refine g_min ?_
  | with_reducible refine g_abs ?_
  | with_reducible refine g_isN ?_
  | with_reducible refine g_notN ?_
  | with_reducible refine g_isB ?_
  | with_reducible refine g_notB ?_
  | with_reducible refine g_intB ?_
  | with_reducible refine g_intI ?_
  | with_reducible refine g_lc ?_
  | with_reducible refine g_for ?_
  | with_reducible refine g_seqI ?_
  | with_reducible refine g_inStr ?_
  | with_reducible refine g_rng ?_
  | with_reducible refine g_yes ?_
  | with_reducible refine g_pairs ?_
  | with_reducible refine g_pairs0 ?_
  | with_reducible refine iteT ?_
  | with_reducible refine iteF ?_
  | with_reducible refine g_nF ?_
  | with_reducible refine g_nT ?_
  | with_reducible refine g_gcons ?_
  | with_reducible refine g_gnil ?_
  | with_reducible refine g_next ?_
  | with_reducible refine g_callN ?_
  | with_reducible refine g_callNS ?_
  | with_reducible refine g_callS ?_
  | ((with_reducible refine' g_mulI ?gh ?_); (case gh => first | exact .inl (.inl ⟨by omega, by omega⟩) | exact .inl (.inr ⟨by omega, by omega⟩)))
  | ((with_reducible refine' g_modI ?gh ?_); (case gh => omega)))
local macro_rules | `(tactic| walk_at "gg") => `(tactic| (repeat walk_at "g"))
theorem cut_hd {z : Str} {k : Int} (h0 : 0 ≤ k) (h1 : k ≤ z.length) : (cutS z none (some k)).length = k.toNat := by
  obtain ⟨j, rfl⟩ : ∃ j : Nat, k = (j : Int) := ⟨k.toNat, by omega⟩
  unfold cutS
  show ((((z.cps.toList.drop (HT.sIx z.length 0 none)).take (HT.sIx z.length z.length (some (j : Int)) - HT.sIx z.length 0 none)).toArray)).size = _
  rw [HT.sIx_nat, HT.sIx_none, List.size_toArray, List.length_take, List.length_drop, len_list]
  omega
theorem cut_tl {z : Str} {k : Int} (h0 : 0 ≤ k) (h1 : k ≤ z.length) : (cutS z (some k) none).length = z.length - k.toNat := by
  obtain ⟨j, rfl⟩ : ∃ j : Nat, k = (j : Int) := ⟨k.toNat, by omega⟩
  unfold cutS
  show ((((z.cps.toList.drop (HT.sIx z.length 0 (some (j : Int)))).take (HT.sIx z.length z.length none - HT.sIx z.length 0 (some (j : Int)))).toArray)).size = _
  rw [HT.sIx_nat, HT.sIx_none, List.size_toArray, List.length_take, List.length_drop, len_list]
  omega
theorem tx_len {n m : Nat} {z : Str} (h : TX n z) (l : z.length ≤ m) : TX m z := ⟨l, h.2⟩
abbrev oddW : List Str := ["num", "op", "name", "slot", "field", "row", "put", "take", "change", "back", "begin", "branch", "none", "key"]
theorem odd_split : Txt.split "num op name slot field row put take change back begin branch none key" " " = oddW := by decide +kernel
theorem odd_tx : ∀ z ∈ oddW, TX 6 z := tx_lits (by decide +kernel)
def sp_law_words (K : PySem.W.Frag) (ad : String → Addr) : Sp := fun vs H Q _ => ∃ (d l : Addr) (m : Int) (Γ : List Kn) (L : Cells), vs = [.ref d, .int m] ∧ 14 ≤ m ∧ m ≤ 104 ∧ WR (dealM d l) Γ L H ∧
  ∀ (zs : List Str) p H', zs.length = m.toNat → (∀ z ∈ zs, TX 6 z) → WR (dealM d l) ((fun G => G p = some (.lst (zs.map V.str))) :: Γ) L H' → Q (.ref p) H'
theorem ln_law_words {K : PySem.W.Frag} {ad : String → Addr} : ∀ vs H Q E, sp_law_words K ad vs H Q E → vs.length = 2 := by
  rintro vs H Q E ⟨d, l, m, Γ, L, rfl, _⟩
  rfl
def t_law_words (K : PySem.W.Frag) (ad : String → Addr) : TS := (tSeq (tAsg (tC (.str "abcdefghijklmnopqrstuvwxyz")) (gName 2)) (tSeq (tAsg (tM1 (rJoin K) (tC (.str "")) (tLc (iRng1 (tCons (tCall (sp_law_draw K ad) [] E0 (tCons (tVar 0) (tCons (tC (.int 4)) tNil))) tNil)) (gName 3) tYes (tOp (rIxA K) (tVar 2) (tCall (sp_law_draw K ad) [] E0 (tCons (tVar 0) (tCons (tC (.int 26)) tNil)))) [3])) (gName 4)) (tSeq (tPar 5 6 (tCons (tCall (sp_law_draw K ad) [] E0 (tCons (tVar 0) (tCons (tOp (rAddA K) (tCB (rLenA K) (tCons (tVar 4) tNil)) (tC (.int 1))) tNil))) (tCons (tCall (sp_law_draw K ad) [] E0 (tCons (tVar 0) (tCons (tC (.int 26)) tNil))) tNil))) (tSeq (tAsg (tLst tNil) (gName 7)) (tSeq (tFor (iRng1 (tCons (tVar 1) tNil)) (gName 3) (tSeq (tAsg (tOp (rAddA K) (tOp (rIxA K) (tVar 2) (tOp (rI (fun _ j => j ≠ 0) fun i j => .int (i.fmod j)) (tOp (rAddA K) (tVar 6) (tVar 3)) (tC (.int 26)))) (tOp (rIxA K) (tC (.str "qxzj")) (tOp (rI CDivA fun i j => .int (i.fdiv j)) (tVar 3) (tC (.int 26))))) (gName 8)) (tDrop (tBM K "list" rAppend (tVar 7) (tCons (tOp (rAddA K) (tOp (rAddA K) (tOp (rAddA K) (tSl (rSlAny K) (tVar 4) tNoPart (tPart (tVar 5))) (tVar 8)) (tSl (rSlAny K) (tVar 4) (tPart (tVar 5)) tNoPart)) (tOp (rMulA K) (tC (.str "z")) (tOp (rI (fun _ j => j ≠ 0) fun i j => .int (i.fmod j)) (tVar 3) (tC (.int 2))))) tNil))))) (tSeq (tAsg (tCall (sp_law_draw K ad) [] E0 (tCons (tVar 0) (tCons (tC (.int 6)) tNil))) (gName 9)) (C8.tCut (tIfS (tTest (tOp (rEqA K) (tVar 9) (tC (.int 0)))) (tAsg (tM1 rSplit (tC (.str "num op name slot field row put take change back begin branch none key")) (tC (.str " "))) (gCut (tVar 7) tNoPart (tPart (tC (.int 14))))) tNext) (C8.tCut (tIfS (tTest (tOp (rEqA K) (tVar 9) (tC (.int 1)))) (tSeq (tAsg (tOp (rAddA K) (tC (.str "j")) (tM1 (rJoin K) (tC (.str "")) (tLc (iRng1 (tCons (tC (.int 5)) tNil)) (gName 3) tYes (tOp (rIxA K) (tVar 2) (tCall (sp_law_draw K ad) [] E0 (tCons (tVar 0) (tCons (tC (.int 9)) tNil)))) [3]))) (gName 10)) (tAsg (tLc (iRng1 (tCons (tC (.int 6)) tNil)) (gName 3) tYes (tSl (rSlAny K) (tVar 10) tNoPart (tPart (tOp (rAddA K) (tVar 3) (tC (.int 1))))) [3]) (gCut (tVar 7) (tPart (tC (.int 6))) (tPart (tC (.int 12)))))) tNext) (tRet (tVar 7))))))))))
theorem rd_law_words {K : PySem.W.Frag} {ad : String → Addr} (N : List Str) (hN : N.length = 11) : ∀ vs H Q E, sp_law_words K ad vs H Q E → t_law_words K ad { nx := fun _ H' => Q .non H', rt := Q } (L2.start N vs) H := by
  rintro vs H Q E ⟨d, l, m, Γ, L, rfl, m0, m1, w, q⟩
  rw [st_of hN]
  show t_law_words K ad _ [some (.ref d), some (.int m), none, none, none, none, none, none, none, none, none] H
  unfold t_law_words
  have t0 : TX 0 ("" : Str) := tx_lit (by decide +kernel)
  have tz1 : TX 1 ("z" : Str) := tx_lit (by decide +kernel)
  have tj1 : TX 1 ("j" : Str) := tx_lit (by decide +kernel)
  walk_at "gg"
  refine ⟨⟨_, rfl⟩, ?_⟩
  walk_at "gg"
  refine ⟨d, l, 4, _, _, rfl, by decide, by decide, w, fun r H r0 r1 w => ?_⟩
  walk_at "gg"
  refine ⟨_, rfl, by omega, by omega, ?_⟩
  refine c_lc walk_range w (Rwords 1) (fun _ => ⟨[], rfl, rfl, by simp⟩) ?_ (fun _ _ _ _ _ _ => trivial) ?_ ?_
  · rintro i acc G hi ⟨ys, rfl, h, _⟩
    rw [List.length_map]
    exact szl (by omega)
  · rintro i x D acc H H' N N0 hi w ⟨rfl, rfl⟩ k k0
    walk_at "g"
    refine ⟨rfl, ?_⟩
    walk_at "gg"
    refine ⟨d, l, 26, _, _, rfl, by decide, by decide, w, fun r H r0 r1 w => ?_⟩
    obtain ⟨c, hc, hcm, _⟩ := at_in (l := lettersW.cps.toList) r0 (by rw [letters_len]; exact r1)
    refine g_ixS (z := lettersW) (by decide) hc ?_
    exact k _ _ (w.more _ fun G hG => (hG _ (.head _)).one (letters_tx.sign hcm))
  intro D acc H w
  obtain ⟨ys, rfl, hl, hy⟩ := w.get (.head _)
  have cD := w.cell (.head _)
  walk_at "gg"
  refine g_join (.inl (sqL cD)) (join_fits (m := 3) t0 hy (by omega) (by decide)) ?_
  have tz : TX 3 (Txt.join "" ys) := by simpa using (TX.join (m := 3) t0 hy (by omega))
  have w := w.drop1.tail
  generalize Txt.join "" ys = z at tz
  have hz := tz.1
  walk_at "gg"
  refine g_lenS (sz (by omega)) ?_
  walk_at "gg"
  refine ⟨d, l, _, _, _, rfl, by omega, by omega, w, fun s H s0 s1 w => ?_⟩
  walk_at "gg"
  refine ⟨d, l, 26, _, _, rfl, by decide, by decide, w, fun t H u0 u1 w => ?_⟩
  refine ⟨_, _, rfl, ?_⟩
  walk_at "gg"
  refine ⟨Nat.zero_le _, fun p np => ?_⟩
  have w := w.new (.lst []) np
  walk_at "gg"
  refine ⟨m, rfl, by omega, by omega, ?_⟩
  refine c_for walk_range (fun i σ H => ∃ (y3 y8 : Option V) (zs : List Str), σ = [some (.ref d), some (.int m), some (.str lettersW), y3, some (.str z), some (.int s), some (.int t), some (.ref p), y8, none, none] ∧ zs.length = i ∧ (∀ z ∈ zs, TX 6 z) ∧ WR (dealM d l) Γ ((p, .lst (zs.map V.str)) :: L) H)
    (fun σ H => ∃ (y3 y8 : Option V) (zs : List Str), σ = [some (.ref d), some (.int m), some (.str lettersW), y3, some (.str z), some (.int s), some (.int t), some (.ref p), y8, none, none] ∧ zs.length = m.toNat ∧ (∀ z ∈ zs, TX 6 z) ∧ WR (dealM d l) Γ ((p, .lst (zs.map V.str)) :: L) H)
    ⟨_, _, [], rfl, rfl, fun _ h => absurd h List.not_mem_nil, w⟩ (fun _ _ _ _ _ => trivial) ?_ (fun σ H h => h) ?_
  · rintro X hX i x σ H H' hi ⟨y3, y8, zs, rfl, hzl, hzs, w⟩ ⟨rfl, rfl⟩
    have hi2 : i < 104 := by omega
    walk_at "gg"
    obtain ⟨c, hc, hcm, _⟩ := at_in (l := lettersW.cps.toList) (r := (t + (0 + (i : Nat))) % 26) (Int.emod_nonneg _ (by decide)) (by rw [letters_len]; exact Int.emod_lt_of_pos _ (by decide))
    refine g_ixS (z := lettersW) (by decide) hc ?_
    walk_at "gg"
    refine g_divI (cdiv_small (by decide) (by decide)) ?_
    rw [Int.fdiv_eq_ediv_of_nonneg _ (by decide)]
    have tq : TX 4 ("qxzj" : Str) := tx_lit (by decide +kernel)
    obtain ⟨c2, hc2, hcm2, _⟩ := at_in (l := ("qxzj" : Str).cps.toList) (r := (0 + (i : Nat)) / 26) (by omega) (by rw [show ("qxzj" : Str).cps.toList.length = 4 by decide +kernel]; omega)
    refine g_ixS (by decide) hc2 ?_
    have to2 := (letters_tx.sign hcm).app (tq.sign hcm2)
    refine g_addS (sz (by have h1 := (letters_tx.sign hcm).1; have h2 := (tq.sign hcm2).1; omega)) ?_
    generalize hown : (⟨#[c]⟩ : Str) ++ ⟨#[c2]⟩ = own at to2
    walk_at "gg"
    refine ⟨g_tyL (sqL (w.cell (.head _))), ?_⟩
    walk_at "gg"
    refine g_slS (sz (by omega)) ?_
    have ta := (tz.cut none (some s)).app to2
    have la := cut_hd (z := z) s0 (by omega)
    have lo := to2.1
    walk_at "gg"
    refine g_addS ?_ ?_
    · exact sz (by omega)
    walk_at "gg"
    refine g_slS (sz (by omega)) ?_
    have tb := ta.app (tz.cut (some s) none)
    have lb := cut_tl (z := z) s0 (by omega)
    have e1 := len_app (cutS z none (some s)) own
    have e2 := len_app (cutS z none (some s) ++ own) (cutS z (some s) none)
    refine g_addS ?_ ?_
    · exact sz (by omega)
    walk_at "gg"
    have im : 0 ≤ (0 + ((i : Nat) : Int)) % 2 ∧ (0 + ((i : Nat) : Int)) % 2 ≤ 1 := by omega
    generalize (0 + ((i : Nat) : Int)) % 2 = im2 at im
    refine g_mulS (mul_ok tz1.1 (by decide) im.1 (by omega)) ?_
    have tm := tz1.mul (m := 1) (k := im2) (by omega)
    have tc := tb.app tm
    have lm := tm.1
    have e3 := len_app (cutS z none (some s) ++ own ++ cutS z (some s) none) (Txt.mul "z" im2)
    refine g_addS ?_ ?_
    · exact sz (by omega)
    walk_at "gg"
    refine g_app (w.cell (.head _)) (szl (by rw [List.length_map]; omega)) ?_
    have w := w.put0 (.lst (zs.map V.str ++ [.str (cutS z none (some s) ++ own ++ cutS z (some s) none ++ Txt.mul "z" im2)]))
    have t6 : TX 6 (cutS z none (some s) ++ own ++ cutS z (some s) none ++ Txt.mul "z" im2) := tx_len tc (by omega)
    generalize cutS z none (some s) ++ own ++ cutS z (some s) none ++ Txt.mul "z" im2 = zz at w t6
    refine ⟨_, _, zs ++ [zz], rfl, by rw [List.length_append, hzl]; rfl, fun x hx => ?_, by rw [List.map_append]; exact w⟩
    rcases List.mem_append.mp hx with hx | hx
    · exact hzs x hx
    · rw [List.mem_singleton.mp hx]
      exact t6
  · rintro σ H ⟨y3, y8, zs, rfl, hzl, hzs, w⟩
    walk_at "gg"
    refine ⟨d, l, 6, _, _, rfl, by decide, by decide, w, fun f H f0 f1 w => ?_⟩
    have inv : ∀ (Γ' : List Kn) (H' : Hp) (us : List Str), us.length = m.toNat → (∀ z ∈ us, TX 6 z) → WR (dealM d l) ((fun G => G p = some (.lst (us.map V.str))) :: Γ) L H' → Q (.ref p) H' := fun Γ' H' us h1 h2 w => q us p H' h1 h2 w
    walk_at "gg"
    refine g_cut (fun σ H => ∃ (y3 y8 : Option V) (zs : List Str), σ = [some (.ref d), some (.int m), some (.str lettersW), y3, some (.str z), some (.int s), some (.int t), some (.ref p), y8, some (.int f), none] ∧ zs.length = m.toNat ∧ (∀ z ∈ zs, TX 6 z) ∧ WR (dealM d l) Γ ((p, .lst (zs.map V.str)) :: L) H) ?_ ?_
    · walk_at "gg"
      refine g_iteD (fun e => ?_) (fun e => ?_)
      · walk_at "gg"
        refine ⟨⟨_, rfl⟩, ?_⟩
        walk_at "gg"
        refine g_split (by decide +kernel) (by decide +kernel) fun p2 np => ?_
        have hne := ne_of_none (w.cell (.head _)) np
        rw [odd_split]
        have w := w.new (.lst (oddW.map V.str)) np
        refine g_cutS ?_
        walk_at "gg"
        refine ⟨p, p2, zs.map V.str, oddW.map V.str, 0, 14, rfl, rfl, w.cell (.tail _ (.head _)), w.cell (.head _), hne, .inl ⟨rfl, rfl⟩, rfl, by decide, by rw [List.length_map]; omega, sz (by rw [List.length_map]; have : (oddW.map V.str).length = 14 := rfl; omega), ?_⟩
        have w := (w.put1 (.lst ((zs.map V.str).take 0 ++ oddW.map V.str ++ (zs.map V.str).drop 14))).drop1
        have e2 : (zs.map V.str).take 0 ++ oddW.map V.str ++ (zs.map V.str).drop 14 = (oddW ++ zs.drop 14).map V.str := by
          rw [List.take_zero, List.nil_append, List.map_append, List.map_drop]
        rw [e2] at w ⊢
        refine ⟨_, _, oddW ++ zs.drop 14, rfl, by rw [List.length_append, List.length_drop, hzl, show oddW.length = 14 from rfl]; omega, fun x hx => ?_, w⟩
        rcases List.mem_append.mp hx with hx | hx
        · exact odd_tx x hx
        · exact hzs x (List.mem_of_mem_drop hx)
      · walk_at "gg"
        exact ⟨_, _, zs, rfl, hzl, hzs, w⟩
    · rintro σ H ⟨y3, y8, zs, rfl, hzl, hzs, w⟩
      walk_at "gg"
      refine g_cut (fun σ H => ∃ (y3 y8 y10 : Option V) (zs : List Str), σ = [some (.ref d), some (.int m), some (.str lettersW), y3, some (.str z), some (.int s), some (.int t), some (.ref p), y8, some (.int f), y10] ∧ zs.length = m.toNat ∧ (∀ z ∈ zs, TX 6 z) ∧ WR (dealM d l) Γ ((p, .lst (zs.map V.str)) :: L) H) ?_ ?_
      · walk_at "gg"
        refine g_iteD (fun e => ?_) (fun e => ?_)
        · walk_at "gg"
          refine ⟨⟨_, rfl⟩, ?_⟩
          walk_at "gg"
          refine ⟨_, rfl, by decide, by decide, ?_⟩
          refine c_lc walk_range w (Rwords 1) (fun _ => ⟨[], rfl, rfl, by simp⟩) ?_ (fun _ _ _ _ _ _ => trivial) ?_ ?_
          · rintro i acc G hi ⟨ys, rfl, h, _⟩
            rw [List.length_map]
            exact szl (by omega)
          · rintro i x D acc H H' N N0 hi w ⟨rfl, rfl⟩ k k0
            walk_at "g"
            refine ⟨rfl, ?_⟩
            walk_at "gg"
            refine ⟨d, l, 9, _, _, rfl, by decide, by decide, w, fun r H r0 r1 w => ?_⟩
            obtain ⟨c, hc, hcm, _⟩ := at_in (l := lettersW.cps.toList) r0 (by rw [letters_len]; omega)
            refine g_ixS (z := lettersW) (by decide) hc ?_
            exact k _ _ (w.more _ fun G hG => (hG _ (.head _)).one (letters_tx.sign hcm))
          intro D acc H w
          obtain ⟨ys, rfl, hl, hy⟩ := w.get (.head _)
          walk_at "gg"
          have hl5 : ys.length ≤ 5 := by
            have : ys.length = 5 := hl
            omega
          refine g_join (.inl (sqL (w.cell (.head _)))) (join_fits (m := 5) t0 hy hl5 (by decide)) ?_
          have tc : TX 5 (Txt.join "" ys) := by simpa using (TX.join (m := 5) t0 hy hl5)
          have w := w.drop1.tail
          generalize Txt.join "" ys = c at tc
          have tjc := tj1.app tc
          refine g_addS ?_ ?_
          · have h1 := tj1.1
            have h2 := tc.1
            exact sz (by omega)
          generalize ("j" : Str) ++ c = ch at tjc
          walk_at "gg"
          refine ⟨_, rfl, by decide, by decide, ?_⟩
          refine c_lc walk_range w (Rwords 6) (fun _ => ⟨[], rfl, rfl, by simp⟩) ?_ (fun _ _ _ _ _ _ => trivial) ?_ ?_
          · rintro i acc G hi ⟨ys, rfl, h, _⟩
            rw [List.length_map]
            exact szl (by omega)
          · rintro i x D acc H H' N N0 hi w ⟨rfl, rfl⟩ k k0
            walk_at "g"
            refine ⟨rfl, ?_⟩
            walk_at "gg"
            refine g_slS (sz (by have := tjc.1; omega)) ?_
            exact k _ _ (w.more _ fun G hG => (hG _ (.head _)).one (tjc.cut _ _))
          intro D2 acc H w
          obtain ⟨us, rfl, hul, hu⟩ := w.get (.head _)
          have hul : us.length = 6 := hul
          have w := w.tail
          refine g_cutS ?_
          walk_at "gg"
          have hne : p ≠ D2 := by
            intro e3
            have h1 := w.cell (.head _)
            have h2 := w.cell (.tail _ (.head _))
            rw [e3, h1] at h2
            have h3 := congrArg (fun o : Option HO => match o with | some (.lst l) => l.length | _ => 0) h2
            simp only [List.length_map] at h3
            omega
          refine ⟨p, D2, zs.map V.str, us.map V.str, 6, 12, rfl, rfl, w.cell (.tail _ (.head _)), w.cell (.head _), hne, .inr rfl, rfl, by decide, by rw [List.length_map]; omega, sz (by rw [List.length_map, List.length_map]; omega), ?_⟩
          have w := (w.put1 (.lst ((zs.map V.str).take 6 ++ us.map V.str ++ (zs.map V.str).drop 12))).drop1
          have e2 : (zs.map V.str).take 6 ++ us.map V.str ++ (zs.map V.str).drop 12 = (zs.take 6 ++ us ++ zs.drop 12).map V.str := by
            rw [List.map_append, List.map_append, List.map_drop, List.map_take]
          rw [e2] at w ⊢
          refine ⟨_, _, _, zs.take 6 ++ us ++ zs.drop 12, rfl, by rw [List.length_append, List.length_append, List.length_drop, List.length_take, hzl, hul]; omega, fun x hx => ?_, w⟩
          rcases List.mem_append.mp hx with hx | hx
          · rcases List.mem_append.mp hx with hx | hx
            · exact hzs x (List.mem_of_mem_take hx)
            · exact hu x hx
          · exact hzs x (List.mem_of_mem_drop hx)
        · walk_at "gg"
          exact ⟨_, _, _, zs, rfl, hzl, hzs, w⟩
      · rintro σ H ⟨y3, y8, y10, zs, rfl, hzl, hzs, w⟩
        walk_at "gg"
        exact q zs p _ hzl hzs w.fix
end Ct
namespace Ct
open PySem PySem.Spec PyProof.Rows L2
local macro_rules | `(tactic| walk_at "g") => `(tactic| first
  | with_reducible refine g_seq ?_
  | with_reducible refine g_set ?_
  | with_reducible refine g_asg ?_
  | with_reducible refine g_sub ?_
  | with_reducible refine g_name ?_
  | with_reducible refine g_ret ?_
  | with_reducible refine g_if ?_
  | ((with_reducible refine' g_var ?gh ?_); (case gh => rfl))
  | with_reducible refine g_c ?_
  | with_reducible refine g_op ?_
  | with_reducible refine g_test ?_
  | with_reducible refine g_bl ?_
  | with_reducible refine g_int ?_
  | with_reducible refine g_cons ?_
  | with_reducible refine g_nil ?_
  | with_reducible refine g_call ?_
  | with_reducible refine g_cb ?_
  | with_reducible refine g_and ?_
  | with_reducible refine g_or ?_
  | with_reducible refine g_not ?_
  | with_reducible refine g_B ?_
  | with_reducible refine g_un ?_
  | with_reducible refine g_neg ?_
  | with_reducible refine g_chain ?_
  | with_reducible refine g_drop ?_
  | with_reducible refine g_par ?_
  | with_reducible refine g_par3 ?_
  | with_reducible refine g_tup ?_
  | with_reducible refine g_lst ?_
  | with_reducible refine g_sl ?_
  | with_reducible refine g_nop ?_
  | with_reducible refine g_part ?_
  | with_reducible refine g_bm0 ?_
  | with_reducible refine g_bm ?_
  | with_reducible refine g_m0 ?_
  | with_reducible refine g_m1 ?_
  | with_reducible refine g_lrev ?_
  | with_reducible refine g_ifE ?_
  | with_reducible refine g_andV ?_
  | with_reducible refine g_orV ?_
  | with_reducible refine g_notV ?_
  | with_reducible refine g_addI ?_
  | with_reducible refine g_subI ?_
  | with_reducible refine g_eqI ?_
  | with_reducible refine g_neI ?_
  | with_reducible refine g_eqS ?_
  | with_reducible refine g_neS ?_
  | with_reducible refine g_eqB ?_
  | with_reducible refine g_neB ?_
  | with_reducible refine g_ltI ?_
  | with_reducible refine g_gtI ?_
  | with_reducible refine g_leI ?_
  | with_reducible refine g_geI ?_
  | with_reducible refine g_inS ?_
  | with_reducible refine g_niS ?_
  | with_reducible refine g_max ?_
  | with_reducible refine g_min ?_
  | with_reducible refine g_abs ?_
  | with_reducible refine g_isN ?_
  | with_reducible refine g_notN ?_
  | with_reducible refine g_isB ?_
  | with_reducible refine g_notB ?_
  | with_reducible refine g_intB ?_
  | with_reducible refine g_intI ?_
  | with_reducible refine g_lc ?_
  | with_reducible refine g_for ?_
  | with_reducible refine g_seqI ?_
  | with_reducible refine g_inStr ?_
  | with_reducible refine g_rng ?_
  | with_reducible refine g_yes ?_
  | with_reducible refine g_pairs ?_
  | with_reducible refine g_pairs0 ?_
  | with_reducible refine iteT ?_
  | with_reducible refine iteF ?_
  | with_reducible refine g_nF ?_
  | with_reducible refine g_nT ?_
  | with_reducible refine g_gcons ?_
  | with_reducible refine g_gnil ?_
  | with_reducible refine g_next ?_
  | with_reducible refine g_callN ?_
  | with_reducible refine g_callNS ?_
  | with_reducible refine g_callS ?_
  | ((with_reducible refine' g_mulI ?gh ?_); (case gh => first | exact .inl (.inl ⟨by omega, by omega⟩) | exact .inl (.inr ⟨by omega, by omega⟩)))
  | ((with_reducible refine' g_modI ?gh ?_); (case gh => omega)))
local macro_rules | `(tactic| walk_at "gg") => `(tactic| (repeat walk_at "g"))
/-- all names among zs, all numbers below 1000 -/
def Ex.Of (zs : List Str) : Ex → Prop
  | .num n => 0 ≤ n ∧ n < 1000
  | .name z => z ∈ zs
  | .neg a => a.Of zs
  | .op s a b => TX 1 s ∧ a.Of zs ∧ b.Of zs
  | .cond a b c => a.Of zs ∧ b.Of zs ∧ c.Of zs
theorem Ex.Of.ok {zs : List Str} (hz : ∀ z ∈ zs, TX 6 z) : ∀ {e : Ex}, e.Of zs → e.Ok
  | .num n, h => h
  | .name z, h => hz z h
  | .neg a, h => Ex.Of.ok hz (e := a) h
  | .op s a b, h => ⟨h.1, Ex.Of.ok hz h.2.1, Ex.Of.ok hz h.2.2⟩
  | .cond a b c, h => ⟨Ex.Of.ok hz h.1, Ex.Of.ok hz h.2.1, Ex.Of.ok hz h.2.2⟩
abbrev lst (p : Addr) (zs : List Str) : Kn := fun G => G p = some (.lst (zs.map V.str))
/-- the list of names at p, a fact or a cell of one's own -/
def Has (p : Addr) (zs : List Str) (Γ : List Kn) (L : Cells) : Prop := lst p zs ∈ Γ ∨ (p, HO.lst (zs.map V.str)) ∈ L
theorem Has.at {M : Cells → Prop} {Γ : List Kn} {L : Cells} {H : Hp} {p : Addr} {zs : List Str} (h : Has p zs Γ L) (w : WR M Γ L H) : H p = some (.lst (zs.map V.str)) := by
  rcases h with h | h
  · exact w.get h
  · exact w.cell h
theorem Has.tail {Γ : List Kn} {L : Cells} {p : Addr} {zs : List Str} {k : Kn} (h : Has p zs Γ L) : Has p zs (k :: Γ) L := h.elim (fun h => .inl (.tail _ h)) .inr
theorem Has.push {Γ : List Kn} {L : Cells} {p : Addr} {zs : List Str} {c : Addr × HO} (h : Has p zs Γ L) : Has p zs Γ (c :: L) := h.elim .inl fun h => .inr (.tail _ h)
def sp_law_number (K : PySem.W.Frag) (ad : String → Addr) : Sp := fun vs H Q _ => ∃ (d l : Addr) (Γ : List Kn) (L : Cells), vs = [.ref d] ∧ WR (dealM d l) Γ L H ∧ ∀ m H', 0 ≤ m → m < 1000 → WR (dealM d l) Γ L H' → Q (.int m) H'
theorem ln_law_number {K : PySem.W.Frag} {ad : String → Addr} : ∀ vs H Q E, sp_law_number K ad vs H Q E → vs.length = 1 := by
  rintro vs H Q E ⟨d, l, Γ, L, rfl, _⟩
  rfl
def t_law_number (K : PySem.W.Frag) (ad : String → Addr) : TS := (tRet (tOp (rIxA K) (tLst (tCons (tCall (sp_law_draw K ad) [] E0 (tCons (tVar 0) (tCons (tC (.int 5)) tNil))) (tCons (tCall (sp_law_draw K ad) [] E0 (tCons (tVar 0) (tCons (tC (.int 3)) tNil))) (tCons (tOp (rI0 fun i j => .int (i - j)) (tC (.int 999)) (tCall (sp_law_draw K ad) [] E0 (tCons (tVar 0) (tCons (tC (.int 1000)) tNil)))) tNil)))) (tCB rMin2' (tCons (tC (.int 2)) (tCons (tOp (rI CDivA fun i j => .int (i.fdiv j)) (tCall (sp_law_draw K ad) [] E0 (tCons (tVar 0) (tCons (tC (.int 9)) tNil))) (tC (.int 4))) tNil)))))
theorem rd_law_number {K : PySem.W.Frag} {ad : String → Addr} (N : List Str) (hN : N.length = 1) : ∀ vs H Q E, sp_law_number K ad vs H Q E → t_law_number K ad { nx := fun _ H' => Q .non H', rt := Q } (L2.start N vs) H := by
  rintro vs H Q E ⟨d, l, Γ, L, rfl, w, q⟩
  rw [st_of hN]
  show t_law_number K ad _ [some (.ref d)] H
  unfold t_law_number
  walk_at "gg"
  refine ⟨d, l, 5, _, _, rfl, by decide, by decide, w, fun a H a0 a1 w => ?_⟩
  walk_at "gg"
  refine ⟨d, l, 3, _, _, rfl, by decide, by decide, w, fun b H b0 b1 w => ?_⟩
  walk_at "gg"
  refine ⟨d, l, 1000, _, _, rfl, by decide, by decide, w, fun c H c0 c1 w => ?_⟩
  walk_at "gg"
  refine ⟨sz (show 3 ≤ 1000000 by decide), fun p np => ?_⟩
  have w := w.know (.lst (([a, b, 999 - c] : List Int).map V.int)) np
  walk_at "gg"
  refine ⟨d, l, 9, _, _, rfl, by decide, by decide, w, fun r H r0 r1 w => ?_⟩
  walk_at "gg"
  refine g_divI (cdiv_small (by decide) (by decide)) ?_
  rw [Int.fdiv_eq_ediv_of_nonneg _ (by decide)]
  walk_at "gg"
  obtain ⟨v, hc, hcm, _⟩ := at_in (l := ([a, b, 999 - c] : List Int).map V.int) (r := if r / 4 < 2 then r / 4 else 2) (by split <;> omega) (by show _ < (3 : Int); split <;> omega)
  obtain ⟨m, hm, rfl⟩ := List.mem_map.mp hcm
  refine g_ixL (sqL (w.get (.head _))) hc ?_
  have hm2 : 0 ≤ m ∧ m < 1000 := by
    simp only [List.mem_cons, List.not_mem_nil, or_false] at hm
    omega
  exact q m H hm2.1 hm2.2 w.tail
/-- a drawn name of a list that isn't empty -/
theorem g_pick {K : PySem.W.Frag} {ad : String → Addr} {d l p : Addr} {i j : Nat} {σ : L2.St} {H : Hp} {Q : VK} {zs : List Str} {Γ : List Kn} {L : Cells} (hi : σ[i]? = some (some (.ref d))) (hj : σ[j]? = some (some (.ref p))) (hz : 0 < zs.length) (hl : zs.length ≤ 1000)
    (w : WR (dealM d l) Γ L H) (hp : Has p zs Γ L) (q : ∀ z H', z ∈ zs → WR (dealM d l) Γ L H' → Q (.str z) H') :
    tOp (rIxA K) (tVar j) (tCall (sp_law_draw K ad) [] E0 (tCons (tVar i) (tCons (tCB (rLenA K) (tCons (tVar j) tNil)) tNil))) σ H Q := by
  refine g_op ?_
  refine g_var hj ?_
  refine g_call ?_
  refine g_cons ?_
  refine g_var hi ?_
  refine g_cons ?_
  refine g_cb ?_
  refine g_cons ?_
  refine g_var hj ?_
  refine g_nil ?_
  refine g_lenL (sqL (hp.at w)) ?_
  refine g_nil ?_
  rw [List.length_map]
  refine ⟨d, l, _, _, _, rfl, by omega, by omega, w, fun r H r0 r1 w => ?_⟩
  obtain ⟨u, hc, hcm, _⟩ := at_in (l := zs.map V.str) r0 (by rw [List.length_map]; exact r1)
  obtain ⟨z, hz, rfl⟩ := List.mem_map.mp hcm
  exact g_ixL (sqL (hp.at w)) hc (q z H hz w)
/-- what such a def is promised and tells: an expression of these names -/
def sp_exp (K : PySem.W.Frag) (h : Nat) : Sp := fun vs H Q _ => ∃ (d l p : Addr) (zs : List Str) (Γ : List Kn) (L : Cells), vs = [.ref d, .ref p] ∧ zs.length ≤ 1000 ∧ Has p zs Γ L ∧ WR (dealM d l) Γ L H ∧
  ∀ (e : Ex) v H', e.Of zs → e.hgt ≤ h → WR (dealM d l) (e.At v :: Γ) L H' → Q v H'
def sp_law_expr (K : PySem.W.Frag) (ad : String → Addr) (n : Nat) : Sp := fun vs H Q _ => ∃ (d l p : Addr) (deep : Int) (zs : List Str) (Γ : List Kn) (L : Cells), vs = [.ref d, .ref p, .int deep] ∧ 0 ≤ deep ∧ deep < n ∧ zs.length ≤ 1000 ∧ Has p zs Γ L ∧ WR (dealM d l) Γ L H ∧
  ∀ (e : Ex) v H', e.Of zs → e.hgt ≤ deep.toNat + 1 → WR (dealM d l) (e.At v :: Γ) L H' → Q v H'
theorem z_law_expr {K : PySem.W.Frag} {ad : String → Addr} {vs : List V} {H : Hp} {Q : VK} {E : XK} (h : sp_law_expr K ad 0 vs H Q E) : False := by
  obtain ⟨d, l, p, deep, zs, Γ, L, rfl, h1, h2, _⟩ := h
  omega
theorem ln_law_expr {K : PySem.W.Frag} {ad : String → Addr} {n : Nat} : ∀ vs H Q E, sp_law_expr K ad n vs H Q E → vs.length = 3 := by
  rintro vs H Q E ⟨d, l, p, deep, zs, Γ, L, rfl, _⟩
  rfl
def t_law_expr (K : PySem.W.Frag) (ad : String → Addr) (n : Nat) : TS := (tSeq (tAsg (tCall (sp_law_draw K ad) [] E0 (tCons (tVar 0) (tCons (tC (.int 10)) tNil))) (gName 3)) (tSeq (tIfS (tOr (tTest (tOp (rEqA K) (tVar 2) (tC (.int 0)))) (tTest (tOp rLtA (tVar 3) (tC (.int 3))))) (tSeq (tIfS (tAnd (tTest (tOp rGtA (tCB (rLenA K) (tCons (tVar 1) tNil)) (tC (.int 0)))) (tTest (tOp rGtA (tCall (sp_law_draw K ad) [] E0 (tCons (tVar 0) (tCons (tC (.int 4)) tNil))) (tC (.int 0))))) (tRet (tTup (tCons (tC (.str "name")) (tCons (tOp (rIxA K) (tVar 1) (tCall (sp_law_draw K ad) [] E0 (tCons (tVar 0) (tCons (tCB (rLenA K) (tCons (tVar 1) tNil)) tNil)))) tNil)))) tNext) (tRet (tTup (tCons (tC (.str "num")) (tCons (tCall (sp_law_number K ad) [] E0 (tCons (tVar 0) tNil)) tNil))))) tNext) (tSeq (tPar 4 5 (tCons (tCall (sp_law_expr K ad n) [] E0 (tCons (tVar 0) (tCons (tVar 1) (tCons (tOp (rI0 fun i j => .int (i - j)) (tVar 2) (tC (.int 1))) tNil)))) (tCons (tCall (sp_law_expr K ad n) [] E0 (tCons (tVar 0) (tCons (tVar 1) (tCons (tOp (rI0 fun i j => .int (i - j)) (tVar 2) (tC (.int 1))) tNil)))) tNil))) (tSeq (tIfS (tTest (tOp (rEqA K) (tVar 3) (tC (.int 3)))) (tRet (tTup (tCons (tC (.str "not")) (tCons (tVar 4) tNil)))) tNext) (tSeq (tIfS (tTest (tOp (rEqA K) (tVar 3) (tC (.int 4)))) (tRet (tTup (tCons (tC (.str "if")) (tCons (tVar 4) (tCons (tVar 5) (tCons (tCall (sp_law_expr K ad n) [] E0 (tCons (tVar 0) (tCons (tVar 1) (tCons (tOp (rI0 fun i j => .int (i - j)) (tVar 2) (tC (.int 1))) tNil)))) tNil)))))) tNext) (tRet (tTup (tCons (tC (.str "op")) (tCons (tOp (rIxA K) (tC (.str "+-*<=&|<==")) (tCall (sp_law_draw K ad) [] E0 (tCons (tVar 0) (tCons (tC (.int 10)) tNil)))) (tCons (tVar 4) (tCons (tVar 5) tNil)))))))))))
theorem ops2_tx : TX 10 ("+-*<=&|<==" : Str) := tx_lit (by decide +kernel)
theorem ops2_len : ("+-*<=&|<==" : Str).cps.toList.length = 10 := by decide +kernel
theorem rd_law_expr {K : PySem.W.Frag} {ad : String → Addr} (n : Nat) (N : List Str) (hN : N.length = 6) : ∀ vs H Q E, sp_law_expr K ad (n + 1) vs H Q E → t_law_expr K ad n { nx := fun _ H' => Q .non H', rt := Q } (L2.start N vs) H := by
  rintro vs H Q E ⟨d, l, p, deep, zs, Γ, L, rfl, d0, d1, hzl, hp, w, q⟩
  rw [st_of hN]
  show t_law_expr K ad n _ [some (.ref d), some (.ref p), some (.int deep), none, none, none] H
  unfold t_law_expr
  walk_at "gg"
  refine ⟨d, l, 10, _, _, rfl, by decide, by decide, w, fun f H f0 f1 w => ?_⟩
  walk_at "gg"
  have leaf : ∀ H, WR (dealM d l) Γ L H → (tSeq (tIfS (tAnd (tTest (tOp rGtA (tCB (rLenA K) (tCons (tVar 1) tNil)) (tC (.int 0)))) (tTest (tOp rGtA (tCall (sp_law_draw K ad) [] E0 (tCons (tVar 0) (tCons (tC (.int 4)) tNil))) (tC (.int 0))))) (tRet (tTup (tCons (tC (.str "name")) (tCons (tOp (rIxA K) (tVar 1) (tCall (sp_law_draw K ad) [] E0 (tCons (tVar 0) (tCons (tCB (rLenA K) (tCons (tVar 1) tNil)) tNil)))) tNil)))) tNext) (tRet (tTup (tCons (tC (.str "num")) (tCons (tCall (sp_law_number K ad) [] E0 (tCons (tVar 0) tNil)) tNil))))) { nx := fun _ _ => False, rt := Q } [some (.ref d), some (.ref p), some (.int deep), some (.int f), none, none] H := by
    intro H w
    have num : ∀ H, WR (dealM d l) Γ L H → (tRet (tTup (tCons (tC (.str "num")) (tCons (tCall (sp_law_number K ad) [] E0 (tCons (tVar 0) tNil)) tNil)))) { nx := fun _ _ => False, rt := Q } [some (.ref d), some (.ref p), some (.int deep), some (.int f), none, none] H := by
      intro H w
      walk_at "gg"
      refine ⟨d, l, _, _, rfl, w, fun m H m0 m1 w => ?_⟩
      walk_at "gg"
      refine ⟨sz (show 2 ≤ 1000000 by decide), fun p2 np => ?_⟩
      have w := w.know (.tup [.str "num", .int m]) np
      exact q (.num m) _ _ ⟨m0, m1⟩ (Nat.le_add_left _ _) ((w.more (Ex.At (.num m) (.ref p2)) fun G hG => ⟨p2, rfl, hG _ (.head _)⟩).sub fun k hk => by
        rcases hk with _ | ⟨_, hk⟩
        · exact .head _
        · exact .tail _ (.tail _ hk))
    walk_at "gg"
    refine g_lenL (sqL (hp.at w)) ?_
    rw [List.length_map]
    walk_at "gg"
    refine g_iteD (fun e => ?_) (fun e => num H w)
    walk_at "gg"
    refine ⟨d, l, 4, _, _, rfl, by decide, by decide, w, fun r H r0 r1 w => ?_⟩
    walk_at "gg"
    refine g_iteD (fun e2 => ?_) (fun e2 => num H w)
    walk_at "g"
    walk_at "g"
    walk_at "g"
    walk_at "g"
    walk_at "g"
    refine g_pick rfl rfl (by omega) hzl w hp fun z H hz w => ?_
    walk_at "gg"
    refine ⟨sz (show 2 ≤ 1000000 by decide), fun p2 np => ?_⟩
    have w := w.know (.tup [.str "name", .str z]) np
    exact q (.name z) _ _ hz (Nat.le_add_left _ _) ((w.more (Ex.At (.name z) (.ref p2)) fun G hG => ⟨p2, rfl, hG _ (.head _)⟩).sub fun k hk => by
      rcases hk with _ | ⟨_, hk⟩
      · exact .head _
      · exact .tail _ (.tail _ hk))
  refine g_iteD (fun e1 => iteT (leaf H w)) (fun e1 => ?_)
  walk_at "gg"
  refine g_iteD (fun e2 => leaf H w) (fun e2 => ?_)
  clear leaf
  walk_at "gg"
  have dd : deep - 1 < (n : Int) := by omega
  refine ⟨d, l, p, deep - 1, zs, _, _, rfl, by omega, dd, hzl, hp, w, fun ea va H oka ha w => ?_⟩
  walk_at "gg"
  refine ⟨d, l, p, deep - 1, zs, _, _, rfl, by omega, dd, hzl, hp.tail, w, fun eb vb H okb hb w => ?_⟩
  refine ⟨_, _, rfl, ?_⟩
  walk_at "gg"
  refine g_iteD (fun e3 => ?_) (fun e3 => ?_)
  · walk_at "gg"
    refine ⟨sz (show 2 ≤ 1000000 by decide), fun p2 np => ?_⟩
    have w := w.know (.tup [.str "not", va]) np
    exact q (.neg ea) _ _ oka (by simp only [Ex.hgt]; omega) ((w.more (Ex.At (.neg ea) (.ref p2)) fun G hG => ⟨p2, va, rfl, hG _ (.head _), hG _ (.tail _ (.tail _ (.head _)))⟩).sub fun k hk => by
      rcases hk with _ | ⟨_, hk⟩
      · exact .head _
      · exact .tail _ (.tail _ (.tail _ (.tail _ hk))))
  walk_at "gg"
  refine g_iteD (fun e4 => ?_) (fun e4 => ?_)
  · walk_at "gg"
    refine ⟨d, l, p, deep - 1, zs, _, _, rfl, by omega, dd, hzl, hp.tail.tail, w, fun ec vc H okc hc w => ?_⟩
    walk_at "gg"
    refine ⟨sz (show 4 ≤ 1000000 by decide), fun p2 np => ?_⟩
    have w := w.know (.tup [.str "if", va, vb, vc]) np
    exact q (.cond ea eb ec) _ _ ⟨oka, okb, okc⟩ (by simp only [Ex.hgt]; omega) ((w.more (Ex.At (.cond ea eb ec) (.ref p2)) fun G hG => ⟨p2, va, vb, vc, rfl, hG _ (.head _), hG _ (.tail _ (.tail _ (.tail _ (.head _)))), hG _ (.tail _ (.tail _ (.head _))), hG _ (.tail _ (.head _))⟩).sub fun k hk => by
      rcases hk with _ | ⟨_, hk⟩
      · exact .head _
      · exact .tail _ (.tail _ (.tail _ (.tail _ (.tail _ hk)))))
  walk_at "gg"
  refine ⟨d, l, 10, _, _, rfl, by decide, by decide, w, fun r H r0 r1 w => ?_⟩
  obtain ⟨c, hc, hcm, _⟩ := at_in (l := ("+-*<=&|<==" : Str).cps.toList) r0 (by rw [ops2_len]; exact r1)
  refine g_ixS (by decide) hc ?_
  walk_at "gg"
  refine ⟨sz (show 4 ≤ 1000000 by decide), fun p2 np => ?_⟩
  have w := w.know (.tup [.str "op", .str ⟨#[c]⟩, va, vb]) np
  exact q (.op ⟨#[c]⟩ ea eb) _ _ ⟨ops2_tx.sign hcm, oka, okb⟩ (by simp only [Ex.hgt]; omega) ((w.more (Ex.At (.op ⟨#[c]⟩ ea eb) (.ref p2)) fun G hG => ⟨p2, va, vb, rfl, hG _ (.head _), hG _ (.tail _ (.tail _ (.head _))), hG _ (.tail _ (.head _))⟩).sub fun k hk => by
    rcases hk with _ | ⟨_, hk⟩
    · exact .head _
    · exact .tail _ (.tail _ (.tail _ (.tail _ hk))))
local macro_rules | `(tactic| walk_at "gx") => `(tactic| repeat (first
  | with_reducible refine g_seq ?_
  | with_reducible refine g_set ?_
  | with_reducible refine g_ret ?_
  | with_reducible refine g_cons ?_
  | with_reducible refine g_nil ?_
  | with_reducible refine g_c ?_
  | with_reducible refine g_tup ?_
  | with_reducible refine g_lst ?_))
theorem WR.node {M : Cells → Prop} {Γ : List Kn} {L : Cells} {H : Hp} {p : Addr} {xs : List V} {e : Ex} (w : WR M ((fun G => G p = some (.tup xs)) :: Γ) L H) (h : ∀ G, G p = some (.tup xs) → (∀ k ∈ Γ, k G) → e.At (.ref p) G) : WR M (e.At (.ref p) :: Γ) L H :=
  (w.more (e.At (.ref p)) fun G hG => h G (hG _ (.head _)) fun k hk => hG k (.tail _ hk)).sub fun k hk => by
    rcases hk with _ | ⟨_, hk⟩
    · exact .head _
    · exact .tail _ (.tail _ hk)
theorem WR.only {M : Cells → Prop} {Γ Γ' : List Kn} {L : Cells} {H : Hp} {k : Kn} (w : WR M Γ' L H) (h : k ∈ Γ') (hs : ∀ x ∈ Γ, x ∈ Γ') : WR M (k :: Γ) L H := w.sub fun x hx => by
  rcases hx with _ | ⟨_, hx⟩
  · exact h
  · exact hs x hx
abbrev sp_law_test (K : PySem.W.Frag) (ad : String → Addr) : Sp := sp_exp K 4
theorem ln_exp {K : PySem.W.Frag} {h : Nat} : ∀ vs H Q E, sp_exp K h vs H Q E → vs.length = 2 := by
  rintro vs H Q E ⟨d, l, p, zs, Γ, L, rfl, _⟩
  rfl
theorem ln_law_test {K : PySem.W.Frag} {ad : String → Addr} : ∀ vs H Q E, sp_law_test K ad vs H Q E → vs.length = 2 := ln_exp
def t_law_test (K : PySem.W.Frag) (ad : String → Addr) : TS := (tSeq (tIfS (tOr (tTest (tOp (rEqA K) (tCB (rLenA K) (tCons (tVar 1) tNil)) (tC (.int 0)))) (tTest (tOp (rEqA K) (tCall (sp_law_draw K ad) [] E0 (tCons (tVar 0) (tCons (tC (.int 5)) tNil))) (tC (.int 0))))) (tRet (tCall (sp_law_expr K ad 16) [] E0 (tCons (tVar 0) (tCons (tVar 1) (tCons (tC (.int 2)) tNil))))) tNext) (tSeq (tAsg (tTup (tCons (tC (.str "name")) (tCons (tOp (rIxA K) (tVar 1) (tCall (sp_law_draw K ad) [] E0 (tCons (tVar 0) (tCons (tCB (rLenA K) (tCons (tVar 1) tNil)) tNil)))) tNil))) (gName 2)) (tSeq (tAsg (tOp (rIxA K) (tLst (tCons (tTup (tCons (tC (.str "num")) (tCons (tCall (sp_law_draw K ad) [] E0 (tCons (tVar 0) (tCons (tC (.int 4)) tNil))) tNil))) (tCons (tTup (tCons (tC (.str "name")) (tCons (tOp (rIxA K) (tVar 1) (tCall (sp_law_draw K ad) [] E0 (tCons (tVar 0) (tCons (tCB (rLenA K) (tCons (tVar 1) tNil)) tNil)))) tNil))) tNil))) (tCall (sp_law_draw K ad) [] E0 (tCons (tVar 0) (tCons (tC (.int 2)) tNil)))) (gName 3)) (tRet (tOp (rIxA K) (tLst (tCons (tTup (tCons (tC (.str "op")) (tCons (tC (.str "=")) (tCons (tVar 2) (tCons (tVar 3) tNil))))) (tCons (tTup (tCons (tC (.str "op")) (tCons (tC (.str "<")) (tCons (tVar 2) (tCons (tVar 3) tNil))))) (tCons (tTup (tCons (tC (.str "not")) (tCons (tTup (tCons (tC (.str "op")) (tCons (tC (.str "=")) (tCons (tVar 2) (tCons (tVar 3) tNil))))) tNil))) (tCons (tTup (tCons (tC (.str "op")) (tCons (tC (.str "|")) (tCons (tVar 2) (tCons (tVar 3) tNil))))) tNil))))) (tCall (sp_law_draw K ad) [] E0 (tCons (tVar 0) (tCons (tC (.int 4)) tNil))))))))
theorem rd_law_test {K : PySem.W.Frag} {ad : String → Addr} (N : List Str) (hN : N.length = 4) : ∀ vs H Q E, sp_law_test K ad vs H Q E → t_law_test K ad { nx := fun _ H' => Q .non H', rt := Q } (L2.start N vs) H := by
  rintro vs H Q E ⟨d, l, p, zs, Γ, L, rfl, hzl, hp, w, q⟩
  rw [st_of hN]
  show t_law_test K ad _ [some (.ref d), some (.ref p), none, none] H
  unfold t_law_test
  have short : ∀ H, WR (dealM d l) Γ L H → (tRet (tCall (sp_law_expr K ad 16) [] E0 (tCons (tVar 0) (tCons (tVar 1) (tCons (tC (.int 2)) tNil))))) { nx := fun _ _ => False, rt := Q } [some (.ref d), some (.ref p), none, none] H := by
    intro H w
    walk_at "gg"
    exact ⟨d, l, p, 2, zs, _, _, rfl, by decide, by decide, hzl, hp, w, fun e v H' h1 h2 w => q e v H' h1 (Nat.le_trans h2 (by decide)) w⟩
  walk_at "gg"
  refine g_lenL (sqL (hp.at w)) ?_
  rw [List.length_map]
  walk_at "gg"
  refine g_iteD (fun e => iteT (short H w)) (fun e => ?_)
  walk_at "gg"
  refine ⟨d, l, 5, _, _, rfl, by decide, by decide, w, fun r H r0 r1 w => ?_⟩
  walk_at "gg"
  refine g_iteD (fun e2 => short H w) (fun e2 => ?_)
  clear short
  have hz0 : 0 < zs.length := by omega
  walk_at "g"
  walk_at "gx"
  refine g_pick rfl rfl hz0 hzl w hp fun z H hz w => ?_
  walk_at "gx"
  refine ⟨sz (show 2 ≤ 1000000 by decide), fun p1 np => ?_⟩
  have w := (w.know (.tup [.str "name", .str z]) np).node (e := .name z) fun G h _ => ⟨p1, rfl, h⟩
  walk_at "gg"
  refine ⟨d, l, 4, _, _, rfl, by decide, by decide, w, fun m H m0 m1 w => ?_⟩
  walk_at "gx"
  refine ⟨sz (show 2 ≤ 1000000 by decide), fun p2 np => ?_⟩
  have w := (w.know (.tup [.str "num", .int m]) np).node (e := .num m) fun G h _ => ⟨p2, rfl, h⟩
  walk_at "gx"
  refine g_pick rfl rfl hz0 hzl w (hp.tail.tail) fun z2 H hz2 w => ?_
  walk_at "gx"
  refine ⟨sz (show 2 ≤ 1000000 by decide), fun p3 np => ?_⟩
  have w := (w.know (.tup [.str "name", .str z2]) np).node (e := .name z2) fun G h _ => ⟨p3, rfl, h⟩
  walk_at "gx"
  refine ⟨sz (show 2 ≤ 1000000 by decide), fun p4 np => ?_⟩
  have w := w.know (.lst [.ref p2, .ref p3]) np
  walk_at "gg"
  refine ⟨d, l, 2, _, _, rfl, by decide, by decide, w, fun r H r0 r1 w => ?_⟩
  obtain ⟨v, hc, hcm, _⟩ := at_in (l := [V.ref p2, .ref p3]) r0 r1
  refine g_ixL (sqL (w.get (.head _))) hc ?_
  obtain ⟨eb, ofb, hb, wb⟩ : ∃ eb : Ex, eb.Of zs ∧ eb.hgt = 1 ∧ WR (dealM d l) (eb.At v :: Ex.At (.name z) (.ref p1) :: Γ) L H := by
    simp only [List.mem_cons, List.not_mem_nil, or_false] at hcm
    rcases hcm with rfl | rfl
    · exact ⟨.num m, ⟨m0, by omega⟩, rfl, w.only (.tail _ (.tail _ (.head _))) fun x hx => .tail _ (.tail _ (.tail _ hx))⟩
    · exact ⟨.name z2, hz2, rfl, w.only (.tail _ (.head _)) fun x hx => .tail _ (.tail _ (.tail _ hx))⟩
  have s1 : ∀ s : Str, (decide (s.length ≤ 1) && s.cps.toList.all fun c => decide (c < 128)) = true → TX 1 s := fun s h => tx_lit h
  walk_at "gg"
  refine ⟨sz (show 4 ≤ 1000000 by decide), fun q1 np => ?_⟩
  have w := (wb.know (.tup [.str "op", .str "=", .ref p1, v]) np).node (e := .op "=" (.name z) eb) fun G h hG => ⟨q1, _, _, rfl, h, hG _ (.tail _ (.head _)), hG _ (.head _)⟩
  walk_at "gg"
  refine ⟨sz (show 4 ≤ 1000000 by decide), fun q2 np => ?_⟩
  have w := (w.know (.tup [.str "op", .str "<", .ref p1, v]) np).node (e := .op "<" (.name z) eb) fun G h hG => ⟨q2, _, _, rfl, h, hG _ (.tail _ (.tail _ (.head _))), hG _ (.tail _ (.head _))⟩
  walk_at "gg"
  refine ⟨sz (show 4 ≤ 1000000 by decide), fun q3 np => ?_⟩
  have w := (w.know (.tup [.str "op", .str "=", .ref p1, v]) np).node (e := .op "=" (.name z) eb) fun G h hG => ⟨q3, _, _, rfl, h, hG _ (.tail _ (.tail _ (.tail _ (.head _)))), hG _ (.tail _ (.tail _ (.head _)))⟩
  walk_at "gg"
  refine ⟨sz (show 2 ≤ 1000000 by decide), fun q4 np => ?_⟩
  have w := (w.know (.tup [.str "not", .ref q3]) np).node (e := .neg (.op "=" (.name z) eb)) fun G h hG => ⟨q4, _, rfl, h, hG _ (.head _)⟩
  walk_at "gg"
  refine ⟨sz (show 4 ≤ 1000000 by decide), fun q5 np => ?_⟩
  have w := (w.know (.tup [.str "op", .str "|", .ref p1, v]) np).node (e := .op "|" (.name z) eb) fun G h hG => ⟨q5, _, _, rfl, h, hG _ (.tail _ (.tail _ (.tail _ (.tail _ (.tail _ (.head _)))))), hG _ (.tail _ (.tail _ (.tail _ (.tail _ (.head _)))))⟩
  walk_at "gg"
  refine ⟨sz (show 4 ≤ 1000000 by decide), fun q6 np => ?_⟩
  have w := w.know (.lst [.ref q1, .ref q2, .ref q4, .ref q5]) np
  walk_at "gg"
  refine ⟨d, l, 4, _, _, rfl, by decide, by decide, w, fun r H r0 r1 w => ?_⟩
  obtain ⟨u, hc, hcm, _⟩ := at_in (l := [V.ref q1, .ref q2, .ref q4, .ref q5]) r0 r1
  refine g_ixL (sqL (w.get (.head _))) hc ?_
  have back : ∀ x ∈ Γ, x ∈ ((fun G => G q6 = some (HO.lst [.ref q1, .ref q2, .ref q4, .ref q5])) :: Ex.At (.op "|" (.name z) eb) (.ref q5) :: Ex.At (.neg (.op "=" (.name z) eb)) (.ref q4) :: Ex.At (.op "=" (.name z) eb) (.ref q3) :: Ex.At (.op "<" (.name z) eb) (.ref q2) :: Ex.At (.op "=" (.name z) eb) (.ref q1) :: eb.At v :: Ex.At (.name z) (.ref p1) :: Γ : List Kn) := fun x hx => .tail _ (.tail _ (.tail _ (.tail _ (.tail _ (.tail _ (.tail _ (.tail _ hx)))))))
  simp only [List.mem_cons, List.not_mem_nil, or_false] at hcm
  rcases hcm with rfl | rfl | rfl | rfl
  · exact q (.op "=" (.name z) eb) _ _ ⟨s1 _ (by decide +kernel), hz, ofb⟩ (by simp only [Ex.hgt]; omega) (w.only (.tail _ (.tail _ (.tail _ (.tail _ (.tail _ (.head _)))))) back)
  · exact q (.op "<" (.name z) eb) _ _ ⟨s1 _ (by decide +kernel), hz, ofb⟩ (by simp only [Ex.hgt]; omega) (w.only (.tail _ (.tail _ (.tail _ (.tail _ (.head _))))) back)
  · exact q _ _ _ (show Ex.Of zs (.neg (.op "=" (.name z) eb)) from ⟨s1 _ (by decide +kernel), hz, ofb⟩) (by simp only [Ex.hgt]; omega) (w.only (.tail _ (.tail _ (.head _))) back)
  · exact q (.op "|" (.name z) eb) _ _ ⟨s1 _ (by decide +kernel), hz, ofb⟩ (by simp only [Ex.hgt]; omega) (w.only (.tail _ (.head _)) back)
abbrev sp_law_mild (K : PySem.W.Frag) (ad : String → Addr) : Sp := sp_exp K 4
theorem ln_law_mild {K : PySem.W.Frag} {ad : String → Addr} : ∀ vs H Q E, sp_law_mild K ad vs H Q E → vs.length = 2 := ln_exp
def t_law_mild (K : PySem.W.Frag) (ad : String → Addr) : TS := (tSeq (tIfS (tOr (tTest (tOp (rEqA K) (tCB (rLenA K) (tCons (tVar 1) tNil)) (tC (.int 0)))) (tTest (tOp (rEqA K) (tCall (sp_law_draw K ad) [] E0 (tCons (tVar 0) (tCons (tC (.int 8)) tNil))) (tC (.int 0))))) (tRet (tIf (tTest (tOp (rEqA K) (tCall (sp_law_draw K ad) [] E0 (tCons (tVar 0) (tCons (tC (.int 2)) tNil))) (tC (.int 0)))) (tCall (sp_law_test K ad) [] E0 (tCons (tVar 0) (tCons (tVar 1) tNil))) (tTup (tCons (tC (.str "num")) (tCons (tC (.int 1)) tNil))))) tNext) (tSeq (tPar 2 3 (tCons (tTup (tCons (tC (.str "name")) (tCons (tOp (rIxA K) (tVar 1) (tCall (sp_law_draw K ad) [] E0 (tCons (tVar 0) (tCons (tCB (rLenA K) (tCons (tVar 1) tNil)) tNil)))) tNil))) (tCons (tCall (sp_law_draw K ad) [] E0 (tCons (tVar 0) (tCons (tC (.int 5)) tNil))) tNil))) (tSeq (tAsg (tTup (tCons (tC (.str "name")) (tCons (tOp (rIxA K) (tVar 1) (tCall (sp_law_draw K ad) [] E0 (tCons (tVar 0) (tCons (tCB (rLenA K) (tCons (tVar 1) tNil)) tNil)))) tNil))) (gName 4)) (tSeq (tIfS (tTest (tOp (rEqA K) (tCall (sp_law_draw K ad) [] E0 (tCons (tVar 0) (tCons (tC (.int 2)) tNil))) (tC (.int 0)))) (tRet (tTup (tCons (tC (.str "not")) (tCons (tTup (tCons (tC (.str "op")) (tCons (tC (.str "=")) (tCons (tVar 2) (tCons (tTup (tCons (tC (.str "num")) (tCons (tVar 3) tNil))) tNil))))) tNil)))) tNext) (tRet (tTup (tCons (tC (.str "op")) (tCons (tC (.str "|")) (tCons (tTup (tCons (tC (.str "op")) (tCons (tC (.str "<")) (tCons (tVar 2) (tCons (tTup (tCons (tC (.str "num")) (tCons (tOp (rAddA K) (tVar 3) (tC (.int 2))) tNil))) tNil))))) (tCons (tTup (tCons (tC (.str "op")) (tCons (tOp (rIxA K) (tC (.str "=<")) (tCall (sp_law_draw K ad) [] E0 (tCons (tVar 0) (tCons (tC (.int 2)) tNil)))) (tCons (tVar 2) (tCons (tVar 4) tNil))))) tNil))))))))))
theorem rd_law_mild {K : PySem.W.Frag} {ad : String → Addr} (N : List Str) (hN : N.length = 5) : ∀ vs H Q E, sp_law_mild K ad vs H Q E → t_law_mild K ad { nx := fun _ H' => Q .non H', rt := Q } (L2.start N vs) H := by
  rintro vs H Q E ⟨d, l, p, zs, Γ, L, rfl, hzl, hp, w, q⟩
  rw [st_of hN]
  show t_law_mild K ad _ [some (.ref d), some (.ref p), none, none, none] H
  unfold t_law_mild
  have short : ∀ H, WR (dealM d l) Γ L H → (tRet (tIf (tTest (tOp (rEqA K) (tCall (sp_law_draw K ad) [] E0 (tCons (tVar 0) (tCons (tC (.int 2)) tNil))) (tC (.int 0)))) (tCall (sp_law_test K ad) [] E0 (tCons (tVar 0) (tCons (tVar 1) tNil))) (tTup (tCons (tC (.str "num")) (tCons (tC (.int 1)) tNil))))) { nx := fun _ _ => False, rt := Q } [some (.ref d), some (.ref p), none, none, none] H := by
    intro H w
    walk_at "gg"
    refine ⟨d, l, 2, _, _, rfl, by decide, by decide, w, fun r H r0 r1 w => ?_⟩
    walk_at "gg"
    refine g_iteD (fun e => ?_) (fun e => ?_)
    · walk_at "gg"
      exact ⟨d, l, p, zs, _, _, rfl, hzl, hp, w, q⟩
    · walk_at "gg"
      refine ⟨sz (show 2 ≤ 1000000 by decide), fun p1 np => ?_⟩
      have w := (w.know (.tup [.str "num", .int 1]) np).node (e := .num 1) fun G h _ => ⟨p1, rfl, h⟩
      exact q (.num 1) _ _ ⟨by decide, by decide⟩ (by decide) w
  walk_at "gg"
  refine g_lenL (sqL (hp.at w)) ?_
  rw [List.length_map]
  walk_at "gg"
  refine g_iteD (fun e => iteT (short H w)) (fun e => ?_)
  walk_at "gg"
  refine ⟨d, l, 8, _, _, rfl, by decide, by decide, w, fun r H r0 r1 w => ?_⟩
  walk_at "gg"
  refine g_iteD (fun e2 => short H w) (fun e2 => ?_)
  clear short
  have hz0 : 0 < zs.length := by omega
  walk_at "g"
  walk_at "g"
  walk_at "g"
  walk_at "gx"
  refine g_pick rfl rfl hz0 hzl w hp fun z H hz w => ?_
  walk_at "gx"
  refine ⟨sz (show 2 ≤ 1000000 by decide), fun p1 np => ?_⟩
  have w := (w.know (.tup [.str "name", .str z]) np).node (e := .name z) fun G h _ => ⟨p1, rfl, h⟩
  walk_at "gg"
  refine ⟨d, l, 5, _, _, rfl, by decide, by decide, w, fun m H m0 m1 w => ?_⟩
  refine ⟨_, _, rfl, ?_⟩
  walk_at "gx"
  refine g_pick rfl rfl hz0 hzl w (hp.tail) fun z2 H hz2 w => ?_
  walk_at "gx"
  refine ⟨sz (show 2 ≤ 1000000 by decide), fun p3 np => ?_⟩
  have w := (w.know (.tup [.str "name", .str z2]) np).node (e := .name z2) fun G h _ => ⟨p3, rfl, h⟩
  have s1 : ∀ s : Str, (decide (s.length ≤ 1) && s.cps.toList.all fun c => decide (c < 128)) = true → TX 1 s := fun s h => tx_lit h
  walk_at "gg"
  refine ⟨d, l, 2, _, _, rfl, by decide, by decide, w, fun r H r0 r1 w => ?_⟩
  walk_at "gg"
  refine g_iteD (fun e3 => ?_) (fun e3 => ?_)
  · walk_at "gg"
    refine ⟨sz (show 2 ≤ 1000000 by decide), fun p4 np => ?_⟩
    have w := (w.know (.tup [.str "num", .int m]) np).node (e := .num m) fun G h _ => ⟨p4, rfl, h⟩
    walk_at "gg"
    refine ⟨sz (show 4 ≤ 1000000 by decide), fun q1 np => ?_⟩
    have w := (w.know (.tup [.str "op", .str "=", .ref p1, .ref p4]) np).node (e := .op "=" (.name z) (.num m)) fun G h hG => ⟨q1, _, _, rfl, h, hG _ (.tail _ (.tail _ (.head _))), hG _ (.head _)⟩
    walk_at "gg"
    refine ⟨sz (show 2 ≤ 1000000 by decide), fun q2 np => ?_⟩
    have w := (w.know (.tup [.str "not", .ref q1]) np).node (e := .neg (.op "=" (.name z) (.num m))) fun G h hG => ⟨q2, _, rfl, h, hG _ (.head _)⟩
    exact q _ _ _ (show Ex.Of zs (.neg (.op "=" (.name z) (.num m))) from ⟨s1 _ (by decide +kernel), hz, m0, by omega⟩) (by simp only [Ex.hgt]; omega) (w.only (.head _) fun x hx => .tail _ (.tail _ (.tail _ (.tail _ (.tail _ hx)))))
  · walk_at "gg"
    refine ⟨sz (show 2 ≤ 1000000 by decide), fun p4 np => ?_⟩
    have w := (w.know (.tup [.str "num", .int (m + 2)]) np).node (e := .num (m + 2)) fun G h _ => ⟨p4, rfl, h⟩
    walk_at "gg"
    refine ⟨sz (show 4 ≤ 1000000 by decide), fun q1 np => ?_⟩
    have w := (w.know (.tup [.str "op", .str "<", .ref p1, .ref p4]) np).node (e := .op "<" (.name z) (.num (m + 2))) fun G h hG => ⟨q1, _, _, rfl, h, hG _ (.tail _ (.tail _ (.head _))), hG _ (.head _)⟩
    walk_at "gg"
    refine ⟨d, l, 2, _, _, rfl, by decide, by decide, w, fun r H r0 r1 w => ?_⟩
    have tq : TX 2 ("=<" : Str) := tx_lit (by decide +kernel)
    obtain ⟨c, hc, hcm, _⟩ := at_in (l := ("=<" : Str).cps.toList) r0 (by rw [show ("=<" : Str).cps.toList.length = 2 by decide +kernel]; exact r1)
    refine g_ixS (by decide) hc ?_
    walk_at "gg"
    refine ⟨sz (show 4 ≤ 1000000 by decide), fun q2 np => ?_⟩
    have w := (w.know (.tup [.str "op", .str ⟨#[c]⟩, .ref p1, .ref p3]) np).node (e := .op ⟨#[c]⟩ (.name z) (.name z2)) fun G h hG => ⟨q2, _, _, rfl, h, hG _ (.tail _ (.tail _ (.tail _ (.head _)))), hG _ (.tail _ (.tail _ (.head _)))⟩
    walk_at "gg"
    refine ⟨sz (show 4 ≤ 1000000 by decide), fun q3 np => ?_⟩
    have w := (w.know (.tup [.str "op", .str "|", .ref q1, .ref q2]) np).node (e := .op "|" (.op "<" (.name z) (.num (m + 2))) (.op ⟨#[c]⟩ (.name z) (.name z2))) fun G h hG => ⟨q3, _, _, rfl, h, hG _ (.tail _ (.head _)), hG _ (.head _)⟩
    exact q _ _ _ (show Ex.Of zs (.op "|" (.op "<" (.name z) (.num (m + 2))) (.op ⟨#[c]⟩ (.name z) (.name z2))) from ⟨s1 _ (by decide +kernel), ⟨s1 _ (by decide +kernel), hz, by omega, by omega⟩, tq.sign hcm, hz, hz2⟩) (by simp only [Ex.hgt]; omega) (w.only (.head _) fun x hx => .tail _ (.tail _ (.tail _ (.tail _ (.tail _ (.tail _ hx))))))
abbrev sp_law_small (K : PySem.W.Frag) (ad : String → Addr) : Sp := sp_exp K 3
theorem ln_law_small {K : PySem.W.Frag} {ad : String → Addr} : ∀ vs H Q E, sp_law_small K ad vs H Q E → vs.length = 2 := ln_exp
def t_law_small (K : PySem.W.Frag) (ad : String → Addr) : TS := (tSeq (tPar 2 3 (tCons (tTup (tCons (tC (.str "num")) (tCons (tCall (sp_law_draw K ad) [] E0 (tCons (tVar 0) (tCons (tC (.int 8)) tNil))) tNil))) (tCons (tCall (sp_law_draw K ad) [] E0 (tCons (tVar 0) (tCons (tC (.int 4)) tNil))) tNil))) (tSeq (tIfS (tOr (tTest (tOp rGtA (tVar 3) (tC (.int 0)))) (tTest (tOp (rEqA K) (tCB (rLenA K) (tCons (tVar 1) tNil)) (tC (.int 0))))) (tRet (tVar 2)) tNext) (tSeq (tPar 4 5 (tCons (tTup (tCons (tC (.str "name")) (tCons (tOp (rIxA K) (tVar 1) (tCall (sp_law_draw K ad) [] E0 (tCons (tVar 0) (tCons (tCB (rLenA K) (tCons (tVar 1) tNil)) tNil)))) tNil))) (tCons (tTup (tCons (tC (.str "num")) (tCons (tCall (sp_law_draw K ad) [] E0 (tCons (tVar 0) (tCons (tC (.int 4)) tNil))) tNil))) tNil))) (tRet (tTup (tCons (tC (.str "op")) (tCons (tC (.str "+")) (tCons (tTup (tCons (tC (.str "op")) (tCons (tOp (rIxA K) (tC (.str "<=")) (tCall (sp_law_draw K ad) [] E0 (tCons (tVar 0) (tCons (tC (.int 2)) tNil)))) (tCons (tVar 4) (tCons (tVar 5) tNil))))) (tCons (tVar 2) tNil)))))))))
theorem rd_law_small {K : PySem.W.Frag} {ad : String → Addr} (N : List Str) (hN : N.length = 6) : ∀ vs H Q E, sp_law_small K ad vs H Q E → t_law_small K ad { nx := fun _ H' => Q .non H', rt := Q } (L2.start N vs) H := by
  rintro vs H Q E ⟨d, l, p, zs, Γ, L, rfl, hzl, hp, w, q⟩
  rw [st_of hN]
  show t_law_small K ad _ [some (.ref d), some (.ref p), none, none, none, none] H
  unfold t_law_small
  walk_at "gg"
  refine ⟨d, l, 8, _, _, rfl, by decide, by decide, w, fun m H m0 m1 w => ?_⟩
  walk_at "gg"
  refine ⟨sz (show 2 ≤ 1000000 by decide), fun p1 np => ?_⟩
  have w := (w.know (.tup [.str "num", .int m]) np).node (e := .num m) fun G h _ => ⟨p1, rfl, h⟩
  walk_at "gg"
  refine ⟨d, l, 4, _, _, rfl, by decide, by decide, w, fun f H f0 f1 w => ?_⟩
  refine ⟨_, _, rfl, ?_⟩
  walk_at "gg"
  have fin : WR (dealM d l) (Ex.At (.num m) (.ref p1) :: Γ) L H → Q (.ref p1) H := fun w => q (.num m) _ _ ⟨m0, by omega⟩ (by simp only [Ex.hgt]; omega) w
  refine g_iteD (fun e => ?_) (fun e => ?_)
  · refine iteT ?_
    walk_at "gg"
    exact fin w
  walk_at "gg"
  refine g_lenL (sqL (hp.tail.at w)) ?_
  rw [List.length_map]
  walk_at "gg"
  refine g_iteD (fun e2 => ?_) (fun e2 => ?_)
  · walk_at "gg"
    exact fin w
  clear fin
  have hz0 : 0 < zs.length := by omega
  walk_at "g"
  walk_at "g"
  walk_at "g"
  walk_at "gx"
  refine g_pick rfl rfl hz0 hzl w (hp.tail) fun z H hz w => ?_
  walk_at "gx"
  refine ⟨sz (show 2 ≤ 1000000 by decide), fun p2 np => ?_⟩
  have w := (w.know (.tup [.str "name", .str z]) np).node (e := .name z) fun G h _ => ⟨p2, rfl, h⟩
  walk_at "gg"
  refine ⟨d, l, 4, _, _, rfl, by decide, by decide, w, fun k H k0 k1 w => ?_⟩
  walk_at "gg"
  refine ⟨sz (show 2 ≤ 1000000 by decide), fun p3 np => ?_⟩
  have w := (w.know (.tup [.str "num", .int k]) np).node (e := .num k) fun G h _ => ⟨p3, rfl, h⟩
  walk_at "gg"
  refine ⟨_, _, rfl, ?_⟩
  walk_at "gg"
  refine ⟨d, l, 2, _, _, rfl, by decide, by decide, w, fun r H r0 r1 w => ?_⟩
  have tq : TX 2 ("<=" : Str) := tx_lit (by decide +kernel)
  obtain ⟨c, hc, hcm, _⟩ := at_in (l := ("<=" : Str).cps.toList) r0 (by rw [show ("<=" : Str).cps.toList.length = 2 by decide +kernel]; exact r1)
  refine g_ixS (by decide) hc ?_
  walk_at "gg"
  refine ⟨sz (show 4 ≤ 1000000 by decide), fun q2 np => ?_⟩
  have w := (w.know (.tup [.str "op", .str ⟨#[c]⟩, .ref p2, .ref p3]) np).node (e := .op ⟨#[c]⟩ (.name z) (.num k)) fun G h hG => ⟨q2, _, _, rfl, h, hG _ (.tail _ (.head _)), hG _ (.head _)⟩
  walk_at "gg"
  refine ⟨sz (show 4 ≤ 1000000 by decide), fun q3 np => ?_⟩
  have w := (w.know (.tup [.str "op", .str "+", .ref q2, .ref p1]) np).node (e := .op "+" (.op ⟨#[c]⟩ (.name z) (.num k)) (.num m)) fun G h hG => ⟨q3, _, _, rfl, h, hG _ (.head _), hG _ (.tail _ (.tail _ (.tail _ (.head _))))⟩
  exact q _ _ _ (show Ex.Of zs (.op "+" (.op ⟨#[c]⟩ (.name z) (.num k)) (.num m)) from ⟨tx_lit (by decide +kernel), ⟨tq.sign hcm, hz, k0, by omega⟩, m0, by omega⟩) (by simp only [Ex.hgt]; omega) (w.only (.head _) fun x hx => .tail _ (.tail _ (.tail _ (.tail _ (.tail _ hx)))))
end Ct
namespace Ct
open PySem PySem.Spec PyProof.Rows L2
local macro_rules | `(tactic| walk_at "g") => `(tactic| first
  | with_reducible refine g_seq ?_
  | with_reducible refine g_set ?_
  | with_reducible refine g_asg ?_
  | with_reducible refine g_sub ?_
  | with_reducible refine g_name ?_
  | with_reducible refine g_ret ?_
  | with_reducible refine g_if ?_
  | ((with_reducible refine' g_var ?gh ?_); (case gh => rfl))
  | with_reducible refine g_c ?_
  | with_reducible refine g_op ?_
  | with_reducible refine g_test ?_
  | with_reducible refine g_bl ?_
  | with_reducible refine g_int ?_
  | with_reducible refine g_cons ?_
  | with_reducible refine g_nil ?_
  | with_reducible refine g_call ?_
  | with_reducible refine g_cb ?_
  | with_reducible refine g_and ?_
  | with_reducible refine g_or ?_
  | with_reducible refine g_not ?_
  | with_reducible refine g_B ?_
  | with_reducible refine g_un ?_
  | with_reducible refine g_neg ?_
  | with_reducible refine g_chain ?_
  | with_reducible refine g_drop ?_
  | with_reducible refine g_par ?_
  | with_reducible refine g_par3 ?_
  | with_reducible refine g_tup ?_
  | with_reducible refine g_lst ?_
  | with_reducible refine g_sl ?_
  | with_reducible refine g_nop ?_
  | with_reducible refine g_part ?_
  | with_reducible refine g_bm0 ?_
  | with_reducible refine g_bm ?_
  | with_reducible refine g_m0 ?_
  | with_reducible refine g_m1 ?_
  | with_reducible refine g_lrev ?_
  | with_reducible refine g_ifE ?_
  | with_reducible refine g_andV ?_
  | with_reducible refine g_orV ?_
  | with_reducible refine g_notV ?_
  | with_reducible refine g_addI ?_
  | with_reducible refine g_subI ?_
  | with_reducible refine g_eqI ?_
  | with_reducible refine g_neI ?_
  | with_reducible refine g_eqS ?_
  | with_reducible refine g_neS ?_
  | with_reducible refine g_eqB ?_
  | with_reducible refine g_neB ?_
  | with_reducible refine g_ltI ?_
  | with_reducible refine g_gtI ?_
  | with_reducible refine g_leI ?_
  | with_reducible refine g_geI ?_
  | with_reducible refine g_inS ?_
  | with_reducible refine g_niS ?_
  | with_reducible refine g_max ?_
  | with_reducible refine g_min ?_
  | with_reducible refine g_abs ?_
  | with_reducible refine g_isN ?_
  | with_reducible refine g_notN ?_
  | with_reducible refine g_isB ?_
  | with_reducible refine g_notB ?_
  | with_reducible refine g_intB ?_
  | with_reducible refine g_intI ?_
  | with_reducible refine g_lc ?_
  | with_reducible refine g_for ?_
  | with_reducible refine g_seqI ?_
  | with_reducible refine g_inStr ?_
  | with_reducible refine g_rng ?_
  | with_reducible refine g_yes ?_
  | with_reducible refine g_pairs ?_
  | with_reducible refine g_pairs0 ?_
  | with_reducible refine iteT ?_
  | with_reducible refine iteF ?_
  | with_reducible refine g_nF ?_
  | with_reducible refine g_nT ?_
  | with_reducible refine g_gcons ?_
  | with_reducible refine g_gnil ?_
  | with_reducible refine g_next ?_
  | with_reducible refine g_callN ?_
  | with_reducible refine g_callNS ?_
  | with_reducible refine g_callS ?_
  | ((with_reducible refine' g_mulI ?gh ?_); (case gh => first | exact .inl (.inl ⟨by omega, by omega⟩) | exact .inl (.inr ⟨by omega, by omega⟩)))
  | ((with_reducible refine' g_modI ?gh ?_); (case gh => omega)))
local macro_rules | `(tactic| walk_at "gg") => `(tactic| (repeat walk_at "g"))
local macro_rules | `(tactic| walk_at "gx") => `(tactic| repeat (first
  | with_reducible refine g_seq ?_
  | with_reducible refine g_set ?_
  | with_reducible refine g_ret ?_
  | with_reducible refine g_cons ?_
  | with_reducible refine g_nil ?_
  | with_reducible refine g_c ?_
  | with_reducible refine g_tup ?_
  | with_reducible refine g_lst ?_))
theorem g_rep {K : PySem.W.Frag} {H : Hp} {Q : VK} {a : Addr} {xs : List V} {k : Int} (h : H a = some (.lst xs)) (h1 : -(2 ^ 63) ≤ k) (h2 : k < 2 ^ 63) (hl : xs.length * k.toNat ≤ sizeLine) (q : ∀ p, H p = none → Q (.ref p) (upd H p (.lst (List.replicate k.toNat xs).flatten))) : rMulA K (.ref a) (.int k) H Q :=
  .inr (.inr (.inr (.inl ⟨a, k, xs, rfl, rfl, h, h1, h2, hl, q⟩)))
/-! ### alternatives -/
def Alt (a : Ex × Ex) (v : V) : Hp → Prop := fun G => ∃ t x y, v = .ref t ∧ G t = some (.tup [x, y]) ∧ a.1.At x G ∧ a.2.At y G
def Alts : List (Ex × Ex) → List V → Hp → Prop
  | [], vs, _ => vs = []
  | a :: as, vs, G => ∃ v r, vs = v :: r ∧ Alt a v G ∧ Alts as r G
theorem Alts.app : ∀ {es fs : List (Ex × Ex)} {vs us : List V} {G : Hp}, Alts es vs G → Alts fs us G → Alts (es ++ fs) (vs ++ us) G
  | [], _, _, _, _, h, h' => by
    obtain rfl := h
    exact h'
  | e :: es, _, _, _, _, h, h' => by
    obtain ⟨v, r, rfl, h1, h⟩ := h
    exact ⟨v, _, rfl, h1, Alts.app h h'⟩
theorem Alts.len : ∀ {es : List (Ex × Ex)} {vs : List V} {G : Hp}, Alts es vs G → vs.length = es.length
  | [], _, _, h => by
    obtain rfl := h
    rfl
  | e :: es, _, _, h => by
    obtain ⟨v, r, rfl, _, h⟩ := h
    rw [List.length_cons, List.length_cons, Alts.len h]
def AltOf (zs : List Str) (a : Ex × Ex) : Prop := a.1.Of zs ∧ a.2.Of zs ∧ a.1.hgt ≤ 4 ∧ a.2.hgt ≤ 4
def sp_law_alts (K : PySem.W.Frag) (ad : String → Addr) : Sp := fun vs H Q _ => ∃ (d l p : Addr) (m : Int) (zs : List Str) (Γ : List Kn) (L : Cells), vs = [.ref d, .ref p, .int m] ∧ 0 ≤ m ∧ m ≤ 100 ∧ zs.length ≤ 1000 ∧ Has p zs Γ L ∧ WR (dealM d l) Γ L H ∧
  ∀ (al : List (Ex × Ex)) xs t H', al.length = m.toNat → (∀ a ∈ al, AltOf zs a) → WR (dealM d l) ((fun G => G t = some (.tup xs)) :: Alts al xs :: Γ) L H' → Q (.ref t) H'
theorem ln_law_alts {K : PySem.W.Frag} {ad : String → Addr} : ∀ vs H Q E, sp_law_alts K ad vs H Q E → vs.length = 3 := by
  rintro vs H Q E ⟨d, l, p, m, zs, Γ, L, rfl, _⟩
  rfl
def t_law_alts (K : PySem.W.Frag) (ad : String → Addr) : TS := (tSeq (tAsg (tLst tNil) (gName 3)) (tSeq (tFor (iRng1 (tCons (tVar 2) tNil)) (gName 4) (tSeq (tAsg (tOp (rIxA K) (tLst (tCons (tTup (tCons (tC (.str "num")) (tCons (tCall (sp_law_number K ad) [] E0 (tCons (tVar 0) tNil)) tNil))) (tCons (tTup (tCons (tC (.str "num")) (tCons (tVar 4) tNil))) (tCons (tCall (sp_law_expr K ad 16) [] E0 (tCons (tVar 0) (tCons (tVar 1) (tCons (tC (.int 1)) tNil)))) tNil)))) (tCall (sp_law_draw K ad) [] E0 (tCons (tVar 0) (tCons (tC (.int 3)) tNil)))) (gName 5)) (tDrop (tBM K "list" rAppend (tVar 3) (tCons (tTup (tCons (tCall (sp_law_small K ad) [] E0 (tCons (tVar 0) (tCons (tVar 1) tNil))) (tCons (tVar 5) tNil))) tNil))))) (tRet (tCB (rTupOf K) (tCons (tVar 3) tNil)))))
theorem rd_law_alts {K : PySem.W.Frag} {ad : String → Addr} (N : List Str) (hN : N.length = 6) : ∀ vs H Q E, sp_law_alts K ad vs H Q E → t_law_alts K ad { nx := fun _ H' => Q .non H', rt := Q } (L2.start N vs) H := by
  rintro vs H Q E ⟨d, l, p, m, zs, Γ, L, rfl, m0, m1, hzl, hp, w, q⟩
  rw [st_of hN]
  show t_law_alts K ad _ [some (.ref d), some (.ref p), some (.int m), none, none, none] H
  unfold t_law_alts
  walk_at "gg"
  refine ⟨Nat.zero_le _, fun pf np => ?_⟩
  have w := w.new (.lst []) np
  walk_at "gg"
  refine ⟨m, rfl, by omega, by omega, ?_⟩
  refine c_for walk_range (fun i σ H => ∃ (y4 y5 : Option V) (al : List (Ex × Ex)) (xs : List V), σ = [some (.ref d), some (.ref p), some (.int m), some (.ref pf), y4, y5] ∧ al.length = i ∧ (∀ a ∈ al, AltOf zs a) ∧ WR (dealM d l) (Alts al xs :: Γ) ((pf, .lst xs) :: L) H)
    (fun σ H => ∃ (y4 y5 : Option V) (al : List (Ex × Ex)) (xs : List V), σ = [some (.ref d), some (.ref p), some (.int m), some (.ref pf), y4, y5] ∧ al.length = m.toNat ∧ (∀ a ∈ al, AltOf zs a) ∧ WR (dealM d l) (Alts al xs :: Γ) ((pf, .lst xs) :: L) H)
    ⟨_, _, [], [], rfl, rfl, fun _ h => absurd h List.not_mem_nil, w.more _ fun G _ => rfl⟩ (fun _ _ _ _ _ => trivial) ?_ (fun _ _ h => h) ?_
  · rintro X hX i x σ H H' hi ⟨y4, y5, al, xs, rfl, hal, hof, w⟩ ⟨rfl, rfl⟩
    walk_at "gg"
    refine ⟨d, l, _, _, rfl, w, fun k H k0 k1 w => ?_⟩
    walk_at "gg"
    refine ⟨sz (show 2 ≤ 1000000 by decide), fun p1 np => ?_⟩
    have w := (w.know (.tup [.str "num", .int k]) np).node (e := .num k) fun G h _ => ⟨p1, rfl, h⟩
    walk_at "gg"
    refine ⟨sz (show 2 ≤ 1000000 by decide), fun p2 np => ?_⟩
    have w := (w.know (.tup [.str "num", .int (0 + (i : Nat))]) np).node (e := .num (0 + (i : Nat))) fun G h _ => ⟨p2, rfl, h⟩
    walk_at "gg"
    refine ⟨d, l, p, 1, zs, _, _, rfl, by decide, by decide, hzl, hp.push.tail.tail.tail, w, fun e v H he hh w => ?_⟩
    walk_at "gg"
    refine ⟨sz (show 3 ≤ 1000000 by decide), fun p3 np => ?_⟩
    have w := w.know (.lst [.ref p1, .ref p2, v]) np
    walk_at "gg"
    refine ⟨d, l, 3, _, _, rfl, by decide, by decide, w, fun r H r0 r1 w => ?_⟩
    obtain ⟨u, hc, hcm, _⟩ := at_in (l := [V.ref p1, .ref p2, v]) r0 r1
    refine g_ixL (sqL (w.get (.head _))) hc ?_
    obtain ⟨ew, ofw, hw, w⟩ : ∃ ew : Ex, ew.Of zs ∧ ew.hgt ≤ 4 ∧ WR (dealM d l) (ew.At u :: Alts al xs :: Γ) ((pf, .lst xs) :: L) H := by
      simp only [List.mem_cons, List.not_mem_nil, or_false] at hcm
      rcases hcm with rfl | rfl | rfl
      · exact ⟨.num k, ⟨k0, k1⟩, by simp only [Ex.hgt]; omega, w.only (.tail _ (.tail _ (.tail _ (.head _)))) fun x hx => .tail _ (.tail _ (.tail _ (.tail _ hx)))⟩
      · exact ⟨.num (0 + (i : Nat)), ⟨by omega, by omega⟩, by simp only [Ex.hgt]; omega, w.only (.tail _ (.tail _ (.head _))) fun x hx => .tail _ (.tail _ (.tail _ (.tail _ hx)))⟩
      · exact ⟨e, he, Nat.le_trans hh (by decide), w.only (.tail _ (.head _)) fun x hx => .tail _ (.tail _ (.tail _ (.tail _ hx)))⟩
    walk_at "gg"
    refine ⟨g_tyL (sqL (w.cell (.head _))), ?_⟩
    walk_at "gg"
    refine ⟨d, l, p, zs, _, _, rfl, hzl, hp.push.tail.tail, w, fun es vs H hes hhs w => ?_⟩
    walk_at "gg"
    refine ⟨sz (show 2 ≤ 1000000 by decide), fun p4 np => ?_⟩
    have w := w.know (.tup [vs, u]) np
    walk_at "gg"
    have hxl : xs.length = al.length := (w.get (.tail _ (.tail _ (.tail _ (.head _))))).len
    refine g_app (w.cell (.head _)) (szl (by omega)) ?_
    have w := w.put0 (.lst (xs ++ [.ref p4]))
    refine ⟨_, _, al ++ [(es, ew)], xs ++ [.ref p4], rfl, by rw [List.length_append, hal]; rfl, fun a ha => ?_, (w.more (Alts (al ++ [(es, ew)]) (xs ++ [.ref p4])) fun G hG => ?_).only (.head _) fun x hx => .tail _ (.tail _ (.tail _ (.tail _ (.tail _ hx))))⟩
    · rcases List.mem_append.mp ha with ha | ha
      · exact hof a ha
      · rw [List.mem_singleton.mp ha]
        exact ⟨hes, ofw, Nat.le_trans hhs (by decide), hw⟩
    · exact (hG (Alts al xs) (.tail _ (.tail _ (.tail _ (.head _))))).app ⟨.ref p4, [], rfl, ⟨p4, vs, u, rfl, hG _ (.head _), hG _ (.tail _ (.head _)), hG _ (.tail _ (.tail _ (.head _)))⟩, rfl⟩
  · rintro σ H ⟨y4, y5, al, xs, rfl, hal, hof, w⟩
    walk_at "gg"
    refine g_tupL (sqL (w.cell (.head _))) fun p3 np => ?_
    exact q al xs p3 _ hal hof (w.drop1.know _ np)
theorem g_rng2 {ta : TA} {σ : L2.St} {H : Hp} {R : It → Hp → Prop} (q : ta σ H fun vs H1 => ∃ i j : Int, vs = [.int i, .int j] ∧ (-(2 ^ 62) ≤ i ∧ i < 2 ^ 62 ∧ -(2 ^ 62) ≤ j ∧ j < 2 ^ 62) ∧ R (Itr i (j - i).toNat) H1) : iRng2 ta σ H R := q
theorem at_last {α : Type} {l : List α} (h : 0 < l.length) : ∃ x, atI l (-1) = some x ∧ x ∈ l := by
  have e : ixN l.length (-1) = some (l.length - 1) := by
    unfold ixN
    rw [if_neg (by decide), if_pos (by omega)]
    congr 1
    omega
  refine ⟨l[l.length - 1]'(by omega), ?_, List.getElem_mem _⟩
  unfold atI
  rw [e]
  exact List.getElem?_eq_getElem (by omega)
def Rroot (ways : Int) : Nat → List V → Hp → Prop := fun i acc _ => ∃ ks : List Int, acc = ks.map V.int ∧ ks.length ≤ i ∧ (∀ k ∈ ks, 1 ≤ k ∧ k ≤ ways) ∧ (0 < i → 0 < ks.length)
def sp_law_root (K : PySem.W.Frag) (ad : String → Addr) : Sp := fun vs H Q _ => ∃ (ways m : Int) (M : Cells → Prop) (Γ : List Kn) (L : Cells), vs = [.int ways, .int m] ∧ 1 ≤ ways ∧ ways ≤ 1000 ∧ 2 ≤ m ∧ m ≤ 3 ∧ WR M Γ L H ∧
  ∀ r H', 1 ≤ r → r ≤ ways → WR M Γ L H' → Q (.int r) H'
theorem ln_law_root {K : PySem.W.Frag} {ad : String → Addr} : ∀ vs H Q E, sp_law_root K ad vs H Q E → vs.length = 2 := by
  rintro vs H Q E ⟨ways, m, M, Γ, L, rfl, _⟩
  rfl
def t_law_root (K : PySem.W.Frag) (ad : String → Addr) : TS := (tRet (tOp (rIxA K) (tLc (iRng2 (tCons (tC (.int 1)) (tCons (tOp (rAddA K) (tVar 0) (tC (.int 1))) tNil))) (gName 2) (tTest (tOp rLe (tOp (rMulA K) (tOp (rI CPow fun i j => .int (i ^ j.toNat)) (tVar 2) (tC (.int 2))) (tOp (rIxA K) (tLst (tCons (tC (.int 1)) (tCons (tVar 2) tNil))) (tOp (rI0 fun i j => .int (i - j)) (tVar 1) (tC (.int 2))))) (tVar 0))) (tVar 2) [2]) (tUn (rU fun i => .int (-i)) (tC (.int 1)))))
theorem rd_law_root {K : PySem.W.Frag} {ad : String → Addr} (N : List Str) (hN : N.length = 3) : ∀ vs H Q E, sp_law_root K ad vs H Q E → t_law_root K ad { nx := fun _ H' => Q .non H', rt := Q } (L2.start N vs) H := by
  rintro vs H Q E ⟨ways, m, M, Γ, L, rfl, w0, w1, m0, m1, w, q⟩
  rw [st_of hN]
  show t_law_root K ad _ [some (.int ways), some (.int m), none] H
  unfold t_law_root
  walk_at "gg"
  refine g_rng2 ?_
  walk_at "gg"
  refine ⟨_, _, rfl, ⟨by decide, by decide, by omega, by omega⟩, ?_⟩
  rw [show (ways + 1 - 1).toNat = ways.toNat by omega]
  refine c_lc walk_range w (Rroot ways) (fun _ => ⟨[], rfl, Nat.le_refl _, fun _ h => absurd h List.not_mem_nil, fun h => absurd h (Nat.lt_irrefl _)⟩) ?_ (fun _ _ _ _ _ _ => trivial) ?_ ?_
  · rintro i acc G hi ⟨ks, rfl, h, _⟩
    rw [List.length_map]
    exact szl (by omega)
  · rintro i x D acc H H' N N0 hi w ⟨rfl, rfl⟩ k k0
    walk_at "g"
    refine ⟨rfl, ?_⟩
    walk_at "gg"
    refine g_powI ⟨by decide, by decide, by omega⟩ ?_
    have e2 : ((1 : Int) + (i : Nat)) ^ (2 : Int).toNat = (1 + (i : Nat)) * (1 + (i : Nat)) := by
      show ((1 : Int) + (i : Nat)) ^ 2 = _
      rw [Int.pow_succ, Int.pow_succ, Int.pow_zero, Int.one_mul]
    rw [e2]
    have b1 : (1 + ((i : Nat) : Int)) * (1 + (i : Nat)) ≤ 1000 * 1000 := Int.mul_le_mul (by omega) (by omega) (by omega) (by decide)
    have b0 : 0 ≤ (1 + ((i : Nat) : Int)) * (1 + (i : Nat)) := Int.mul_nonneg (by omega) (by omega)
    have hone : i = 0 → (1 + ((i : Nat) : Int)) * (1 + (i : Nat)) = 1 := by rintro rfl; rfl
    generalize (1 + ((i : Nat) : Int)) * (1 + (i : Nat)) = sq at b0 b1 hone ⊢
    walk_at "gg"
    refine ⟨sz (show 2 ≤ 1000000 by decide), fun p np => ?_⟩
    have w := w.know (.lst (([1, 1 + (i : Nat)] : List Int).map V.int)) np
    walk_at "gg"
    obtain ⟨v, hc, hcm, hix⟩ := at_in (l := ([1, 1 + (i : Nat)] : List Int).map V.int) (r := m - 2) (by omega) (by show m - 2 < 2; omega)
    obtain ⟨z, hz, rfl⟩ := List.mem_map.mp hcm
    refine g_ixL (sqL (w.get (.head _))) hc ?_
    have hz2 : 1 ≤ z ∧ z ≤ 1000 ∧ (i = 0 → z = 1) := by
      simp only [List.mem_cons, List.not_mem_nil, or_false] at hz
      rcases hz with rfl | rfl
      · exact ⟨by decide, by decide, fun _ => rfl⟩
      · exact ⟨by omega, by omega, fun h => by subst h; rfl⟩
    have w := w.tail
    refine g_mulI (.inl (.inl ⟨by omega, by omega⟩)) ?_
    walk_at "gg"
    refine g_iteD (fun h => ?_) (fun h => ?_)
    · walk_at "gg"
      refine k _ _ (w.more _ fun G hG => ?_)
      obtain ⟨ks, rfl, h1, h2, h3⟩ := hG (Rroot ways i acc) (.head _)
      refine ⟨ks ++ [(1 : Int) + (i : Nat)], by simp, by simp; omega, fun y hy => ?_, fun _ => by simp⟩
      rcases List.mem_append.mp hy with hy | hy
      · exact h2 y hy
      · rw [List.mem_singleton.mp hy]
        omega
    · refine k0 _ (w.more _ fun G hG => ?_)
      obtain ⟨ks, rfl, h1, h2, h3⟩ := hG (Rroot ways i acc) (.head _)
      refine ⟨ks, rfl, by omega, h2, fun _ => ?_⟩
      by_cases h0 : i = 0
      · rw [hone h0, hz2.2.2 h0] at h
        omega
      · exact h3 (by omega)
  · intro D acc H w
    obtain ⟨ks, rfl, h1, h2, h3⟩ := w.get (.head _)
    walk_at "gg"
    obtain ⟨z, hz, hzm⟩ := at_last (l := ks) (h3 (by omega))
    have e1 : atI (ks.map V.int) (-1) = some (.int z) := by
      unfold atI at hz ⊢
      rw [List.length_map]
      cases e : ixN ks.length (-1) with
      | none =>
        rw [e] at hz
        cases hz
      | some j =>
        rw [e] at hz
        show (ks.map V.int)[j]? = _
        rw [List.getElem?_map]
        rw [show ks[j]? = some z from hz]
        rfl
    refine g_ixL (sqL (w.cell (.head _))) e1 ?_
    exact q z _ (h2 z hzm).1 (h2 z hzm).2 w.drop1.tail
/-! ### statements -/
mutual
inductive St where
  | draw (x : Str) (al : List (Ex × Ex))
  | see (e : Ex)
  | cond (e : Ex) (a b : Sts)
  | times (n : Int) (b : Sts)
  | set (x : Str) (e : Ex)
inductive Sts where
  | nil
  | cons (s : St) (r : Sts)
end
mutual
def St.At : St → V → Hp → Prop
  | .draw x al, v, G => ∃ t p xs, v = .ref t ∧ G t = some (.tup [.str "draw", .str x, .ref p]) ∧ G p = some (.tup xs) ∧ Alts al xs G
  | .see e, v, G => ∃ t y, v = .ref t ∧ G t = some (.tup [.str "see", y]) ∧ e.At y G
  | .cond e a b, v, G => ∃ t y p q xs ys, v = .ref t ∧ G t = some (.tup [.str "if", y, .ref p, .ref q]) ∧ e.At y G ∧ G p = some (.tup xs) ∧ a.Ats xs G ∧ G q = some (.tup ys) ∧ b.Ats ys G
  | .times n b, v, G => ∃ t p xs, v = .ref t ∧ G t = some (.tup [.str "times", .int n, .ref p]) ∧ G p = some (.tup xs) ∧ b.Ats xs G
  | .set x e, v, G => ∃ t y, v = .ref t ∧ G t = some (.tup [.str "set", .str x, y]) ∧ e.At y G
def Sts.Ats : Sts → List V → Hp → Prop
  | .nil, vs, _ => vs = []
  | .cons s r, vs, G => ∃ v us, vs = v :: us ∧ s.At v G ∧ r.Ats us G
end
def Sts.snoc : Sts → St → Sts
  | .nil, s => .cons s .nil
  | .cons a r, s => .cons a (r.snoc s)
def Sts.len : Sts → Nat
  | .nil => 0
  | .cons _ r => r.len + 1
theorem Sts.len_snoc : ∀ (b : Sts) (s : St), (b.snoc s).len = b.len + 1
  | .nil, _ => rfl
  | .cons _ r, s => by
    show (r.snoc s).len + 1 = _
    rw [Sts.len_snoc r s]
    rfl
theorem Sts.Ats.snoc : ∀ {b : Sts} {vs : List V} {s : St} {v : V} {G : Hp}, b.Ats vs G → s.At v G → (b.snoc s).Ats (vs ++ [v]) G
  | .nil, _, s, v, G, h, h' => by
    obtain rfl := h
    exact ⟨v, [], rfl, h', rfl⟩
  | .cons a r, _, s, v, G, h, h' => by
    obtain ⟨u, us, rfl, h1, h⟩ := h
    exact ⟨u, _, rfl, h1, Sts.Ats.snoc h h'⟩
theorem Sts.Ats.len : ∀ {b : Sts} {vs : List V} {G : Hp}, b.Ats vs G → vs.length = b.len
  | .nil, _, G, h => by
    obtain rfl := h
    rfl
  | .cons a r, _, G, h => by
    obtain ⟨u, us, rfl, h1, h⟩ := h
    rw [List.length_cons, Sts.Ats.len h]
    rfl
/-- a block: a tuple of statements -/
def Blk (b : Sts) (v : V) : Hp → Prop := fun G => ∃ t xs, v = .ref t ∧ G t = some (.tup xs) ∧ b.Ats xs G
/-! ### what a block is laid with: names known, room -/
/-- the eight names that a block may set -/
def eight (ws : List Str) : List Str := (ws.drop 6).take 8
theorem eight_len (ws : List Str) : (eight ws).length ≤ 8 := by
  unfold eight
  rw [List.length_take]
  omega
theorem nodup_sub {α : Type} [DecidableEq α] : ∀ {xs ys : List α}, xs.Nodup → (∀ x ∈ xs, x ∈ ys) → xs.length ≤ ys.length
  | [], _, _, _ => Nat.zero_le _
  | x :: xs, ys, n, h => by
    rw [List.nodup_cons] at n
    have hx := h x (.head _)
    have := nodup_sub (ys := ys.erase x) n.2 fun y hy => (List.mem_erase_of_ne (fun e => n.1 (by rw [← e]; exact hy))).mpr (h y (.tail _ hy))
    rw [List.length_erase_of_mem hx] at this
    have hp : 0 < ys.length := List.length_pos_of_mem hx
    rw [List.length_cons]
    omega
structure Rg (ws kn : List Str) (a b c : Int) : Prop where
  nd : kn.Nodup
  sub : ∀ z ∈ kn, z ∈ eight ws
  a0 : 1 ≤ a
  a1 : a ≤ 1000
  b0 : 0 ≤ b
  b1 : b ≤ 1000
  c0 : 0 ≤ c
  c1 : c ≤ 100
theorem Rg.len {ws kn : List Str} {a b c : Int} (r : Rg ws kn a b c) : kn.length ≤ 8 := Nat.le_trans (nodup_sub r.nd r.sub) (eight_len ws)
abbrev wld (pw pu ps : Addr) : List (Key × V) := [(.inr "words", .ref pw), (.inr "unknowns", .ref pu), (.inr "seen", .ref ps)]
abbrev rgL (pk pr dw pw pu ps : Addr) (kn : List Str) (a b c : Int) (L : Cells) : Cells := (pk, .lst (kn.map V.str)) :: (pr, .lst [.int a, .int b, .int c]) :: (dw, .dK (wld pw pu ps)) :: L
/-- a promise of the ring: dp tells how deep it may stand -/
theorem back3 {α : Type} (f x y z : α) (l : List α) : (x :: y :: z :: f :: l).Perm (f :: x :: y :: z :: l) := List.perm_middle (l₁ := [x, y, z])
/-- what the ring's defs are promised and tell -/
def ring (K : PySem.W.Frag) (α : Type) (at_ : α → V → Hp → Prop) (dp : Int → Prop) : Sp := fun vs H Q _ => ∃ (d l pk pr dw pw pu ps : Addr) (ws sn kn : List Str) (a b c deep : Int) (Γ : List Kn) (L : Cells),
  vs = [.ref d, .ref dw, .ref pk, .ref pr, .int deep] ∧ 0 ≤ deep ∧ deep ≤ 3 ∧ dp deep ∧ 14 ≤ ws.length ∧ ws.length ≤ 1000 ∧ sn.length ≤ 100 ∧ lst pw ws ∈ Γ ∧ lst ps sn ∈ Γ ∧ Rg ws kn a b c ∧ WR (dealM d l) Γ (rgL pk pr dw pw pu ps kn a b c L) H ∧
  ∀ (s : α) v kn' a' b' c' H', Rg ws kn' a' b' c' → a' ≤ a → b' ≤ b → c' ≤ c → WR (dealM d l) (at_ s v :: Γ) (rgL pk pr dw pw pu ps kn' a' b' c' L) H' → Q v H'
def sp_law_block (K : PySem.W.Frag) (ad : String → Addr) (n : Nat) : Sp := ring K Sts Blk fun deep => 3 * (4 - deep) ≤ n
def sp_law_statement (K : PySem.W.Frag) (ad : String → Addr) (n : Nat) : Sp := ring K St St.At fun deep => 3 * (4 - deep) - 1 ≤ n
def sp_law_if (K : PySem.W.Frag) (ad : String → Addr) (n : Nat) : Sp := ring K St St.At fun deep => 3 * (4 - deep) - 2 ≤ n ∧ deep < 3
def sp_law_times (K : PySem.W.Frag) (ad : String → Addr) (n : Nat) : Sp := ring K St St.At fun deep => 3 * (4 - deep) - 2 ≤ n ∧ deep < 3
theorem ln_ring {K : PySem.W.Frag} {α : Type} {at_ : α → V → Hp → Prop} {dp : Int → Prop} : ∀ vs H Q E, ring K α at_ dp vs H Q E → vs.length = 5 := by
  rintro vs H Q E ⟨d, l, pk, pr, dw, pw, pu, ps, ws, sn, kn, a, b, c, deep, Γ, L, rfl, _⟩
  rfl
theorem ln_law_block {K : PySem.W.Frag} {ad : String → Addr} {n : Nat} : ∀ vs H Q E, sp_law_block K ad n vs H Q E → vs.length = 5 := ln_ring
theorem ln_law_statement {K : PySem.W.Frag} {ad : String → Addr} {n : Nat} : ∀ vs H Q E, sp_law_statement K ad n vs H Q E → vs.length = 5 := ln_ring
theorem ln_law_if {K : PySem.W.Frag} {ad : String → Addr} {n : Nat} : ∀ vs H Q E, sp_law_if K ad n vs H Q E → vs.length = 5 := ln_ring
theorem ln_law_times {K : PySem.W.Frag} {ad : String → Addr} {n : Nat} : ∀ vs H Q E, sp_law_times K ad n vs H Q E → vs.length = 5 := ln_ring
theorem z_law_block {K : PySem.W.Frag} {ad : String → Addr} {vs : List V} {H : Hp} {Q : VK} {E : XK} (h : sp_law_block K ad 0 vs H Q E) : False := by
  obtain ⟨d, l, pk, pr, dw, pw, pu, ps, ws, sn, kn, a, b, c, deep, Γ, L, rfl, h1, h2, h3, _⟩ := h
  simp at h3
  omega
theorem z_law_statement {K : PySem.W.Frag} {ad : String → Addr} {vs : List V} {H : Hp} {Q : VK} {E : XK} (h : sp_law_statement K ad 0 vs H Q E) : False := by
  obtain ⟨d, l, pk, pr, dw, pw, pu, ps, ws, sn, kn, a, b, c, deep, Γ, L, rfl, h1, h2, h3, _⟩ := h
  simp at h3
  omega
theorem z_law_if {K : PySem.W.Frag} {ad : String → Addr} {vs : List V} {H : Hp} {Q : VK} {E : XK} (h : sp_law_if K ad 0 vs H Q E) : False := by
  obtain ⟨d, l, pk, pr, dw, pw, pu, ps, ws, sn, kn, a, b, c, deep, Γ, L, rfl, h1, h2, ⟨h3, h4⟩, _⟩ := h
  simp at h3
  omega
theorem z_law_times {K : PySem.W.Frag} {ad : String → Addr} {vs : List V} {H : Hp} {Q : VK} {E : XK} (h : sp_law_times K ad 0 vs H Q E) : False := z_law_if (ad := ad) (E := E) h
def t_law_block (K : PySem.W.Frag) (ad : String → Addr) (n : Nat) : TS := (tSeq (tAsg (tLst tNil) (gName 5)) (tSeq (tAsg (tOp (rIxA K) (tLst (tCons (tOp (rAddA K) (tCall (sp_law_draw K ad) [] E0 (tCons (tVar 0) (tCons (tC (.int 4)) tNil))) (tCB rIntA (tCons (tOp (rEqA K) (tVar 4) (tC (.int 0))) tNil))) (tCons (tC (.int 9)) tNil))) (tCB rIntA (tCons (tOp (rEqA K) (tCall (sp_law_draw K ad) [] E0 (tCons (tVar 0) (tCons (tC (.int 8)) tNil))) (tC (.int 0))) tNil))) (gName 6)) (tSeq (tFor (iRng1 (tCons (tVar 6) tNil)) (gName 7) (tIfS (tTest (tOp rGtA (tOp (rIxA K) (tVar 3) (tC (.int 2))) (tC (.int 0)))) (tSeq (tAsg (tOp (rI0 fun i j => .int (i - j)) (tOp (rIxA K) (tVar 3) (tC (.int 2))) (tC (.int 1))) (gSub (tVar 3) (tC (.int 2)) rSetA)) (tDrop (tBM K "list" rAppend (tVar 5) (tCons (tCall (sp_law_statement K ad n) [] E0 (tCons (tVar 0) (tCons (tVar 1) (tCons (tVar 2) (tCons (tVar 3) (tCons (tVar 4) tNil)))))) tNil)))) tNext)) (tRet (tCB (rTupOf K) (tCons (tVar 5) tNil))))))
theorem rd_law_block {K : PySem.W.Frag} {ad : String → Addr} (n : Nat) (N : List Str) (hN : N.length = 8) : ∀ vs H Q E, sp_law_block K ad (n + 1) vs H Q E → t_law_block K ad n { nx := fun _ H' => Q .non H', rt := Q } (L2.start N vs) H := by
  rintro vs H Q E ⟨d, l, pk, pr, dw, pw, pu, ps, ws, sn, kn, a, b, c, deep, Γ, L, rfl, d0, d1, dp, w14, w1000, sn100, hpw, hps, rg, w, q⟩
  rw [st_of hN]
  show t_law_block K ad n _ [some (.ref d), some (.ref dw), some (.ref pk), some (.ref pr), some (.int deep), none, none, none] H
  unfold t_law_block
  walk_at "gg"
  refine ⟨Nat.zero_le _, fun pf np => ?_⟩
  have w := w.new (.lst []) np
  walk_at "gg"
  refine ⟨d, l, 4, _, _, rfl, by decide, by decide, w, fun m H m0 m1 w => ?_⟩
  walk_at "gg"
  refine ⟨sz (show 2 ≤ 1000000 by decide), fun p1 np => ?_⟩
  generalize hmz : (if decide (deep = 0) = true then (1 : Int) else 0) = mz at w ⊢
  have hmz2 : 0 ≤ mz ∧ mz ≤ 1 := by
    subst hmz
    split <;> omega
  have w := w.know (.lst (([m + mz, 9] : List Int).map V.int)) np
  walk_at "gg"
  refine ⟨d, l, 8, _, _, rfl, by decide, by decide, w, fun r H r0 r1 w => ?_⟩
  walk_at "gg"
  obtain ⟨v, hc, hcm, _⟩ := at_in (l := ([m + mz, 9] : List Int).map V.int) (r := if decide (r = 0) = true then 1 else 0) (by split <;> omega) (by show _ < (2 : Int); split <;> omega)
  obtain ⟨k, hk, rfl⟩ := List.mem_map.mp hcm
  refine g_ixL (sqL (w.get (.head _))) hc ?_
  have hk2 : 0 ≤ k ∧ k ≤ 9 := by
    simp only [List.mem_cons, List.not_mem_nil, or_false] at hk
    omega
  have w := w.tail
  walk_at "gg"
  refine ⟨k, rfl, by omega, by omega, ?_⟩
  refine c_for walk_range (fun i σ H => ∃ (y7 : Option V) (B : Sts) (xs : List V) (kn' : List Str) (a' b' c' : Int), σ = [some (.ref d), some (.ref dw), some (.ref pk), some (.ref pr), some (.int deep), some (.ref pf), some (.int k), y7] ∧ B.len ≤ i ∧ Rg ws kn' a' b' c' ∧ a' ≤ a ∧ b' ≤ b ∧ c' ≤ c ∧
      WR (dealM d l) (B.Ats xs :: Γ) ((pf, .lst xs) :: rgL pk pr dw pw pu ps kn' a' b' c' L) H)
    (fun σ H => ∃ (y7 : Option V) (B : Sts) (xs : List V) (kn' : List Str) (a' b' c' : Int), σ = [some (.ref d), some (.ref dw), some (.ref pk), some (.ref pr), some (.int deep), some (.ref pf), some (.int k), y7] ∧ Rg ws kn' a' b' c' ∧ a' ≤ a ∧ b' ≤ b ∧ c' ≤ c ∧
      WR (dealM d l) (B.Ats xs :: Γ) ((pf, .lst xs) :: rgL pk pr dw pw pu ps kn' a' b' c' L) H)
    ⟨_, .nil, [], kn, a, b, c, rfl, Nat.le_refl _, rg, Int.le_refl _, Int.le_refl _, Int.le_refl _, w.more _ fun G _ => rfl⟩ (fun _ _ _ _ _ => trivial) ?_ ?_ ?_
  · rintro X hX i x σ H H' hi ⟨y7, B, xs, kn', a', b', c', rfl, hB, rg', ha, hb, hc', w⟩ ⟨rfl, rfl⟩
    walk_at "gg"
    refine g_ixL (n := 2) (v := .int c') (sqL (w.cell (.tail _ (.tail _ (.head _))))) rfl ?_
    walk_at "gg"
    refine g_iteD (fun e => ?_) (fun e => ?_)
    · walk_at "gg"
      refine g_ixL (n := 2) (v := .int c') (sqL (w.cell (.tail _ (.tail _ (.head _))))) rfl ?_
      walk_at "gg"
      refine g_setI (o := .non) (i := .non) (w.cell (.tail _ (.tail _ (.head _)))) (show ixN 3 2 = some 2 from rfl) ?_
      have w := w.put2 (.lst [.int a', .int b', .int (c' - 1)])
      walk_at "gg"
      refine ⟨g_tyL (sqL (w.cell (.head _))), ?_⟩
      walk_at "gg"
      refine ⟨d, l, pk, pr, dw, pw, pu, ps, ws, sn, kn', a', b', c' - 1, deep, _, _, rfl, d0, d1, by omega, w14, w1000, sn100, .tail _ hpw, .tail _ hps, ⟨rg'.nd, rg'.sub, rg'.a0, rg'.a1, rg'.b0, rg'.b1, by omega, by have := rg'.c1; omega⟩, w.perm (L' := rgL pk pr dw pw pu ps kn' a' b' (c' - 1) ((pf, .lst xs) :: L)) (back3 _ _ _ _ _), fun s v kn2 a2 b2 c2 H rg2 h1 h2 h3 w => ?_⟩
      have w := w.perm (L' := (pf, .lst xs) :: rgL pk pr dw pw pu ps kn2 a2 b2 c2 L) (back3 _ _ _ _ _).symm
      walk_at "gg"
      have hxl : xs.length = B.len := (w.get (.tail _ (.head _))).len
      refine g_app (w.cell (.head _)) (szl (by omega)) ?_
      have w := w.put0 (.lst (xs ++ [v]))
      refine ⟨_, B.snoc s, xs ++ [v], kn2, a2, b2, c2, rfl, by rw [Sts.len_snoc]; omega, rg2, by omega, by omega, by omega, (w.more ((B.snoc s).Ats (xs ++ [v])) fun G hG => ?_).only (.head _) fun x hx => .tail _ (.tail _ (.tail _ hx))⟩
      exact (hG (B.Ats xs) (.tail _ (.head _))).snoc (hG _ (.head _))
    · walk_at "gg"
      exact ⟨_, B, xs, kn', a', b', c', rfl, by omega, rg', ha, hb, hc', w⟩
  · rintro σ H ⟨y7, B, xs, kn', a', b', c', rfl, hB, rg', ha, hb, hc', w⟩
    exact ⟨_, B, xs, kn', a', b', c', rfl, rg', ha, hb, hc', w⟩
  · rintro σ H ⟨y7, B, xs, kn', a', b', c', rfl, rg', ha, hb, hc', w⟩
    walk_at "gg"
    refine g_tupL (sqL (w.cell (.head _))) fun p3 np => ?_
    have w := w.drop1.know (.tup xs) np
    exact q B (.ref p3) kn' a' b' c' _ rg' ha hb hc' ((w.more (Blk B (.ref p3)) fun G hG => ⟨p3, xs, rfl, hG _ (.head _), hG _ (.tail _ (.head _))⟩).only (.head _) fun x hx => .tail _ (.tail _ (.tail _ hx)))
end Ct
namespace Ct
open PySem PySem.Spec PyProof.Rows L2
local macro_rules | `(tactic| walk_at "g") => `(tactic| first
  | with_reducible refine g_seq ?_
  | with_reducible refine g_set ?_
  | with_reducible refine g_asg ?_
  | with_reducible refine g_sub ?_
  | with_reducible refine g_name ?_
  | with_reducible refine g_ret ?_
  | with_reducible refine g_if ?_
  | ((with_reducible refine' g_var ?gh ?_); (case gh => rfl))
  | with_reducible refine g_c ?_
  | with_reducible refine g_op ?_
  | with_reducible refine g_test ?_
  | with_reducible refine g_bl ?_
  | with_reducible refine g_int ?_
  | with_reducible refine g_cons ?_
  | with_reducible refine g_nil ?_
  | with_reducible refine g_call ?_
  | with_reducible refine g_cb ?_
  | with_reducible refine g_and ?_
  | with_reducible refine g_or ?_
  | with_reducible refine g_not ?_
  | with_reducible refine g_B ?_
  | with_reducible refine g_un ?_
  | with_reducible refine g_neg ?_
  | with_reducible refine g_chain ?_
  | with_reducible refine g_drop ?_
  | with_reducible refine g_par ?_
  | with_reducible refine g_par3 ?_
  | with_reducible refine g_tup ?_
  | with_reducible refine g_lst ?_
  | with_reducible refine g_sl ?_
  | with_reducible refine g_nop ?_
  | with_reducible refine g_part ?_
  | with_reducible refine g_bm0 ?_
  | with_reducible refine g_bm ?_
  | with_reducible refine g_m0 ?_
  | with_reducible refine g_m1 ?_
  | with_reducible refine g_lrev ?_
  | with_reducible refine g_ifE ?_
  | with_reducible refine g_andV ?_
  | with_reducible refine g_orV ?_
  | with_reducible refine g_notV ?_
  | with_reducible refine g_addI ?_
  | with_reducible refine g_subI ?_
  | with_reducible refine g_eqI ?_
  | with_reducible refine g_neI ?_
  | with_reducible refine g_eqS ?_
  | with_reducible refine g_neS ?_
  | with_reducible refine g_eqB ?_
  | with_reducible refine g_neB ?_
  | with_reducible refine g_ltI ?_
  | with_reducible refine g_gtI ?_
  | with_reducible refine g_leI ?_
  | with_reducible refine g_geI ?_
  | with_reducible refine g_inS ?_
  | with_reducible refine g_niS ?_
  | with_reducible refine g_max ?_
  | with_reducible refine g_min ?_
  | with_reducible refine g_abs ?_
  | with_reducible refine g_isN ?_
  | with_reducible refine g_notN ?_
  | with_reducible refine g_isB ?_
  | with_reducible refine g_notB ?_
  | with_reducible refine g_intB ?_
  | with_reducible refine g_intI ?_
  | with_reducible refine g_lc ?_
  | with_reducible refine g_for ?_
  | with_reducible refine g_seqI ?_
  | with_reducible refine g_inStr ?_
  | with_reducible refine g_rng ?_
  | with_reducible refine g_yes ?_
  | with_reducible refine g_pairs ?_
  | with_reducible refine g_pairs0 ?_
  | with_reducible refine iteT ?_
  | with_reducible refine iteF ?_
  | with_reducible refine g_nF ?_
  | with_reducible refine g_nT ?_
  | with_reducible refine g_gcons ?_
  | with_reducible refine g_gnil ?_
  | with_reducible refine g_next ?_
  | with_reducible refine g_callN ?_
  | with_reducible refine g_callNS ?_
  | with_reducible refine g_callS ?_
  | ((with_reducible refine' g_mulI ?gh ?_); (case gh => first | exact .inl (.inl ⟨by omega, by omega⟩) | exact .inl (.inr ⟨by omega, by omega⟩)))
  | ((with_reducible refine' g_modI ?gh ?_); (case gh => omega)))
local macro_rules | `(tactic| walk_at "gg") => `(tactic| (repeat walk_at "g"))
def tt_r5 (K : PySem.W.Frag) (ad : String → Addr) (n : Nat) : TS := (tSeq (tAsg (tCall (sp_law_expr K ad 16) [] E0 (tCons (tVar 0) (tCons (tVar 5) (tCons (tC (.int 2)) tNil)))) (gName 10)) (tSeq (tDrop (tBM K "list" rExtend (tVar 2) (tCons (tOp (rMulA K) (tLst (tCons (tVar 7) tNil)) (tCB rIntA (tCons (tOp (rNiA K) (tVar 7) (tVar 2)) tNil))) tNil))) (tRet (tTup (tCons (tC (.str "set")) (tCons (tVar 7) (tCons (tVar 10) tNil)))))))
def tt_r4 (K : PySem.W.Frag) (ad : String → Addr) (n : Nat) : TS := (tSeq (tIfS (tAnd (tTest (tOp (rEqA K) (tVar 6) (tC (.int 9)))) (tTest (tOp rLtA (tVar 4) (tC (.int 3))))) (tRet (tCall (sp_law_times K ad n) [] E0 (tCons (tVar 0) (tCons (tVar 1) (tCons (tVar 2) (tCons (tVar 3) (tCons (tVar 4) tNil))))))) tNext) (tSeq (tAsg (tCall (sp_law_expr K ad 16) [] E0 (tCons (tVar 0) (tCons (tVar 5) (tCons (tC (.int 2)) tNil)))) (gName 10)) (tSeq (tDrop (tBM K "list" rExtend (tVar 2) (tCons (tOp (rMulA K) (tLst (tCons (tVar 7) tNil)) (tCB rIntA (tCons (tOp (rNiA K) (tVar 7) (tVar 2)) tNil))) tNil))) (tRet (tTup (tCons (tC (.str "set")) (tCons (tVar 7) (tCons (tVar 10) tNil))))))))
def tt_r3 (K : PySem.W.Frag) (ad : String → Addr) (n : Nat) : TS := (tSeq (tIfS (tAnd (tTest (tOp (rInA K) (tVar 6) (tTup (tCons (tC (.int 7)) (tCons (tC (.int 8)) tNil))))) (tTest (tOp rLtA (tVar 4) (tC (.int 3))))) (tRet (tCall (sp_law_if K ad n) [] E0 (tCons (tVar 0) (tCons (tVar 1) (tCons (tVar 2) (tCons (tVar 3) (tCons (tVar 4) tNil))))))) tNext) (tSeq (tIfS (tAnd (tTest (tOp (rEqA K) (tVar 6) (tC (.int 9)))) (tTest (tOp rLtA (tVar 4) (tC (.int 3))))) (tRet (tCall (sp_law_times K ad n) [] E0 (tCons (tVar 0) (tCons (tVar 1) (tCons (tVar 2) (tCons (tVar 3) (tCons (tVar 4) tNil))))))) tNext) (tSeq (tAsg (tCall (sp_law_expr K ad 16) [] E0 (tCons (tVar 0) (tCons (tVar 5) (tCons (tC (.int 2)) tNil)))) (gName 10)) (tSeq (tDrop (tBM K "list" rExtend (tVar 2) (tCons (tOp (rMulA K) (tLst (tCons (tVar 7) tNil)) (tCB rIntA (tCons (tOp (rNiA K) (tVar 7) (tVar 2)) tNil))) tNil))) (tRet (tTup (tCons (tC (.str "set")) (tCons (tVar 7) (tCons (tVar 10) tNil)))))))))
def tt_r1 (K : PySem.W.Frag) (ad : String → Addr) (n : Nat) : TS := (tSeq (tIfS (tTest (tOp (rInA K) (tVar 6) (tTup (tCons (tC (.int 5)) (tCons (tC (.int 6)) tNil))))) (tRet (tTup (tCons (tC (.str "see")) (tCons (tCall (sp_law_mild K ad) [] E0 (tCons (tVar 0) (tCons (tVar 5) tNil))) tNil)))) tNext) (tSeq (tIfS (tAnd (tTest (tOp (rInA K) (tVar 6) (tTup (tCons (tC (.int 7)) (tCons (tC (.int 8)) tNil))))) (tTest (tOp rLtA (tVar 4) (tC (.int 3))))) (tRet (tCall (sp_law_if K ad n) [] E0 (tCons (tVar 0) (tCons (tVar 1) (tCons (tVar 2) (tCons (tVar 3) (tCons (tVar 4) tNil))))))) tNext) (tSeq (tIfS (tAnd (tTest (tOp (rEqA K) (tVar 6) (tC (.int 9)))) (tTest (tOp rLtA (tVar 4) (tC (.int 3))))) (tRet (tCall (sp_law_times K ad n) [] E0 (tCons (tVar 0) (tCons (tVar 1) (tCons (tVar 2) (tCons (tVar 3) (tCons (tVar 4) tNil))))))) tNext) (tSeq (tAsg (tCall (sp_law_expr K ad 16) [] E0 (tCons (tVar 0) (tCons (tVar 5) (tCons (tC (.int 2)) tNil)))) (gName 10)) (tSeq (tDrop (tBM K "list" rExtend (tVar 2) (tCons (tOp (rMulA K) (tLst (tCons (tVar 7) tNil)) (tCB rIntA (tCons (tOp (rNiA K) (tVar 7) (tVar 2)) tNil))) tNil))) (tRet (tTup (tCons (tC (.str "set")) (tCons (tVar 7) (tCons (tVar 10) tNil))))))))))
theorem know_more {K : PySem.W.Frag} {M : Cells → Prop} {Γ : List Kn} {L : Cells} {H : Hp} {Q : VK} {σ : L2.St} {pk pr dw pw pu ps : Addr} {ws kn : List Str} {a b c : Int} {z : Str} (h2 : σ[2]? = some (some (.ref pk))) (h7 : σ[7]? = some (some (.str z))) (rg : Rg ws kn a b c) (hz : z ∈ eight ws) (w : WR M Γ (rgL pk pr dw pw pu ps kn a b c L) H)
    (q : ∀ kn' H', Rg ws kn' a b c → WR M Γ (rgL pk pr dw pw pu ps kn' a b c L) H' → Q .non H') : (tBM K "list" rExtend (tVar 2) (tCons (tOp (rMulA K) (tLst (tCons (tVar 7) tNil)) (tCB rIntA (tCons (tOp (rNiA K) (tVar 7) (tVar 2)) tNil))) tNil)) σ H Q := by
  refine g_bm (g_var h2 ⟨g_tyL (sqL (w.cell (.head _))), ?_⟩)
  refine g_cons (g_op (g_lst (g_cons (g_var h7 (g_nil ⟨sz (show 1 ≤ 1000000 by decide), fun p np => ?_⟩)))))
  have w1 := w.know (.lst [.str z]) np
  refine g_cb (g_cons (g_op (g_var h7 (g_var h2 ?_))))
  refine g_niQ (.inl (sqL (w1.cell (.head _)))) rfl (flat_strs _) ?_
  rw [inV_str]
  refine g_nil (g_intB ?_)
  have hl := rg.len
  by_cases h : z ∈ kn
  · rw [decide_eq_true h]
    refine g_rep (w1.get (.head _)) (by decide) (by decide) (by show 1 * (if (!true) = true then (1 : Int) else 0).toNat ≤ sizeLine; decide) fun p2 np => ?_
    have w2 := w1.know (.lst []) np
    refine g_nil (g_ext (w2.cell (.head _)) (w2.get (.head _)) (sz (by rw [List.length_map]; simp; omega)) ?_)
    have w3 := w2.put0 (.lst (kn.map V.str ++ []))
    rw [List.append_nil] at w3 ⊢
    exact q kn _ rg w3.tail.tail
  · rw [decide_eq_false h]
    refine g_rep (w1.get (.head _)) (by decide) (by decide) (by show 1 * (if (!false) = true then (1 : Int) else 0).toNat ≤ sizeLine; decide) fun p2 np => ?_
    have w2 := w1.know (.lst [.str z]) np
    refine g_nil (g_ext (w2.cell (.head _)) (w2.get (.head _)) (sz (by rw [List.length_map]; simp; omega)) ?_)
    have w3 := w2.put0 (.lst (kn.map V.str ++ [.str z]))
    have e : kn.map V.str ++ [.str z] = (kn ++ [z]).map V.str := by rw [List.map_append]; rfl
    rw [e] at w3
    refine q (kn ++ [z]) _ ⟨?_, ?_, rg.a0, rg.a1, rg.b0, rg.b1, rg.c0, rg.c1⟩ (by rw [show kn.map V.str ++ [V.str z] = (kn ++ [z]).map V.str from e]; exact w3.tail.tail)
    · rw [List.nodup_append]
      refine ⟨rg.nd, by simp, fun x hx y hy e => h ?_⟩
      rw [List.mem_singleton.mp hy] at e
      rwa [← e]
    · intro x hx
      rcases List.mem_append.mp hx with hx | hx
      · exact rg.sub x hx
      · rw [List.mem_singleton.mp hx]
        exact hz
local macro_rules | `(tactic| walk_at "gx") => `(tactic| repeat (first
  | with_reducible refine g_seq ?_
  | with_reducible refine g_set ?_
  | with_reducible refine g_ret ?_
  | with_reducible refine g_cons ?_
  | with_reducible refine g_nil ?_
  | with_reducible refine g_c ?_
  | with_reducible refine g_tup ?_
  | with_reducible refine g_lst ?_))
theorem eight_at {ws : List Str} {r : Nat} {z : Str} (h : ws[6 + r]? = some z) (hr : r < 8) : z ∈ eight ws := by
  refine List.mem_of_getElem? (i := r) ?_
  unfold eight
  rw [List.getElem?_take_of_lt hr, List.getElem?_drop]
  exact h
def t_law_statement (K : PySem.W.Frag) (ad : String → Addr) (n : Nat) : TS := (tSeq (tPar 5 6 (tCons (tOp (rAddA K) (tOp (rIxA K) (tVar 1) (tC (.str "seen"))) (tVar 2)) (tCons (tCall (sp_law_draw K ad) [] E0 (tCons (tVar 0) (tCons (tC (.int 12)) tNil))) tNil))) (tSeq (tAsg (tOp (rIxA K) (tOp (rIxA K) (tVar 1) (tC (.str "words"))) (tOp (rAddA K) (tC (.int 6)) (tCall (sp_law_draw K ad) [] E0 (tCons (tVar 0) (tCons (tC (.int 8)) tNil))))) (gName 7)) (tSeq (tAsg (tOp (rIxA K) (tLst (tCons (tC (.int 1)) (tCons (tC (.int 2)) (tCons (tC (.int 2)) (tCons (tC (.int 3)) (tCons (tC (.int 4)) tNil)))))) (tCall (sp_law_draw K ad) [] E0 (tCons (tVar 0) (tCons (tC (.int 5)) tNil)))) (gName 8)) (tSeq (tIfS (tAnd (tTest (tOp rLtA (tVar 6) (tC (.int 5)))) (tAnd (tTest (tOp rGe (tOp (rIxA K) (tVar 3) (tC (.int 0))) (tVar 8))) (tTest (tOp rGtA (tOp (rIxA K) (tVar 3) (tC (.int 1))) (tC (.int 0)))))) (tSeq (tAsg (tTup (tCons (tOp (rI CDivA fun i j => .int (i.fdiv j)) (tOp (rIxA K) (tVar 3) (tC (.int 0))) (tVar 8)) (tCons (tOp (rI0 fun i j => .int (i - j)) (tOp (rIxA K) (tVar 3) (tC (.int 1))) (tC (.int 1))) tNil))) (gTup K 2 (gCons (gSub (tVar 3) (tC (.int 0)) rSetA) (gCons (gSub (tVar 3) (tC (.int 1)) rSetA) gNil)))) (tSeq (tAsg (tCall (sp_law_alts K ad) [] E0 (tCons (tVar 0) (tCons (tVar 5) (tCons (tVar 8) tNil)))) (gName 9)) (tSeq (tDrop (tBM K "list" rExtend (tVar 2) (tCons (tOp (rMulA K) (tLst (tCons (tVar 7) tNil)) (tCB rIntA (tCons (tOp (rNiA K) (tVar 7) (tVar 2)) tNil))) tNil))) (tRet (tTup (tCons (tC (.str "draw")) (tCons (tVar 7) (tCons (tVar 9) tNil)))))))) tNext) (tSeq (tIfS (tTest (tOp (rInA K) (tVar 6) (tTup (tCons (tC (.int 5)) (tCons (tC (.int 6)) tNil))))) (tRet (tTup (tCons (tC (.str "see")) (tCons (tCall (sp_law_mild K ad) [] E0 (tCons (tVar 0) (tCons (tVar 5) tNil))) tNil)))) tNext) (tSeq (tIfS (tAnd (tTest (tOp (rInA K) (tVar 6) (tTup (tCons (tC (.int 7)) (tCons (tC (.int 8)) tNil))))) (tTest (tOp rLtA (tVar 4) (tC (.int 3))))) (tRet (tCall (sp_law_if K ad n) [] E0 (tCons (tVar 0) (tCons (tVar 1) (tCons (tVar 2) (tCons (tVar 3) (tCons (tVar 4) tNil))))))) tNext) (tSeq (tIfS (tAnd (tTest (tOp (rEqA K) (tVar 6) (tC (.int 9)))) (tTest (tOp rLtA (tVar 4) (tC (.int 3))))) (tRet (tCall (sp_law_times K ad n) [] E0 (tCons (tVar 0) (tCons (tVar 1) (tCons (tVar 2) (tCons (tVar 3) (tCons (tVar 4) tNil))))))) tNext) (tSeq (tAsg (tCall (sp_law_expr K ad 16) [] E0 (tCons (tVar 0) (tCons (tVar 5) (tCons (tC (.int 2)) tNil)))) (gName 10)) (tSeq (tDrop (tBM K "list" rExtend (tVar 2) (tCons (tOp (rMulA K) (tLst (tCons (tVar 7) tNil)) (tCB rIntA (tCons (tOp (rNiA K) (tVar 7) (tVar 2)) tNil))) tNil))) (tRet (tTup (tCons (tC (.str "set")) (tCons (tVar 7) (tCons (tVar 10) tNil))))))))))))))
theorem rd_law_statement {K : PySem.W.Frag} {ad : String → Addr} (n : Nat) (N : List Str) (hN : N.length = 11) : ∀ vs H Q E, sp_law_statement K ad (n + 1) vs H Q E → t_law_statement K ad n { nx := fun _ H' => Q .non H', rt := Q } (L2.start N vs) H := by
  rintro vs H Q E ⟨d, l, pk, pr, dw, pw, pu, ps, ws, sn, kn, a, b, c, deep, Γ, L, rfl, d0, d1, dp, w14, w1000, sn100, hpw, hps, rg, w, q⟩
  rw [st_of hN]
  show t_law_statement K ad n _ [some (.ref d), some (.ref dw), some (.ref pk), some (.ref pr), some (.int deep), none, none, none, none, none, none] H
  unfold t_law_statement
  have hkl := rg.len
  walk_at "gg"
  refine g_ixD (DGet.k (k := .inr "seen") (w.cell (.tail _ (.tail _ (.head _))))) ?_
  walk_at "gg"
  refine g_addL (w.get hps) (w.cell (.head _)) (sz (by rw [List.length_map, List.length_map]; omega)) fun pn np => ?_
  have w := w.know (.lst (sn.map V.str ++ kn.map V.str)) np
  have e0 : sn.map V.str ++ kn.map V.str = (sn ++ kn).map V.str := List.map_append.symm
  rw [e0] at w ⊢
  walk_at "gg"
  refine ⟨d, l, 12, _, _, rfl, by decide, by decide, w, fun f H f0 f1 w => ?_⟩
  refine ⟨_, _, rfl, ?_⟩
  walk_at "gg"
  refine g_ixD (DGet.k (k := .inr "words") (w.cell (.tail _ (.tail _ (.head _))))) ?_
  walk_at "gg"
  refine ⟨d, l, 8, _, _, rfl, by decide, by decide, w, fun r H r0 r1 w => ?_⟩
  walk_at "gg"
  obtain ⟨v, hc, _, hix⟩ := at_in (l := ws.map V.str) (r := 6 + r) (by omega) (by rw [List.length_map]; omega)
  obtain ⟨z, hz, rfl⟩ := at_map hix
  have hz8 : z ∈ eight ws := eight_at (r := r.toNat) (by rw [show 6 + r.toNat = (6 + r).toNat by omega]; exact hz) (by omega)
  refine g_ixL (sqL (w.get (.tail _ hpw))) hc ?_
  walk_at "gg"
  refine ⟨sz (show 5 ≤ 1000000 by decide), fun p1 np => ?_⟩
  have w := w.know (.lst (([1, 2, 2, 3, 4] : List Int).map V.int)) np
  walk_at "gg"
  refine ⟨d, l, 5, _, _, rfl, by decide, by decide, w, fun r H r0 r1 w => ?_⟩
  obtain ⟨v, hc, hcm, _⟩ := at_in (l := ([1, 2, 2, 3, 4] : List Int).map V.int) r0 r1
  obtain ⟨m, hm, rfl⟩ := List.mem_map.mp hcm
  refine g_ixL (sqL (w.get (.head _))) hc ?_
  have hm2 : 1 ≤ m ∧ m ≤ 4 := by
    simp only [List.mem_cons, List.not_mem_nil, or_false] at hm
    omega
  have w := w.tail
  have hzl : (sn ++ kn).length ≤ 1000 := by rw [List.length_append]; omega
  have r5 : ∀ H, WR (dealM d l) (lst pn (sn ++ kn) :: Γ) (rgL pk pr dw pw pu ps kn a b c L) H → tt_r5 K ad n { nx := fun _ _ => False, rt := Q } [some (.ref d), some (.ref dw), some (.ref pk), some (.ref pr), some (.int deep), some (.ref pn), some (.int f), some (.str z), some (.int m), none, none] H := by
    intro H w
    unfold tt_r5
    walk_at "gg"
    refine ⟨d, l, pn, 2, sn ++ kn, _, _, rfl, by decide, by decide, hzl, .inl (.head _), w, fun e v H he hh w => ?_⟩
    refine g_seq (g_drop (know_more rfl rfl rg hz8 w fun kn' H' rg' w => ?_))
    walk_at "gg"
    refine ⟨sz (show 3 ≤ 1000000 by decide), fun p np => ?_⟩
    have w := w.know (.tup [.str "set", .str z, v]) np
    exact q (.set z e) _ kn' a b c _ rg' (Int.le_refl _) (Int.le_refl _) (Int.le_refl _) ((w.more (St.At (.set z e) (.ref p)) fun G hG => ⟨p, v, rfl, hG _ (.head _), hG _ (.tail _ (.head _))⟩).only (.head _) fun x hx => .tail _ (.tail _ (.tail _ (.tail _ hx))))
  have r4 : ∀ H, WR (dealM d l) (lst pn (sn ++ kn) :: Γ) (rgL pk pr dw pw pu ps kn a b c L) H → tt_r4 K ad n { nx := fun _ _ => False, rt := Q } [some (.ref d), some (.ref dw), some (.ref pk), some (.ref pr), some (.int deep), some (.ref pn), some (.int f), some (.str z), some (.int m), none, none] H := by
    intro H w
    unfold tt_r4
    walk_at "gg"
    refine g_iteD (fun e => ?_) (fun e => r5 H w)
    walk_at "gg"
    refine g_iteD (fun e2 => ?_) (fun e2 => r5 H w)
    walk_at "gg"
    exact ⟨d, l, pk, pr, dw, pw, pu, ps, ws, sn, kn, a, b, c, deep, _, _, rfl, d0, d1, ⟨by omega, e2⟩, w14, w1000, sn100, .tail _ hpw, .tail _ hps, rg, w, fun s v kn' a' b' c' H' h1 h2 h3 h4 w => q s v kn' a' b' c' H' h1 h2 h3 h4 (w.only (.head _) fun x hx => .tail _ (.tail _ hx))⟩
  have r3 : ∀ H, WR (dealM d l) (lst pn (sn ++ kn) :: Γ) (rgL pk pr dw pw pu ps kn a b c L) H → tt_r3 K ad n { nx := fun _ _ => False, rt := Q } [some (.ref d), some (.ref dw), some (.ref pk), some (.ref pr), some (.int deep), some (.ref pn), some (.int f), some (.str z), some (.int m), none, none] H := by
    intro H w
    unfold tt_r3
    walk_at "gg"
    refine ⟨sz (show 2 ≤ 1000000 by decide), fun p np => ?_⟩
    have w1 := w.know (.tup [.int 7, .int 8]) np
    refine g_inQ (.inr (sqT (w1.get (.head _)))) rfl rfl ?_
    have w := w1.tail
    generalize inV (.int f) [.int 7, .int 8] = c1
    walk_at "gg"
    refine g_ite (fun e => ?_) (fun e => r4 _ w)
    walk_at "gg"
    refine g_iteD (fun e2 => ?_) (fun e2 => r4 _ w)
    walk_at "gg"
    exact ⟨d, l, pk, pr, dw, pw, pu, ps, ws, sn, kn, a, b, c, deep, _, _, rfl, d0, d1, ⟨by omega, e2⟩, w14, w1000, sn100, .tail _ hpw, .tail _ hps, rg, w, fun s v kn' a' b' c' H' h1 h2 h3 h4 w => q s v kn' a' b' c' H' h1 h2 h3 h4 (w.only (.head _) fun x hx => .tail _ (.tail _ hx))⟩
  have r1' : ∀ H, WR (dealM d l) (lst pn (sn ++ kn) :: Γ) (rgL pk pr dw pw pu ps kn a b c L) H → tt_r1 K ad n { nx := fun _ _ => False, rt := Q } [some (.ref d), some (.ref dw), some (.ref pk), some (.ref pr), some (.int deep), some (.ref pn), some (.int f), some (.str z), some (.int m), none, none] H := by
    intro H w
    unfold tt_r1
    walk_at "gg"
    refine ⟨sz (show 2 ≤ 1000000 by decide), fun p np => ?_⟩
    have w1 := w.know (.tup [.int 5, .int 6]) np
    refine g_inQ (.inr (sqT (w1.get (.head _)))) rfl rfl ?_
    have w := w1.tail
    generalize inV (.int f) [.int 5, .int 6] = c1
    walk_at "gg"
    refine g_ite (fun e => ?_) (fun e => r3 _ w)
    walk_at "gg"
    refine ⟨d, l, pn, sn ++ kn, _, _, rfl, hzl, .inl (.head _), w, fun e v H he hh w => ?_⟩
    walk_at "gg"
    refine ⟨sz (show 2 ≤ 1000000 by decide), fun p np => ?_⟩
    have w := w.know (.tup [.str "see", v]) np
    exact q (.see e) _ kn a b c _ rg (Int.le_refl _) (Int.le_refl _) (Int.le_refl _) ((w.more (St.At (.see e) (.ref p)) fun G hG => ⟨p, v, rfl, hG _ (.head _), hG _ (.tail _ (.head _))⟩).only (.head _) fun x hx => .tail _ (.tail _ (.tail _ (.tail _ hx))))
  walk_at "gg"
  refine g_iteD (fun e1 => ?_) (fun e1 => r1' H w)
  walk_at "gg"
  refine g_ixL (n := 0) (v := .int a) (sqL (w.cell (.tail _ (.head _)))) rfl ?_
  walk_at "gg"
  refine g_iteD (fun e2 => ?_) (fun e2 => r1' H w)
  walk_at "gg"
  refine g_ixL (n := 1) (v := .int b) (sqL (w.cell (.tail _ (.head _)))) rfl ?_
  walk_at "gg"
  refine g_iteD (fun e3 => ?_) (fun e3 => r1' H w)
  clear r5 r4 r3 r1'
  walk_at "gg"
  refine g_ixL (n := 0) (v := .int a) (sqL (w.cell (.tail _ (.head _)))) rfl ?_
  walk_at "gg"
  refine g_divI (cdiv_small (by omega) (by omega)) ?_
  rw [Int.fdiv_eq_ediv_of_nonneg _ (by omega)]
  have ha1 : 1 ≤ a / m := (Int.le_ediv_iff_mul_le (by omega)).mpr (by omega)
  have ha2 : a / m ≤ a := Int.ediv_le_self _ (by have := rg.a0; omega)
  walk_at "gg"
  refine g_ixL (n := 1) (v := .int b) (sqL (w.cell (.tail _ (.head _)))) rfl ?_
  walk_at "gg"
  refine ⟨sz (show 2 ≤ 1000000 by decide), fun p np => ?_⟩
  have w := w.know (.tup [.int (a / m), .int (b - 1)]) np
  refine g_gtup (sqT (w.get (.head _))) rfl ?_
  walk_at "gg"
  refine g_setI (o := .non) (i := .non) (w.cell (.tail _ (.head _))) (show ixN 3 0 = some 0 from rfl) ?_
  have w := w.put1 (.lst [.int (a / m), .int b, .int c])
  walk_at "gg"
  refine g_setI (o := .non) (i := .non) (w.cell (.tail _ (.head _))) (show ixN 3 1 = some 1 from rfl) ?_
  have w := w.put1 (.lst [.int (a / m), .int (b - 1), .int c])
  walk_at "gg"
  have rg2 : Rg ws kn (a / m) (b - 1) c := ⟨rg.nd, rg.sub, ha1, by have := rg.a1; omega, by omega, by have := rg.b1; omega, rg.c0, rg.c1⟩
  refine ⟨d, l, pn, m, sn ++ kn, _, _, rfl, by omega, by omega, hzl, .inl (.tail _ (.head _)), w, fun al xs t H hal hof w => ?_⟩
  refine g_seq (g_drop (know_more (kn := kn) (a := a / m) (b := b - 1) (c := c) rfl rfl rg2 hz8 w fun kn' H' rg' w => ?_))
  walk_at "gg"
  refine ⟨sz (show 3 ≤ 1000000 by decide), fun p2 np => ?_⟩
  have w := w.know (.tup [.str "draw", .str z, .ref t]) np
  exact q (.draw z al) _ kn' _ _ c _ rg' ha2 (by omega) (Int.le_refl _) ((w.more (St.At (.draw z al) (.ref p2)) fun G hG => ⟨p2, t, xs, rfl, hG _ (.head _), hG _ (.tail _ (.head _)), hG _ (.tail _ (.tail _ (.head _)))⟩).only (.head _) fun x hx => .tail _ (.tail _ (.tail _ (.tail _ (.tail _ (.tail _ hx))))))
end Ct
namespace Ct
open PySem PySem.Spec PyProof.Rows L2
local macro_rules | `(tactic| walk_at "g") => `(tactic| first
  | with_reducible refine g_seq ?_
  | with_reducible refine g_set ?_
  | with_reducible refine g_asg ?_
  | with_reducible refine g_sub ?_
  | with_reducible refine g_name ?_
  | with_reducible refine g_ret ?_
  | with_reducible refine g_if ?_
  | ((with_reducible refine' g_var ?gh ?_); (case gh => rfl))
  | with_reducible refine g_c ?_
  | with_reducible refine g_op ?_
  | with_reducible refine g_test ?_
  | with_reducible refine g_bl ?_
  | with_reducible refine g_int ?_
  | with_reducible refine g_cons ?_
  | with_reducible refine g_nil ?_
  | with_reducible refine g_call ?_
  | with_reducible refine g_cb ?_
  | with_reducible refine g_and ?_
  | with_reducible refine g_or ?_
  | with_reducible refine g_not ?_
  | with_reducible refine g_B ?_
  | with_reducible refine g_un ?_
  | with_reducible refine g_neg ?_
  | with_reducible refine g_chain ?_
  | with_reducible refine g_drop ?_
  | with_reducible refine g_par ?_
  | with_reducible refine g_par3 ?_
  | with_reducible refine g_tup ?_
  | with_reducible refine g_lst ?_
  | with_reducible refine g_sl ?_
  | with_reducible refine g_nop ?_
  | with_reducible refine g_part ?_
  | with_reducible refine g_bm0 ?_
  | with_reducible refine g_bm ?_
  | with_reducible refine g_m0 ?_
  | with_reducible refine g_m1 ?_
  | with_reducible refine g_lrev ?_
  | with_reducible refine g_ifE ?_
  | with_reducible refine g_andV ?_
  | with_reducible refine g_orV ?_
  | with_reducible refine g_notV ?_
  | with_reducible refine g_addI ?_
  | with_reducible refine g_subI ?_
  | with_reducible refine g_eqI ?_
  | with_reducible refine g_neI ?_
  | with_reducible refine g_eqS ?_
  | with_reducible refine g_neS ?_
  | with_reducible refine g_eqB ?_
  | with_reducible refine g_neB ?_
  | with_reducible refine g_ltI ?_
  | with_reducible refine g_gtI ?_
  | with_reducible refine g_leI ?_
  | with_reducible refine g_geI ?_
  | with_reducible refine g_inS ?_
  | with_reducible refine g_niS ?_
  | with_reducible refine g_max ?_
  | with_reducible refine g_min ?_
  | with_reducible refine g_abs ?_
  | with_reducible refine g_isN ?_
  | with_reducible refine g_notN ?_
  | with_reducible refine g_isB ?_
  | with_reducible refine g_notB ?_
  | with_reducible refine g_intB ?_
  | with_reducible refine g_intI ?_
  | with_reducible refine g_lc ?_
  | with_reducible refine g_for ?_
  | with_reducible refine g_seqI ?_
  | with_reducible refine g_inStr ?_
  | with_reducible refine g_rng ?_
  | with_reducible refine g_yes ?_
  | with_reducible refine g_pairs ?_
  | with_reducible refine g_pairs0 ?_
  | with_reducible refine iteT ?_
  | with_reducible refine iteF ?_
  | with_reducible refine g_nF ?_
  | with_reducible refine g_nT ?_
  | with_reducible refine g_gcons ?_
  | with_reducible refine g_gnil ?_
  | with_reducible refine g_next ?_
  | with_reducible refine g_callN ?_
  | with_reducible refine g_callNS ?_
  | with_reducible refine g_callS ?_
  | ((with_reducible refine' g_mulI ?gh ?_); (case gh => first | exact .inl (.inl ⟨by omega, by omega⟩) | exact .inl (.inr ⟨by omega, by omega⟩)))
  | ((with_reducible refine' g_modI ?gh ?_); (case gh => omega)))
local macro_rules | `(tactic| walk_at "gg") => `(tactic| (repeat walk_at "g"))
def t_law_times (K : PySem.W.Frag) (ad : String → Addr) (n : Nat) : TS := (tSeq (tAsg (tOp (rAddA K) (tC (.int 1)) (tCall (sp_law_draw K ad) [] E0 (tCons (tVar 0) (tCons (tC (.int 3)) tNil)))) (gName 5)) (tSeq (tAsg (tLst (tCons (tIf (tTest (tOp (rEqA K) (tVar 5) (tC (.int 1)))) (tOp (rIxA K) (tVar 3) (tC (.int 0))) (tCall (sp_law_root K ad) [] E0 (tCons (tOp (rIxA K) (tVar 3) (tC (.int 0))) (tCons (tVar 5) tNil)))) (tCons (tOp (rI CDivA fun i j => .int (i.fdiv j)) (tOp (rIxA K) (tVar 3) (tC (.int 1))) (tVar 5)) (tCons (tCB rMin2' (tCons (tC (.int 3)) (tCons (tOp (rIxA K) (tVar 3) (tC (.int 2))) tNil))) tNil)))) (gName 6)) (tSeq (tPar 7 8 (tCons (tOp (rIxA K) (tVar 6) (tC (.int 0))) (tCons (tOp (rIxA K) (tVar 6) (tC (.int 2))) tNil))) (tSeq (tAsg (tCall (sp_law_block K ad n) [] E0 (tCons (tVar 0) (tCons (tVar 1) (tCons (tVar 2) (tCons (tVar 6) (tCons (tOp (rAddA K) (tVar 4) (tC (.int 1))) tNil)))))) (gName 9)) (tSeq (tAsg (tOp (rI0 fun i j => .int (i - j)) (tOp (rIxA K) (tVar 3) (tC (.int 2))) (tOp (rI0 fun i j => .int (i - j)) (tVar 8) (tOp (rIxA K) (tVar 6) (tC (.int 2))))) (gSub (tVar 3) (tC (.int 2)) rSetA)) (tSeq (tFor (iRng1 (tCons (tVar 5) tNil)) (gName 10) (tAsg (tCB rMax2' (tCons (tC (.int 1)) (tCons (tOp (rI CDivA fun i j => .int (i.fdiv j)) (tOp (rIxA K) (tVar 3) (tC (.int 0))) (tCB rMax2' (tCons (tC (.int 1)) (tCons (tOp (rI CDivA fun i j => .int (i.fdiv j)) (tVar 7) (tCB rMax2' (tCons (tC (.int 1)) (tCons (tOp (rIxA K) (tVar 6) (tC (.int 0))) tNil)))) tNil)))) tNil))) (gSub (tVar 3) (tC (.int 0)) rSetA))) (tSeq (tAsg (tOp (rMulA K) (tOp (rIxA K) (tVar 6) (tC (.int 1))) (tVar 5)) (gSub (tVar 3) (tC (.int 1)) rSetA)) (tRet (tTup (tCons (tC (.str "times")) (tCons (tVar 5) (tCons (tVar 9) tNil))))))))))))
theorem rd_law_times {K : PySem.W.Frag} {ad : String → Addr} (n : Nat) (N : List Str) (hN : N.length = 11) : ∀ vs H Q E, sp_law_times K ad (n + 1) vs H Q E → t_law_times K ad n { nx := fun _ H' => Q .non H', rt := Q } (L2.start N vs) H := by
  rintro vs H Q E ⟨d, l, pk, pr, dw, pw, pu, ps, ws, sn, kn, a, b, c, deep, Γ, L, rfl, d0, d1, ⟨dp, dp3⟩, w14, w1000, sn100, hpw, hps, rg, w, q⟩
  rw [st_of hN]
  show t_law_times K ad n _ [some (.ref d), some (.ref dw), some (.ref pk), some (.ref pr), some (.int deep), none, none, none, none, none, none] H
  unfold t_law_times
  have ra0 := rg.a0
  have ra1 := rg.a1
  have rb0 := rg.b0
  have rb1 := rg.b1
  have rc0 := rg.c0
  have rc1 := rg.c1
  walk_at "gg"
  refine ⟨d, l, 3, _, _, rfl, by decide, by decide, w, fun r H r0 r1 w => ?_⟩
  walk_at "g"
  walk_at "g"
  walk_at "g"
  walk_at "g"
  generalize hm : 1 + r = m
  have m0 : 1 ≤ m ∧ m ≤ 3 := by omega
  have hIf : ∀ R : VK, (∀ i0 H', 1 ≤ i0 → i0 ≤ a → WR (dealM d l) Γ (rgL pk pr dw pw pu ps kn a b c L) H' → R (.int i0) H') → (tIf (tTest (tOp (rEqA K) (tVar 5) (tC (.int 1)))) (tOp (rIxA K) (tVar 3) (tC (.int 0))) (tCall (sp_law_root K ad) [] E0 (tCons (tOp (rIxA K) (tVar 3) (tC (.int 0))) (tCons (tVar 5) tNil)))) [some (.ref d), some (.ref dw), some (.ref pk), some (.ref pr), some (.int deep), some (.int m), none, none, none, none, none] H R := by
    intro R k
    walk_at "gg"
    refine g_iteD (fun e => ?_) (fun e => ?_)
    · walk_at "gg"
      refine g_ixL (n := 0) (v := .int a) (sqL (w.cell (.tail _ (.head _)))) rfl ?_
      exact k a H ra0 (Int.le_refl _) w
    · walk_at "gg"
      refine g_ixL (n := 0) (v := .int a) (sqL (w.cell (.tail _ (.head _)))) rfl ?_
      walk_at "gg"
      exact ⟨a, m, _, _, _, rfl, ra0, ra1, by omega, by omega, w, fun r H' h1 h2 w => k r H' h1 h2 w⟩
  refine g_cons (hIf _ fun i0 H i1 i2 w => ?_)
  clear hIf
  walk_at "gg"
  refine g_ixL (n := 1) (v := .int b) (sqL (w.cell (.tail _ (.head _)))) rfl ?_
  walk_at "gg"
  refine g_divI (cdiv_small (by omega) (by omega)) ?_
  rw [Int.fdiv_eq_ediv_of_nonneg _ (by omega)]
  have hb1 : 0 ≤ b / m := Int.ediv_nonneg (by omega) (by omega)
  have hb2 : b / m ≤ b := Int.ediv_le_self _ (by omega)
  have hb3 : b / m * m ≤ b := Int.ediv_mul_le _ (by omega)
  generalize b / m = bm at hb1 hb2 hb3 ⊢
  walk_at "gg"
  refine g_ixL (n := 2) (v := .int c) (sqL (w.cell (.tail _ (.head _)))) rfl ?_
  walk_at "gg"
  have hc3 : 0 ≤ (if c < 3 then c else 3) ∧ (if c < 3 then c else 3) ≤ c ∧ (if c < 3 then c else 3) ≤ 3 ∨ c < 0 := by
    split <;> omega
  have hc3 : 0 ≤ (if c < 3 then c else 3) ∧ (if c < 3 then c else 3) ≤ c := by
    split <;> omega
  generalize (if c < 3 then c else 3) = c3 at hc3 ⊢
  refine ⟨sz (show 3 ≤ 1000000 by decide), fun pi np => ?_⟩
  have w := w.new (.lst [.int i0, .int bm, .int c3]) np
  walk_at "gg"
  refine g_ixL (n := 0) (v := .int i0) (sqL (w.cell (.head _))) rfl ?_
  walk_at "gg"
  refine g_ixL (n := 2) (v := .int c3) (sqL (w.cell (.head _))) rfl ?_
  walk_at "gg"
  refine ⟨_, _, rfl, ?_⟩
  walk_at "gg"
  have swp : ∀ {x y z u : Addr × HO} {L : Cells}, (x :: y :: z :: u :: L).Perm (y :: x :: u :: z :: L) := fun {x y z u L} => (List.Perm.swap y x _).trans ((((List.Perm.swap u z L).cons x).cons y))
  refine ⟨d, l, pk, pi, dw, pw, pu, ps, ws, sn, kn, i0, bm, c3, deep + 1, _, _, rfl, by omega, by omega, by omega, w14, w1000, sn100, hpw, hps, ⟨rg.nd, rg.sub, i1, by omega, hb1, by omega, hc3.1, by omega⟩, w.perm (L' := rgL pk pi dw pw pu ps kn i0 bm c3 ((pr, .lst [.int a, .int b, .int c]) :: L)) swp, fun B v kn' a' b' c' H rg' h1 h2 h3 w => ?_⟩
  have w := w.perm (L' := (pi, .lst [.int a', .int b', .int c']) :: rgL pk pr dw pw pu ps kn' a b c L) swp
  have xa0 := rg'.a0
  have xb0 := rg'.b0
  have xc0 := rg'.c0
  walk_at "gg"
  refine g_ixL (n := 2) (v := .int c) (sqL (w.cell (.tail _ (.tail _ (.head _))))) rfl ?_
  walk_at "gg"
  refine g_ixL (n := 2) (v := .int c') (sqL (w.cell (.head _))) rfl ?_
  walk_at "gg"
  refine g_setI (o := .non) (i := .non) (w.cell (.tail _ (.tail _ (.head _)))) (show ixN 3 2 = some 2 from rfl) ?_
  have w := w.put2 (.lst [.int a, .int b, .int (c - (c3 - c'))])
  walk_at "gg"
  refine ⟨m, rfl, by omega, by omega, ?_⟩
  refine c_for walk_range (fun i σ H => ∃ (y10 : Option V) (a2 : Int), σ = [some (.ref d), some (.ref dw), some (.ref pk), some (.ref pr), some (.int deep), some (.int m), some (.ref pi), some (.int i0), some (.int c3), some v, y10] ∧ 1 ≤ a2 ∧ a2 ≤ a ∧
      WR (dealM d l) (Blk B v :: Γ) ((pi, .lst [.int a', .int b', .int c']) :: rgL pk pr dw pw pu ps kn' a2 b (c - (c3 - c')) L) H)
    (fun σ H => ∃ (y10 : Option V) (a2 : Int), σ = [some (.ref d), some (.ref dw), some (.ref pk), some (.ref pr), some (.int deep), some (.int m), some (.ref pi), some (.int i0), some (.int c3), some v, y10] ∧ 1 ≤ a2 ∧ a2 ≤ a ∧
      WR (dealM d l) (Blk B v :: Γ) ((pi, .lst [.int a', .int b', .int c']) :: rgL pk pr dw pw pu ps kn' a2 b (c - (c3 - c')) L) H)
    ⟨_, a, rfl, ra0, Int.le_refl _, w⟩ (fun _ _ _ _ _ => trivial) ?_ (fun _ _ h => h) ?_
  · rintro X hX i x σ H H' hi ⟨y10, a2, rfl, a20, a21, w⟩ ⟨rfl, rfl⟩
    walk_at "gg"
    refine g_ixL (n := 0) (v := .int a2) (sqL (w.cell (.tail _ (.tail _ (.head _))))) rfl ?_
    walk_at "gg"
    refine g_ixL (n := 0) (v := .int a') (sqL (w.cell (.head _))) rfl ?_
    walk_at "gg"
    have hx : 1 ≤ (if a' > 1 then a' else 1) ∧ (if a' > 1 then a' else 1) ≤ 1000 := by
      have := rg'.a1
      split <;> omega
    generalize (if a' > 1 then a' else 1) = xa at hx ⊢
    refine g_divI (cdiv_small (by omega) (by omega)) ?_
    rw [Int.fdiv_eq_ediv_of_nonneg _ (by omega)]
    have hy0 : 0 ≤ i0 / xa := Int.ediv_nonneg (by omega) (by omega)
    have hy1 : i0 / xa ≤ i0 := Int.ediv_le_self _ (by omega)
    generalize i0 / xa = ia at hy0 hy1 ⊢
    walk_at "gg"
    have hz : 1 ≤ (if ia > 1 then ia else 1) ∧ (if ia > 1 then ia else 1) ≤ 1000 := by
      split <;> omega
    generalize (if ia > 1 then ia else 1) = xi at hz ⊢
    refine g_divI (cdiv_small (by omega) (by omega)) ?_
    rw [Int.fdiv_eq_ediv_of_nonneg _ (by omega)]
    have ht1 : a2 / xi ≤ a2 := Int.ediv_le_self _ (by omega)
    generalize a2 / xi = ai at ht1 ⊢
    walk_at "gg"
    have hu : 1 ≤ (if ai > 1 then ai else 1) ∧ (if ai > 1 then ai else 1) ≤ a := by
      split <;> omega
    generalize (if ai > 1 then ai else 1) = na at hu ⊢
    refine g_setI (o := .non) (i := .non) (w.cell (.tail _ (.tail _ (.head _)))) (show ixN 3 0 = some 0 from rfl) ?_
    have w := w.put2 (.lst [.int na, .int b, .int (c - (c3 - c'))])
    exact ⟨_, na, rfl, hu.1, hu.2, w⟩
  · rintro σ H ⟨y10, a2, rfl, a20, a21, w⟩
    have hbm : b' * m ≤ b := Int.le_trans (Int.mul_le_mul_of_nonneg_right h2 (by omega)) hb3
    have hbm0 : 0 ≤ b' * m := Int.mul_nonneg xb0 (by omega)
    walk_at "gg"
    refine g_ixL (n := 1) (v := .int b') (sqL (w.cell (.head _))) rfl ?_
    walk_at "gg"
    generalize b' * m = b2 at hbm hbm0 ⊢
    refine g_setI (o := .non) (i := .non) (w.cell (.tail _ (.tail _ (.head _)))) (show ixN 3 1 = some 1 from rfl) ?_
    have w := (w.put2 (.lst [.int a2, .int b2, .int (c - (c3 - c'))])).drop1
    walk_at "gg"
    refine ⟨sz (show 3 ≤ 1000000 by decide), fun p2 np => ?_⟩
    have w := w.know (.tup [.str "times", .int m, v]) np
    refine q (.times m B) _ kn' a2 b2 (c - (c3 - c')) _ ⟨rg'.nd, rg'.sub, a20, by omega, hbm0, by omega, by omega, by omega⟩ a21 hbm (by omega) ((w.more (St.At (.times m B) (.ref p2)) fun G hG => ?_).only (.head _) fun x hx => .tail _ (.tail _ (.tail _ hx)))
    obtain ⟨t, xs, rfl, h4, h5⟩ := hG (Blk B v) (.tail _ (.head _))
    exact ⟨p2, t, xs, rfl, hG _ (.head _), h4, h5⟩
end Ct
namespace Ct
open PySem PySem.Spec PyProof.Rows L2
local macro_rules | `(tactic| walk_at "g") => `(tactic| first
  | with_reducible refine g_seq ?_
  | with_reducible refine g_set ?_
  | with_reducible refine g_asg ?_
  | with_reducible refine g_sub ?_
  | with_reducible refine g_name ?_
  | with_reducible refine g_ret ?_
  | with_reducible refine g_if ?_
  | ((with_reducible refine' g_var ?gh ?_); (case gh => rfl))
  | with_reducible refine g_c ?_
  | with_reducible refine g_op ?_
  | with_reducible refine g_test ?_
  | with_reducible refine g_bl ?_
  | with_reducible refine g_int ?_
  | with_reducible refine g_cons ?_
  | with_reducible refine g_nil ?_
  | with_reducible refine g_call ?_
  | with_reducible refine g_cb ?_
  | with_reducible refine g_and ?_
  | with_reducible refine g_or ?_
  | with_reducible refine g_not ?_
  | with_reducible refine g_B ?_
  | with_reducible refine g_un ?_
  | with_reducible refine g_neg ?_
  | with_reducible refine g_chain ?_
  | with_reducible refine g_drop ?_
  | with_reducible refine g_par ?_
  | with_reducible refine g_par3 ?_
  | with_reducible refine g_tup ?_
  | with_reducible refine g_lst ?_
  | with_reducible refine g_sl ?_
  | with_reducible refine g_nop ?_
  | with_reducible refine g_part ?_
  | with_reducible refine g_bm0 ?_
  | with_reducible refine g_bm ?_
  | with_reducible refine g_m0 ?_
  | with_reducible refine g_m1 ?_
  | with_reducible refine g_lrev ?_
  | with_reducible refine g_ifE ?_
  | with_reducible refine g_andV ?_
  | with_reducible refine g_orV ?_
  | with_reducible refine g_notV ?_
  | with_reducible refine g_addI ?_
  | with_reducible refine g_subI ?_
  | with_reducible refine g_eqI ?_
  | with_reducible refine g_neI ?_
  | with_reducible refine g_eqS ?_
  | with_reducible refine g_neS ?_
  | with_reducible refine g_eqB ?_
  | with_reducible refine g_neB ?_
  | with_reducible refine g_ltI ?_
  | with_reducible refine g_gtI ?_
  | with_reducible refine g_leI ?_
  | with_reducible refine g_geI ?_
  | with_reducible refine g_inS ?_
  | with_reducible refine g_niS ?_
  | with_reducible refine g_max ?_
  | with_reducible refine g_min ?_
  | with_reducible refine g_abs ?_
  | with_reducible refine g_isN ?_
  | with_reducible refine g_notN ?_
  | with_reducible refine g_isB ?_
  | with_reducible refine g_notB ?_
  | with_reducible refine g_intB ?_
  | with_reducible refine g_intI ?_
  | with_reducible refine g_lc ?_
  | with_reducible refine g_for ?_
  | with_reducible refine g_seqI ?_
  | with_reducible refine g_inStr ?_
  | with_reducible refine g_rng ?_
  | with_reducible refine g_yes ?_
  | with_reducible refine g_pairs ?_
  | with_reducible refine g_pairs0 ?_
  | with_reducible refine iteT ?_
  | with_reducible refine iteF ?_
  | with_reducible refine g_nF ?_
  | with_reducible refine g_nT ?_
  | with_reducible refine g_gcons ?_
  | with_reducible refine g_gnil ?_
  | with_reducible refine g_next ?_
  | with_reducible refine g_callN ?_
  | with_reducible refine g_callNS ?_
  | with_reducible refine g_callS ?_
  | ((with_reducible refine' g_mulI ?gh ?_); (case gh => first | exact .inl (.inl ⟨by omega, by omega⟩) | exact .inl (.inr ⟨by omega, by omega⟩)))
  | ((with_reducible refine' g_modI ?gh ?_); (case gh => omega)))
local macro_rules | `(tactic| walk_at "gg") => `(tactic| (repeat walk_at "g"))
def Arms : List Sts → List V → Hp → Prop
  | [], vs, _ => vs = []
  | b :: bs, vs, G => ∃ v r, vs = v :: r ∧ Blk b v G ∧ Arms bs r G
theorem Arms.app : ∀ {es fs : List Sts} {vs us : List V} {G : Hp}, Arms es vs G → Arms fs us G → Arms (es ++ fs) (vs ++ us) G
  | [], _, _, _, _, h, h' => by
    obtain rfl := h
    exact h'
  | e :: es, _, _, _, _, h, h' => by
    obtain ⟨v, r, rfl, h1, h⟩ := h
    exact ⟨v, _, rfl, h1, Arms.app h h'⟩
theorem Arms.len : ∀ {es : List Sts} {vs : List V} {G : Hp}, Arms es vs G → vs.length = es.length
  | [], _, _, h => by
    obtain rfl := h
    rfl
  | e :: es, _, _, h => by
    obtain ⟨v, r, rfl, _, h⟩ := h
    rw [List.length_cons, List.length_cons, Arms.len h]
def Kns (ks : List (Addr × List Str)) : Hp → Prop := fun G => ∀ k ∈ ks, G k.1 = some (.lst (k.2.map V.str))
theorem g_minL {K : PySem.W.Frag} {H : Hp} {Q : VK} {a : Addr} {ns : List Int} (h : SqL K H a (ns.map V.int)) (h0 : 0 < ns.length) (q : ∀ m, m ∈ ns → Q (.int m) H) : rMin K [.ref a] H Q := ⟨a, ns, rfl, h, h0, fun m hm _ => q m hm⟩
abbrev ifL (pk pr dw pw pu ps p6 p7 p8 p9 : Addr) (kn : List Str) (a b c : Int) (wl dl : List Int) (xs : List V) (ks : List (Addr × List Str)) (L : Cells) : Cells :=
  (p9, .lst (ks.map fun k => .ref k.1)) :: (p8, .lst xs) :: (p7, .lst (dl.map V.int)) :: (p6, .lst (wl.map V.int)) :: rgL pk pr dw pw pu ps kn a b c L
def t_law_if (K : PySem.W.Frag) (ad : String → Addr) (n : Nat) : TS := (tSeq (tPar3 5 6 7 (tCons (tCall (sp_law_test K ad) [] E0 (tCons (tVar 0) (tCons (tOp (rAddA K) (tOp (rIxA K) (tVar 1) (tC (.str "seen"))) (tVar 2)) tNil))) (tCons (tLst tNil) (tCons (tLst tNil) tNil)))) (tSeq (tAsg (tTup (tCons (tLst tNil) (tCons (tLst tNil) tNil))) (gTup K 2 (gCons (gName 8) (gCons (gName 9) gNil)))) (tSeq (tFor (iRng1 (tCons (tC (.int 2)) tNil)) (gName 10) (tSeq (tPar 11 12 (tCons (tLst (tCons (tOp (rIxA K) (tVar 3) (tC (.int 0))) (tCons (tOp (rIxA K) (tVar 3) (tC (.int 1))) (tCons (tOp (rIxA K) (tVar 3) (tC (.int 2))) tNil)))) (tCons (tCB (rListA K) (tCons (tVar 2) tNil)) tNil))) (tSeq (tDrop (tBM K "list" rAppend (tVar 8) (tCons (tCall (sp_law_block K ad n) [] E0 (tCons (tVar 0) (tCons (tVar 1) (tCons (tVar 12) (tCons (tVar 11) (tCons (tOp (rAddA K) (tVar 4) (tC (.int 1))) tNil)))))) tNil))) (tSeq (tAsg (tOp (rIxA K) (tVar 11) (tC (.int 2))) (gSub (tVar 3) (tC (.int 2)) rSetA)) (tSeq (tDrop (tBM K "list" rAppend (tVar 6) (tCons (tOp (rIxA K) (tVar 11) (tC (.int 0))) tNil))) (tSeq (tDrop (tBM K "list" rAppend (tVar 7) (tCons (tOp (rIxA K) (tVar 11) (tC (.int 1))) tNil))) (tDrop (tBM K "list" rAppend (tVar 9) (tCons (tVar 12) tNil))))))))) (tSeq (tAsg (tTup (tCons (tCB (rMin K) (tCons (tVar 6) tNil)) (tCons (tCB (rMin K) (tCons (tVar 7) tNil)) tNil))) (gTup K 2 (gCons (gSub (tVar 3) (tC (.int 0)) rSetA) (gCons (gSub (tVar 3) (tC (.int 1)) rSetA) gNil)))) (tSeq (tDrop (tBM K "list" rExtend (tVar 2) (tCons (tLc (iSeq K (tOp (rIxA K) (tVar 9) (tC (.int 0)))) (gName 13) (tAnd (tTest (tOp (rInA K) (tVar 13) (tOp (rIxA K) (tVar 9) (tC (.int 1))))) (tTest (tOp (rNiA K) (tVar 13) (tVar 2)))) (tVar 13) [13]) tNil))) (tRet (tTup (tCons (tC (.str "if")) (tCons (tVar 5) (tCons (tOp (rIxA K) (tVar 8) (tC (.int 0))) (tCons (tOp (rIxA K) (tVar 8) (tC (.int 1))) tNil)))))))))))
theorem rd_law_if {K : PySem.W.Frag} {ad : String → Addr} (n : Nat) (N : List Str) (hN : N.length = 14) : ∀ vs H Q E, sp_law_if K ad (n + 1) vs H Q E → t_law_if K ad n { nx := fun _ H' => Q .non H', rt := Q } (L2.start N vs) H := by
  rintro vs H Q E ⟨d, l, pk, pr, dw, pw, pu, ps, ws, sn, kn, a, b, c, deep, Γ, L, rfl, d0, d1, ⟨dp, dp3⟩, w14, w1000, sn100, hpw, hps, rg, w, q⟩
  rw [st_of hN]
  show t_law_if K ad n _ [some (.ref d), some (.ref dw), some (.ref pk), some (.ref pr), some (.int deep), none, none, none, none, none, none, none, none, none] H
  unfold t_law_if
  have hkl := rg.len
  have ra0 := rg.a0
  have ra1 := rg.a1
  have rb0 := rg.b0
  have rb1 := rg.b1
  have rc0 := rg.c0
  have rc1 := rg.c1
  walk_at "gg"
  refine g_ixD (DGet.k (k := .inr "seen") (w.cell (.tail _ (.tail _ (.head _))))) ?_
  walk_at "gg"
  refine g_addL (w.get hps) (w.cell (.head _)) (sz (by rw [List.length_map, List.length_map]; omega)) fun pn np => ?_
  have w := w.know (.lst (sn.map V.str ++ kn.map V.str)) np
  have e0 : sn.map V.str ++ kn.map V.str = (sn ++ kn).map V.str := List.map_append.symm
  rw [e0] at w ⊢
  walk_at "gg"
  refine ⟨d, l, pn, sn ++ kn, _, _, rfl, by rw [List.length_append]; omega, .inl (.head _), w, fun e ve H he hh w => ?_⟩
  walk_at "gg"
  refine ⟨Nat.zero_le _, fun p6 np => ?_⟩
  have w := w.new (.lst []) np
  walk_at "gg"
  refine ⟨Nat.zero_le _, fun p7 np => ?_⟩
  have w := w.new (.lst []) np
  walk_at "gg"
  refine ⟨_, _, _, rfl, ?_⟩
  walk_at "gg"
  refine ⟨Nat.zero_le _, fun p8 np => ?_⟩
  have w := w.new (.lst []) np
  walk_at "gg"
  refine ⟨Nat.zero_le _, fun p9 np => ?_⟩
  have w := w.new (.lst []) np
  walk_at "gg"
  refine ⟨sz (show 2 ≤ 1000000 by decide), fun pt np => ?_⟩
  have w := w.know (.tup [.ref p8, .ref p9]) np
  refine g_gtup (sqT (w.get (.head _))) rfl ?_
  have w := w.only (Γ := Γ) (.tail _ (.head _)) fun x hx => .tail _ (.tail _ (.tail _ hx))
  walk_at "gg"
  refine ⟨_, rfl, by decide, by decide, ?_⟩
  refine c_for walk_range (fun i σ H => ∃ (y10 y11 y12 : Option V) (wl dl : List Int) (bs : List Sts) (xs : List V) (ks : List (Addr × List Str)) (c' : Int),
      σ = [some (.ref d), some (.ref dw), some (.ref pk), some (.ref pr), some (.int deep), some ve, some (.ref p6), some (.ref p7), some (.ref p8), some (.ref p9), y10, y11, y12, none] ∧ wl.length = i ∧ dl.length = i ∧ bs.length = i ∧ ks.length = i ∧
      (∀ x ∈ wl, 1 ≤ x ∧ x ≤ a) ∧ (∀ x ∈ dl, 0 ≤ x ∧ x ≤ b) ∧ 0 ≤ c' ∧ c' ≤ c ∧ (∀ k ∈ ks, k.2.Nodup ∧ ∀ z ∈ k.2, z ∈ eight ws) ∧
      WR (dealM d l) (Kns ks :: Arms bs xs :: e.At ve :: Γ) (ifL pk pr dw pw pu ps p6 p7 p8 p9 kn a b c' wl dl xs ks L) H)
    (fun σ H => ∃ (y10 y11 y12 : Option V) (wl dl : List Int) (bs : List Sts) (xs : List V) (ks : List (Addr × List Str)) (c' : Int),
      σ = [some (.ref d), some (.ref dw), some (.ref pk), some (.ref pr), some (.int deep), some ve, some (.ref p6), some (.ref p7), some (.ref p8), some (.ref p9), y10, y11, y12, none] ∧ wl.length = 2 ∧ dl.length = 2 ∧ bs.length = 2 ∧ ks.length = 2 ∧
      (∀ x ∈ wl, 1 ≤ x ∧ x ≤ a) ∧ (∀ x ∈ dl, 0 ≤ x ∧ x ≤ b) ∧ 0 ≤ c' ∧ c' ≤ c ∧ (∀ k ∈ ks, k.2.Nodup ∧ ∀ z ∈ k.2, z ∈ eight ws) ∧
      WR (dealM d l) (Kns ks :: Arms bs xs :: e.At ve :: Γ) (ifL pk pr dw pw pu ps p6 p7 p8 p9 kn a b c' wl dl xs ks L) H)
    ⟨_, _, _, [], [], [], [], [], c, rfl, rfl, rfl, rfl, rfl, fun _ h => absurd h List.not_mem_nil, fun _ h => absurd h List.not_mem_nil, rc0, Int.le_refl _, fun _ h => absurd h List.not_mem_nil, (w.more (Arms [] []) fun G _ => rfl).more (Kns []) fun G _ _ h => absurd h List.not_mem_nil⟩ (fun _ _ _ _ _ => trivial) ?_ (fun _ _ h => h) ?_
  · rintro X hX i x σ H H' hi ⟨y10, y11, y12, wl, dl, bs, xs, ks, c', rfl, hwl, hdl, hbs, hks, hw1, hd1, c'0, c'1, hk1, w⟩ ⟨rfl, rfl⟩
    have hi2 : i < 2 := hi
    have hxs : xs.length = i := by rw [(w.get (.tail _ (.head _))).len]; exact hbs
    walk_at "gg"
    refine g_ixL (n := 0) (v := .int a) (sqL (w.cell (.tail _ (.tail _ (.tail _ (.tail _ (.tail _ (.head _)))))))) rfl ?_
    walk_at "gg"
    refine g_ixL (n := 1) (v := .int b) (sqL (w.cell (.tail _ (.tail _ (.tail _ (.tail _ (.tail _ (.head _)))))))) rfl ?_
    walk_at "gg"
    refine g_ixL (n := 2) (v := .int c') (sqL (w.cell (.tail _ (.tail _ (.tail _ (.tail _ (.tail _ (.head _)))))))) rfl ?_
    walk_at "gg"
    refine ⟨sz (show 3 ≤ 1000000 by decide), fun pi np => ?_⟩
    have w := w.new (.lst [.int a, .int b, .int c']) np
    walk_at "gg"
    refine g_listL (sqL (w.cell (.tail _ (.tail _ (.tail _ (.tail _ (.tail _ (.head _)))))))) fun po np => ?_
    have w := w.new (.lst (kn.map V.str)) np
    walk_at "gg"
    refine ⟨_, _, rfl, ?_⟩
    walk_at "gg"
    refine ⟨g_tyL (sqL (w.cell (.tail _ (.tail _ (.tail _ (.head _)))))), ?_⟩
    walk_at "gg"
    have mv : ∀ {x0 x1 x2 x3 x4 x5 x6 x7 x8 : Addr × HO} {L : Cells}, (x0 :: x1 :: x8 :: x2 :: x3 :: x4 :: x5 :: x6 :: x7 :: L).Perm (x0 :: x1 :: x2 :: x3 :: x4 :: x5 :: x6 :: x7 :: x8 :: L) := fun {x0 x1 x2 x3 x4 x5 x6 x7 x8 L} => ((List.perm_middle (a := x8) (l₁ := [x2, x3, x4, x5, x6, x7]) (l₂ := L)).symm.cons x1).cons x0
    refine ⟨d, l, po, pi, dw, pw, pu, ps, ws, sn, kn, a, b, c', deep + 1, _, _, rfl, by omega, by omega, by omega, w14, w1000, sn100, .tail _ (.tail _ (.tail _ hpw)), .tail _ (.tail _ (.tail _ hps)), ⟨rg.nd, rg.sub, ra0, ra1, rb0, rb1, c'0, by omega⟩, w.perm (L' := rgL po pi dw pw pu ps kn a b c' ((p9, .lst (ks.map fun k => .ref k.1)) :: (p8, .lst xs) :: (p7, .lst (dl.map V.int)) :: (p6, .lst (wl.map V.int)) :: (pk, .lst (kn.map V.str)) :: (pr, .lst [.int a, .int b, .int c']) :: L)) mv, fun B v kn1 a1 b1 c1 H rg1 h1 h2 h3 w => ?_⟩
    have w := w.perm (L' := (po, .lst (kn1.map V.str)) :: (pi, .lst [.int a1, .int b1, .int c1]) :: ifL pk pr dw pw pu ps p6 p7 p8 p9 kn a b c' wl dl xs ks L) mv.symm
    walk_at "gg"
    refine g_app (w.cell (.tail _ (.tail _ (.tail _ (.head _))))) (szl (by omega)) ?_
    have w : WR (dealM d l) _ ((po, .lst (kn1.map V.str)) :: (pi, .lst [.int a1, .int b1, .int c1]) :: ifL pk pr dw pw pu ps p6 p7 p8 p9 kn a b c' wl dl (xs ++ [v]) ks L) _ := w.put 3 (.lst (xs ++ [v])) rfl
    walk_at "gg"
    refine g_ixL (n := 2) (v := .int c1) (sqL (w.cell (.tail _ (.head _)))) rfl ?_
    walk_at "gg"
    refine g_setI (o := .non) (i := .non) (w.cell (.tail _ (.tail _ (.tail _ (.tail _ (.tail _ (.tail _ (.tail _ (.head _))))))))) (show ixN 3 2 = some 2 from rfl) ?_
    have w : WR (dealM d l) _ ((po, .lst (kn1.map V.str)) :: (pi, .lst [.int a1, .int b1, .int c1]) :: ifL pk pr dw pw pu ps p6 p7 p8 p9 kn a b c1 wl dl (xs ++ [v]) ks L) _ := w.put 7 (.lst [.int a, .int b, .int c1]) rfl
    walk_at "gg"
    refine ⟨g_tyL (sqL (w.cell (.tail _ (.tail _ (.tail _ (.tail _ (.tail _ (.head _)))))))), ?_⟩
    walk_at "gg"
    refine g_ixL (n := 0) (v := .int a1) (sqL (w.cell (.tail _ (.head _)))) rfl ?_
    walk_at "gg"
    refine g_app (w.cell (.tail _ (.tail _ (.tail _ (.tail _ (.tail _ (.head _))))))) (szl (by rw [List.length_map]; omega)) ?_
    rw [show wl.map V.int ++ [V.int a1] = (wl ++ [a1]).map V.int by rw [List.map_append]; rfl]
    have w : WR (dealM d l) _ ((po, .lst (kn1.map V.str)) :: (pi, .lst [.int a1, .int b1, .int c1]) :: ifL pk pr dw pw pu ps p6 p7 p8 p9 kn a b c1 (wl ++ [a1]) dl (xs ++ [v]) ks L) _ := w.put 5 (.lst ((wl ++ [a1]).map V.int)) rfl
    walk_at "gg"
    refine ⟨g_tyL (sqL (w.cell (.tail _ (.tail _ (.tail _ (.tail _ (.head _))))))), ?_⟩
    walk_at "gg"
    refine g_ixL (n := 1) (v := .int b1) (sqL (w.cell (.tail _ (.head _)))) rfl ?_
    walk_at "gg"
    refine g_app (w.cell (.tail _ (.tail _ (.tail _ (.tail _ (.head _)))))) (szl (by rw [List.length_map]; omega)) ?_
    rw [show dl.map V.int ++ [V.int b1] = (dl ++ [b1]).map V.int by rw [List.map_append]; rfl]
    have w : WR (dealM d l) _ ((po, .lst (kn1.map V.str)) :: (pi, .lst [.int a1, .int b1, .int c1]) :: ifL pk pr dw pw pu ps p6 p7 p8 p9 kn a b c1 (wl ++ [a1]) (dl ++ [b1]) (xs ++ [v]) ks L) _ := w.put 4 (.lst ((dl ++ [b1]).map V.int)) rfl
    walk_at "gg"
    refine ⟨g_tyL (sqL (w.cell (.tail _ (.tail _ (.head _))))), ?_⟩
    walk_at "gg"
    refine g_app (w.cell (.tail _ (.tail _ (.head _)))) (szl (by rw [List.length_map]; omega)) ?_
    rw [show (ks.map fun k => V.ref k.1) ++ [V.ref po] = (ks ++ [(po, kn1)]).map fun k => V.ref k.1 by rw [List.map_append]; rfl]
    have w : WR (dealM d l) _ ((po, .lst (kn1.map V.str)) :: (pi, .lst [.int a1, .int b1, .int c1]) :: ifL pk pr dw pw pu ps p6 p7 p8 p9 kn a b c1 (wl ++ [a1]) (dl ++ [b1]) (xs ++ [v]) (ks ++ [(po, kn1)]) L) _ := w.put 2 (.lst ((ks ++ [(po, kn1)]).map fun k => V.ref k.1)) rfl
    have w := w.fix.drop1
    refine ⟨_, _, _, wl ++ [a1], dl ++ [b1], bs ++ [B], xs ++ [v], ks ++ [(po, kn1)], c1, rfl, by rw [List.length_append, hwl]; rfl, by rw [List.length_append, hdl]; rfl, by rw [List.length_append, hbs]; rfl, by rw [List.length_append, hks]; rfl, fun x hx => ?_, fun x hx => ?_, rg1.c0, by omega, fun k hk => ?_, ((w.more (Arms (bs ++ [B]) (xs ++ [v])) fun G hG => ?_).more (Kns (ks ++ [(po, kn1)])) fun G hG => ?_).sub fun k hk => ?_⟩
    · rcases List.mem_append.mp hx with hx | hx
      · exact hw1 x hx
      · rw [List.mem_singleton.mp hx]
        exact ⟨rg1.a0, h1⟩
    · rcases List.mem_append.mp hx with hx | hx
      · exact hd1 x hx
      · rw [List.mem_singleton.mp hx]
        exact ⟨rg1.b0, h2⟩
    · rcases List.mem_append.mp hk with hk | hk
      · exact hk1 k hk
      · rw [List.mem_singleton.mp hk]
        exact ⟨rg1.nd, rg1.sub⟩
    · exact (hG (Arms bs xs) (.tail _ (.tail _ (.tail _ (.head _))))).app ⟨v, [], rfl, hG _ (.tail _ (.head _)), rfl⟩
    · intro k hk
      rcases List.mem_append.mp hk with hk | hk
      · exact hG (Kns ks) (.tail _ (.tail _ (.tail _ (.head _)))) k hk
      · rw [List.mem_singleton.mp hk]
        exact hG _ (.tail _ (.head _))
    · rcases hk with _ | ⟨_, _ | ⟨_, hk⟩⟩
      · exact .head _
      · exact .tail _ (.head _)
      · exact .tail _ (.tail _ (.tail _ (.tail _ (.tail _ (.tail _ hk)))))
  · rintro σ H ⟨y10, y11, y12, wl, dl, bs, xs, ks, c', rfl, hwl, hdl, hbs, hks, hw1, hd1, c'0, c'1, hk1, w⟩
    obtain ⟨wa, wb, rfl⟩ : ∃ wa wb, wl = [wa, wb] := match wl, hwl with | [x, y], _ => ⟨_, _, rfl⟩
    obtain ⟨xa, xb, rfl⟩ : ∃ xa xb, dl = [xa, xb] := match dl, hdl with | [x, y], _ => ⟨_, _, rfl⟩
    obtain ⟨B1, B2, rfl⟩ : ∃ xa xb, bs = [xa, xb] := match bs, hbs with | [x, y], _ => ⟨_, _, rfl⟩
    obtain ⟨⟨o1, k1⟩, ⟨o2, k2⟩, rfl⟩ : ∃ xa xb, ks = [xa, xb] := match ks, hks with | [x, y], _ => ⟨_, _, rfl⟩
    obtain ⟨v1, _, rfl, _, v2, _, rfl, _, rfl⟩ := w.get (k := Arms [B1, B2] xs) (.tail _ (.head _))
    walk_at "gg"
    refine g_minL (ns := [wa, wb]) (sqL (w.cell (.tail _ (.tail _ (.tail _ (.head _)))))) (Nat.succ_pos _) fun m1 hm1 => ?_
    walk_at "gg"
    refine g_minL (ns := [xa, xb]) (sqL (w.cell (.tail _ (.tail _ (.head _))))) (Nat.succ_pos _) fun m2 hm2 => ?_
    walk_at "gg"
    refine ⟨sz (show 2 ≤ 1000000 by decide), fun pt np => ?_⟩
    have w := w.know (.tup [.int m1, .int m2]) np
    refine g_gtup (sqT (w.get (.head _))) rfl ?_
    have w := w.tail
    walk_at "gg"
    refine g_setI (o := .non) (i := .non) (w.cell (.tail _ (.tail _ (.tail _ (.tail _ (.tail _ (.head _))))))) (show ixN 3 0 = some 0 from rfl) ?_
    have w : WR (dealM d l) _ (ifL pk pr dw pw pu ps p6 p7 p8 p9 kn m1 b c' [wa, wb] [xa, xb] [v1, v2] [(o1, k1), (o2, k2)] L) _ := w.put 5 (.lst [.int m1, .int b, .int c']) rfl
    walk_at "gg"
    refine g_setI (o := .non) (i := .non) (w.cell (.tail _ (.tail _ (.tail _ (.tail _ (.tail _ (.head _))))))) (show ixN 3 1 = some 1 from rfl) ?_
    have w : WR (dealM d l) _ (ifL pk pr dw pw pu ps p6 p7 p8 p9 kn m1 m2 c' [wa, wb] [xa, xb] [v1, v2] [(o1, k1), (o2, k2)] L) _ := w.put 5 (.lst [.int m1, .int m2, .int c']) rfl
    walk_at "gg"
    refine ⟨g_tyL (sqL (w.cell (.tail _ (.tail _ (.tail _ (.tail _ (.head _))))))), ?_⟩
    walk_at "gg"
    have ko : ∀ {Γ' : List Kn} {L' : Cells} {H : Hp} (h : Kns [(o1, k1), (o2, k2)] ∈ Γ') (w : WR (dealM d l) Γ' L' H), H o1 = some (.lst (k1.map V.str)) ∧ H o2 = some (.lst (k2.map V.str)) := fun h w => ⟨w.get h _ (.head _), w.get h _ (.tail _ (.head _))⟩
    refine g_ixL (n := 0) (v := .ref o1) (sqL (w.cell (.head _))) rfl ?_
    refine g_inL (sqL (ko (.head _) w).1) ?_
    have nk1 := hk1 (o1, k1) (.head _)
    have nk2 := hk1 (o2, k2) (.tail _ (.head _))
    have k1l : k1.length ≤ 8 := Nat.le_trans (nodup_sub nk1.1 nk1.2) (eight_len ws)
    refine c_lc (walk_list (xs := k1.map V.str)) w (fun i acc _ => acc = ((k1.take i).filter fun z => decide (z ∈ k2) && !decide (z ∈ kn)).map V.str) (fun _ => rfl) ?_ ?_ ?_ ?_
    · rintro i acc G hi rfl
      rw [List.length_map]
      have h1 := List.length_filter_le (fun z => decide (z ∈ k2) && !decide (z ∈ kn)) (k1.take i)
      have h2 : (k1.take i).length ≤ k1.length := List.length_take_le' i k1
      exact szl (by omega)
    · intro i acc D H hi w
      exact sqL (ko (.tail _ (.head _)) w).1
    · rintro i x D acc H H' N N0 hi w ⟨rfl, hx⟩ kk k0
      obtain ⟨z, hz, rfl⟩ := at_map hx
      have hacc := w.get (.head _)
      have ht : k1.take (i + 1) = k1.take i ++ [z] := by rw [List.take_add_one, hz]; rfl
      walk_at "g"
      refine ⟨rfl, ?_⟩
      walk_at "gg"
      refine g_ixL (n := 1) (v := .ref o2) (sqL (w.cell (.tail _ (.head _)))) rfl ?_
      refine g_inQ (.inl (sqL (ko (.tail _ (.head _)) w).2)) rfl (flat_strs _) ?_
      rw [inV_str]
      walk_at "gg"
      refine g_iteD (fun h => ?_) (fun h => ?_)
      · walk_at "gg"
        refine g_niQ (.inl (sqL (w.cell (.tail _ (.tail _ (.tail _ (.tail _ (.tail _ (.head _))))))))) rfl (flat_strs _) ?_
        rw [inV_str]
        walk_at "gg"
        refine g_iteN (fun h2 => ?_) (fun h2 => ?_)
        · walk_at "gg"
          refine kk _ _ (w.more _ fun G _ => ?_)
          rw [ht, List.filter_append, List.map_append, hacc]
          simp [h, h2]
        · refine k0 _ (w.more _ fun G _ => ?_)
          rw [ht, List.filter_append, List.map_append, hacc]
          simp [h, h2]
      · walk_at "gg"
        refine k0 _ (w.more _ fun G _ => ?_)
        rw [ht, List.filter_append, List.map_append, hacc]
        simp [h]
    · intro D acc H w
      have hacc := w.get (.head _)
      rw [List.length_map, List.take_length] at hacc
      subst hacc
      walk_at "gg"
      have fl := List.length_filter_le (fun z => decide (z ∈ k2) && !decide (z ∈ kn)) k1
      have hf : ∀ z ∈ k1.filter (fun z => decide (z ∈ k2) && !decide (z ∈ kn)), z ∈ eight ws ∧ ¬ z ∈ kn := fun z hz => by
        obtain ⟨h1, h2⟩ := List.mem_filter.mp hz
        simp only [Bool.and_eq_true, Bool.not_eq_true', decide_eq_true_eq, decide_eq_false_iff_not] at h2
        exact ⟨nk1.2 z h1, h2.2⟩
      have nf : (k1.filter (fun z => decide (z ∈ k2) && !decide (z ∈ kn))).Nodup := nk1.1.filter _
      generalize k1.filter (fun z => decide (z ∈ k2) && !decide (z ∈ kn)) = fs at w fl hf nf
      refine g_ext (w.cell (.tail _ (.tail _ (.tail _ (.tail _ (.tail _ (.head _))))))) (w.cell (.head _)) (sz (by rw [List.length_map, List.length_map]; omega)) ?_
      rw [show kn.map V.str ++ fs.map V.str = (kn ++ fs).map V.str from List.map_append.symm]
      have w : WR (dealM d l) _ ((D, .lst (fs.map V.str)) :: ifL pk pr dw pw pu ps p6 p7 p8 p9 (kn ++ fs) m1 m2 c' [wa, wb] [xa, xb] [v1, v2] [(o1, k1), (o2, k2)] L) _ := w.put 5 (.lst ((kn ++ fs).map V.str)) rfl
      walk_at "gg"
      refine g_ixL (n := 0) (v := v1) (sqL (w.cell (.tail _ (.tail _ (.head _))))) rfl ?_
      walk_at "gg"
      refine g_ixL (n := 1) (v := v2) (sqL (w.cell (.tail _ (.tail _ (.head _))))) rfl ?_
      walk_at "gg"
      refine ⟨sz (show 4 ≤ 1000000 by decide), fun p2 np => ?_⟩
      have w := (w.know (.tup [.str "if", ve, v1, v2]) np).drop1.drop1.drop1.drop1.drop1
      have hm1' : 1 ≤ m1 ∧ m1 ≤ a := hw1 m1 hm1
      have hm2' : 0 ≤ m2 ∧ m2 ≤ b := hd1 m2 hm2
      refine q (.cond e B1 B2) _ (kn ++ fs) m1 m2 c' _ ⟨?_, ?_, hm1'.1, by omega, hm2'.1, by omega, c'0, by omega⟩ hm1'.2 hm2'.2 c'1 ((w.more (St.At (.cond e B1 B2) (.ref p2)) fun G hG => ?_).only (.head _) fun x hx => .tail _ (.tail _ (.tail _ (.tail _ (.tail _ (.tail _ hx))))))
      · rw [List.nodup_append]
        exact ⟨rg.nd, nf, fun x hx y hy e => (hf y hy).2 (by rw [← e]; exact hx)⟩
      · intro z hz
        rcases List.mem_append.mp hz with hz | hz
        · exact rg.sub z hz
        · exact (hf z hz).1
      · obtain ⟨u1, _, e1, ⟨t1, xs1, rfl, g1, h1⟩, u2, _, e2, ⟨t2, xs2, rfl, g2, h2⟩, e3⟩ := hG (Arms [B1, B2] [v1, v2]) (.tail _ (.tail _ (.tail _ (.head _))))
        subst e3
        cases e2
        cases e1
        exact ⟨p2, ve, t1, t2, xs1, xs2, rfl, hG _ (.head _), hG _ (.tail _ (.tail _ (.tail _ (.tail _ (.head _))))), g1, h1, g2, h2⟩
end Ct
namespace Ct
open PySem PySem.Spec PyProof.Rows L2
local macro_rules | `(tactic| walk_at "g") => `(tactic| first
  | with_reducible refine g_seq ?_
  | with_reducible refine g_set ?_
  | with_reducible refine g_asg ?_
  | with_reducible refine g_sub ?_
  | with_reducible refine g_name ?_
  | with_reducible refine g_ret ?_
  | with_reducible refine g_if ?_
  | ((with_reducible refine' g_var ?gh ?_); (case gh => rfl))
  | with_reducible refine g_c ?_
  | with_reducible refine g_op ?_
  | with_reducible refine g_test ?_
  | with_reducible refine g_bl ?_
  | with_reducible refine g_int ?_
  | with_reducible refine g_cons ?_
  | with_reducible refine g_nil ?_
  | with_reducible refine g_call ?_
  | with_reducible refine g_cb ?_
  | with_reducible refine g_and ?_
  | with_reducible refine g_or ?_
  | with_reducible refine g_not ?_
  | with_reducible refine g_B ?_
  | with_reducible refine g_un ?_
  | with_reducible refine g_neg ?_
  | with_reducible refine g_chain ?_
  | with_reducible refine g_drop ?_
  | with_reducible refine g_par ?_
  | with_reducible refine g_par3 ?_
  | with_reducible refine g_tup ?_
  | with_reducible refine g_lst ?_
  | with_reducible refine g_sl ?_
  | with_reducible refine g_nop ?_
  | with_reducible refine g_part ?_
  | with_reducible refine g_bm0 ?_
  | with_reducible refine g_bm ?_
  | with_reducible refine g_m0 ?_
  | with_reducible refine g_m1 ?_
  | with_reducible refine g_lrev ?_
  | with_reducible refine g_ifE ?_
  | with_reducible refine g_andV ?_
  | with_reducible refine g_orV ?_
  | with_reducible refine g_notV ?_
  | with_reducible refine g_addI ?_
  | with_reducible refine g_subI ?_
  | with_reducible refine g_eqI ?_
  | with_reducible refine g_neI ?_
  | with_reducible refine g_eqS ?_
  | with_reducible refine g_neS ?_
  | with_reducible refine g_eqB ?_
  | with_reducible refine g_neB ?_
  | with_reducible refine g_ltI ?_
  | with_reducible refine g_gtI ?_
  | with_reducible refine g_leI ?_
  | with_reducible refine g_geI ?_
  | with_reducible refine g_inS ?_
  | with_reducible refine g_niS ?_
  | with_reducible refine g_max ?_
  | with_reducible refine g_min ?_
  | with_reducible refine g_abs ?_
  | with_reducible refine g_isN ?_
  | with_reducible refine g_notN ?_
  | with_reducible refine g_isB ?_
  | with_reducible refine g_notB ?_
  | with_reducible refine g_intB ?_
  | with_reducible refine g_intI ?_
  | with_reducible refine g_lc ?_
  | with_reducible refine g_for ?_
  | with_reducible refine g_seqI ?_
  | with_reducible refine g_inStr ?_
  | with_reducible refine g_rng ?_
  | with_reducible refine g_yes ?_
  | with_reducible refine g_pairs ?_
  | with_reducible refine g_pairs0 ?_
  | with_reducible refine iteT ?_
  | with_reducible refine iteF ?_
  | with_reducible refine g_nF ?_
  | with_reducible refine g_nT ?_
  | with_reducible refine g_gcons ?_
  | with_reducible refine g_gnil ?_
  | with_reducible refine g_next ?_
  | with_reducible refine g_callN ?_
  | with_reducible refine g_callNS ?_
  | with_reducible refine g_callS ?_
  | ((with_reducible refine' g_mulI ?gh ?_); (case gh => first | exact .inl (.inl ⟨by omega, by omega⟩) | exact .inl (.inr ⟨by omega, by omega⟩)))
  | ((with_reducible refine' g_modI ?gh ?_); (case gh => omega)))
local macro_rules | `(tactic| walk_at "gg") => `(tactic| (repeat walk_at "g"))
def sp_law_book (K : PySem.W.Frag) (ad : String → Addr) : Sp := fun vs H Q _ => ∃ (d l : Addr) (Γ : List Kn) (L : Cells), vs = [.ref d] ∧ WR (dealM d l) Γ L H ∧
  ∀ (fs : List Str) (B : Sts) (us bv : V) (dw p pb pf : Addr) H', fs.length ≤ 60 → WR (dealM d l) ((fun G => G p = some (.tup [.ref dw, .ref pb])) :: (fun G => G pb = some (.tup [us, .ref pf, bv])) :: (fun G => G pf = some (.tup (fs.map V.str))) :: Blk B bv :: Γ) L H' → Q (.ref p) H'
theorem ln_law_book {K : PySem.W.Frag} {ad : String → Addr} : ∀ vs H Q E, sp_law_book K ad vs H Q E → vs.length = 1 := by
  rintro vs H Q E ⟨d, l, Γ, L, rfl, _⟩
  rfl
def t_law_book (K : PySem.W.Frag) (ad : String → Addr) : TS := (tSeq (tAsg (tCall (sp_law_words K ad) [] E0 (tCons (tVar 0) (tCons (tC (.int 60)) tNil))) (gName 1)) (tSeq (tPar 2 3 (tCons (tLst tNil) (tCons (tLst tNil) tNil))) (tSeq (tFor (iRng1 (tCons (tOp (rIxA K) (tLst (tCons (tC (.int 0)) (tCons (tC (.int 1)) (tCons (tC (.int 2)) (tCons (tC (.int 2)) (tCons (tC (.int 3)) tNil)))))) (tCall (sp_law_draw K ad) [] E0 (tCons (tVar 0) (tCons (tC (.int 5)) tNil)))) tNil)) (gName 4) (tSeq (tDrop (tBM K "list" rAppend (tVar 2) (tCons (tTup (tCons (tOp (rIxA K) (tVar 1) (tVar 4)) (tCons (tCall (sp_law_alts K ad) [] E0 (tCons (tVar 0) (tCons (tVar 3) (tCons (tOp (rAddA K) (tC (.int 1)) (tCall (sp_law_draw K ad) [] E0 (tCons (tVar 0) (tCons (tOp (rIxA K) (tLst (tCons (tC (.int 3)) (tCons (tC (.int 3)) (tCons (tC (.int 2)) tNil)))) (tVar 4)) tNil)))) tNil)))) tNil))) tNil))) (tDrop (tBM K "list" rAppend (tVar 3) (tCons (tOp (rIxA K) (tVar 1) (tVar 4)) tNil))))) (tSeq (tAsg (tSl (rSlAny K) (tVar 1) (tPart (tC (.int 3))) (tPart (tOp (rAddA K) (tC (.int 3)) (tCall (sp_law_draw K ad) [] E0 (tCons (tVar 0) (tCons (tC (.int 4)) tNil)))))) (gName 5)) (tSeq (tPar 6 7 (tCons (tDisp [((tC (.str "words")), (tVar 1)), ((tC (.str "unknowns")), (tVar 3)), ((tC (.str "seen")), (tOp (rAddA K) (tVar 3) (tVar 5)))]) (tCons (tLst tNil) tNil))) (tSeq (tAsg (tCall (sp_law_block K ad 16) [] E0 (tCons (tVar 0) (tCons (tVar 6) (tCons (tVar 7) (tCons (tLst (tCons (tC (.int 30)) (tCons (tC (.int 5)) (tCons (tC (.int 9)) tNil)))) (tCons (tC (.int 0)) tNil)))))) (gName 8)) (tSeq (tAsg (tVar 7) (gSub (tVar 6) (tC (.str "known")) rSetA)) (tRet (tTup (tCons (tVar 6) (tCons (tTup (tCons (tCB (rTupOf K) (tCons (tVar 2) tNil)) (tCons (tCB (rTupOf K) (tCons (tVar 5) tNil)) (tCons (tVar 8) tNil)))) tNil)))))))))))
theorem rd_law_book {K : PySem.W.Frag} {ad : String → Addr} (N : List Str) (hN : N.length = 9) : ∀ vs H Q E, sp_law_book K ad vs H Q E → t_law_book K ad { nx := fun _ H' => Q .non H', rt := Q } (L2.start N vs) H := by
  rintro vs H Q E ⟨d, l, Γ, L, rfl, w, q⟩
  rw [st_of hN]
  show t_law_book K ad _ [some (.ref d), none, none, none, none, none, none, none, none] H
  unfold t_law_book
  walk_at "gg"
  refine ⟨d, l, 60, _, _, rfl, by decide, by decide, w, fun zs pw H hzl htx w => ?_⟩
  have hzl : zs.length = 60 := hzl
  walk_at "gg"
  refine ⟨Nat.zero_le _, fun p2 np => ?_⟩
  have w := w.new (.lst []) np
  walk_at "gg"
  refine ⟨Nat.zero_le _, fun p3 np => ?_⟩
  have w := w.new (.lst []) np
  walk_at "gg"
  refine ⟨_, _, rfl, ?_⟩
  walk_at "gg"
  refine ⟨sz (show 5 ≤ 1000000 by decide), fun p1 np => ?_⟩
  have w := w.know (.lst (([0, 1, 2, 2, 3] : List Int).map V.int)) np
  walk_at "gg"
  refine ⟨d, l, 5, _, _, rfl, by decide, by decide, w, fun r H r0 r1 w => ?_⟩
  obtain ⟨v, hc, hcm, _⟩ := at_in (l := ([0, 1, 2, 2, 3] : List Int).map V.int) r0 r1
  obtain ⟨k, hk, rfl⟩ := List.mem_map.mp hcm
  refine g_ixL (sqL (w.get (.head _))) hc ?_
  have hk2 : 0 ≤ k ∧ k ≤ 3 := by
    simp only [List.mem_cons, List.not_mem_nil, or_false] at hk
    omega
  have w := w.tail
  walk_at "gg"
  refine ⟨k, rfl, by omega, by omega, ?_⟩
  refine c_for walk_range (fun i σ H => ∃ (y4 : Option V) (us : List V) (nm : List Str), σ = [some (.ref d), some (.ref pw), some (.ref p2), some (.ref p3), y4, none, none, none, none] ∧ us.length = i ∧ nm.length = i ∧ WR (dealM d l) (lst pw zs :: Γ) ((p3, .lst (nm.map V.str)) :: (p2, .lst us) :: L) H)
    (fun σ H => ∃ (y4 : Option V) (us : List V) (nm : List Str), σ = [some (.ref d), some (.ref pw), some (.ref p2), some (.ref p3), y4, none, none, none, none] ∧ us.length ≤ 3 ∧ nm.length ≤ 3 ∧ WR (dealM d l) (lst pw zs :: Γ) ((p3, .lst (nm.map V.str)) :: (p2, .lst us) :: L) H)
    ⟨_, [], [], rfl, rfl, rfl, w⟩ (fun _ _ _ _ _ => trivial) ?_ ?_ ?_
  · rintro X hX i x σ H H' hi ⟨y4, us, nm, rfl, hul, hnl, w⟩ ⟨rfl, rfl⟩
    have hi3 : i < 3 := by omega
    obtain ⟨z, hz⟩ : ∃ z, zs[i]? = some z := ⟨zs[i]'(by omega), List.getElem?_eq_getElem (by omega)⟩
    have hza : atI (zs.map V.str) (0 + (i : Nat)) = some (.str z) := by
      rw [Int.zero_add]
      exact atI_nat (by rw [List.getElem?_map, hz]; rfl)
    walk_at "gg"
    refine ⟨g_tyL (sqL (w.cell (.tail _ (.head _)))), ?_⟩
    walk_at "gg"
    refine g_ixL (sqL (w.get (.head _))) hza ?_
    walk_at "gg"
    refine ⟨sz (show 3 ≤ 1000000 by decide), fun p4 np => ?_⟩
    have w := w.know (.lst (([3, 3, 2] : List Int).map V.int)) np
    walk_at "gg"
    obtain ⟨v, hc, hcm, _⟩ := at_in (l := ([3, 3, 2] : List Int).map V.int) (r := 0 + (i : Nat)) (by omega) (by show _ < (3 : Int); omega)
    obtain ⟨m, hm, rfl⟩ := List.mem_map.mp hcm
    refine g_ixL (sqL (w.get (.head _))) hc ?_
    have hm2 : 1 ≤ m ∧ m ≤ 3 := by
      simp only [List.mem_cons, List.not_mem_nil, or_false] at hm
      omega
    have w := w.tail
    walk_at "gg"
    refine ⟨d, l, m, _, _, rfl, by omega, by omega, w, fun r H r0 r1 w => ?_⟩
    walk_at "gg"
    refine ⟨d, l, p3, 1 + r, nm, _, _, rfl, by omega, by omega, by omega, .inr (.head _), w, fun al xs t H hal hof w => ?_⟩
    walk_at "gg"
    refine ⟨sz (show 2 ≤ 1000000 by decide), fun p5 np => ?_⟩
    have w := (w.know (.tup [.str z, .ref t]) np).sub (Γ' := lst pw zs :: Γ) fun x hx => .tail _ (.tail _ (.tail _ hx))
    walk_at "gg"
    refine g_app (w.cell (.tail _ (.head _))) (szl (by omega)) ?_
    have w := w.put1 (.lst (us ++ [.ref p5]))
    walk_at "gg"
    refine ⟨g_tyL (sqL (w.cell (.head _))), ?_⟩
    walk_at "gg"
    refine g_ixL (sqL (w.get (.head _))) hza ?_
    walk_at "gg"
    refine g_app (w.cell (.head _)) (szl (by rw [List.length_map]; omega)) ?_
    rw [show nm.map V.str ++ [V.str z] = (nm ++ [z]).map V.str by rw [List.map_append]; rfl]
    have w := w.put0 (.lst ((nm ++ [z]).map V.str))
    exact ⟨_, us ++ [.ref p5], nm ++ [z], rfl, by rw [List.length_append, hul]; rfl, by rw [List.length_append, hnl]; rfl, w⟩
  · rintro σ H ⟨y4, us, nm, rfl, hul, hnl, w⟩
    exact ⟨_, us, nm, rfl, by omega, by omega, w⟩
  · rintro σ H ⟨y4, us, nm, rfl, hul, hnl, w⟩
    walk_at "gg"
    refine ⟨d, l, 4, _, _, rfl, by decide, by decide, w, fun r H r0 r1 w => ?_⟩
    walk_at "gg"
    refine g_slL (sqL (w.get (.head _))) fun p5 np => ?_
    obtain ⟨fs, ef, hf, hfl⟩ := cut_map V.str zs (some 3) (some (3 + r))
    have w := w.know (.lst (cutV (zs.map V.str) (some 3) (some (3 + r)))) np
    rw [ef] at w ⊢
    walk_at "gg"
    refine g_disp fun dw nd => ?_
    have w := w.new (.dK []) nd
    walk_at "gg"
    refine g_addL (w.cell (.tail _ (.head _))) (w.get (.head _)) (sz (by rw [List.length_map, List.length_map]; omega)) fun ps np => ?_
    have w := w.know (.lst (nm.map V.str ++ fs.map V.str)) np
    rw [show nm.map V.str ++ fs.map V.str = (nm ++ fs).map V.str from List.map_append.symm] at w ⊢
    walk_at "gg"
    refine ⟨w.cell (.head _), wld pw p3 ps, rfl, (by decide : 3 ≤ 15), ?_⟩
    have w := w.put0 (.dK (wld pw p3 ps))
    walk_at "gg"
    refine ⟨Nat.zero_le _, fun p7 np => ?_⟩
    have w := w.new (.lst []) np
    walk_at "gg"
    refine ⟨_, _, rfl, ?_⟩
    walk_at "gg"
    refine ⟨sz (show 3 ≤ 1000000 by decide), fun pr np => ?_⟩
    have w := w.new (.lst [.int 30, .int 5, .int 9]) np
    walk_at "gg"
    refine ⟨d, l, p7, pr, dw, pw, p3, ps, zs, nm ++ fs, [], 30, 5, 9, 0, lst ps (nm ++ fs) :: lst p5 fs :: lst pw zs :: Γ, ((p3, .lst (nm.map V.str)) :: (p2, .lst us) :: L), rfl, by decide, by decide, by decide, by omega, by omega, by rw [List.length_append]; omega, .tail _ (.tail _ (.head _)), .head _, ⟨List.nodup_nil, fun _ h => absurd h List.not_mem_nil, by decide, by decide, by decide, by decide, by decide, by decide⟩, w.perm (List.Perm.swap _ _ _), fun B bv kn' a' b' c' H rg' h1 h2 h3 w => ?_⟩
    walk_at "gg"
    refine g_setK (.inr "known") (w.cell (.tail _ (.tail _ (.head _)))) (by decide : 3 < 16777216) ?_
    have w := w.put2 (.dK (putK (wld pw p3 ps) (.inr "known") (.ref p7)))
    walk_at "gg"
    refine g_tupL (sqL (w.cell (.tail _ (.tail _ (.tail _ (.tail _ (.head _))))))) fun pu np => ?_
    have w := w.know (.tup us) np
    walk_at "gg"
    refine g_tupL (sqL (w.get (.tail _ (.tail _ (.tail _ (.head _)))))) fun pf np => ?_
    have w := w.know (.tup (fs.map V.str)) np
    walk_at "gg"
    refine ⟨sz (show 3 ≤ 1000000 by decide), fun pb np => ?_⟩
    have w := w.know (.tup [.ref pu, .ref pf, bv]) np
    walk_at "gg"
    refine ⟨sz (show 2 ≤ 1000000 by decide), fun p np => ?_⟩
    have w := w.know (.tup [.ref dw, .ref pb]) np
    refine q fs B (.ref pu) bv dw p pb pf _ (by omega) (w.drop1.drop1.drop1.drop1.drop1.sub fun k hk => ?_)
    rcases hk with _ | ⟨_, _ | ⟨_, _ | ⟨_, _ | ⟨_, hk⟩⟩⟩⟩
    · exact .head _
    · exact .tail _ (.head _)
    · exact .tail _ (.tail _ (.head _))
    · exact .tail _ (.tail _ (.tail _ (.tail _ (.head _))))
    · exact .tail _ (.tail _ (.tail _ (.tail _ (.tail _ (.tail _ (.tail _ (.tail _ hk)))))))
end Ct
namespace Ct
open PySem PySem.Spec PyProof.Rows L2
local macro_rules | `(tactic| walk_at "g") => `(tactic| first
  | with_reducible refine g_seq ?_
  | with_reducible refine g_set ?_
  | with_reducible refine g_asg ?_
  | with_reducible refine g_sub ?_
  | with_reducible refine g_name ?_
  | with_reducible refine g_ret ?_
  | with_reducible refine g_if ?_
  | ((with_reducible refine' g_var ?gh ?_); (case gh => rfl))
  | with_reducible refine g_c ?_
  | with_reducible refine g_op ?_
  | with_reducible refine g_test ?_
  | with_reducible refine g_bl ?_
  | with_reducible refine g_int ?_
  | with_reducible refine g_cons ?_
  | with_reducible refine g_nil ?_
  | with_reducible refine g_call ?_
  | with_reducible refine g_cb ?_
  | with_reducible refine g_and ?_
  | with_reducible refine g_or ?_
  | with_reducible refine g_not ?_
  | with_reducible refine g_B ?_
  | with_reducible refine g_un ?_
  | with_reducible refine g_neg ?_
  | with_reducible refine g_chain ?_
  | with_reducible refine g_drop ?_
  | with_reducible refine g_par ?_
  | with_reducible refine g_par3 ?_
  | with_reducible refine g_tup ?_
  | with_reducible refine g_lst ?_
  | with_reducible refine g_sl ?_
  | with_reducible refine g_nop ?_
  | with_reducible refine g_part ?_
  | with_reducible refine g_bm0 ?_
  | with_reducible refine g_bm ?_
  | with_reducible refine g_m0 ?_
  | with_reducible refine g_m1 ?_
  | with_reducible refine g_lrev ?_
  | with_reducible refine g_ifE ?_
  | with_reducible refine g_andV ?_
  | with_reducible refine g_orV ?_
  | with_reducible refine g_notV ?_
  | with_reducible refine g_addI ?_
  | with_reducible refine g_subI ?_
  | with_reducible refine g_eqI ?_
  | with_reducible refine g_neI ?_
  | with_reducible refine g_eqS ?_
  | with_reducible refine g_neS ?_
  | with_reducible refine g_eqB ?_
  | with_reducible refine g_neB ?_
  | with_reducible refine g_ltI ?_
  | with_reducible refine g_gtI ?_
  | with_reducible refine g_leI ?_
  | with_reducible refine g_geI ?_
  | with_reducible refine g_inS ?_
  | with_reducible refine g_niS ?_
  | with_reducible refine g_max ?_
  | with_reducible refine g_min ?_
  | with_reducible refine g_abs ?_
  | with_reducible refine g_isN ?_
  | with_reducible refine g_notN ?_
  | with_reducible refine g_isB ?_
  | with_reducible refine g_notB ?_
  | with_reducible refine g_intB ?_
  | with_reducible refine g_intI ?_
  | with_reducible refine g_lc ?_
  | with_reducible refine g_for ?_
  | with_reducible refine g_seqI ?_
  | with_reducible refine g_inStr ?_
  | with_reducible refine g_rng ?_
  | with_reducible refine g_yes ?_
  | with_reducible refine g_pairs ?_
  | with_reducible refine g_pairs0 ?_
  | with_reducible refine iteT ?_
  | with_reducible refine iteF ?_
  | with_reducible refine g_nF ?_
  | with_reducible refine g_nT ?_
  | with_reducible refine g_gcons ?_
  | with_reducible refine g_gnil ?_
  | with_reducible refine g_next ?_
  | with_reducible refine g_callN ?_
  | with_reducible refine g_callNS ?_
  | with_reducible refine g_callS ?_
  | ((with_reducible refine' g_mulI ?gh ?_); (case gh => first | exact .inl (.inl ⟨by omega, by omega⟩) | exact .inl (.inr ⟨by omega, by omega⟩)))
  | ((with_reducible refine' g_modI ?gh ?_); (case gh => omega)))
local macro_rules | `(tactic| walk_at "gg") => `(tactic| (repeat walk_at "g"))
/-- a tuple of these items -/
abbrev tupK (K : PySem.W.Frag) (p : Addr) (xs : List V) : Kn := fun G => SqT K G p xs
theorem tyT {K : PySem.W.Frag} {H : Hp} {a : Addr} {xs : List V} (h : SqT K H a xs) : TyX K H (.ref a) (.type "tuple") := by
  rcases h with (h | ⟨o, h⟩) | ⟨o, its, n, h, hc, _⟩
  · exact .base (.tup h)
  · exact .fTuple h
  · exact .kTuple h hc
/-- items and rows that are drawn -/
def Sv (K : PySem.W.Frag) : V → Hp → Prop
  | .int _, _ => True
  | .bl _, _ => True
  | .non, _ => True
  | .str _, _ => True
  | .ref t, G => ∃ xs, SqT K G t xs
  | _, _ => False
def isC : V → Bool
  | .int i => decide (0 ≤ i) && decide (i < 1000)
  | _ => false
theorem isi_any {K : PySem.W.Frag} {H : Hp} {Q : VK} {x : V} {n t : String} {b : Bool} (ty : TyX K H x (.type t)) (h : kitB t n = some b) (q : Q (.bl b) H) : rIsi K [x, .ty n] H Q := ⟨x, .ty n, _, _, b, rfl, .ty _, ty, kit_ty h, q⟩
/-- isinstance of such a thing by int, by bool -/
def tyOf : V → String
  | .int _ => "int"
  | .bl _ => "bool"
  | .non => "NoneType"
  | .str _ => "str"
  | _ => "tuple"
theorem Sv.ty {K : PySem.W.Frag} {H : Hp} : ∀ {x : V}, Sv K x H → TyX K H x (.type (tyOf x))
  | .int i, _ => .base (.int i)
  | .bl b, _ => .base (.bl b)
  | .non, _ => .base .non
  | .str s, _ => .base (.str s)
  | .ref t, ⟨xs, h⟩ => tyT h
def t_is_count (K : PySem.W.Frag) (ad : String → Addr) : TS := (tRet (tAndV (tCB (rIsi K) (tCons (tVar 0) (tCons (tC (.ty "int")) tNil))) (tAndV (tNotV (tCB (rIsi K) (tCons (tVar 0) (tCons (tC (.ty "bool")) tNil)))) (tChain rLe rLtA (tC (.int 0)) (tVar 0) (tC (.int 1000))))))
def sp_is_count (K : PySem.W.Frag) (ad : String → Addr) : Sp := fun vs H Q _ => ∃ x, vs = [x] ∧ Sv K x H ∧ Q (.bl (isC x)) H
theorem ln_is_count {K : PySem.W.Frag} {ad : String → Addr} : ∀ vs H Q E, sp_is_count K ad vs H Q E → vs.length = 1 := by
  rintro vs H Q E ⟨x, rfl, _⟩
  rfl
theorem rd_is_count {K : PySem.W.Frag} {ad : String → Addr} (N : List Str) (hN : N.length = 1) : ∀ vs H Q E, sp_is_count K ad vs H Q E → t_is_count K ad { nx := fun _ H' => Q .non H', rt := Q } (L2.start N vs) H := by
  rintro vs H Q E ⟨x, rfl, hx, q⟩
  rw [st_of hN]
  show t_is_count K ad _ [some x] H
  unfold t_is_count
  walk_at "gg"
  cases x with
  | int i =>
    refine isi_any hx.ty (b := true) (by simp only [tyOf]; decide +kernel) ?_
    walk_at "gg"
    refine isi_any hx.ty (b := false) (by simp only [tyOf]; decide +kernel) ?_
    walk_at "gg"
    refine g_ite (fun e => ?_) (fun e => ?_)
    · walk_at "gg"
      have : Q (.bl (decide (0 ≤ i) && decide (i < 1000))) H := q
      rw [e, Bool.true_and] at this
      exact this
    · have : Q (.bl (decide (0 ≤ i) && decide (i < 1000))) H := q
      rw [e, Bool.false_and] at this
      exact this
  | bl b =>
    refine isi_any hx.ty (b := true) (by simp only [tyOf]; decide +kernel) ?_
    walk_at "gg"
    refine isi_any hx.ty (b := true) (by simp only [tyOf]; decide +kernel) ?_
    walk_at "gg"
    exact q
  | non =>
    refine isi_any hx.ty (b := false) (by simp only [tyOf]; decide +kernel) ?_
    walk_at "gg"
    exact q
  | str s =>
    refine isi_any hx.ty (b := false) (by simp only [tyOf]; decide +kernel) ?_
    walk_at "gg"
    exact q
  | ref t =>
    refine isi_any hx.ty (b := false) (by simp only [tyOf]; decide +kernel) ?_
    walk_at "gg"
    exact q
  | _ => exact hx.elim
/-- a row that is drawn: a tuple of such, or something else -/
def Row (K : PySem.W.Frag) : Option (List V) → V → Hp → Prop
  | some xs, v, G => xs.length ≤ 1000 ∧ ∃ t, v = .ref t ∧ SqT K G t xs ∧ ∀ x ∈ xs, Sv K x G
  | none, v, G => Sv K v G ∧ ∀ t, v ≠ .ref t
def rowB (n : Nat) : Option (List V) → Bool
  | some xs => decide ((xs.length : Int) = (n : Int)) && xs.all isC
  | none => false
def sp_is_row (K : PySem.W.Frag) (ad : String → Addr) : Sp := fun vs H Q _ => ∃ (pb pf : Addr) (us bv v : V) (fs : List Str) (r : Option (List V)) (M : Cells → Prop) (Γ : List Kn) (L : Cells), vs = [.ref pb, v] ∧
  WR M ((fun G => G pb = some (.tup [us, .ref pf, bv])) :: (fun G => G pf = some (.tup (fs.map V.str))) :: Row K r v :: Γ) L H ∧
  ∀ H', WR M ((fun G => G pb = some (.tup [us, .ref pf, bv])) :: (fun G => G pf = some (.tup (fs.map V.str))) :: Row K r v :: Γ) L H' → Q (.bl (rowB fs.length r)) H'
theorem ln_is_row {K : PySem.W.Frag} {ad : String → Addr} : ∀ vs H Q E, sp_is_row K ad vs H Q E → vs.length = 2 := by
  rintro vs H Q E ⟨pb, pf, us, bv, v, fs, r, M, Γ, L, rfl, _⟩
  rfl
abbrev sp_law_due (K : PySem.W.Frag) (ad : String → Addr) : Sp := sp_is_row K ad
theorem ln_law_due {K : PySem.W.Frag} {ad : String → Addr} : ∀ vs H Q E, sp_law_due K ad vs H Q E → vs.length = 2 := ln_is_row (ad := ad)
theorem not_tup {v : V} {K : PySem.W.Frag} {G : Hp} (h : Sv K v G) (n : ∀ t, v ≠ .ref t) : kitB (tyOf v) "tuple" = some false := by
  cases v with
  | int i => simp only [tyOf]; decide +kernel
  | bl b => simp only [tyOf]; decide +kernel
  | non => simp only [tyOf]; decide +kernel
  | str s => simp only [tyOf]; decide +kernel
  | ref t => exact absurd rfl (n t)
  | _ => exact h.elim
def t_is_row (K : PySem.W.Frag) (ad : String → Addr) : TS := (tRet (tAndV (tCB (rIsi K) (tCons (tVar 1) (tCons (tC (.ty "tuple")) tNil))) (tAndV (tOp (rEqA K) (tCB (rLenA K) (tCons (tVar 1) tNil)) (tCB (rLenA K) (tCons (tOp (rIxA K) (tVar 0) (tC (.int 1))) tNil))) (tCB (rAll K) (tCons (tLc (iSeq K (tVar 1)) (gName 2) tYes (tCall (sp_is_count K ad) [] E0 (tCons (tVar 2) tNil)) [2]) tNil)))))
theorem rd_is_row {K : PySem.W.Frag} {ad : String → Addr} (N : List Str) (hN : N.length = 3) : ∀ vs H Q E, sp_is_row K ad vs H Q E → t_is_row K ad { nx := fun _ H' => Q .non H', rt := Q } (L2.start N vs) H := by
  rintro vs H Q E ⟨pb, pf, us, bv, v, fs, r, M, Γ, L, rfl, w, q⟩
  rw [st_of hN]
  show t_is_row K ad _ [some (.ref pb), some v, none] H
  unfold t_is_row
  have hr := w.get (.tail _ (.tail _ (.head _)))
  walk_at "gg"
  cases r with
  | none =>
    refine isi_any hr.1.ty (not_tup hr.1 hr.2) ?_
    walk_at "gg"
    exact q H w
  | some xs =>
    obtain ⟨hl, t, rfl, ht, hs⟩ := hr
    refine isi_any (tyT ht) (b := true) (by decide +kernel) ?_
    walk_at "gg"
    refine g_lenT ht ?_
    walk_at "gg"
    refine g_ixT (n := 1) (v := .ref pf) (sqT (w.get (.head _))) rfl ?_
    walk_at "gg"
    refine g_lenT (sqT (w.get (.tail _ (.head _)))) ?_
    rw [List.length_map]
    walk_at "gg"
    have qq : ∀ H', WR M ((fun G => G pb = some (.tup [us, .ref pf, bv])) :: (fun G => G pf = some (.tup (fs.map V.str))) :: Row K (some xs) (.ref t) :: Γ) L H' → Q (.bl (decide ((xs.length : Int) = (fs.length : Int)) && xs.all isC)) H' := q
    refine g_ite (fun e => ?_) (fun e => ?_)
    · rw [e, Bool.true_and] at qq
      walk_at "gg"
      refine g_inT ht ?_
      have wx := w.more (fun G => SqT K G t xs ∧ ∀ x ∈ xs, Sv K x G) fun G hG => by
        obtain ⟨_, t', e', h1, h2⟩ := hG (Row K (some xs) (.ref t)) (.tail _ (.tail _ (.head _)))
        cases e'
        exact ⟨h1, h2⟩
      refine c_lc (walk_tup (xs := xs)) wx (fun i acc _ => acc = ((xs.take i).map isC).map V.bl) (fun _ => rfl) ?_ ?_ ?_ ?_
      · rintro i acc G hi rfl
        rw [List.length_map, List.length_map]
        have h2 : (xs.take i).length ≤ xs.length := List.length_take_le' i xs
        exact szl (by omega)
      · intro i acc D H hi w
        exact (w.get (.tail _ (.head _))).1
      · rintro i x D acc H H' N N0 hi w ⟨rfl, hx⟩ k k0
        have hacc := w.get (.head _)
        walk_at "g"
        refine ⟨rfl, ?_⟩
        walk_at "gg"
        refine ⟨x, rfl, (w.get (k := fun G => SqT K G t xs ∧ ∀ x ∈ xs, Sv K x G) (.tail _ (.head _))).2 x (List.mem_of_getElem? hx), ?_⟩
        refine k _ _ (w.more _ fun G _ => ?_)
        rw [List.take_add_one, hx, hacc]
        simp
      · intro D acc H w
        have hacc := w.get (.head _)
        rw [List.take_length] at hacc
        subst hacc
        walk_at "gg"
        refine g_all (bs := xs.map isC) (sqL (w.cell (.head _))) ?_
        rw [show (xs.map isC).all id = xs.all isC by rw [List.all_map]; rfl]
        exact qq _ (w.drop1.tail.tail)
    · rw [e, Bool.false_and] at qq
      exact qq _ w
def t_law_due (K : PySem.W.Frag) (ad : String → Addr) : TS := (tSeq (tIfS (tOr (tNot (tB (tCB (rIsi K) (tCons (tVar 1) (tCons (tC (.ty "tuple")) tNil))))) (tTest (tOp (rNeA K) (tCB (rLenA K) (tCons (tVar 1) tNil)) (tCB (rLenA K) (tCons (tOp (rIxA K) (tVar 0) (tC (.int 1))) tNil))))) (tRet (tC (.bl false))) tNext) (tSeq (tAsg (tLc (iSeq K (tVar 1)) (gName 3) (tAnd (tB (tCB (rIsi K) (tCons (tVar 3) (tCons (tC (.ty "int")) tNil)))) (tAnd (tNot (tB (tCB (rIsi K) (tCons (tVar 3) (tCons (tC (.ty "bool")) tNil))))) (tTest (tChain rLtA rLtA (tUn (rU fun i => .int (-i)) (tC (.int 1))) (tVar 3) (tC (.int 1000)))))) (tVar 3) [3]) (gName 2)) (tRet (tOp (rEqA K) (tCB (rLenA K) (tCons (tVar 2) tNil)) (tCB (rLenA K) (tCons (tVar 1) tNil))))))
theorem rd_law_due {K : PySem.W.Frag} {ad : String → Addr} (N : List Str) (hN : N.length = 4) : ∀ vs H Q E, sp_law_due K ad vs H Q E → t_law_due K ad { nx := fun _ H' => Q .non H', rt := Q } (L2.start N vs) H := by
  rintro vs H Q E ⟨pb, pf, us, bv, v, fs, r, M, Γ, L, rfl, w, q⟩
  rw [st_of hN]
  show t_law_due K ad _ [some (.ref pb), some v, none, none] H
  unfold t_law_due
  have hr := w.get (.tail _ (.tail _ (.head _)))
  walk_at "gg"
  cases r with
  | none =>
    refine isi_any hr.1.ty (not_tup hr.1 hr.2) ?_
    walk_at "gg"
    exact q H w
  | some xs =>
    obtain ⟨hl, t, rfl, ht, hs⟩ := hr
    refine isi_any (tyT ht) (b := true) (by decide +kernel) ?_
    walk_at "gg"
    refine g_lenT ht ?_
    walk_at "gg"
    refine g_ixT (n := 1) (v := .ref pf) (sqT (w.get (.head _))) rfl ?_
    walk_at "gg"
    refine g_lenT (sqT (w.get (.tail _ (.head _)))) ?_
    rw [List.length_map]
    walk_at "gg"
    have qq : ∀ H', WR M ((fun G => G pb = some (.tup [us, .ref pf, bv])) :: (fun G => G pf = some (.tup (fs.map V.str))) :: Row K (some xs) (.ref t) :: Γ) L H' → Q (.bl (decide ((xs.length : Int) = (fs.length : Int)) && xs.all isC)) H' := q
    refine g_iteN (fun e => ?_) (fun e => ?_)
    · rw [decide_eq_false e, Bool.false_and] at qq
      walk_at "gg"
      exact qq _ w
    · rw [decide_eq_true e, Bool.true_and] at qq
      walk_at "gg"
      refine g_inT ht ?_
      have wx := w.more (fun G => SqT K G t xs ∧ ∀ x ∈ xs, Sv K x G) fun G hG => by
        obtain ⟨_, t', e', h1, h2⟩ := hG (Row K (some xs) (.ref t)) (.tail _ (.tail _ (.head _)))
        cases e'
        exact ⟨h1, h2⟩
      refine c_lc (walk_tup (xs := xs)) wx (fun i acc _ => acc = (xs.take i).filter isC) (fun _ => rfl) ?_ ?_ ?_ ?_
      · rintro i acc G hi rfl
        have h1 := List.length_filter_le isC (xs.take i)
        have h2 : (xs.take i).length ≤ xs.length := List.length_take_le' i xs
        exact szl (by omega)
      · intro i acc D H hi w
        exact (w.get (.tail _ (.head _))).1
      · rintro i x D acc H H' N N0 hi w ⟨rfl, hx⟩ k k0
        have hacc := w.get (.head _)
        have hsv := (w.get (k := fun G => SqT K G t xs ∧ ∀ x ∈ xs, Sv K x G) (.tail _ (.head _))).2 x (List.mem_of_getElem? hx)
        have yes : isC x = true → N x H' := fun e => k _ _ (w.more _ fun G _ => by
          rw [List.take_add_one, hx, hacc, List.filter_append]
          simp [e])
        have no : isC x = false → N0 H' := fun e => k0 _ (w.more _ fun G _ => by
          rw [List.take_add_one, hx, hacc, List.filter_append]
          simp [e])
        walk_at "g"
        refine ⟨rfl, ?_⟩
        walk_at "gg"
        cases x with
        | int i =>
          refine isi_any hsv.ty (b := true) (by simp only [tyOf]; decide +kernel) ?_
          walk_at "gg"
          refine isi_any hsv.ty (b := false) (by simp only [tyOf]; decide +kernel) ?_
          walk_at "gg"
          refine g_iteD (fun e1 => ?_) (fun e1 => ?_)
          · walk_at "gg"
            refine g_iteD (fun e2 => ?_) (fun e2 => ?_)
            · walk_at "gg"
              exact yes (by simp [isC]; omega)
            · exact no (by simp [isC]; omega)
          · walk_at "gg"
            exact no (by simp [isC]; omega)
        | bl b =>
          refine isi_any hsv.ty (b := true) (by simp only [tyOf]; decide +kernel) ?_
          walk_at "gg"
          refine isi_any hsv.ty (b := true) (by simp only [tyOf]; decide +kernel) ?_
          walk_at "gg"
          exact no rfl
        | non =>
          refine isi_any hsv.ty (b := false) (by simp only [tyOf]; decide +kernel) ?_
          walk_at "gg"
          exact no rfl
        | str s =>
          refine isi_any hsv.ty (b := false) (by simp only [tyOf]; decide +kernel) ?_
          walk_at "gg"
          exact no rfl
        | ref t =>
          refine isi_any hsv.ty (b := false) (by simp only [tyOf]; decide +kernel) ?_
          walk_at "gg"
          exact no rfl
        | _ => exact hsv.elim
      · intro D acc H w
        have hacc := w.get (.head _)
        rw [List.take_length] at hacc
        subst hacc
        have ht2 := (w.get (k := fun G => SqT K G t xs ∧ ∀ x ∈ xs, Sv K x G) (.tail _ (.head _))).1
        walk_at "gg"
        refine g_lenL (sqL (w.cell (.head _))) ?_
        walk_at "gg"
        refine g_lenT ht2 ?_
        walk_at "gg"
        have ef : decide (((xs.filter isC).length : Int) = (xs.length : Int)) = xs.all isC := by
          rw [Bool.eq_iff_iff, decide_eq_true_eq, List.all_eq_true]
          constructor
          · intro h
            exact List.length_filter_eq_length_iff.mp (by omega)
          · intro h
            rw [List.length_filter_eq_length_iff.mpr h]
        rw [ef]
        exact qq _ (w.drop1.tail.tail)
/-- something odd -/
def sp_law_odd (K : PySem.W.Frag) (ad : String → Addr) : Sp := fun vs H Q _ => ∃ (d l : Addr) (Γ : List Kn) (L : Cells), vs = [.ref d] ∧ WR (dealM d l) Γ L H ∧
  ∀ (r : Option (List V)) v H', WR (dealM d l) (Row K r v :: Sv K v :: Γ) L H' → Q v H'
theorem ln_law_odd {K : PySem.W.Frag} {ad : String → Addr} : ∀ vs H Q E, sp_law_odd K ad vs H Q E → vs.length = 1 := by
  rintro vs H Q E ⟨d, l, Γ, L, rfl, _⟩
  rfl
def t_law_odd (K : PySem.W.Frag) (ad : String → Addr) : TS := (tSeq (tAsg (tLst (tCons (tOp (rI0 fun i j => .int (i - j)) (tOp (rI0 fun i j => .int (i - j)) (tC (.int 0)) (tC (.int 1))) (tCall (sp_law_draw K ad) [] E0 (tCons (tVar 0) (tCons (tC (.int 9)) tNil)))) (tCons (tOp (rAddA K) (tC (.int 1000)) (tCall (sp_law_draw K ad) [] E0 (tCons (tVar 0) (tCons (tC (.int 9)) tNil)))) (tCons (tC (.bl true)) (tCons (tC (.bl false)) (tCons (tC .non) (tCons (tC (.str "5")) (tCons (tC (.str "")) (tCons (tTup tNil) (tCons (tTup (tCons (tC (.int 5)) tNil)) (tCons (tOp (rI CPow fun i j => .int (i ^ j.toNat)) (tC (.int 10)) (tC (.int 20))) tNil))))))))))) (gName 1)) (tRet (tOp (rIxA K) (tVar 1) (tCall (sp_law_draw K ad) [] E0 (tCons (tVar 0) (tCons (tC (.int 10)) tNil))))))
theorem rd_law_odd {K : PySem.W.Frag} {ad : String → Addr} (N : List Str) (hN : N.length = 2) : ∀ vs H Q E, sp_law_odd K ad vs H Q E → t_law_odd K ad { nx := fun _ H' => Q .non H', rt := Q } (L2.start N vs) H := by
  rintro vs H Q E ⟨d, l, Γ, L, rfl, w, q⟩
  rw [st_of hN]
  show t_law_odd K ad _ [some (.ref d), none] H
  unfold t_law_odd
  walk_at "gg"
  refine ⟨d, l, 9, _, _, rfl, by decide, by decide, w, fun a H a0 a1 w => ?_⟩
  walk_at "gg"
  refine ⟨d, l, 9, _, _, rfl, by decide, by decide, w, fun b H b0 b1 w => ?_⟩
  walk_at "gg"
  refine ⟨Nat.zero_le _, fun p1 np => ?_⟩
  have w := w.know (.tup []) np
  walk_at "gg"
  refine ⟨sz (show 1 ≤ 1000000 by decide), fun p2 np => ?_⟩
  have w := w.know (.tup [.int 5]) np
  walk_at "gg"
  refine g_powI ⟨by decide, by decide, by decide⟩ ?_
  generalize (10 : Int) ^ (20 : Int).toNat = big
  walk_at "gg"
  refine ⟨sz (show 10 ≤ 1000000 by decide), fun p3 np => ?_⟩
  have w := w.know (.lst [.int (0 - 1 - a), .int (1000 + b), .bl true, .bl false, .non, .str "5", .str "", .ref p1, .ref p2, .int big]) np
  walk_at "gg"
  refine ⟨d, l, 10, _, _, rfl, by decide, by decide, w, fun r H r0 r1 w => ?_⟩
  obtain ⟨v, hc, hcm, _⟩ := at_in (l := [V.int (0 - 1 - a), .int (1000 + b), .bl true, .bl false, .non, .str "5", .str "", .ref p1, .ref p2, .int big]) r0 r1
  refine g_ixL (sqL (w.get (.head _))) hc ?_
  have plain : (∀ G, Sv K v G) → (∀ t, v ≠ .ref t) → Q v H := fun h1 h2 => q none v H (((w.more (Sv K v) fun G _ => h1 G).more (Row K none v) fun G _ => ⟨h1 G, h2⟩).sub fun k hk => by
    rcases hk with _ | ⟨_, _ | ⟨_, hk⟩⟩
    · exact .head _
    · exact .tail _ (.head _)
    · exact .tail _ (.tail _ (.tail _ (.tail _ (.tail _ hk)))))
  have tupl : ∀ (p : Addr) (xs : List V), v = .ref p → xs.length ≤ 1000 → (∀ G x, x ∈ xs → Sv K x G) → (fun G => G p = some (HO.tup xs)) ∈ ((fun G => G p3 = some (HO.lst [.int (0 - 1 - a), .int (1000 + b), .bl true, .bl false, .non, .str "5", .str "", .ref p1, .ref p2, .int big])) :: (fun G => G p2 = some (HO.tup [.int 5])) :: (fun G => G p1 = some (HO.tup [])) :: Γ : List Kn) → Q v H := by
    rintro p xs rfl hl h1 hm
    exact q (some xs) _ H (((w.more (Sv K (.ref p)) fun G hG => ⟨xs, sqT (hG _ hm)⟩).more (Row K (some xs) (.ref p)) fun G hG => ⟨hl, p, rfl, sqT (hG _ (.tail _ hm)), fun x hx => h1 G x hx⟩).sub fun k hk => by
      rcases hk with _ | ⟨_, _ | ⟨_, hk⟩⟩
      · exact .head _
      · exact .tail _ (.head _)
      · exact .tail _ (.tail _ (.tail _ (.tail _ (.tail _ hk)))))
  simp only [List.mem_cons, List.not_mem_nil, or_false] at hcm
  rcases hcm with rfl | rfl | rfl | rfl | rfl | rfl | rfl | rfl | rfl | rfl
  · exact plain (fun _ => trivial) (fun _ h => nomatch h)
  · exact plain (fun _ => trivial) (fun _ h => nomatch h)
  · exact plain (fun _ => trivial) (fun _ h => nomatch h)
  · exact plain (fun _ => trivial) (fun _ h => nomatch h)
  · exact plain (fun _ => trivial) (fun _ h => nomatch h)
  · exact plain (fun _ => trivial) (fun _ h => nomatch h)
  · exact plain (fun _ => trivial) (fun _ h => nomatch h)
  · exact tupl p1 [] rfl (Nat.zero_le _) (fun G x hx => absurd hx List.not_mem_nil) (.tail _ (.tail _ (.head _)))
  · exact tupl p2 [.int 5] rfl (by show 1 ≤ 1000; decide) (fun G x hx => by rw [List.mem_singleton.mp hx]; trivial) (.tail _ (.head _))
  · exact plain (fun _ => trivial) (fun _ h => nomatch h)
theorem cut_all (xs : List V) {lo hi : Option Int} (h : HT.sIx xs.length 0 lo = 0 ∧ HT.sIx xs.length xs.length hi = xs.length) : cutV xs lo hi = xs := by
  unfold cutV
  rw [h.1, h.2, List.drop_zero, Nat.sub_zero, List.take_length]
theorem mem_cut {xs : List V} {lo hi : Option Int} {x : V} (h : x ∈ cutV xs lo hi) : x ∈ xs := List.mem_of_mem_drop (List.mem_of_mem_take h)
section
variable {K : PySem.W.Frag} {M : Cells → Prop} {Γ : List Kn} {L : Cells} {H : Hp} {Q : VK} {a b : Addr} {xs ys : List V}
theorem row_at (w : WR M Γ L H) (h : Row K (some xs) (.ref a) ∈ Γ) : SqT K H a xs ∧ ∀ x ∈ xs, Sv K x H := by
  obtain ⟨_, t, e, h1, h2⟩ := w.get h
  cases e
  exact ⟨h1, h2⟩
theorem row_in {G : Hp} (h : Row K (some xs) (.ref a) G) : SqT K G a xs ∧ ∀ x ∈ xs, Sv K x G := by
  obtain ⟨_, t, e, h1, h2⟩ := h
  cases e
  exact ⟨h1, h2⟩
theorem row_new {p : Addr} (w : WR M Γ L H) (np : H p = none) (hl : ys.length ≤ 1000) (hs : ∀ G, (∀ k ∈ Γ, k G) → ∀ x ∈ ys, Sv K x G) : WR M (Row K (some ys) (.ref p) :: Γ) L (upd H p (.tup ys)) :=
  ((w.know (.tup ys) np).more (Row K (some ys) (.ref p)) fun G hG => ⟨hl, p, rfl, sqT (hG _ (.head _)), hs G fun k hk => hG k (.tail _ hk)⟩).only (.head _) fun x hx => .tail _ (.tail _ hx)
theorem row_slice {lo hi : Option Int} (w : WR M Γ L H) (h : Row K (some xs) (.ref a) ∈ Γ) (q : ∀ p H', WR M (Row K (some (cutV xs lo hi)) (.ref p) :: Γ) L H' → Q (.ref p) H') : rSlAny K (.ref a) lo hi H Q := by
  have hl : xs.length ≤ 1000 := (w.get h).1
  by_cases c : HT.sIx xs.length 0 lo = 0 ∧ HT.sIx xs.length xs.length hi = xs.length
  · refine g_slTall (row_at w h).1 c (q a H (w.more _ fun G hG => ?_))
    rw [cut_all xs c]
    exact hG _ h
  · exact g_slT (row_at w h).1 c fun p np => q p _ (row_new w np (Nat.le_trans (cutV_length xs lo hi) hl) fun G hG x hx => (row_in (hG _ h)).2 x (mem_cut hx))
theorem row_cat (w : WR M Γ L H) (h : Row K (some xs) (.ref a) ∈ Γ) (h' : Row K (some ys) (.ref b) ∈ Γ) (hl : xs.length + ys.length ≤ 1000) (q : ∀ p H', WR M (Row K (some (xs ++ ys)) (.ref p) :: Γ) L H' → Q (.ref p) H') : rAddA K (.ref a) (.ref b) H Q := by
  refine .inr (.inr (.inr ⟨a, b, xs, ys, rfl, rfl, (row_at w h).1, (row_at w h').1, sz (by omega), fun e => ?_, fun _ e => ?_, fun _ _ p np => ?_⟩))
  · subst e
    exact q b H (w.more _ fun G hG => hG _ h')
  · subst e
    exact q a H (w.more _ fun G hG => by
      rw [List.append_nil]
      exact hG _ h)
  · refine q p _ (row_new w np (by rw [List.length_append]; exact hl) fun G hG x hx => ?_)
    rcases List.mem_append.mp hx with hx | hx
    · exact (row_in (hG _ h)).2 x hx
    · exact (row_in (hG _ h')).2 x hx
end
def sp_law_otherwise (K : PySem.W.Frag) (ad : String → Addr) : Sp := fun vs H Q _ => ∃ (d l t : Addr) (xs : List V) (Γ : List Kn) (L : Cells), vs = [.ref d, .ref t] ∧ xs.length ≤ 400 ∧ Row K (some xs) (.ref t) ∈ Γ ∧ WR (dealM d l) Γ L H ∧
  ∀ ys p H', ys.length ≤ 2 * xs.length + 1 → WR (dealM d l) (Row K (some ys) (.ref p) :: Γ) L H' → Q (.ref p) H'
theorem ln_law_otherwise {K : PySem.W.Frag} {ad : String → Addr} : ∀ vs H Q E, sp_law_otherwise K ad vs H Q E → vs.length = 2 := by
  rintro vs H Q E ⟨d, l, t, xs, Γ, L, rfl, _⟩
  rfl
def t_law_otherwise (K : PySem.W.Frag) (ad : String → Addr) : TS := (tSeq (tPar 2 3 (tCons (tCall (sp_law_draw K ad) [] E0 (tCons (tVar 0) (tCons (tOp (rAddA K) (tCB (rLenA K) (tCons (tVar 1) tNil)) (tC (.int 1))) tNil))) (tCons (tCall (sp_law_draw K ad) [] E0 (tCons (tVar 0) (tCons (tC (.int 5)) tNil))) tNil))) (tSeq (tIfS (tTest (tOp (rEqA K) (tVar 3) (tC (.int 0)))) (tRet (tOp (rAddA K) (tSl (rSlAny K) (tVar 1) tNoPart (tPart (tVar 2))) (tSl (rSlAny K) (tVar 1) (tPart (tOp (rAddA K) (tVar 2) (tC (.int 1)))) tNoPart))) tNext) (tSeq (tIfS (tTest (tOp (rEqA K) (tVar 3) (tC (.int 1)))) (tRet (tOp (rAddA K) (tOp (rAddA K) (tSl (rSlAny K) (tVar 1) tNoPart (tPart (tVar 2))) (tTup (tCons (tCall (sp_law_draw K ad) [] E0 (tCons (tVar 0) (tCons (tC (.int 1000)) tNil))) tNil))) (tSl (rSlAny K) (tVar 1) (tPart (tVar 2)) tNoPart))) tNext) (tRet (tOp (rAddA K) (tOp (rAddA K) (tSl (rSlAny K) (tVar 1) tNoPart (tPart (tVar 2))) (tTup (tCons (tCall (sp_law_odd K ad) [] E0 (tCons (tVar 0) tNil)) tNil))) (tSl (rSlAny K) (tVar 1) (tPart (tOp (rAddA K) (tVar 2) (tCB rIntA (tCons (tOp rGtA (tVar 3) (tC (.int 2))) tNil)))) tNoPart))))))
theorem rd_law_otherwise {K : PySem.W.Frag} {ad : String → Addr} (N : List Str) (hN : N.length = 4) : ∀ vs H Q E, sp_law_otherwise K ad vs H Q E → t_law_otherwise K ad { nx := fun _ H' => Q .non H', rt := Q } (L2.start N vs) H := by
  rintro vs H Q E ⟨d, l, t, xs, Γ, L, rfl, hl, hx, w, q⟩
  rw [st_of hN]
  show t_law_otherwise K ad _ [some (.ref d), some (.ref t), none, none] H
  unfold t_law_otherwise
  walk_at "gg"
  refine g_lenT (row_at w hx).1 ?_
  walk_at "gg"
  refine ⟨d, l, _, _, _, rfl, by omega, by omega, w, fun a H a0 a1 w => ?_⟩
  walk_at "gg"
  refine ⟨d, l, 5, _, _, rfl, by decide, by decide, w, fun f H f0 f1 w => ?_⟩
  refine ⟨_, _, rfl, ?_⟩
  walk_at "gg"
  refine g_iteD (fun e => ?_) (fun e => ?_)
  · walk_at "gg"
    refine row_slice w hx fun p1 H w => ?_
    walk_at "gg"
    refine row_slice w (.tail _ hx) fun p2 H w => ?_
    have l1 := cutV_length xs none (some a)
    have l2 := cutV_length xs (some (a + 1)) none
    refine row_cat w (.tail _ (.head _)) (.head _) (by omega) fun p3 H w => ?_
    exact q _ p3 _ (by rw [List.length_append]; omega) (w.only (.head _) fun x hx => .tail _ (.tail _ (.tail _ hx)))
  · walk_at "gg"
    refine g_iteD (fun e => ?_) (fun e => ?_)
    · walk_at "gg"
      refine row_slice w hx fun p1 H w => ?_
      walk_at "gg"
      refine ⟨d, l, 1000, _, _, rfl, by decide, by decide, w, fun m H m0 m1 w => ?_⟩
      walk_at "gg"
      refine ⟨sz (show 1 ≤ 1000000 by decide), fun p2 np => ?_⟩
      have w := row_new (K := K) (ys := [.int m]) w np (by show 1 ≤ 1000; decide) fun G _ x hx => by rw [List.mem_singleton.mp hx]; trivial
      have l1 := cutV_length xs none (some a)
      have l2 := cutV_length xs (some a) none
      refine row_cat w (.tail _ (.head _)) (.head _) (by show _ + 1 ≤ 1000; omega) fun p3 H w => ?_
      walk_at "gg"
      refine row_slice w (.tail _ (.tail _ (.tail _ hx))) fun p4 H w => ?_
      refine row_cat w (.tail _ (.head _)) (.head _) (by rw [List.length_append]; show _ + 1 + _ ≤ 1000; omega) fun p5 H w => ?_
      exact q _ p5 _ (by rw [List.length_append, List.length_append]; show _ + 1 + _ ≤ _; omega) (w.only (.head _) fun x hx => .tail _ (.tail _ (.tail _ (.tail _ (.tail _ hx)))))
    · walk_at "gg"
      refine row_slice w hx fun p1 H w => ?_
      walk_at "gg"
      refine ⟨d, l, _, _, rfl, w, fun r v H w => ?_⟩
      walk_at "gg"
      refine ⟨sz (show 1 ≤ 1000000 by decide), fun p2 np => ?_⟩
      have w := row_new (K := K) (ys := [v]) w np (by show 1 ≤ 1000; decide) fun G hG x hx => by rw [List.mem_singleton.mp hx]; exact hG _ (.tail _ (.head _))
      have l1 := cutV_length xs none (some a)
      refine row_cat w (.tail _ (.tail _ (.tail _ (.head _)))) (.head _) (by show _ + 1 ≤ 1000; omega) fun p3 H w => ?_
      walk_at "gg"
      refine row_slice w (.tail _ (.tail _ (.tail _ (.tail _ (.tail _ hx))))) fun p4 H w => ?_
      have l2 := cutV_length xs (some (a + if decide (2 < f) = true then 1 else 0)) none
      refine row_cat w (.tail _ (.head _)) (.head _) (by rw [List.length_append]; show _ + 1 + _ ≤ 1000; omega) fun p5 H w => ?_
      exact q _ p5 _ (by rw [List.length_append, List.length_append]; show _ + 1 + _ ≤ _; omega) (w.only (.head _) fun x hx => .tail _ (.tail _ (.tail _ (.tail _ (.tail _ (.tail _ (.tail _ hx)))))))
end Ct
namespace Ct
open PySem PySem.Spec PyProof.Rows L2
local macro_rules | `(tactic| walk_at "g") => `(tactic| first
  | with_reducible refine g_seq ?_
  | with_reducible refine g_set ?_
  | with_reducible refine g_asg ?_
  | with_reducible refine g_sub ?_
  | with_reducible refine g_name ?_
  | with_reducible refine g_ret ?_
  | with_reducible refine g_if ?_
  | ((with_reducible refine' g_var ?gh ?_); (case gh => rfl))
  | with_reducible refine g_c ?_
  | with_reducible refine g_op ?_
  | with_reducible refine g_test ?_
  | with_reducible refine g_bl ?_
  | with_reducible refine g_int ?_
  | with_reducible refine g_cons ?_
  | with_reducible refine g_nil ?_
  | with_reducible refine g_call ?_
  | with_reducible refine g_cb ?_
  | with_reducible refine g_and ?_
  | with_reducible refine g_or ?_
  | with_reducible refine g_not ?_
  | with_reducible refine g_B ?_
  | with_reducible refine g_un ?_
  | with_reducible refine g_neg ?_
  | with_reducible refine g_chain ?_
  | with_reducible refine g_drop ?_
  | with_reducible refine g_par ?_
  | with_reducible refine g_par3 ?_
  | with_reducible refine g_tup ?_
  | with_reducible refine g_lst ?_
  | with_reducible refine g_sl ?_
  | with_reducible refine g_nop ?_
  | with_reducible refine g_part ?_
  | with_reducible refine g_bm0 ?_
  | with_reducible refine g_bm ?_
  | with_reducible refine g_m0 ?_
  | with_reducible refine g_m1 ?_
  | with_reducible refine g_lrev ?_
  | with_reducible refine g_ifE ?_
  | with_reducible refine g_andV ?_
  | with_reducible refine g_orV ?_
  | with_reducible refine g_notV ?_
  | with_reducible refine g_addI ?_
  | with_reducible refine g_subI ?_
  | with_reducible refine g_eqI ?_
  | with_reducible refine g_neI ?_
  | with_reducible refine g_eqS ?_
  | with_reducible refine g_neS ?_
  | with_reducible refine g_eqB ?_
  | with_reducible refine g_neB ?_
  | with_reducible refine g_ltI ?_
  | with_reducible refine g_gtI ?_
  | with_reducible refine g_leI ?_
  | with_reducible refine g_geI ?_
  | with_reducible refine g_inS ?_
  | with_reducible refine g_niS ?_
  | with_reducible refine g_max ?_
  | with_reducible refine g_min ?_
  | with_reducible refine g_abs ?_
  | with_reducible refine g_isN ?_
  | with_reducible refine g_notN ?_
  | with_reducible refine g_isB ?_
  | with_reducible refine g_notB ?_
  | with_reducible refine g_intB ?_
  | with_reducible refine g_intI ?_
  | with_reducible refine g_lc ?_
  | with_reducible refine g_for ?_
  | with_reducible refine g_seqI ?_
  | with_reducible refine g_inStr ?_
  | with_reducible refine g_rng ?_
  | with_reducible refine g_yes ?_
  | with_reducible refine g_pairs ?_
  | with_reducible refine g_pairs0 ?_
  | with_reducible refine iteT ?_
  | with_reducible refine iteF ?_
  | with_reducible refine g_nF ?_
  | with_reducible refine g_nT ?_
  | with_reducible refine g_gcons ?_
  | with_reducible refine g_gnil ?_
  | with_reducible refine g_next ?_
  | with_reducible refine g_callN ?_
  | with_reducible refine g_callNS ?_
  | with_reducible refine g_callS ?_
  | ((with_reducible refine' g_mulI ?gh ?_); (case gh => first | exact .inl (.inl ⟨by omega, by omega⟩) | exact .inl (.inr ⟨by omega, by omega⟩)))
  | ((with_reducible refine' g_modI ?gh ?_); (case gh => omega)))
local macro_rules | `(tactic| walk_at "gg") => `(tactic| (repeat walk_at "g"))
def spL (K : PySem.W.Frag) : Sp := fun vs H Q _ => ∃ (a : Addr) (ns : List Int), vs = [.ref a] ∧ SqL K H a (ns.map V.int) ∧ ns.length ≤ 63 ∧ (∀ i ∈ ns, Builtin.Int.intBits i ≤ 1048576) ∧ Only H ∧ ∀ H', Q (.bl true) H'
theorem sq_stay {K : PySem.W.Frag} {H G : Hp} {a : Addr} {xs : List V} (h : SqL K H a xs) (s : Same H G) : SqL K G a xs := s.seq h
abbrev sp_law (K : PySem.W.Frag) (ad : String → Addr) : Sp := spL K
theorem ln_law {K : PySem.W.Frag} {ad : String → Addr} : ∀ vs H Q E, sp_law K ad vs H Q E → vs.length = 1 := by
  rintro vs H Q E ⟨a, ns, rfl, _⟩
  rfl
/-- rows, each drawn -/
def Rws (K : PySem.W.Frag) (xs : List V) : Hp → Prop := fun G => ∀ x ∈ xs, ∃ r, Row K r x G
/-- tuples, each of at most n items -/
def Tps (K : PySem.W.Frag) (n : Nat) (xs : List V) : Hp → Prop := fun G => ∀ x ∈ xs, ∃ t ys, x = .ref t ∧ ys.length ≤ n ∧ Row K (some ys) x G
/-- what is asked: a book and a row -/
def Asks (K : PySem.W.Frag) (xs : List V) : Hp → Prop := fun G => ∀ x ∈ xs, ∃ (p pb pf : Addr) (us bv v : V) (fs : List Str) (r : Option (List V)), x = .ref p ∧ G p = some (.tup [.ref pb, v]) ∧ G pb = some (.tup [us, .ref pf, bv]) ∧ G pf = some (.tup (fs.map V.str)) ∧ Row K r v G
theorem Tps.one {K : PySem.W.Frag} {n : Nat} {acc : List V} {G : Hp} {p : Addr} {ys : List V} (h : Tps K n acc G) (hl : ys.length ≤ n) (hr : Row K (some ys) (.ref p) G) : Tps K n (acc ++ [.ref p]) G := by
  intro x hx
  rcases List.mem_append.mp hx with hx | hx
  · exact h x hx
  · rw [List.mem_singleton.mp hx]
    exact ⟨p, ys, rfl, hl, hr⟩
theorem sqT_mono {K : PySem.W.Frag} {G G' : Hp} {a : Addr} {xs : List V} (s : Same G G') (h : SqT K G a xs) : SqT K G' a xs := by
  rcases h with (h | ⟨o, h⟩) | h
  · exact .inl (.inl (s _ _ h))
  · exact .inl (.inr ⟨o, s _ _ h⟩)
  · exact .inr h
theorem sv_mono {K : PySem.W.Frag} {G G' : Hp} (s : Same G G') : ∀ {v : V}, Sv K v G → Sv K v G'
  | .int _, _ => trivial
  | .bl _, _ => trivial
  | .non, _ => trivial
  | .str _, _ => trivial
  | .ref t, ⟨xs, h⟩ => ⟨xs, sqT_mono s h⟩
theorem row_mono {K : PySem.W.Frag} {G G' : Hp} (s : Same G G') : ∀ {r : Option (List V)} {v : V}, Row K r v G → Row K r v G'
  | some xs, v, ⟨hl, t, e, h1, h2⟩ => ⟨hl, t, e, sqT_mono s h1, fun x hx => sv_mono s (h2 x hx)⟩
  | none, v, ⟨h1, h2⟩ => ⟨sv_mono s h1, h2⟩
def t_law (K : PySem.W.Frag) (ad : String → Addr) : TS := (tSeq (tAsg (tCall (sp_law_deal K ad) [] E0 (tCons (tVar 0) (tCons (tC (.int 0)) tNil))) (gName 1)) (tSeq (tAsg (tLst tNil) (gName 2)) (tSeq (tFor (iRng1 (tCons (tCB rMax2' (tCons (tC (.int 2)) (tCons (tCB rMin2' (tCons (tC (.int 4)) (tCons (tCB (rLenA K) (tCons (tVar 0) tNil)) tNil))) tNil))) tNil)) (gName 3) (tSeq (tAsg (tOp (rIxA K) (tCall (sp_law_book K ad) [] E0 (tCons (tVar 1) tNil)) (tC (.int 1))) (gName 4)) (tSeq (tAsg (tCB (rTupOf K) (tCons (tLc (iSeq K (tOp (rIxA K) (tVar 4) (tC (.int 1)))) (gName 9) tYes (tOp (rIxA K) (tLst (tCons (tC (.int 0)) (tCons (tC (.int 1)) (tCons (tC (.int 999)) (tCons (tCall (sp_law_draw K ad) [] E0 (tCons (tVar 1) (tCons (tC (.int 1000)) tNil))) tNil))))) (tCall (sp_law_draw K ad) [] E0 (tCons (tVar 1) (tCons (tC (.int 4)) tNil)))) [9]) tNil)) (gName 5)) (tSeq (tAsg (tLc (iRng1 (tCons (tC (.int 4)) tNil)) (gName 8) tYes (tCall (sp_law_otherwise K ad) [] E0 (tCons (tVar 1) (tCons (tVar 5) tNil))) [8]) (gName 6)) (tSeq (tAsg (tOp (rAddA K) (tLst (tCons (tVar 5) (tCons (tCall (sp_law_odd K ad) [] E0 (tCons (tVar 1) tNil)) (tCons (tCall (sp_law_odd K ad) [] E0 (tCons (tVar 1) tNil)) (tCons (tOp (rMulA K) (tSl (rSlAny K) (tVar 5) tNoPart (tPart (tC (.int 1)))) (tCB (rLenA K) (tCons (tVar 5) tNil))) tNil))))) (tVar 6)) (gName 7)) (tDrop (tBM K "list" rExtend (tVar 2) (tCons (tLc (iSeq K (tOp (rAddA K) (tVar 7) (tLc (iSeq K (tVar 6)) (gName 10) tYes (tCall (sp_law_otherwise K ad) [] E0 (tCons (tVar 1) (tCons (tVar 10) tNil))) [10]))) (gName 10) tYes (tTup (tCons (tVar 4) (tCons (tVar 10) tNil))) [10]) tNil)))))))) (tSeq (tFor (iSeq K (tOp (rAddA K) (tVar 2) (tSl (rSlAny K) (tVar 2) tNoPart (tPart (tC (.int 2)))))) (gTup K 2 (gCons (gName 4) (gCons (gName 5) gNil))) (tIfS (tTest (tOp (rNeA K) (tCB (rRepr K) (tCons (tCall (sp_is_row K ad) [] E0 (tCons (tVar 4) (tCons (tVar 5) tNil))) tNil)) (tCB (rRepr K) (tCons (tCall (sp_law_due K ad) [] E0 (tCons (tVar 4) (tCons (tVar 5) tNil))) tNil)))) (tRet (tC (.bl false))) tNext)) (tRet (tC (.bl true)))))))
theorem rd_law {K : PySem.W.Frag} {ad : String → Addr} (N : List Str) (hN : N.length = 11) : ∀ vs H Q E, sp_law K ad vs H Q E → t_law K ad { nx := fun _ H' => Q .non H', rt := Q } (L2.start N vs) H := by
  rintro vs H Q E ⟨a, ns, rfl, hS, hl, _, _, q⟩
  rw [st_of hN]
  show t_law K ad _ [some (.ref a), none, none, none, none, none, none, none, none, none, none] H
  unfold t_law
  have w : WR noM [fun G => SqL K G a (ns.map V.int)] [] H := WR.of (WW.of fun k hk G s => by
    rcases hk with _ | ⟨_, hk⟩
    · exact sq_stay hS s
    · exact absurd hk (List.not_mem_nil))
  walk_at "gg"
  refine ⟨a, ns, 0, _, rfl, by omega, by decide, by decide, w, fun d l H w => ?_⟩
  walk_at "gg"
  refine ⟨Nat.zero_le _, fun pa np => ?_⟩
  have w := w.new (.lst []) np
  walk_at "gg"
  refine g_lenL (w.get (.head _)) ?_
  rw [List.length_map]
  walk_at "gg"
  generalize hn : (if (if (ns.length : Int) < 4 then (ns.length : Int) else 4) > 2 then (if (ns.length : Int) < 4 then (ns.length : Int) else 4) else 2) = n
  have hn0 : 0 ≤ n ∧ n ≤ 4 := by
    subst hn
    split <;> split <;> omega
  refine ⟨_, rfl, by omega, by omega, ?_⟩
  have w := w.sub (Γ' := []) fun k hk => absurd hk List.not_mem_nil
  refine c_for walk_range (fun i σ H => ∃ (y3 y4 y5 y6 y7 y8 y9 y10 : Option V) (acc : List V), σ = [some (.ref a), some (.ref d), some (.ref pa), y3, y4, y5, y6, y7, y8, y9, y10] ∧ acc.length = 12 * i ∧ WR (dealM d l) [Asks K acc] [(pa, .lst acc)] H)
    (fun σ H => ∃ (y3 y4 y5 y6 y7 y8 y9 y10 : Option V) (acc : List V), σ = [some (.ref a), some (.ref d), some (.ref pa), y3, y4, y5, y6, y7, y8, y9, y10] ∧ acc.length ≤ 48 ∧ WR (dealM d l) [Asks K acc] [(pa, .lst acc)] H)
    ⟨_, _, _, _, _, _, _, _, [], rfl, rfl, w.more _ fun G hG x hx => absurd hx List.not_mem_nil⟩ (fun _ _ _ _ _ => trivial) ?_ ?_ ?_
  · rintro X hX i x σ H H' hi ⟨y3, y4, y5, y6, y7, y8, y9, y10, acc, rfl, hacc, w⟩ ⟨rfl, rfl⟩
    walk_at "gg"
    refine ⟨d, l, _, _, rfl, w, fun fs B us bv dw p pb pf H hfs w => ?_⟩
    walk_at "gg"
    refine g_ixT (n := 1) (v := .ref pb) (sqT (w.get (.head _))) rfl ?_
    have w := w.sub (Γ' := [(fun G => G pb = some (.tup [us, .ref pf, bv])), (fun G => G pf = some (.tup (fs.map V.str))), Asks K acc]) fun k hk => by
      rcases hk with _ | ⟨_, _ | ⟨_, _ | ⟨_, hk⟩⟩⟩
      · exact .tail _ (.head _)
      · exact .tail _ (.tail _ (.head _))
      · exact .tail _ (.tail _ (.tail _ (.tail _ (.head _))))
      · exact absurd hk List.not_mem_nil
    walk_at "gg"
    refine g_ixT (n := 1) (v := .ref pf) (sqT (w.get (.head _))) rfl ?_
    refine g_inT (sqT (w.get (.tail _ (.head _)))) ?_
    refine c_lc (walk_tup (xs := fs.map V.str)) w (fun i acc _ => acc.length = i ∧ ∀ x ∈ acc, ∃ m, x = V.int m) (fun _ => ⟨rfl, fun _ h => absurd h List.not_mem_nil⟩) ?_ ?_ ?_ ?_
    · rintro i acc G hi ⟨h, _⟩
      rw [List.length_map] at hi
      exact szl (by omega)
    · intro i acc D H hi w
      exact sqT (w.get (.tail _ (.tail _ (.head _))))
    · rintro i x D acc H H' N N0 hi w ⟨rfl, hx⟩ k k0
      walk_at "g"
      refine ⟨rfl, ?_⟩
      walk_at "gg"
      refine ⟨d, l, 1000, _, _, rfl, by decide, by decide, w, fun m H m0 m1 w => ?_⟩
      walk_at "gg"
      refine ⟨sz (show 4 ≤ 1000000 by decide), fun p1 np => ?_⟩
      have w := w.know (.lst (([0, 1, 999, m] : List Int).map V.int)) np
      walk_at "gg"
      refine ⟨d, l, 4, _, _, rfl, by decide, by decide, w, fun r H r0 r1 w => ?_⟩
      obtain ⟨v, hc, hcm, _⟩ := at_in (l := ([0, 1, 999, m] : List Int).map V.int) r0 r1
      obtain ⟨z, hz, rfl⟩ := List.mem_map.mp hcm
      refine g_ixL (sqL (w.get (.head _))) hc ?_
      refine k _ _ (w.tail.more _ fun G hG => ?_)
      obtain ⟨h1, h2⟩ := hG _ (.head _)
      refine ⟨by rw [List.length_append, h1]; rfl, fun x hx => ?_⟩
      rcases List.mem_append.mp hx with hx | hx
      · exact h2 x hx
      · exact ⟨z, List.mem_singleton.mp hx⟩
    intro D rw_ H w
    obtain ⟨hrl, hri⟩ := w.get (.head _)
    rw [List.length_map] at hrl
    walk_at "gg"
    refine g_tupL (sqL (w.cell (.head _))) fun t np => ?_
    have w := (row_new (K := K) (ys := rw_) w.drop1.tail np (by omega) fun G _ x hx => by
      obtain ⟨m, rfl⟩ := hri x hx
      trivial)
    walk_at "gg"
    refine ⟨_, rfl, by decide, by decide, ?_⟩
    refine c_lc walk_range w (fun i acc G => acc.length = i ∧ Tps K 121 acc G) (fun _ => ⟨rfl, fun _ h => absurd h List.not_mem_nil⟩) ?_ (fun _ _ _ _ _ _ => trivial) ?_ ?_
    · rintro i acc G hi ⟨h, _⟩
      exact szl (by omega)
    · rintro i x D acc H H' N N0 hi w ⟨rfl, rfl⟩ k k0
      walk_at "g"
      refine ⟨rfl, ?_⟩
      walk_at "gg"
      refine ⟨d, l, t, rw_, _, _, rfl, by omega, .tail _ (.head _), w, fun ys p H hy w => ?_⟩
      refine k _ _ ((w.more (fun G => (acc ++ [V.ref p]).length = i + 1 ∧ Tps K 121 (acc ++ [.ref p]) G) fun G hG => ?_).only (.head _) fun x hx => .tail _ (.tail _ hx))
      obtain ⟨h1, h2⟩ := hG _ (.tail _ (.head _))
      exact ⟨by rw [List.length_append, h1]; rfl, h2.one (by omega) (hG _ (.head _))⟩
    intro D2 once H w
    obtain ⟨hol, hot⟩ := w.get (.head _)
    have w := w.fix
    have hol : once.length = 4 := hol
    walk_at "gg"
    refine ⟨d, l, _, _, rfl, w, fun q1 v1 H w => ?_⟩
    walk_at "gg"
    refine ⟨d, l, _, _, rfl, w, fun q2 v2 H w => ?_⟩
    walk_at "gg"
    refine row_slice w (.tail _ (.tail _ (.tail _ (.tail _ (.tail _ (.tail _ (.head _))))))) fun p1 H w => ?_
    walk_at "gg"
    refine g_lenT (row_at w (.tail _ (.tail _ (.tail _ (.tail _ (.tail _ (.tail _ (.tail _ (.head _))))))))).1 ?_
    have hMul : ∀ R : VK, (∀ p ys H', WR (dealM d l) (Row K (some ys) (.ref p) :: Row K (some (cutV rw_ none (some 1))) (.ref p1) :: Row K q2 v2 :: Sv K v2 :: Row K q1 v1 :: Sv K v1 :: (fun G => G D2 = some (HO.lst once)) :: (fun G => once.length = (4 : Int).toNat ∧ Tps K 121 once G) :: Row K (some rw_) (.ref t) ::
        (fun G => G pb = some (HO.tup [us, .ref pf, bv])) :: (fun G => G pf = some (HO.tup (fs.map V.str))) :: Asks K acc :: []) [(pa, .lst acc)] H' → R (.ref p) H') → rMulA K (.ref p1) (.int (rw_.length : Nat)) H R := by
      intro R k
      have hc := row_at w (.head _)
      have h1 := (w.get (.head _)).1
      have hcl : (cutV rw_ none (some 1)).length = min 1 rw_.length := by
        unfold cutV
        rw [show (some (1 : Int)) = some ((1 : Nat) : Int) from rfl, HT.sIx_nat, HT.sIx_none, List.drop_zero, Nat.sub_zero, List.length_take]
        omega
      by_cases h2 : rw_.length ≤ 1
      · refine .inr (.inr (.inr (.inr (.inr ⟨p1, _, _, rfl, rfl, hc.1, ?_, by omega, by omega, k p1 _ H (w.more _ fun G hG => hG _ (.head _))⟩))))
        by_cases h3 : rw_.length = 0
        · exact .inl (List.eq_nil_of_length_eq_zero (by omega))
        · exact .inr (by omega)
      · refine .inr (.inr (.inr (.inr (.inl ⟨p1, _, _, rfl, rfl, hc.1, fun e => ?_, by omega, by omega, by omega, fun p np => ?_⟩))))
        · rw [e] at hcl
          simp at hcl
          omega
        · refine k p _ _ (row_new w np ?_ fun G hG x hx => ?_)
          · rw [List.length_flatten, List.map_replicate, List.sum_replicate_nat]
            have : (cutV rw_ none (some 1)).length = 1 := by omega
            rw [this, Int.toNat_natCast]
            omega
          · obtain ⟨l2, hl2, hx2⟩ := List.mem_flatten.mp hx
            rw [(List.mem_replicate.mp hl2).2] at hx2
            exact (row_in (hG _ (.head _))).2 x hx2
    refine hMul _ fun p2 ys2 H w => ?_
    clear hMul
    walk_at "gg"
    refine ⟨sz (show 4 ≤ 1000000 by decide), fun p4 np => ?_⟩
    have w := w.know (.lst [.ref t, v1, v2, .ref p2]) np
    walk_at "gg"
    refine g_addL (w.get (.head _)) (w.get (.tail _ (.tail _ (.tail _ (.tail _ (.tail _ (.tail _ (.tail _ (.head _))))))))) (sz (by show 4 + once.length ≤ 1000000; omega)) fun p5 np => ?_
    have w := w.know (.lst ([.ref t, v1, v2, .ref p2] ++ once)) np
    have hrl5 : ([V.ref t, v1, v2, .ref p2] ++ once).length = 8 := by rw [List.length_append, hol]; rfl
    have w := (w.more (Rws K ([.ref t, v1, v2, .ref p2] ++ once)) fun G hG x hx => by
      rcases List.mem_append.mp hx with hx | hx
      · simp only [List.mem_cons, List.not_mem_nil, or_false] at hx
        rcases hx with rfl | rfl | rfl | rfl
        · exact ⟨_, hG (Row K (some rw_) (.ref t)) (.tail _ (.tail _ (.tail _ (.tail _ (.tail _ (.tail _ (.tail _ (.tail _ (.tail _ (.tail _ (.head _)))))))))))⟩
        · exact ⟨_, hG (Row K q1 x) (.tail _ (.tail _ (.tail _ (.tail _ (.tail _ (.tail _ (.head _)))))))⟩
        · exact ⟨_, hG (Row K q2 x) (.tail _ (.tail _ (.tail _ (.tail _ (.head _)))))⟩
        · exact ⟨_, hG (Row K (some ys2) (.ref p2)) (.tail _ (.tail _ (.head _)))⟩
      · obtain ⟨t', ys', _, _, h⟩ := (hG (fun G => once.length = (4 : Int).toNat ∧ Tps K 121 once G) (.tail _ (.tail _ (.tail _ (.tail _ (.tail _ (.tail _ (.tail _ (.tail _ (.tail _ (.head _))))))))))).2 x hx
        exact ⟨_, h⟩)
    generalize hrows : [V.ref t, v1, v2, .ref p2] ++ once = rows at w hrl5 ⊢
    have w := w.sub (Γ' := [Rws K rows, (fun G => G p5 = some (.lst rows)), (fun G => G D2 = some (.lst once)), (fun G => once.length = (4 : Int).toNat ∧ Tps K 121 once G), (fun G => G pb = some (.tup [us, .ref pf, bv])), (fun G => G pf = some (.tup (fs.map V.str))), Asks K acc]) fun k hk => by
      rcases hk with _ | ⟨_, _ | ⟨_, _ | ⟨_, _ | ⟨_, _ | ⟨_, _ | ⟨_, _ | ⟨_, hk⟩⟩⟩⟩⟩⟩⟩
      · exact .head _
      · exact .tail _ (.head _)
      · exact .tail _ (.tail _ (.tail _ (.tail _ (.tail _ (.tail _ (.tail _ (.tail _ (.tail _ (.head _)))))))))
      · exact .tail _ (.tail _ (.tail _ (.tail _ (.tail _ (.tail _ (.tail _ (.tail _ (.tail _ (.tail _ (.head _))))))))))
      · exact .tail _ (.tail _ (.tail _ (.tail _ (.tail _ (.tail _ (.tail _ (.tail _ (.tail _ (.tail _ (.tail _ (.tail _ (.head _))))))))))))
      · exact .tail _ (.tail _ (.tail _ (.tail _ (.tail _ (.tail _ (.tail _ (.tail _ (.tail _ (.tail _ (.tail _ (.tail _ (.tail _ (.head _)))))))))))))
      · exact .tail _ (.tail _ (.tail _ (.tail _ (.tail _ (.tail _ (.tail _ (.tail _ (.tail _ (.tail _ (.tail _ (.tail _ (.tail _ (.tail _ (.head _))))))))))))))
      · exact absurd hk List.not_mem_nil
    walk_at "gg"
    refine ⟨g_tyL (sqL (w.cell (.head _))), ?_⟩
    walk_at "gg"
    refine g_inL (sqL (w.get (.tail _ (.tail _ (.head _))))) ?_
    refine c_lc (walk_list (xs := once)) w (fun i acc G => acc.length = i ∧ Tps K 300 acc G) (fun _ => ⟨rfl, fun _ h => absurd h List.not_mem_nil⟩) ?_ ?_ ?_ ?_
    · rintro i acc G hi ⟨h, _⟩
      exact szl (by omega)
    · intro i acc D H hi w
      exact sqL (w.get (.tail _ (.tail _ (.tail _ (.head _)))))
    · rintro i x D acc' H H' N N0 hi w ⟨rfl, hx⟩ k k0
      obtain ⟨⟨t', ys'⟩, w⟩ := WR.open (k' := fun (u : Addr × List V) G => x = .ref u.1 ∧ u.2.length ≤ 121 ∧ Row K (some u.2) (.ref u.1) G) w (fun G hG => by
        obtain ⟨t', ys', e, h1, h2⟩ := (hG (fun G => once.length = (4 : Int).toNat ∧ Tps K 121 once G) (.tail _ (.tail _ (.tail _ (.tail _ (.head _)))))).2 x (List.mem_of_getElem? hx)
        subst e
        exact ⟨(t', ys'), rfl, h1, h2⟩) (fun u G G' s ⟨h1, h2, h3⟩ => ⟨h1, h2, row_mono s h3⟩)
      obtain ⟨rfl, hy, _⟩ := w.get (.head _)
      have w := w.more (Row K (some ys') (.ref t')) fun G hG => (hG _ (.head _)).2.2
      walk_at "g"
      refine ⟨rfl, ?_⟩
      walk_at "gg"
      refine ⟨d, l, t', ys', _, _, rfl, by have : ys'.length ≤ 121 := hy; omega, .head _, w, fun zs p H hz w => ?_⟩
      have hy : ys'.length ≤ 121 := hy
      refine k _ _ ((w.more (fun G => (acc' ++ [V.ref p]).length = i + 1 ∧ Tps K 300 (acc' ++ [.ref p]) G) fun G hG => ?_).only (.head _) fun x hx => .tail _ (.tail _ (.tail _ (.tail _ hx))))
      obtain ⟨h1, h2⟩ := hG (fun G => acc'.length = i ∧ Tps K 300 acc' G) (.tail _ (.tail _ (.tail _ (.head _))))
      exact ⟨by rw [List.length_append, h1]; rfl, h2.one (by omega) (hG _ (.head _))⟩
    intro D3 two H w
    obtain ⟨htl, _⟩ := w.get (.head _)
    have htl : two.length = 4 := htl.trans hol
    have w := w.fix
    walk_at "gg"
    refine g_addL (w.get (.tail _ (.tail _ (.tail _ (.head _))))) (w.get (.head _)) (sz (by omega)) fun p6 np => ?_
    have w := w.know (.lst (rows ++ two)) np
    have hal : (rows ++ two).length = 12 := by rw [List.length_append, hrl5, htl]
    have w := w.more (Rws K (rows ++ two)) fun G hG x hx => by
      rcases List.mem_append.mp hx with hx | hx
      · exact hG (Rws K rows) (.tail _ (.tail _ (.tail _ (.head _)))) x hx
      · obtain ⟨t', ys', _, _, h⟩ := (hG (fun G => two.length = once.length ∧ Tps K 300 two G) (.tail _ (.tail _ (.head _)))).2 x hx
        exact ⟨_, h⟩
    generalize rows ++ two = ws at w hal ⊢
    refine g_inL (sqL (w.get (.tail _ (.head _)))) ?_
    have w := w.sub (Γ' := [Rws K ws, (fun G => G p6 = some (.lst ws)), (fun G => G pb = some (.tup [us, .ref pf, bv])), (fun G => G pf = some (.tup (fs.map V.str))), Asks K acc]) fun k hk => by
      rcases hk with _ | ⟨_, _ | ⟨_, _ | ⟨_, _ | ⟨_, _ | ⟨_, hk⟩⟩⟩⟩⟩
      · exact .head _
      · exact .tail _ (.head _)
      · exact .tail _ (.tail _ (.tail _ (.tail _ (.tail _ (.tail _ (.tail _ (.tail _ (.head _))))))))
      · exact .tail _ (.tail _ (.tail _ (.tail _ (.tail _ (.tail _ (.tail _ (.tail _ (.tail _ (.head _)))))))))
      · exact .tail _ (.tail _ (.tail _ (.tail _ (.tail _ (.tail _ (.tail _ (.tail _ (.tail _ (.tail _ (.head _))))))))))
      · exact absurd hk List.not_mem_nil
    refine c_lc (walk_list (xs := ws)) w (fun i acc G => acc.length = i ∧ Asks K acc G) (fun _ => ⟨rfl, fun _ h => absurd h List.not_mem_nil⟩) ?_ ?_ ?_ ?_
    · rintro i acc G hi ⟨h, _⟩
      exact szl (by omega)
    · intro i acc D H hi w
      exact sqL (w.get (.tail _ (.tail _ (.head _))))
    · rintro i x D acc' H H' N N0 hi w ⟨rfl, hx⟩ k k0
      walk_at "g"
      refine ⟨rfl, ?_⟩
      walk_at "gg"
      refine ⟨sz (show 2 ≤ 1000000 by decide), fun p7 np => ?_⟩
      have w := w.know (.tup [.ref pb, x]) np
      refine k _ _ ((w.more (fun G => (acc' ++ [V.ref p7]).length = i + 1 ∧ Asks K (acc' ++ [.ref p7]) G) fun G hG => ?_).only (.head _) fun x hx => .tail _ (.tail _ hx))
      obtain ⟨h1, h2⟩ := hG (fun G => acc'.length = i ∧ Asks K acc' G) (.tail _ (.head _))
      refine ⟨by rw [List.length_append, h1]; rfl, fun y hy => ?_⟩
      rcases List.mem_append.mp hy with hy | hy
      · exact h2 y hy
      · rw [List.mem_singleton.mp hy]
        obtain ⟨r, hr⟩ := hG (Rws K ws) (.tail _ (.tail _ (.head _))) x (List.mem_of_getElem? hx)
        exact ⟨p7, pb, pf, us, bv, x, fs, r, rfl, hG _ (.head _), hG _ (.tail _ (.tail _ (.tail _ (.tail _ (.head _))))), hG _ (.tail _ (.tail _ (.tail _ (.tail _ (.tail _ (.head _)))))), hr⟩
    intro D4 more_ H w
    obtain ⟨hml, _⟩ := w.get (.head _)
    have hml : more_.length = 12 := hml.trans hal
    walk_at "gg"
    refine g_ext (w.cell (.tail _ (.head _))) (w.cell (.head _)) (sz (by omega)) ?_
    have w := (w.put1 (.lst (acc ++ more_))).drop1
    refine ⟨_, _, _, _, _, _, _, _, acc ++ more_, rfl, by rw [List.length_append, hacc, hml]; omega, (w.more (Asks K (acc ++ more_)) fun G hG x hx => ?_).only (Γ := []) (.head _) fun x hx => absurd hx List.not_mem_nil⟩
    rcases List.mem_append.mp hx with hx | hx
    · exact hG (Asks K acc) (.tail _ (.tail _ (.tail _ (.tail _ (.tail _ (.head _)))))) x hx
    · exact (hG (fun G => more_.length = ws.length ∧ Asks K more_ G) (.head _)).2 x hx
  · rintro σ H ⟨y3, y4, y5, y6, y7, y8, y9, y10, acc, rfl, hacc, w⟩
    exact ⟨_, _, _, _, _, _, _, _, acc, rfl, by omega, w⟩
  · rintro σ H ⟨y3, y4, y5, y6, y7, y8, y9, y10, acc, rfl, hacc, w⟩
    walk_at "gg"
    refine g_slL (sqL (w.cell (.head _))) fun p1 np => ?_
    have w := w.know (.lst (cutV acc none (some 2))) np
    have hc2 : (cutV acc none (some 2)).length ≤ 48 := Nat.le_trans (cutV_length _ _ _) hacc
    refine g_addL (w.cell (.head _)) (w.get (.head _)) (sz (by omega)) fun p2 np => ?_
    have w := w.know (.lst (acc ++ cutV acc none (some 2))) np
    have w := (w.more (Asks K (acc ++ cutV acc none (some 2))) fun G hG x hx => by
      rcases List.mem_append.mp hx with hx | hx
      · exact hG (Asks K acc) (.tail _ (.tail _ (.head _))) x hx
      · exact hG (Asks K acc) (.tail _ (.tail _ (.head _))) x (mem_cut hx))
    generalize acc ++ cutV acc none (some 2) = bs at w
    have w := (w.drop1).sub (Γ' := [Asks K bs, fun G => G p2 = some (.lst bs)]) fun k hk => by
      rcases hk with _ | ⟨_, _ | ⟨_, hk⟩⟩
      · exact .head _
      · exact .tail _ (.head _)
      · exact absurd hk List.not_mem_nil
    refine g_inL (sqL (w.get (.tail _ (.head _)))) ?_
    refine c_for (walk_list (xs := bs)) (fun i σ H => ∃ (y3 y4 y5 y6 y7 y8 y9 y10 : Option V), σ = [some (.ref a), some (.ref d), some (.ref pa), y3, y4, y5, y6, y7, y8, y9, y10] ∧ WR (dealM d l) [Asks K bs, fun G => G p2 = some (.lst bs)] [] H) (fun σ H => True) ⟨_, _, _, _, _, _, _, _, rfl, w⟩ ?_ ?_ (fun _ _ _ => trivial) ?_
    · rintro i σ H _ ⟨_, _, _, _, _, _, _, _, _, w⟩
      exact sqL (w.get (.tail _ (.head _)))
    · rintro X hX i x σ H H' hi ⟨y3, y4, y5, y6, y7, y8, y9, y10, rfl, w⟩ ⟨rfl, hx⟩
      have hxm := List.mem_of_getElem? hx
      obtain ⟨⟨p, pb, pf, us, bv, v, fs, r⟩, w⟩ := WR.open (k' := fun (u : Addr × Addr × Addr × V × V × V × List Str × Option (List V)) G => x = .ref u.1 ∧ G u.1 = some (.tup [.ref u.2.1, u.2.2.2.2.2.1]) ∧ G u.2.1 = some (.tup [u.2.2.2.1, .ref u.2.2.1, u.2.2.2.2.1]) ∧ G u.2.2.1 = some (.tup (u.2.2.2.2.2.2.1.map V.str)) ∧ Row K u.2.2.2.2.2.2.2 u.2.2.2.2.2.1 G) w
        (fun G hG => by
          obtain ⟨p, pb, pf, us, bv, v, fs, r, h1, h2, h3, h4, h5⟩ := hG (Asks K bs) (.head _) x hxm
          exact ⟨(p, pb, pf, us, bv, v, fs, r), h1, h2, h3, h4, h5⟩) (fun u G G' s ⟨h1, h2, h3, h4, h5⟩ => ⟨h1, s _ _ h2, s _ _ h3, s _ _ h4, row_mono s h5⟩)
      obtain ⟨rfl, hp, _⟩ := w.get (.head _)
      refine g_gtup (sqT hp) rfl ?_
      have w := ((w.more (Row K r v) fun G hG => (hG _ (.head _)).2.2.2.2).more (fun G => G pf = some (.tup (fs.map V.str))) fun G hG => (hG _ (.tail _ (.head _))).2.2.2.1).more (fun G => G pb = some (.tup [us, .ref pf, bv])) fun G hG => (hG _ (.tail _ (.tail _ (.head _)))).2.2.1
      walk_at "gg"
      refine ⟨pb, pf, us, bv, v, fs, r, _, _, _, rfl, w, fun H w => ?_⟩
      walk_at "gg"
      refine g_repr (by intro e; cases e) (.bl _) (show_bool _) ?_
      walk_at "gg"
      refine ⟨pb, pf, us, bv, v, fs, r, _, _, _, rfl, w, fun H w => ?_⟩
      walk_at "gg"
      refine g_repr (by intro e; cases e) (.bl _) (show_bool _) ?_
      refine g_neRefl ?_
      walk_at "gg"
      exact ⟨_, _, _, _, _, _, _, _, rfl, w.tail.tail.tail.tail⟩
    · rintro σ H _
      walk_at "gg"
      exact q _
end Ct
namespace Ct
open PySem PySem.Spec PyProof.Rows L2
def topS (i : Nat) : Stmt := PySem.Challenge.pw_chancetongue_k13_rows_of_data.main.body.getD i (.Pass ⟨0, 0, 0, 0⟩)
abbrev s_is_count : Stmt := topS 2
abbrev N_is_count : List Str := ["thing"]
theorem sc_is_count : FnScope N_is_count ["thing"] (defScope s_is_count) := ⟨rfl, rfl, rfl, by decide +kernel, rfl, by decide +kernel, by decide +kernel⟩
abbrev s_law_deal : Stmt := topS 5
abbrev N_law_deal : List Str := ["_law_script", "_law_base", "_law_one", "_law_some", "_law_number_here"]
theorem sc_law_deal : FnScope N_law_deal ["_law_script", "_law_base"] (defScope s_law_deal) := ⟨rfl, rfl, rfl, by decide +kernel, rfl, by decide +kernel, by decide +kernel⟩
abbrev s_law_draw : Stmt := topS 6
abbrev N_law_draw : List Str := ["_law_deal_here", "_law_many", "_law_number_here", "_law_one", "_law_other"]
theorem sc_law_draw : FnScope N_law_draw ["_law_deal_here", "_law_many"] (defScope s_law_draw) := ⟨rfl, rfl, rfl, by decide +kernel, rfl, by decide +kernel, by decide +kernel⟩
abbrev s_law_root : Stmt := topS 13
abbrev N_law_root : List Str := ["_law_ways", "_law_many", "_law_one"]
theorem sc_law_root : FnScope N_law_root ["_law_ways", "_law_many"] (defScope s_law_root) := ⟨rfl, rfl, rfl, by decide +kernel, rfl, by decide +kernel, by decide +kernel⟩
abbrev s_law_due : Stmt := topS 22
abbrev N_law_due : List Str := ["_law_book_here", "_law_row", "_law_good", "_law_one"]
theorem sc_law_due : FnScope N_law_due ["_law_book_here", "_law_row"] (defScope s_law_due) := ⟨rfl, rfl, rfl, by decide +kernel, rfl, by decide +kernel, by decide +kernel⟩
abbrev s_is_row : Stmt := topS 3
abbrev N_is_row : List Str := ["book", "row", "one"]
theorem sc_is_row : FnScope N_is_row ["book", "row"] (defScope s_is_row) := ⟨rfl, rfl, rfl, by decide +kernel, rfl, by decide +kernel, by decide +kernel⟩
abbrev s_law_words : Stmt := topS 7
abbrev N_law_words : List Str := ["_law_deal_here", "_law_many", "_law_letters", "_law_k", "_law_core", "_law_spot", "_law_turn", "_law_found", "_law_own", "_law_form", "_law_chain"]
theorem sc_law_words : FnScope N_law_words ["_law_deal_here", "_law_many"] (defScope s_law_words) := ⟨rfl, rfl, rfl, by decide +kernel, rfl, by decide +kernel, by decide +kernel⟩
abbrev s_law_number : Stmt := topS 8
abbrev N_law_number : List Str := ["_law_deal_here"]
theorem sc_law_number : FnScope N_law_number ["_law_deal_here"] (defScope s_law_number) := ⟨rfl, rfl, rfl, by decide +kernel, rfl, by decide +kernel, by decide +kernel⟩
abbrev s_law_small : Stmt := topS 12
abbrev N_law_small : List Str := ["_law_deal_here", "_law_names", "_law_weight", "_law_form", "_law_a", "_law_b"]
theorem sc_law_small : FnScope N_law_small ["_law_deal_here", "_law_names"] (defScope s_law_small) := ⟨rfl, rfl, rfl, by decide +kernel, rfl, by decide +kernel, by decide +kernel⟩
abbrev s_law_odd : Stmt := topS 20
abbrev N_law_odd : List Str := ["_law_deal_here", "_law_some"]
theorem sc_law_odd : FnScope N_law_odd ["_law_deal_here"] (defScope s_law_odd) := ⟨rfl, rfl, rfl, by decide +kernel, rfl, by decide +kernel, by decide +kernel⟩
abbrev s_law_otherwise : Stmt := topS 21
abbrev N_law_otherwise : List Str := ["_law_deal_here", "_law_row", "_law_at", "_law_way"]
theorem sc_law_otherwise : FnScope N_law_otherwise ["_law_deal_here", "_law_row"] (defScope s_law_otherwise) := ⟨rfl, rfl, rfl, by decide +kernel, rfl, by decide +kernel, by decide +kernel⟩
abbrev s_law_expr : Stmt := topS 9
abbrev N_law_expr : List Str := ["_law_deal_here", "_law_names", "_law_deep", "_law_form", "_law_a", "_law_b"]
theorem sc_law_expr : FnScope N_law_expr ["_law_deal_here", "_law_names", "_law_deep"] (defScope s_law_expr) := ⟨rfl, rfl, rfl, by decide +kernel, rfl, by decide +kernel, by decide +kernel⟩
abbrev s_law_test : Stmt := topS 10
abbrev N_law_test : List Str := ["_law_deal_here", "_law_names", "_law_a", "_law_b"]
theorem sc_law_test : FnScope N_law_test ["_law_deal_here", "_law_names"] (defScope s_law_test) := ⟨rfl, rfl, rfl, by decide +kernel, rfl, by decide +kernel, by decide +kernel⟩
abbrev s_law_alts : Stmt := topS 11
abbrev N_law_alts : List Str := ["_law_deal_here", "_law_names", "_law_many", "_law_found", "_law_k", "_law_worth"]
theorem sc_law_alts : FnScope N_law_alts ["_law_deal_here", "_law_names", "_law_many"] (defScope s_law_alts) := ⟨rfl, rfl, rfl, by decide +kernel, rfl, by decide +kernel, by decide +kernel⟩
abbrev s_law_mild : Stmt := topS 18
abbrev N_law_mild : List Str := ["_law_deal_here", "_law_names", "_law_a", "_law_n", "_law_b"]
theorem sc_law_mild : FnScope N_law_mild ["_law_deal_here", "_law_names"] (defScope s_law_mild) := ⟨rfl, rfl, rfl, by decide +kernel, rfl, by decide +kernel, by decide +kernel⟩
abbrev s_law_block : Stmt := topS 14
abbrev N_law_block : List Str := ["_law_deal_here", "_law_world", "_law_known", "_law_room", "_law_deep", "_law_found", "_law_many", "_law_k"]
theorem sc_law_block : FnScope N_law_block ["_law_deal_here", "_law_world", "_law_known", "_law_room", "_law_deep"] (defScope s_law_block) := ⟨rfl, rfl, rfl, by decide +kernel, rfl, by decide +kernel, by decide +kernel⟩
abbrev s_law_statement : Stmt := topS 15
abbrev N_law_statement : List Str := ["_law_deal_here", "_law_world", "_law_known", "_law_room", "_law_deep", "_law_names", "_law_form", "_law_x", "_law_many", "_law_alts_here", "_law_worth"]
theorem sc_law_statement : FnScope N_law_statement ["_law_deal_here", "_law_world", "_law_known", "_law_room", "_law_deep"] (defScope s_law_statement) := ⟨rfl, rfl, rfl, by decide +kernel, rfl, by decide +kernel, by decide +kernel⟩
abbrev s_law_if : Stmt := topS 16
abbrev N_law_if : List Str := ["_law_deal_here", "_law_world", "_law_known", "_law_room", "_law_deep", "_law_test_here", "_law_ways", "_law_draws", "_law_arms", "_law_knowns", "_law_k", "_law_inner", "_law_own", "_law_x"]
theorem sc_law_if : FnScope N_law_if ["_law_deal_here", "_law_world", "_law_known", "_law_room", "_law_deep"] (defScope s_law_if) := ⟨rfl, rfl, rfl, by decide +kernel, rfl, by decide +kernel, by decide +kernel⟩
abbrev s_law_times : Stmt := topS 17
abbrev N_law_times : List Str := ["_law_deal_here", "_law_world", "_law_known", "_law_room", "_law_deep", "_law_many", "_law_inner", "_law_begin", "_law_left", "_law_block_here", "_law_k"]
theorem sc_law_times : FnScope N_law_times ["_law_deal_here", "_law_world", "_law_known", "_law_room", "_law_deep"] (defScope s_law_times) := ⟨rfl, rfl, rfl, by decide +kernel, rfl, by decide +kernel, by decide +kernel⟩
abbrev s_law_book : Stmt := topS 19
abbrev N_law_book : List Str := ["_law_deal_here", "_law_words_here", "_law_unknowns", "_law_names", "_law_k", "_law_fields", "_law_world", "_law_known", "_law_body"]
theorem sc_law_book : FnScope N_law_book ["_law_deal_here"] (defScope s_law_book) := ⟨rfl, rfl, rfl, by decide +kernel, rfl, by decide +kernel, by decide +kernel⟩
abbrev s_law : Stmt := topS 23
abbrev N_law : List Str := ["_law_script", "_law_deal_here", "_law_asked", "_law_turn", "_law_book_here", "_law_row", "_law_once", "_law_rows", "_law_k", "_law_name", "_law_one"]
theorem sc_law : FnScope N_law ["_law_script"] (defScope s_law) := ⟨rfl, rfl, rfl, by decide +kernel, rfl, by decide +kernel, by decide +kernel⟩
structure Txt (K : PySem.W.Frag) (mg : Str → Option Value) (ad : String → Addr) (fd : String → FuncData) : Prop where
  F_is_count : Fun K "is_count" "is_count" s_is_count (ad "is_count") (fd "is_count")
  g_is_count : mg "is_count" = some (.ref (ad "is_count"))
  b_is_count : Binds K (fd "is_count") ["thing"] []
  F_law_deal : Fun K "_law_deal" "_law_deal" s_law_deal (ad "_law_deal") (fd "_law_deal")
  g_law_deal : mg "_law_deal" = some (.ref (ad "_law_deal"))
  b_law_deal : Binds K (fd "_law_deal") ["_law_script", "_law_base"] []
  F_law_draw : Fun K "_law_draw" "_law_draw" s_law_draw (ad "_law_draw") (fd "_law_draw")
  g_law_draw : mg "_law_draw" = some (.ref (ad "_law_draw"))
  b_law_draw : Binds K (fd "_law_draw") ["_law_deal_here", "_law_many"] []
  F_law_root : Fun K "_law_root" "_law_root" s_law_root (ad "_law_root") (fd "_law_root")
  g_law_root : mg "_law_root" = some (.ref (ad "_law_root"))
  b_law_root : Binds K (fd "_law_root") ["_law_ways", "_law_many"] []
  F_law_due : Fun K "_law_due" "_law_due" s_law_due (ad "_law_due") (fd "_law_due")
  g_law_due : mg "_law_due" = some (.ref (ad "_law_due"))
  b_law_due : Binds K (fd "_law_due") ["_law_book_here", "_law_row"] []
  F_is_row : Fun K "is_row" "is_row" s_is_row (ad "is_row") (fd "is_row")
  g_is_row : mg "is_row" = some (.ref (ad "is_row"))
  b_is_row : Binds K (fd "is_row") ["book", "row"] []
  F_law_words : Fun K "_law_words" "_law_words" s_law_words (ad "_law_words") (fd "_law_words")
  g_law_words : mg "_law_words" = some (.ref (ad "_law_words"))
  b_law_words : Binds K (fd "_law_words") ["_law_deal_here", "_law_many"] []
  F_law_number : Fun K "_law_number" "_law_number" s_law_number (ad "_law_number") (fd "_law_number")
  g_law_number : mg "_law_number" = some (.ref (ad "_law_number"))
  b_law_number : Binds K (fd "_law_number") ["_law_deal_here"] []
  F_law_small : Fun K "_law_small" "_law_small" s_law_small (ad "_law_small") (fd "_law_small")
  g_law_small : mg "_law_small" = some (.ref (ad "_law_small"))
  b_law_small : Binds K (fd "_law_small") ["_law_deal_here", "_law_names"] []
  F_law_odd : Fun K "_law_odd" "_law_odd" s_law_odd (ad "_law_odd") (fd "_law_odd")
  g_law_odd : mg "_law_odd" = some (.ref (ad "_law_odd"))
  b_law_odd : Binds K (fd "_law_odd") ["_law_deal_here"] []
  F_law_otherwise : Fun K "_law_otherwise" "_law_otherwise" s_law_otherwise (ad "_law_otherwise") (fd "_law_otherwise")
  g_law_otherwise : mg "_law_otherwise" = some (.ref (ad "_law_otherwise"))
  b_law_otherwise : Binds K (fd "_law_otherwise") ["_law_deal_here", "_law_row"] []
  F_law_expr : Fun K "_law_expr" "_law_expr" s_law_expr (ad "_law_expr") (fd "_law_expr")
  g_law_expr : mg "_law_expr" = some (.ref (ad "_law_expr"))
  b_law_expr : Binds K (fd "_law_expr") ["_law_deal_here", "_law_names", "_law_deep"] []
  F_law_test : Fun K "_law_test" "_law_test" s_law_test (ad "_law_test") (fd "_law_test")
  g_law_test : mg "_law_test" = some (.ref (ad "_law_test"))
  b_law_test : Binds K (fd "_law_test") ["_law_deal_here", "_law_names"] []
  F_law_alts : Fun K "_law_alts" "_law_alts" s_law_alts (ad "_law_alts") (fd "_law_alts")
  g_law_alts : mg "_law_alts" = some (.ref (ad "_law_alts"))
  b_law_alts : Binds K (fd "_law_alts") ["_law_deal_here", "_law_names", "_law_many"] []
  F_law_mild : Fun K "_law_mild" "_law_mild" s_law_mild (ad "_law_mild") (fd "_law_mild")
  g_law_mild : mg "_law_mild" = some (.ref (ad "_law_mild"))
  b_law_mild : Binds K (fd "_law_mild") ["_law_deal_here", "_law_names"] []
  F_law_block : Fun K "_law_block" "_law_block" s_law_block (ad "_law_block") (fd "_law_block")
  g_law_block : mg "_law_block" = some (.ref (ad "_law_block"))
  b_law_block : Binds K (fd "_law_block") ["_law_deal_here", "_law_world", "_law_known", "_law_room", "_law_deep"] []
  F_law_statement : Fun K "_law_statement" "_law_statement" s_law_statement (ad "_law_statement") (fd "_law_statement")
  g_law_statement : mg "_law_statement" = some (.ref (ad "_law_statement"))
  b_law_statement : Binds K (fd "_law_statement") ["_law_deal_here", "_law_world", "_law_known", "_law_room", "_law_deep"] []
  F_law_if : Fun K "_law_if" "_law_if" s_law_if (ad "_law_if") (fd "_law_if")
  g_law_if : mg "_law_if" = some (.ref (ad "_law_if"))
  b_law_if : Binds K (fd "_law_if") ["_law_deal_here", "_law_world", "_law_known", "_law_room", "_law_deep"] []
  F_law_times : Fun K "_law_times" "_law_times" s_law_times (ad "_law_times") (fd "_law_times")
  g_law_times : mg "_law_times" = some (.ref (ad "_law_times"))
  b_law_times : Binds K (fd "_law_times") ["_law_deal_here", "_law_world", "_law_known", "_law_room", "_law_deep"] []
  F_law_book : Fun K "_law_book" "_law_book" s_law_book (ad "_law_book") (fd "_law_book")
  g_law_book : mg "_law_book" = some (.ref (ad "_law_book"))
  b_law_book : Binds K (fd "_law_book") ["_law_deal_here"] []
  F_law : Fun K "law" "law" s_law (ad "law") (fd "law")
  g_law : mg "law" = some (.ref (ad "law"))
  b_law : Binds K (fd "law") ["_law_script"] []
  g_WIDE_ROW : ∃ u, mg "WIDE_ROW" = some u ∧ RelV (.int 1000) u
  z_isinstance : mg "isinstance" = none
  z_int : mg "int" = none
  z_bool : mg "bool" = none
  z_max : mg "max" = none
  z_list : mg "list" = none
  z_reversed : mg "reversed" = none
  z_len : mg "len" = none
  z_range : mg "range" = none
  z_tuple : mg "tuple" = none
  z_all : mg "all" = none
  z_min : mg "min" = none
  z_repr : mg "repr" = none
theorem kt_of {K : PySem.W.Frag} {a : Addr} {o : Value} {d : Option Addr} {its : Array Value} {n : Nat} {sl : Array (Option Value)} {xs : List V} (l : K.lookup a = some ⟨o, d, .seq its n, sl⟩) (h : o = .type "tuple" ∧ d = none ∧ its.size ≤ sizeLine ∧ Vals xs its.toList) : KT K a xs := fun _ => .inr ⟨_, its, n, l, h.1, rfl, h.2.2.1, h.2.2.2⟩
section
variable {P : Program} {w : World} {K : PySem.W.Frag} {mg : Str → Option Value} {base : Heap} {ad : String → Addr} {fd : String → FuncData}
theorem ok_is_count (T : Txt K mg ad fd) : FnOk P w K mg base CX0 1 (ad "is_count") (fd "is_count") ["thing"] (sp_is_count K ad) := by
  have nd : (N_is_count).Nodup := sc_is_count.nd
  refine T.F_is_count.ok sc_is_count ln_is_count fun cdv B out t H vs Q E hr h => ⟨t_is_count K ad, ?_, rd_is_count  N_is_count rfl vs H Q E h⟩
  exact (pss_one (ps_ret (pe_and (pe_callB call_isi (by rfl) T.z_isinstance (by decide +kernel) (pa_cons (pv 0) (pa_cons (pe_bltn (v := .ty "int") rfl T.z_int (by decide +kernel) rfl) pa_nil))) (pe_and (pe_not (pe_callB call_isi (by rfl) T.z_isinstance (by decide +kernel) (pa_cons (pv 0) (pa_cons (pe_bltn (v := .ty "bool") rfl T.z_bool (by decide +kernel) rfl) pa_nil)))) (pe_one (pe_chain op_leA op_ltA pe_int (pv 0) (C8.pe_gc (by rfl) T.g_WIDE_ROW)))))))
theorem ok_law_deal (T : Txt K mg ad fd) : FnOk P w K mg base CX0 1 (ad "_law_deal") (fd "_law_deal") ["_law_script", "_law_base"] (sp_law_deal K ad) := by
  have nd : (N_law_deal).Nodup := sc_law_deal.nd
  refine T.F_law_deal.ok sc_law_deal ln_law_deal fun cdv B out t H vs Q E hr h => ⟨t_law_deal K ad, ?_, rd_law_deal  N_law_deal rfl vs H Q E h⟩
  exact (pss_cons (ps_setLc (i := 3) (own := [("_law_one", 2)]) (g := (gName 2)) (tt := tYes) rfl nd rfl rfl (sw_true rfl rfl rfl (by decide +kernel)) (pi_seq (pe_slice sl_any (pv 0) (po_some (pv 1)) (po_some pe_int))) (blkOk_by (N := N_law_deal) (sc := defScope s_law_deal) (by decide +kernel)) (fun _ _ _ _ _ => (pg_name (i := 2) nd rfl (Or.inl rfl))) (fun _ _ _ _ _ => pts_nil) (fun _ _ _ _ _ => (pe_callB (call_max2' rfl) (by rfl) T.z_max (by decide +kernel) (pa_cons (pv 2) (pa_cons (pe_op op_sub pe_int (pv 2)) pa_nil)))))
      (pss_cons (ps_set (i := 4) nd rfl (Or.inl rfl) (pe_op op_addA pe_int (pv 1)))
      (pss_cons (ps_for PassesOwn.never rfl (pi_seq (pv 3)) (pg_name (i := 2) nd rfl (Or.inl rfl)) (pss_one (ps_set (i := 4) nd rfl (Or.inl rfl) (pe_op op_modA (pe_op op_addA (pe_op op_mulA (pv 4) pe_int) (pe_op op_modA (pv 2) pe_int)) pe_int))))
      (pss_one (ps_ret (pe_disp (pps_cons pe_str (pv 4) (pps_cons pe_str pe_int (pps_cons pe_str (pe_listRev rfl (by rfl) T.z_list (by rfl) T.z_reversed (pe_lc (own := [("_law_one", 2)]) (g := (gName 2)) (tt := (tTest (tOp rGe (tVar 2) (tOp (rI CPow fun i j => .int (i ^ j.toNat)) (tC (.int 10)) (tC (.int 18)))))) rfl nd (pi_seq (pv 3)) (blkOk_by (N := N_law_deal) (sc := defScope s_law_deal) (by decide +kernel)) (fun _ _ _ _ _ => (pg_name (i := 2) nd rfl (Or.inl rfl))) (fun _ _ _ _ _ => (pts_one (pt_cmpR op_geA (pv 2) (pe_op op_pow pe_int pe_int) (nomark _)))) (fun _ _ _ _ _ => (pv 2)))) pps_nil))) rfl rfl (by simp) (by decide)))))))
theorem ok_law_draw (T : Txt K mg ad fd) : FnOk P w K mg base CX0 1 (ad "_law_draw") (fd "_law_draw") ["_law_deal_here", "_law_many"] (sp_law_draw K ad) := by
  have nd : (N_law_draw).Nodup := sc_law_draw.nd
  refine T.F_law_draw.ok sc_law_draw ln_law_draw fun cdv B out t H vs Q E hr h => ⟨t_law_draw K ad, ?_, rd_law_draw  N_law_draw rfl vs H Q E h⟩
  exact (pss_cons (ps_while PassesOwn.never (PW.pt (pw_and (pt_cmpR (op_eqA (hu64 hr)) (pe_ix (ix_any (hu1 hr)) (pv 0) pe_str (fun _ _ => rfl)) pe_int (nomark _)) (pw_and1 (pt_cmpR op_gtA (pe_callB call_lenA (by rfl) T.z_len PySem.boot_len (pa_cons (pe_ix (ix_any (hu1 hr)) (pv 0) pe_str (fun _ _ => rfl)) pa_nil)) pe_int (nomark _))))) (pss_one (ps_asg (pe_bm0 PySem.F.plainAttrs_list PySem.F.slot_list_pop PySem.F.type_list_pop mt_pop (pe_ix (ix_any (hu1 hr)) (pv 0) pe_str (fun _ _ => rfl))) (pg_sub (pv 0) pe_str (set_any (hu1 hr))))))
      (pss_cons (ps_set (i := 2) nd rfl (Or.inl rfl) (pe_ix (ix_any (hu1 hr)) (pv 0) pe_str (fun _ _ => rfl)))
      (pss_cons (ps_if (pt_cmpR op_gtA (pv 2) pe_int (nomark _)) (pss_cons (ps_asg (pe_op op_fdivA (pv 2) (pv 1)) (pg_sub (pv 0) pe_str (set_any (hu1 hr))))
      (pss_one (ps_ret (pe_op op_modA (pv 2) (pv 1))))) pss_nil)
      (pss_cons (ps_set (i := 3) nd rfl (Or.inl rfl) (pe_op op_modA (pe_op op_addA (pe_op op_mulA (pe_ix (ix_any (hu1 hr)) (pv 0) pe_str (fun _ _ => rfl)) pe_int) pe_int) pe_int))
      (pss_cons (ps_asg (pe_op op_modA (pe_op op_addA (pe_op op_mulA (pv 3) pe_int) pe_int) pe_int) (pg_sub (pv 0) pe_str (set_any (hu1 hr))))
      (pss_cons (ps_set (i := 4) nd rfl (Or.inl rfl) (pe_op op_modA (pe_op op_mulA (pe_ix (ix_any (hu1 hr)) (pv 0) pe_str (fun _ _ => rfl)) (pe_ix (ix_any (hu1 hr)) (pv 0) pe_str (fun _ _ => rfl))) pe_int))
      (pss_one (ps_ret (pe_op op_modA (pe_op op_addA (pe_op op_mulA (pe_op op_modA (pe_op op_mulA (pv 3) (pv 3)) pe_int) pe_int) (pv 4)) (pv 1))))))))))
theorem ok_law_root (T : Txt K mg ad fd) : FnOk P w K mg base CX0 1 (ad "_law_root") (fd "_law_root") ["_law_ways", "_law_many"] (sp_law_root K ad) := by
  have nd : (N_law_root).Nodup := sc_law_root.nd
  refine T.F_law_root.ok sc_law_root ln_law_root fun cdv B out t H vs Q E hr h => ⟨t_law_root K ad, ?_, rd_law_root  N_law_root rfl vs H Q E h⟩
  exact (pss_one (ps_ret (pe_ix (ix_any (hu1 hr)) (pe_lc (own := [("_law_one", 2)]) (g := (gName 2)) (tt := (tTest (tOp rLe (tOp (rMulA K) (tOp (rI CPow fun i j => .int (i ^ j.toNat)) (tVar 2) (tC (.int 2))) (tOp (rIxA K) (tLst (tCons (tC (.int 1)) (tCons (tVar 2) tNil))) (tOp (rI0 fun i j => .int (i - j)) (tVar 1) (tC (.int 2))))) (tVar 0)))) rfl nd (pi_range2 (by rfl) T.z_range (pa_cons pe_int (pa_cons (pe_op op_addA (pv 0) pe_int) pa_nil))) (blkOk_by (N := N_law_root) (sc := defScope s_law_root) (by decide +kernel)) (fun _ _ _ _ _ => (pg_name (i := 2) nd rfl (Or.inl rfl))) (fun _ _ _ _ _ => (pts_one (pt_cmpR op_leA (pe_op op_mulA (pe_op op_pow (pv 2) pe_int) (pe_ix (ix_any (hu1 hr)) (pe_lst (pa_cons pe_int (pa_cons (pv 2) pa_nil))) (pe_op op_sub (pv 1) pe_int) (fun _ _ => rfl))) (pv 0) (nomark _)))) (fun _ _ _ _ _ => (pv 2))) (pe_un un_neg pe_int) (fun _ _ => rfl))))
theorem ok_law_due (T : Txt K mg ad fd) : FnOk P w K mg base CX0 1 (ad "_law_due") (fd "_law_due") ["_law_book_here", "_law_row"] (sp_law_due K ad) := by
  have nd : (N_law_due).Nodup := sc_law_due.nd
  refine T.F_law_due.ok sc_law_due ln_law_due fun cdv B out t H vs Q E hr h => ⟨t_law_due K ad, ?_, rd_law_due  N_law_due rfl vs H Q E h⟩
  exact (pss_cons (ps_if (PW.pt (pw_or (pt_not (pt_val (pe_callB call_isi (by rfl) T.z_isinstance (by decide +kernel) (pa_cons (pv 1) (pa_cons (pe_bltn (v := .ty "tuple") rfl T.z_tuple (by decide +kernel) rfl) pa_nil))))) (pw_or1 (pt_cmpR (op_neA (hu64 hr)) (pe_callB call_lenA (by rfl) T.z_len PySem.boot_len (pa_cons (pv 1) pa_nil)) (pe_callB call_lenA (by rfl) T.z_len PySem.boot_len (pa_cons (pe_ix (ix_any (hu1 hr)) (pv 0) pe_int (fun _ _ => rfl)) pa_nil)) (nomark _))))) (pss_one (ps_ret pe_bl)) pss_nil)
      (pss_cons (ps_setLc (i := 2) (own := [("_law_one", 3)]) (g := (gName 3)) (tt := (tAnd (tB (tCB (rIsi K) (tCons (tVar 3) (tCons (tC (.ty "int")) tNil)))) (tAnd (tNot (tB (tCB (rIsi K) (tCons (tVar 3) (tCons (tC (.ty "bool")) tNil))))) (tTest (tChain rLtA rLtA (tUn (rU fun i => .int (-i)) (tC (.int 1))) (tVar 3) (tC (.int 1000))))))) rfl nd rfl rfl (sw_true rfl rfl rfl (by decide +kernel)) (pi_seq (pv 1)) (blkOk_by (N := N_law_due) (sc := defScope s_law_due) (by decide +kernel)) (fun _ _ _ _ _ => (pg_name (i := 3) nd rfl (Or.inl rfl))) (fun _ _ _ _ _ => (pts_one (PW.pt (pw_and (pt_val (pe_callB call_isi (by rfl) T.z_isinstance (by decide +kernel) (pa_cons (pv 3) (pa_cons (pe_bltn (v := .ty "int") rfl T.z_int (by decide +kernel) rfl) pa_nil)))) (pw_and (pt_not (pt_val (pe_callB call_isi (by rfl) T.z_isinstance (by decide +kernel) (pa_cons (pv 3) (pa_cons (pe_bltn (v := .ty "bool") rfl T.z_bool (by decide +kernel) rfl) pa_nil))))) (pw_and1 (pt_chain op_ltA op_ltA (pe_un un_neg pe_int) (pv 3) pe_int))))))) (fun _ _ _ _ _ => (pv 3)))
      (pss_one (ps_ret (pe_cmpR (op_eqA (hu64 hr)) (pe_callB call_lenA (by rfl) T.z_len PySem.boot_len (pa_cons (pv 2) pa_nil)) (pe_callB call_lenA (by rfl) T.z_len PySem.boot_len (pa_cons (pv 1) pa_nil)) (nomark _))))))
theorem ok_is_row (T : Txt K mg ad fd) : FnOk P w K mg base CX0 2 (ad "is_row") (fd "is_row") ["book", "row"] (sp_is_row K ad) := by
  have nd : (N_is_row).Nodup := sc_is_row.nd
  have G_is_count := ok_is_count (P := P) (w := w) (base := base) T
  refine T.F_is_row.ok sc_is_row ln_is_row fun cdv B out t H vs Q E hr h => ⟨t_is_row K ad, ?_, rd_is_row  N_is_row rfl vs H Q E h⟩
  exact (pss_one (ps_ret (pe_and (pe_callB call_isi (by rfl) T.z_isinstance (by decide +kernel) (pa_cons (pv 1) (pa_cons (pe_bltn (v := .ty "tuple") rfl T.z_tuple (by decide +kernel) rfl) pa_nil))) (pe_and (pe_cmpR (op_eqA (hu64 hr)) (pe_callB call_lenA (by rfl) T.z_len PySem.boot_len (pa_cons (pv 1) pa_nil)) (pe_callB call_lenA (by rfl) T.z_len PySem.boot_len (pa_cons (pe_ix (ix_any (hu1 hr)) (pv 0) pe_int (fun _ _ => rfl)) pa_nil)) (nomark _)) (pe_one (pe_callB (cr_all rfl) (by rfl) T.z_all (by decide +kernel) (pa_cons (pe_lc (own := [("one", 2)]) (g := (gName 2)) (tt := tYes) rfl nd (pi_seq (pv 1)) (blkOk_by (N := N_is_row) (sc := defScope s_is_row) (by decide +kernel)) (fun _ _ _ _ _ => (pg_name (i := 2) nd rfl (Or.inl rfl))) (fun _ _ _ _ _ => pts_nil) (fun _ _ _ _ _ => (pe_call G_is_count (hr.mono (by decide)) (by rfl) T.g_is_count T.F_is_count.kp T.b_is_count .nil pass0 (pa_cons (pv 2) pa_nil)))) pa_nil)))))))
theorem ok_law_words (T : Txt K mg ad fd) : FnOk P w K mg base CX0 2 (ad "_law_words") (fd "_law_words") ["_law_deal_here", "_law_many"] (sp_law_words K ad) := by
  have nd : (N_law_words).Nodup := sc_law_words.nd
  have G_law_draw := ok_law_draw (P := P) (w := w) (base := base) T
  refine T.F_law_words.ok sc_law_words ln_law_words fun cdv B out t H vs Q E hr h => ⟨t_law_words K ad, ?_, rd_law_words  N_law_words rfl vs H Q E h⟩
  exact (pss_cons (ps_set (i := 2) nd rfl (Or.inr rfl) pe_str)
      (pss_cons (ps_set (i := 4) nd rfl (Or.inl rfl) (pe_join pe_str (pe_lc (own := [("_law_k", 3)]) (g := (gName 3)) (tt := tYes) rfl nd (pi_range1 (by rfl) T.z_range (pa_cons (pe_call G_law_draw (hr.mono (by decide)) (by rfl) T.g_law_draw T.F_law_draw.kp T.b_law_draw .nil pass0 (pa_cons (pv 0) (pa_cons pe_int pa_nil))) pa_nil)) (blkOk_by (N := N_law_words) (sc := defScope s_law_words) (by decide +kernel)) (fun _ _ _ _ _ => (pg_name (i := 3) nd rfl (Or.inl rfl))) (fun _ _ _ _ _ => pts_nil) (fun _ _ _ _ _ => (pe_ix (ix_any (hu1 hr)) (pv 2) (pe_call G_law_draw (hr.mono (by decide)) (by rfl) T.g_law_draw T.F_law_draw.kp T.b_law_draw .nil pass0 (pa_cons (pv 0) (pa_cons pe_int pa_nil))) (fun _ _ => rfl))))))
      (pss_cons (ps_par (i := 5) (j := 6) rfl nd rfl rfl (by decide) rfl rfl (pa_cons (pe_call G_law_draw (hr.mono (by decide)) (by rfl) T.g_law_draw T.F_law_draw.kp T.b_law_draw .nil pass0 (pa_cons (pv 0) (pa_cons (pe_op op_addA (pe_callB call_lenA (by rfl) T.z_len PySem.boot_len (pa_cons (pv 4) pa_nil)) pe_int) pa_nil))) (pa_cons (pe_call G_law_draw (hr.mono (by decide)) (by rfl) T.g_law_draw T.F_law_draw.kp T.b_law_draw .nil pass0 (pa_cons (pv 0) (pa_cons pe_int pa_nil))) pa_nil)) rfl)
      (pss_cons (ps_set (i := 7) nd rfl (Or.inl rfl) (pe_lst pa_nil))
      (pss_cons (ps_for PassesOwn.never rfl (pi_range1 (by rfl) T.z_range (pa_cons (pv 1) pa_nil)) (pg_name (i := 3) nd rfl (Or.inl rfl)) (pss_cons (ps_set (i := 8) nd rfl (Or.inl rfl) (pe_op op_addA (pe_ix (ix_any (hu1 hr)) (pv 2) (pe_op op_modA (pe_op op_addA (pv 6) (pv 3)) pe_int) (fun _ _ => rfl)) (pe_ix (ix_any (hu1 hr)) pe_str (pe_op op_fdivA (pv 3) pe_int) (fun _ _ => rfl))))
      (pss_one (ps_expr (pe_bm PySem.F.plainAttrs_list PySem.F.slot_list_append PySem.F.type_list_append mt_append (pv 7) (pa_cons (pe_op op_addA (pe_op op_addA (pe_op op_addA (pe_slice sl_any (pv 4) po_none (po_some (pv 5))) (pv 8)) (pe_slice sl_any (pv 4) (po_some (pv 5)) po_none)) (pe_op op_mulA pe_str (pe_op op_modA (pv 3) pe_int))) pa_nil))))))
      (pss_cons (ps_set (i := 9) nd rfl (Or.inl rfl) (pe_call G_law_draw (hr.mono (by decide)) (by rfl) T.g_law_draw T.F_law_draw.kp T.b_law_draw .nil pass0 (pa_cons (pv 0) (pa_cons pe_int pa_nil))))
      (C8.pss_cut (ps_if (pt_cmpR (op_eqA (hu64 hr)) (pv 9) pe_int (nomark _)) (pss_one (ps_asg (pe_split pe_str pe_str) (pg_cut (pv 7) po_none (po_some pe_int)))) pss_nil)
      (C8.pss_cut (ps_if (pt_cmpR (op_eqA (hu64 hr)) (pv 9) pe_int (nomark _)) (pss_cons (ps_set (i := 10) nd rfl (Or.inr rfl) (pe_op op_addA pe_str (pe_join pe_str (pe_lc (own := [("_law_k", 3)]) (g := (gName 3)) (tt := tYes) rfl nd (pi_range1 (by rfl) T.z_range (pa_cons pe_int pa_nil)) (blkOk_by (N := N_law_words) (sc := defScope s_law_words) (by decide +kernel)) (fun _ _ _ _ _ => (pg_name (i := 3) nd rfl (Or.inl rfl))) (fun _ _ _ _ _ => pts_nil) (fun _ _ _ _ _ => (pe_ix (ix_any (hu1 hr)) (pv 2) (pe_call G_law_draw (hr.mono (by decide)) (by rfl) T.g_law_draw T.F_law_draw.kp T.b_law_draw .nil pass0 (pa_cons (pv 0) (pa_cons pe_int pa_nil))) (fun _ _ => rfl)))))))
      (pss_one (ps_asg (pe_lc (own := [("_law_k", 3)]) (g := (gName 3)) (tt := tYes) rfl nd (pi_range1 (by rfl) T.z_range (pa_cons pe_int pa_nil)) (blkOk_by (N := N_law_words) (sc := defScope s_law_words) (by decide +kernel)) (fun _ _ _ _ _ => (pg_name (i := 3) nd rfl (Or.inl rfl))) (fun _ _ _ _ _ => pts_nil) (fun _ _ _ _ _ => (pe_slice sl_any (pv 10) po_none (po_some (pe_op op_addA (pv 3) pe_int))))) (pg_cut (pv 7) (po_some pe_int) (po_some pe_int))))) pss_nil)
      (pss_one (ps_ret (pv 7)))))))))))
theorem ok_law_number (T : Txt K mg ad fd) : FnOk P w K mg base CX0 2 (ad "_law_number") (fd "_law_number") ["_law_deal_here"] (sp_law_number K ad) := by
  have nd : (N_law_number).Nodup := sc_law_number.nd
  have G_law_draw := ok_law_draw (P := P) (w := w) (base := base) T
  refine T.F_law_number.ok sc_law_number ln_law_number fun cdv B out t H vs Q E hr h => ⟨t_law_number K ad, ?_, rd_law_number  N_law_number rfl vs H Q E h⟩
  exact (pss_one (ps_ret (pe_ix (ix_any (hu1 hr)) (pe_lst (pa_cons (pe_call G_law_draw (hr.mono (by decide)) (by rfl) T.g_law_draw T.F_law_draw.kp T.b_law_draw .nil pass0 (pa_cons (pv 0) (pa_cons pe_int pa_nil))) (pa_cons (pe_call G_law_draw (hr.mono (by decide)) (by rfl) T.g_law_draw T.F_law_draw.kp T.b_law_draw .nil pass0 (pa_cons (pv 0) (pa_cons pe_int pa_nil))) (pa_cons (pe_op op_sub pe_int (pe_call G_law_draw (hr.mono (by decide)) (by rfl) T.g_law_draw T.F_law_draw.kp T.b_law_draw .nil pass0 (pa_cons (pv 0) (pa_cons pe_int pa_nil)))) pa_nil)))) (pe_callB (call_min2' rfl) (by rfl) T.z_min (by decide +kernel) (pa_cons pe_int (pa_cons (pe_op op_fdivA (pe_call G_law_draw (hr.mono (by decide)) (by rfl) T.g_law_draw T.F_law_draw.kp T.b_law_draw .nil pass0 (pa_cons (pv 0) (pa_cons pe_int pa_nil))) pe_int) pa_nil))) (fun _ _ => rfl))))
theorem ok_law_small (T : Txt K mg ad fd) : FnOk P w K mg base CX0 2 (ad "_law_small") (fd "_law_small") ["_law_deal_here", "_law_names"] (sp_law_small K ad) := by
  have nd : (N_law_small).Nodup := sc_law_small.nd
  have G_law_draw := ok_law_draw (P := P) (w := w) (base := base) T
  refine T.F_law_small.ok sc_law_small ln_law_small fun cdv B out t H vs Q E hr h => ⟨t_law_small K ad, ?_, rd_law_small  N_law_small rfl vs H Q E h⟩
  exact (pss_cons (ps_par (i := 2) (j := 3) rfl nd rfl rfl (by decide) rfl rfl (pa_cons (pe_tup (pa_cons pe_str (pa_cons (pe_call G_law_draw (hr.mono (by decide)) (by rfl) T.g_law_draw T.F_law_draw.kp T.b_law_draw .nil pass0 (pa_cons (pv 0) (pa_cons pe_int pa_nil))) pa_nil))) (pa_cons (pe_call G_law_draw (hr.mono (by decide)) (by rfl) T.g_law_draw T.F_law_draw.kp T.b_law_draw .nil pass0 (pa_cons (pv 0) (pa_cons pe_int pa_nil))) pa_nil)) rfl)
      (pss_cons (ps_if (PW.pt (pw_or (pt_cmpR op_gtA (pv 3) pe_int (nomark _)) (pw_or1 (pt_cmpR (op_eqA (hu64 hr)) (pe_callB call_lenA (by rfl) T.z_len PySem.boot_len (pa_cons (pv 1) pa_nil)) pe_int (nomark _))))) (pss_one (ps_ret (pv 2))) pss_nil)
      (pss_cons (ps_par (i := 4) (j := 5) rfl nd rfl rfl (by decide) rfl rfl (pa_cons (pe_tup (pa_cons pe_str (pa_cons (pe_ix (ix_any (hu1 hr)) (pv 1) (pe_call G_law_draw (hr.mono (by decide)) (by rfl) T.g_law_draw T.F_law_draw.kp T.b_law_draw .nil pass0 (pa_cons (pv 0) (pa_cons (pe_callB call_lenA (by rfl) T.z_len PySem.boot_len (pa_cons (pv 1) pa_nil)) pa_nil))) (fun _ _ => rfl)) pa_nil))) (pa_cons (pe_tup (pa_cons pe_str (pa_cons (pe_call G_law_draw (hr.mono (by decide)) (by rfl) T.g_law_draw T.F_law_draw.kp T.b_law_draw .nil pass0 (pa_cons (pv 0) (pa_cons pe_int pa_nil))) pa_nil))) pa_nil)) rfl)
      (pss_one (ps_ret (pe_tup (pa_cons pe_str (pa_cons pe_str (pa_cons (pe_tup (pa_cons pe_str (pa_cons (pe_ix (ix_any (hu1 hr)) pe_str (pe_call G_law_draw (hr.mono (by decide)) (by rfl) T.g_law_draw T.F_law_draw.kp T.b_law_draw .nil pass0 (pa_cons (pv 0) (pa_cons pe_int pa_nil))) (fun _ _ => rfl)) (pa_cons (pv 4) (pa_cons (pv 5) pa_nil))))) (pa_cons (pv 2) pa_nil))))))))))
theorem ok_law_odd (T : Txt K mg ad fd) : FnOk P w K mg base CX0 2 (ad "_law_odd") (fd "_law_odd") ["_law_deal_here"] (sp_law_odd K ad) := by
  have nd : (N_law_odd).Nodup := sc_law_odd.nd
  have G_law_draw := ok_law_draw (P := P) (w := w) (base := base) T
  refine T.F_law_odd.ok sc_law_odd ln_law_odd fun cdv B out t H vs Q E hr h => ⟨t_law_odd K ad, ?_, rd_law_odd  N_law_odd rfl vs H Q E h⟩
  exact (pss_cons (ps_set (i := 1) nd rfl (Or.inl rfl) (pe_lst (pa_cons (pe_op op_sub (pe_op op_sub pe_int pe_int) (pe_call G_law_draw (hr.mono (by decide)) (by rfl) T.g_law_draw T.F_law_draw.kp T.b_law_draw .nil pass0 (pa_cons (pv 0) (pa_cons pe_int pa_nil)))) (pa_cons (pe_op op_addA pe_int (pe_call G_law_draw (hr.mono (by decide)) (by rfl) T.g_law_draw T.F_law_draw.kp T.b_law_draw .nil pass0 (pa_cons (pv 0) (pa_cons pe_int pa_nil)))) (pa_cons pe_bl (pa_cons pe_bl (pa_cons pe_non (pa_cons pe_str (pa_cons pe_str (pa_cons (pe_tup pa_nil) (pa_cons (pe_tup (pa_cons pe_int pa_nil)) (pa_cons (pe_op op_pow pe_int pe_int) pa_nil))))))))))))
      (pss_one (ps_ret (pe_ix (ix_any (hu1 hr)) (pv 1) (pe_call G_law_draw (hr.mono (by decide)) (by rfl) T.g_law_draw T.F_law_draw.kp T.b_law_draw .nil pass0 (pa_cons (pv 0) (pa_cons pe_int pa_nil))) (fun _ _ => rfl)))))
theorem ok_law_otherwise (T : Txt K mg ad fd) : FnOk P w K mg base CX0 3 (ad "_law_otherwise") (fd "_law_otherwise") ["_law_deal_here", "_law_row"] (sp_law_otherwise K ad) := by
  have nd : (N_law_otherwise).Nodup := sc_law_otherwise.nd
  have G_law_draw := ok_law_draw (P := P) (w := w) (base := base) T
  have G_law_odd := ok_law_odd (P := P) (w := w) (base := base) T
  refine T.F_law_otherwise.ok sc_law_otherwise ln_law_otherwise fun cdv B out t H vs Q E hr h => ⟨t_law_otherwise K ad, ?_, rd_law_otherwise  N_law_otherwise rfl vs H Q E h⟩
  exact (pss_cons (ps_par (i := 2) (j := 3) rfl nd rfl rfl (by decide) rfl rfl (pa_cons (pe_call G_law_draw (hr.mono (by decide)) (by rfl) T.g_law_draw T.F_law_draw.kp T.b_law_draw .nil pass0 (pa_cons (pv 0) (pa_cons (pe_op op_addA (pe_callB call_lenA (by rfl) T.z_len PySem.boot_len (pa_cons (pv 1) pa_nil)) pe_int) pa_nil))) (pa_cons (pe_call G_law_draw (hr.mono (by decide)) (by rfl) T.g_law_draw T.F_law_draw.kp T.b_law_draw .nil pass0 (pa_cons (pv 0) (pa_cons pe_int pa_nil))) pa_nil)) rfl)
      (pss_cons (ps_if (pt_cmpR (op_eqA (hu64 hr)) (pv 3) pe_int (nomark _)) (pss_one (ps_ret (pe_op op_addA (pe_slice sl_any (pv 1) po_none (po_some (pv 2))) (pe_slice sl_any (pv 1) (po_some (pe_op op_addA (pv 2) pe_int)) po_none)))) pss_nil)
      (pss_cons (ps_if (pt_cmpR (op_eqA (hu64 hr)) (pv 3) pe_int (nomark _)) (pss_one (ps_ret (pe_op op_addA (pe_op op_addA (pe_slice sl_any (pv 1) po_none (po_some (pv 2))) (pe_tup (pa_cons (pe_call G_law_draw (hr.mono (by decide)) (by rfl) T.g_law_draw T.F_law_draw.kp T.b_law_draw .nil pass0 (pa_cons (pv 0) (pa_cons pe_int pa_nil))) pa_nil))) (pe_slice sl_any (pv 1) (po_some (pv 2)) po_none)))) pss_nil)
      (pss_one (ps_ret (pe_op op_addA (pe_op op_addA (pe_slice sl_any (pv 1) po_none (po_some (pv 2))) (pe_tup (pa_cons (pe_call G_law_odd (hr.mono (by decide)) (by rfl) T.g_law_odd T.F_law_odd.kp T.b_law_odd .nil pass0 (pa_cons (pv 0) pa_nil)) pa_nil))) (pe_slice sl_any (pv 1) (po_some (pe_op op_addA (pv 2) (pe_callTy call_intA (by rfl) T.z_int (by decide +kernel) (pa_cons (pe_cmpR op_gtA (pv 3) pe_int (nomark _)) pa_nil)))) po_none)))))))
theorem ok_law_expr (T : Txt K mg ad fd) : ∀ n : Nat, FnOk P w K mg base CX0 (n + 3) (ad "_law_expr") (fd "_law_expr") ["_law_deal_here", "_law_names", "_law_deep"] (sp_law_expr K ad (n))
  | 0 => fn_none fun _ _ _ _ h => z_law_expr h
  | n + 1 => by
    have G_law_expr := ok_law_expr T n
    have G_law_draw := ok_law_draw (P := P) (w := w) (base := base) T
    have G_law_number := ok_law_number (P := P) (w := w) (base := base) T
    have nd : (N_law_expr).Nodup := sc_law_expr.nd
    refine T.F_law_expr.ok sc_law_expr ln_law_expr fun cdv B out t H vs Q E hr h => ⟨t_law_expr K ad n, ?_, rd_law_expr  n N_law_expr rfl vs H Q E h⟩
    exact (pss_cons (ps_set (i := 3) nd rfl (Or.inl rfl) (pe_call G_law_draw (hr.mono (by omega)) (by rfl) T.g_law_draw T.F_law_draw.kp T.b_law_draw .nil pass0 (pa_cons (pv 0) (pa_cons pe_int pa_nil))))
      (pss_cons (ps_if (PW.pt (pw_or (pt_cmpR (op_eqA (hu64 hr)) (pv 2) pe_int (nomark _)) (pw_or1 (pt_cmpR op_ltA (pv 3) pe_int (nomark _))))) (pss_cons (ps_if (PW.pt (pw_and (pt_cmpR op_gtA (pe_callB call_lenA (by rfl) T.z_len PySem.boot_len (pa_cons (pv 1) pa_nil)) pe_int (nomark _)) (pw_and1 (pt_cmpR op_gtA (pe_call G_law_draw (hr.mono (by omega)) (by rfl) T.g_law_draw T.F_law_draw.kp T.b_law_draw .nil pass0 (pa_cons (pv 0) (pa_cons pe_int pa_nil))) pe_int (nomark _))))) (pss_one (ps_ret (pe_tup (pa_cons pe_str (pa_cons (pe_ix (ix_any (hu1 hr)) (pv 1) (pe_call G_law_draw (hr.mono (by omega)) (by rfl) T.g_law_draw T.F_law_draw.kp T.b_law_draw .nil pass0 (pa_cons (pv 0) (pa_cons (pe_callB call_lenA (by rfl) T.z_len PySem.boot_len (pa_cons (pv 1) pa_nil)) pa_nil))) (fun _ _ => rfl)) pa_nil))))) pss_nil)
      (pss_one (ps_ret (pe_tup (pa_cons pe_str (pa_cons (pe_call G_law_number (hr.mono (by omega)) (by rfl) T.g_law_number T.F_law_number.kp T.b_law_number .nil pass0 (pa_cons (pv 0) pa_nil)) pa_nil)))))) pss_nil)
      (pss_cons (ps_par (i := 4) (j := 5) rfl nd rfl rfl (by decide) rfl rfl (pa_cons (pe_call G_law_expr (hr.mono (by omega)) (by rfl) T.g_law_expr T.F_law_expr.kp T.b_law_expr .nil pass0 (pa_cons (pv 0) (pa_cons (pv 1) (pa_cons (pe_op op_sub (pv 2) pe_int) pa_nil)))) (pa_cons (pe_call G_law_expr (hr.mono (by omega)) (by rfl) T.g_law_expr T.F_law_expr.kp T.b_law_expr .nil pass0 (pa_cons (pv 0) (pa_cons (pv 1) (pa_cons (pe_op op_sub (pv 2) pe_int) pa_nil)))) pa_nil)) rfl)
      (pss_cons (ps_if (pt_cmpR (op_eqA (hu64 hr)) (pv 3) pe_int (nomark _)) (pss_one (ps_ret (pe_tup (pa_cons pe_str (pa_cons (pv 4) pa_nil))))) pss_nil)
      (pss_cons (ps_if (pt_cmpR (op_eqA (hu64 hr)) (pv 3) pe_int (nomark _)) (pss_one (ps_ret (pe_tup (pa_cons pe_str (pa_cons (pv 4) (pa_cons (pv 5) (pa_cons (pe_call G_law_expr (hr.mono (by omega)) (by rfl) T.g_law_expr T.F_law_expr.kp T.b_law_expr .nil pass0 (pa_cons (pv 0) (pa_cons (pv 1) (pa_cons (pe_op op_sub (pv 2) pe_int) pa_nil)))) pa_nil))))))) pss_nil)
      (pss_one (ps_ret (pe_tup (pa_cons pe_str (pa_cons (pe_ix (ix_any (hu1 hr)) pe_str (pe_call G_law_draw (hr.mono (by omega)) (by rfl) T.g_law_draw T.F_law_draw.kp T.b_law_draw .nil pass0 (pa_cons (pv 0) (pa_cons pe_int pa_nil))) (fun _ _ => rfl)) (pa_cons (pv 4) (pa_cons (pv 5) pa_nil))))))))))))
theorem ok_law_test (T : Txt K mg ad fd) : FnOk P w K mg base CX0 20 (ad "_law_test") (fd "_law_test") ["_law_deal_here", "_law_names"] (sp_law_test K ad) := by
  have nd : (N_law_test).Nodup := sc_law_test.nd
  have G_law_draw := ok_law_draw (P := P) (w := w) (base := base) T
  have G_law_expr := ok_law_expr (P := P) (w := w) (base := base) T 16
  refine T.F_law_test.ok sc_law_test ln_law_test fun cdv B out t H vs Q E hr h => ⟨t_law_test K ad, ?_, rd_law_test  N_law_test rfl vs H Q E h⟩
  exact (pss_cons (ps_if (PW.pt (pw_or (pt_cmpR (op_eqA (hu64 hr)) (pe_callB call_lenA (by rfl) T.z_len PySem.boot_len (pa_cons (pv 1) pa_nil)) pe_int (nomark _)) (pw_or1 (pt_cmpR (op_eqA (hu64 hr)) (pe_call G_law_draw (hr.mono (by decide)) (by rfl) T.g_law_draw T.F_law_draw.kp T.b_law_draw .nil pass0 (pa_cons (pv 0) (pa_cons pe_int pa_nil))) pe_int (nomark _))))) (pss_one (ps_ret (pe_call G_law_expr (hr.mono (by decide)) (by rfl) T.g_law_expr T.F_law_expr.kp T.b_law_expr .nil pass0 (pa_cons (pv 0) (pa_cons (pv 1) (pa_cons pe_int pa_nil)))))) pss_nil)
      (pss_cons (ps_set (i := 2) nd rfl (Or.inl rfl) (pe_tup (pa_cons pe_str (pa_cons (pe_ix (ix_any (hu1 hr)) (pv 1) (pe_call G_law_draw (hr.mono (by decide)) (by rfl) T.g_law_draw T.F_law_draw.kp T.b_law_draw .nil pass0 (pa_cons (pv 0) (pa_cons (pe_callB call_lenA (by rfl) T.z_len PySem.boot_len (pa_cons (pv 1) pa_nil)) pa_nil))) (fun _ _ => rfl)) pa_nil))))
      (pss_cons (ps_set (i := 3) nd rfl (Or.inl rfl) (pe_ix (ix_any (hu1 hr)) (pe_lst (pa_cons (pe_tup (pa_cons pe_str (pa_cons (pe_call G_law_draw (hr.mono (by decide)) (by rfl) T.g_law_draw T.F_law_draw.kp T.b_law_draw .nil pass0 (pa_cons (pv 0) (pa_cons pe_int pa_nil))) pa_nil))) (pa_cons (pe_tup (pa_cons pe_str (pa_cons (pe_ix (ix_any (hu1 hr)) (pv 1) (pe_call G_law_draw (hr.mono (by decide)) (by rfl) T.g_law_draw T.F_law_draw.kp T.b_law_draw .nil pass0 (pa_cons (pv 0) (pa_cons (pe_callB call_lenA (by rfl) T.z_len PySem.boot_len (pa_cons (pv 1) pa_nil)) pa_nil))) (fun _ _ => rfl)) pa_nil))) pa_nil))) (pe_call G_law_draw (hr.mono (by decide)) (by rfl) T.g_law_draw T.F_law_draw.kp T.b_law_draw .nil pass0 (pa_cons (pv 0) (pa_cons pe_int pa_nil))) (fun _ _ => rfl)))
      (pss_one (ps_ret (pe_ix (ix_any (hu1 hr)) (pe_lst (pa_cons (pe_tup (pa_cons pe_str (pa_cons pe_str (pa_cons (pv 2) (pa_cons (pv 3) pa_nil))))) (pa_cons (pe_tup (pa_cons pe_str (pa_cons pe_str (pa_cons (pv 2) (pa_cons (pv 3) pa_nil))))) (pa_cons (pe_tup (pa_cons pe_str (pa_cons (pe_tup (pa_cons pe_str (pa_cons pe_str (pa_cons (pv 2) (pa_cons (pv 3) pa_nil))))) pa_nil))) (pa_cons (pe_tup (pa_cons pe_str (pa_cons pe_str (pa_cons (pv 2) (pa_cons (pv 3) pa_nil))))) pa_nil))))) (pe_call G_law_draw (hr.mono (by decide)) (by rfl) T.g_law_draw T.F_law_draw.kp T.b_law_draw .nil pass0 (pa_cons (pv 0) (pa_cons pe_int pa_nil))) (fun _ _ => rfl)))))))
theorem ok_law_alts (T : Txt K mg ad fd) : FnOk P w K mg base CX0 20 (ad "_law_alts") (fd "_law_alts") ["_law_deal_here", "_law_names", "_law_many"] (sp_law_alts K ad) := by
  have nd : (N_law_alts).Nodup := sc_law_alts.nd
  have G_law_expr := ok_law_expr (P := P) (w := w) (base := base) T 16
  have G_law_number := ok_law_number (P := P) (w := w) (base := base) T
  have G_law_draw := ok_law_draw (P := P) (w := w) (base := base) T
  have G_law_small := ok_law_small (P := P) (w := w) (base := base) T
  refine T.F_law_alts.ok sc_law_alts ln_law_alts fun cdv B out t H vs Q E hr h => ⟨t_law_alts K ad, ?_, rd_law_alts  N_law_alts rfl vs H Q E h⟩
  exact (pss_cons (ps_set (i := 3) nd rfl (Or.inl rfl) (pe_lst pa_nil))
      (pss_cons (ps_for PassesOwn.never rfl (pi_range1 (by rfl) T.z_range (pa_cons (pv 2) pa_nil)) (pg_name (i := 4) nd rfl (Or.inl rfl)) (pss_cons (ps_set (i := 5) nd rfl (Or.inl rfl) (pe_ix (ix_any (hu1 hr)) (pe_lst (pa_cons (pe_tup (pa_cons pe_str (pa_cons (pe_call G_law_number (hr.mono (by decide)) (by rfl) T.g_law_number T.F_law_number.kp T.b_law_number .nil pass0 (pa_cons (pv 0) pa_nil)) pa_nil))) (pa_cons (pe_tup (pa_cons pe_str (pa_cons (pv 4) pa_nil))) (pa_cons (pe_call G_law_expr (hr.mono (by decide)) (by rfl) T.g_law_expr T.F_law_expr.kp T.b_law_expr .nil pass0 (pa_cons (pv 0) (pa_cons (pv 1) (pa_cons pe_int pa_nil)))) pa_nil)))) (pe_call G_law_draw (hr.mono (by decide)) (by rfl) T.g_law_draw T.F_law_draw.kp T.b_law_draw .nil pass0 (pa_cons (pv 0) (pa_cons pe_int pa_nil))) (fun _ _ => rfl)))
      (pss_one (ps_expr (pe_bm PySem.F.plainAttrs_list PySem.F.slot_list_append PySem.F.type_list_append mt_append (pv 3) (pa_cons (pe_tup (pa_cons (pe_call G_law_small (hr.mono (by decide)) (by rfl) T.g_law_small T.F_law_small.kp T.b_law_small .nil pass0 (pa_cons (pv 0) (pa_cons (pv 1) pa_nil))) (pa_cons (pv 5) pa_nil))) pa_nil))))))
      (pss_one (ps_ret (pe_callTy call_tupOf (by rfl) T.z_tuple (by decide +kernel) (pa_cons (pv 3) pa_nil))))))
theorem ok_law_mild (T : Txt K mg ad fd) : FnOk P w K mg base CX0 21 (ad "_law_mild") (fd "_law_mild") ["_law_deal_here", "_law_names"] (sp_law_mild K ad) := by
  have nd : (N_law_mild).Nodup := sc_law_mild.nd
  have G_law_draw := ok_law_draw (P := P) (w := w) (base := base) T
  have G_law_test := ok_law_test (P := P) (w := w) (base := base) T
  refine T.F_law_mild.ok sc_law_mild ln_law_mild fun cdv B out t H vs Q E hr h => ⟨t_law_mild K ad, ?_, rd_law_mild  N_law_mild rfl vs H Q E h⟩
  exact (pss_cons (ps_if (PW.pt (pw_or (pt_cmpR (op_eqA (hu64 hr)) (pe_callB call_lenA (by rfl) T.z_len PySem.boot_len (pa_cons (pv 1) pa_nil)) pe_int (nomark _)) (pw_or1 (pt_cmpR (op_eqA (hu64 hr)) (pe_call G_law_draw (hr.mono (by decide)) (by rfl) T.g_law_draw T.F_law_draw.kp T.b_law_draw .nil pass0 (pa_cons (pv 0) (pa_cons pe_int pa_nil))) pe_int (nomark _))))) (pss_one (ps_ret (pe_ifExp (pt_cmpR (op_eqA (hu64 hr)) (pe_call G_law_draw (hr.mono (by decide)) (by rfl) T.g_law_draw T.F_law_draw.kp T.b_law_draw .nil pass0 (pa_cons (pv 0) (pa_cons pe_int pa_nil))) pe_int (nomark _)) (pe_call G_law_test (hr.mono (by decide)) (by rfl) T.g_law_test T.F_law_test.kp T.b_law_test .nil pass0 (pa_cons (pv 0) (pa_cons (pv 1) pa_nil))) (pe_tup (pa_cons pe_str (pa_cons pe_int pa_nil)))))) pss_nil)
      (pss_cons (ps_par (i := 2) (j := 3) rfl nd rfl rfl (by decide) rfl rfl (pa_cons (pe_tup (pa_cons pe_str (pa_cons (pe_ix (ix_any (hu1 hr)) (pv 1) (pe_call G_law_draw (hr.mono (by decide)) (by rfl) T.g_law_draw T.F_law_draw.kp T.b_law_draw .nil pass0 (pa_cons (pv 0) (pa_cons (pe_callB call_lenA (by rfl) T.z_len PySem.boot_len (pa_cons (pv 1) pa_nil)) pa_nil))) (fun _ _ => rfl)) pa_nil))) (pa_cons (pe_call G_law_draw (hr.mono (by decide)) (by rfl) T.g_law_draw T.F_law_draw.kp T.b_law_draw .nil pass0 (pa_cons (pv 0) (pa_cons pe_int pa_nil))) pa_nil)) rfl)
      (pss_cons (ps_set (i := 4) nd rfl (Or.inl rfl) (pe_tup (pa_cons pe_str (pa_cons (pe_ix (ix_any (hu1 hr)) (pv 1) (pe_call G_law_draw (hr.mono (by decide)) (by rfl) T.g_law_draw T.F_law_draw.kp T.b_law_draw .nil pass0 (pa_cons (pv 0) (pa_cons (pe_callB call_lenA (by rfl) T.z_len PySem.boot_len (pa_cons (pv 1) pa_nil)) pa_nil))) (fun _ _ => rfl)) pa_nil))))
      (pss_cons (ps_if (pt_cmpR (op_eqA (hu64 hr)) (pe_call G_law_draw (hr.mono (by decide)) (by rfl) T.g_law_draw T.F_law_draw.kp T.b_law_draw .nil pass0 (pa_cons (pv 0) (pa_cons pe_int pa_nil))) pe_int (nomark _)) (pss_one (ps_ret (pe_tup (pa_cons pe_str (pa_cons (pe_tup (pa_cons pe_str (pa_cons pe_str (pa_cons (pv 2) (pa_cons (pe_tup (pa_cons pe_str (pa_cons (pv 3) pa_nil))) pa_nil))))) pa_nil))))) pss_nil)
      (pss_one (ps_ret (pe_tup (pa_cons pe_str (pa_cons pe_str (pa_cons (pe_tup (pa_cons pe_str (pa_cons pe_str (pa_cons (pv 2) (pa_cons (pe_tup (pa_cons pe_str (pa_cons (pe_op op_addA (pv 3) pe_int) pa_nil))) pa_nil))))) (pa_cons (pe_tup (pa_cons pe_str (pa_cons (pe_ix (ix_any (hu1 hr)) pe_str (pe_call G_law_draw (hr.mono (by decide)) (by rfl) T.g_law_draw T.F_law_draw.kp T.b_law_draw .nil pass0 (pa_cons (pv 0) (pa_cons pe_int pa_nil))) (fun _ _ => rfl)) (pa_cons (pv 2) (pa_cons (pv 4) pa_nil))))) pa_nil)))))))))))
theorem ring_law_block (T : Txt K mg ad fd) : ∀ n : Nat, FnOk P w K mg base CX0 (n + 22) (ad "_law_block") (fd "_law_block") ["_law_deal_here", "_law_world", "_law_known", "_law_room", "_law_deep"] (sp_law_block K ad (n)) ∧ FnOk P w K mg base CX0 (n + 22) (ad "_law_statement") (fd "_law_statement") ["_law_deal_here", "_law_world", "_law_known", "_law_room", "_law_deep"] (sp_law_statement K ad (n)) ∧ FnOk P w K mg base CX0 (n + 22) (ad "_law_if") (fd "_law_if") ["_law_deal_here", "_law_world", "_law_known", "_law_room", "_law_deep"] (sp_law_if K ad (n)) ∧ FnOk P w K mg base CX0 (n + 22) (ad "_law_times") (fd "_law_times") ["_law_deal_here", "_law_world", "_law_known", "_law_room", "_law_deep"] (sp_law_times K ad (n))
  | 0 => ⟨fn_none fun _ _ _ _ h => z_law_block h, fn_none fun _ _ _ _ h => z_law_statement h, fn_none fun _ _ _ _ h => z_law_if h, fn_none fun _ _ _ _ h => z_law_times h⟩
  | n + 1 => by
    obtain ⟨G_law_block, G_law_statement, G_law_if, G_law_times⟩ := ring_law_block T n
    have G_law_draw := ok_law_draw (P := P) (w := w) (base := base) T
    have G_law_alts := ok_law_alts (P := P) (w := w) (base := base) T
    have G_law_mild := ok_law_mild (P := P) (w := w) (base := base) T
    have G_law_expr := ok_law_expr (P := P) (w := w) (base := base) T 16
    have G_law_test := ok_law_test (P := P) (w := w) (base := base) T
    have G_law_root := ok_law_root (P := P) (w := w) (base := base) T
    refine ⟨?_, ?_, ?_, ?_⟩
    · have nd : (N_law_block).Nodup := sc_law_block.nd
      refine T.F_law_block.ok sc_law_block ln_law_block fun cdv B out t H vs Q E hr h => ⟨t_law_block K ad n, ?_, rd_law_block  n N_law_block rfl vs H Q E h⟩
      exact (pss_cons (ps_set (i := 5) nd rfl (Or.inl rfl) (pe_lst pa_nil))
      (pss_cons (ps_set (i := 6) nd rfl (Or.inl rfl) (pe_ix (ix_any (hu1 hr)) (pe_lst (pa_cons (pe_op op_addA (pe_call G_law_draw (hr.mono (by omega)) (by rfl) T.g_law_draw T.F_law_draw.kp T.b_law_draw .nil pass0 (pa_cons (pv 0) (pa_cons pe_int pa_nil))) (pe_callTy call_intA (by rfl) T.z_int (by decide +kernel) (pa_cons (pe_cmpR (op_eqA (hu64 hr)) (pv 4) pe_int (nomark _)) pa_nil))) (pa_cons pe_int pa_nil))) (pe_callTy call_intA (by rfl) T.z_int (by decide +kernel) (pa_cons (pe_cmpR (op_eqA (hu64 hr)) (pe_call G_law_draw (hr.mono (by omega)) (by rfl) T.g_law_draw T.F_law_draw.kp T.b_law_draw .nil pass0 (pa_cons (pv 0) (pa_cons pe_int pa_nil))) pe_int (nomark _)) pa_nil)) (fun _ _ => rfl)))
      (pss_cons (ps_for PassesOwn.never rfl (pi_range1 (by rfl) T.z_range (pa_cons (pv 6) pa_nil)) (pg_name (i := 7) nd rfl (Or.inl rfl)) (pss_one (ps_if (pt_cmpR op_gtA (pe_ix (ix_any (hu1 hr)) (pv 3) pe_int (fun _ _ => rfl)) pe_int (nomark _)) (pss_cons (ps_asg (pe_op op_sub (pe_ix (ix_any (hu1 hr)) (pv 3) pe_int (fun _ _ => rfl)) pe_int) (pg_sub (pv 3) pe_int (set_any (hu1 hr))))
      (pss_one (ps_expr (pe_bm PySem.F.plainAttrs_list PySem.F.slot_list_append PySem.F.type_list_append mt_append (pv 5) (pa_cons (pe_call G_law_statement (hr.mono (by omega)) (by rfl) T.g_law_statement T.F_law_statement.kp T.b_law_statement .nil pass0 (pa_cons (pv 0) (pa_cons (pv 1) (pa_cons (pv 2) (pa_cons (pv 3) (pa_cons (pv 4) pa_nil)))))) pa_nil))))) pss_nil)))
      (pss_one (ps_ret (pe_callTy call_tupOf (by rfl) T.z_tuple (by decide +kernel) (pa_cons (pv 5) pa_nil)))))))
    · have nd : (N_law_statement).Nodup := sc_law_statement.nd
      refine T.F_law_statement.ok sc_law_statement ln_law_statement fun cdv B out t H vs Q E hr h => ⟨t_law_statement K ad n, ?_, rd_law_statement  n N_law_statement rfl vs H Q E h⟩
      exact (pss_cons (ps_par (i := 5) (j := 6) rfl nd rfl rfl (by decide) rfl rfl (pa_cons (pe_op op_addA (pe_ix (ix_any (hu1 hr)) (pv 1) pe_str (fun _ _ => rfl)) (pv 2)) (pa_cons (pe_call G_law_draw (hr.mono (by omega)) (by rfl) T.g_law_draw T.F_law_draw.kp T.b_law_draw .nil pass0 (pa_cons (pv 0) (pa_cons pe_int pa_nil))) pa_nil)) rfl)
      (pss_cons (ps_set (i := 7) nd rfl (Or.inl rfl) (pe_ix (ix_any (hu1 hr)) (pe_ix (ix_any (hu1 hr)) (pv 1) pe_str (fun _ _ => rfl)) (pe_op op_addA pe_int (pe_call G_law_draw (hr.mono (by omega)) (by rfl) T.g_law_draw T.F_law_draw.kp T.b_law_draw .nil pass0 (pa_cons (pv 0) (pa_cons pe_int pa_nil)))) (fun _ _ => rfl)))
      (pss_cons (ps_set (i := 8) nd rfl (Or.inl rfl) (pe_ix (ix_any (hu1 hr)) (pe_lst (pa_cons pe_int (pa_cons pe_int (pa_cons pe_int (pa_cons pe_int (pa_cons pe_int pa_nil)))))) (pe_call G_law_draw (hr.mono (by omega)) (by rfl) T.g_law_draw T.F_law_draw.kp T.b_law_draw .nil pass0 (pa_cons (pv 0) (pa_cons pe_int pa_nil))) (fun _ _ => rfl)))
      (pss_cons (ps_if (PW.pt (pw_and (pt_cmpR op_ltA (pv 6) pe_int (nomark _)) (pw_and (pt_cmpR op_geA (pe_ix (ix_any (hu1 hr)) (pv 3) pe_int (fun _ _ => rfl)) (pv 8) (nomark _)) (pw_and1 (pt_cmpR op_gtA (pe_ix (ix_any (hu1 hr)) (pv 3) pe_int (fun _ _ => rfl)) pe_int (nomark _)))))) (pss_cons (ps_asg (pe_tup (pa_cons (pe_op op_fdivA (pe_ix (ix_any (hu1 hr)) (pv 3) pe_int (fun _ _ => rfl)) (pv 8)) (pa_cons (pe_op op_sub (pe_ix (ix_any (hu1 hr)) (pv 3) pe_int (fun _ _ => rfl)) pe_int) pa_nil))) (pg_tup rfl (pgs_cons (pg_sub (pv 3) pe_int (set_any (hu1 hr))) (pgs_cons (pg_sub (pv 3) pe_int (set_any (hu1 hr))) pgs_nil))))
      (pss_cons (ps_set (i := 9) nd rfl (Or.inl rfl) (pe_call G_law_alts (hr.mono (by omega)) (by rfl) T.g_law_alts T.F_law_alts.kp T.b_law_alts .nil pass0 (pa_cons (pv 0) (pa_cons (pv 5) (pa_cons (pv 8) pa_nil)))))
      (pss_cons (ps_expr (pe_bm PySem.F.plainAttrs_list PySem.F.slot_list_extend PySem.F.type_list_extend mt_extend (pv 2) (pa_cons (pe_op op_mulA (pe_lst (pa_cons (pv 7) pa_nil)) (pe_callTy call_intA (by rfl) T.z_int (by decide +kernel) (pa_cons (pe_cmpR (op_niA (hu65 hr)) (pv 7) (pv 2) rfl) pa_nil))) pa_nil)))
      (pss_one (ps_ret (pe_tup (pa_cons pe_str (pa_cons (pv 7) (pa_cons (pv 9) pa_nil))))))))) pss_nil)
      (pss_cons (ps_if (pt_cmpR (op_inA (hu65 hr)) (pv 6) (pe_tup (pa_cons pe_int (pa_cons pe_int pa_nil))) rfl) (pss_one (ps_ret (pe_tup (pa_cons pe_str (pa_cons (pe_call G_law_mild (hr.mono (by omega)) (by rfl) T.g_law_mild T.F_law_mild.kp T.b_law_mild .nil pass0 (pa_cons (pv 0) (pa_cons (pv 5) pa_nil))) pa_nil))))) pss_nil)
      (pss_cons (ps_if (PW.pt (pw_and (pt_cmpR (op_inA (hu65 hr)) (pv 6) (pe_tup (pa_cons pe_int (pa_cons pe_int pa_nil))) rfl) (pw_and1 (pt_cmpR op_ltA (pv 4) pe_int (nomark _))))) (pss_one (ps_ret (pe_call G_law_if (hr.mono (by omega)) (by rfl) T.g_law_if T.F_law_if.kp T.b_law_if .nil pass0 (pa_cons (pv 0) (pa_cons (pv 1) (pa_cons (pv 2) (pa_cons (pv 3) (pa_cons (pv 4) pa_nil)))))))) pss_nil)
      (pss_cons (ps_if (PW.pt (pw_and (pt_cmpR (op_eqA (hu64 hr)) (pv 6) pe_int (nomark _)) (pw_and1 (pt_cmpR op_ltA (pv 4) pe_int (nomark _))))) (pss_one (ps_ret (pe_call G_law_times (hr.mono (by omega)) (by rfl) T.g_law_times T.F_law_times.kp T.b_law_times .nil pass0 (pa_cons (pv 0) (pa_cons (pv 1) (pa_cons (pv 2) (pa_cons (pv 3) (pa_cons (pv 4) pa_nil)))))))) pss_nil)
      (pss_cons (ps_set (i := 10) nd rfl (Or.inl rfl) (pe_call G_law_expr (hr.mono (by omega)) (by rfl) T.g_law_expr T.F_law_expr.kp T.b_law_expr .nil pass0 (pa_cons (pv 0) (pa_cons (pv 5) (pa_cons pe_int pa_nil)))))
      (pss_cons (ps_expr (pe_bm PySem.F.plainAttrs_list PySem.F.slot_list_extend PySem.F.type_list_extend mt_extend (pv 2) (pa_cons (pe_op op_mulA (pe_lst (pa_cons (pv 7) pa_nil)) (pe_callTy call_intA (by rfl) T.z_int (by decide +kernel) (pa_cons (pe_cmpR (op_niA (hu65 hr)) (pv 7) (pv 2) rfl) pa_nil))) pa_nil)))
      (pss_one (ps_ret (pe_tup (pa_cons pe_str (pa_cons (pv 7) (pa_cons (pv 10) pa_nil)))))))))))))))
    · have nd : (N_law_if).Nodup := sc_law_if.nd
      refine T.F_law_if.ok sc_law_if ln_law_if fun cdv B out t H vs Q E hr h => ⟨t_law_if K ad n, ?_, rd_law_if  n N_law_if rfl vs H Q E h⟩
      exact (pss_cons (ps_par3 (i := 5) (j := 6) (l := 7) rfl nd rfl rfl rfl (by decide) (by decide) (by decide) rfl rfl rfl (pa_cons (pe_call G_law_test (hr.mono (by omega)) (by rfl) T.g_law_test T.F_law_test.kp T.b_law_test .nil pass0 (pa_cons (pv 0) (pa_cons (pe_op op_addA (pe_ix (ix_any (hu1 hr)) (pv 1) pe_str (fun _ _ => rfl)) (pv 2)) pa_nil))) (pa_cons (pe_lst pa_nil) (pa_cons (pe_lst pa_nil) pa_nil))) rfl)
      (pss_cons (ps_asg (pe_tup (pa_cons (pe_lst pa_nil) (pa_cons (pe_lst pa_nil) pa_nil))) (pg_tup rfl (pgs_cons (pg_name (i := 8) nd rfl (Or.inl rfl)) (pgs_cons (pg_name (i := 9) nd rfl (Or.inr rfl)) pgs_nil))))
      (pss_cons (ps_for PassesOwn.never rfl (pi_range1 (by rfl) T.z_range (pa_cons pe_int pa_nil)) (pg_name (i := 10) nd rfl (Or.inl rfl)) (pss_cons (ps_par (i := 11) (j := 12) rfl nd rfl rfl (by decide) rfl rfl (pa_cons (pe_lst (pa_cons (pe_ix (ix_any (hu1 hr)) (pv 3) pe_int (fun _ _ => rfl)) (pa_cons (pe_ix (ix_any (hu1 hr)) (pv 3) pe_int (fun _ _ => rfl)) (pa_cons (pe_ix (ix_any (hu1 hr)) (pv 3) pe_int (fun _ _ => rfl)) pa_nil)))) (pa_cons (pe_callTy (call_listA rfl) (by rfl) T.z_list (by decide +kernel) (pa_cons (pv 2) pa_nil)) pa_nil)) rfl)
      (pss_cons (ps_expr (pe_bm PySem.F.plainAttrs_list PySem.F.slot_list_append PySem.F.type_list_append mt_append (pv 8) (pa_cons (pe_call G_law_block (hr.mono (by omega)) (by rfl) T.g_law_block T.F_law_block.kp T.b_law_block .nil pass0 (pa_cons (pv 0) (pa_cons (pv 1) (pa_cons (pv 12) (pa_cons (pv 11) (pa_cons (pe_op op_addA (pv 4) pe_int) pa_nil)))))) pa_nil)))
      (pss_cons (ps_asg (pe_ix (ix_any (hu1 hr)) (pv 11) pe_int (fun _ _ => rfl)) (pg_sub (pv 3) pe_int (set_any (hu1 hr))))
      (pss_cons (ps_expr (pe_bm PySem.F.plainAttrs_list PySem.F.slot_list_append PySem.F.type_list_append mt_append (pv 6) (pa_cons (pe_ix (ix_any (hu1 hr)) (pv 11) pe_int (fun _ _ => rfl)) pa_nil)))
      (pss_cons (ps_expr (pe_bm PySem.F.plainAttrs_list PySem.F.slot_list_append PySem.F.type_list_append mt_append (pv 7) (pa_cons (pe_ix (ix_any (hu1 hr)) (pv 11) pe_int (fun _ _ => rfl)) pa_nil)))
      (pss_one (ps_expr (pe_bm PySem.F.plainAttrs_list PySem.F.slot_list_append PySem.F.type_list_append mt_append (pv 9) (pa_cons (pv 12) pa_nil))))))))))
      (pss_cons (ps_asg (pe_tup (pa_cons (pe_callB (cr_min rfl) (by rfl) T.z_min (by decide +kernel) (pa_cons (pv 6) pa_nil)) (pa_cons (pe_callB (cr_min rfl) (by rfl) T.z_min (by decide +kernel) (pa_cons (pv 7) pa_nil)) pa_nil))) (pg_tup rfl (pgs_cons (pg_sub (pv 3) pe_int (set_any (hu1 hr))) (pgs_cons (pg_sub (pv 3) pe_int (set_any (hu1 hr))) pgs_nil))))
      (pss_cons (ps_expr (pe_bm PySem.F.plainAttrs_list PySem.F.slot_list_extend PySem.F.type_list_extend mt_extend (pv 2) (pa_cons (pe_lc (own := [("_law_x", 13)]) (g := (gName 13)) (tt := (tAnd (tTest (tOp (rInA K) (tVar 13) (tOp (rIxA K) (tVar 9) (tC (.int 1))))) (tTest (tOp (rNiA K) (tVar 13) (tVar 2))))) rfl nd (pi_seq (pe_ix (ix_any (hu1 hr)) (pv 9) pe_int (fun _ _ => rfl))) (blkOk_by (N := N_law_if) (sc := defScope s_law_if) (by decide +kernel)) (fun _ _ _ _ _ => (pg_name (i := 13) nd rfl (Or.inl rfl))) (fun _ _ _ _ _ => (pts_one (PW.pt (pw_and (pt_cmpR (op_inA (hu65 hr)) (pv 13) (pe_ix (ix_any (hu1 hr)) (pv 9) pe_int (fun _ _ => rfl)) rfl) (pw_and1 (pt_cmpR (op_niA (hu65 hr)) (pv 13) (pv 2) rfl)))))) (fun _ _ _ _ _ => (pv 13))) pa_nil)))
      (pss_one (ps_ret (pe_tup (pa_cons pe_str (pa_cons (pv 5) (pa_cons (pe_ix (ix_any (hu1 hr)) (pv 8) pe_int (fun _ _ => rfl)) (pa_cons (pe_ix (ix_any (hu1 hr)) (pv 8) pe_int (fun _ _ => rfl)) pa_nil))))))))))))
    · have nd : (N_law_times).Nodup := sc_law_times.nd
      refine T.F_law_times.ok sc_law_times ln_law_times fun cdv B out t H vs Q E hr h => ⟨t_law_times K ad n, ?_, rd_law_times  n N_law_times rfl vs H Q E h⟩
      exact (pss_cons (ps_set (i := 5) nd rfl (Or.inl rfl) (pe_op op_addA pe_int (pe_call G_law_draw (hr.mono (by omega)) (by rfl) T.g_law_draw T.F_law_draw.kp T.b_law_draw .nil pass0 (pa_cons (pv 0) (pa_cons pe_int pa_nil)))))
      (pss_cons (ps_set (i := 6) nd rfl (Or.inl rfl) (pe_lst (pa_cons (pe_ifExp (pt_cmpR (op_eqA (hu64 hr)) (pv 5) pe_int (nomark _)) (pe_ix (ix_any (hu1 hr)) (pv 3) pe_int (fun _ _ => rfl)) (pe_call G_law_root (hr.mono (by omega)) (by rfl) T.g_law_root T.F_law_root.kp T.b_law_root .nil pass0 (pa_cons (pe_ix (ix_any (hu1 hr)) (pv 3) pe_int (fun _ _ => rfl)) (pa_cons (pv 5) pa_nil)))) (pa_cons (pe_op op_fdivA (pe_ix (ix_any (hu1 hr)) (pv 3) pe_int (fun _ _ => rfl)) (pv 5)) (pa_cons (pe_callB (call_min2' rfl) (by rfl) T.z_min (by decide +kernel) (pa_cons pe_int (pa_cons (pe_ix (ix_any (hu1 hr)) (pv 3) pe_int (fun _ _ => rfl)) pa_nil))) pa_nil)))))
      (pss_cons (ps_par (i := 7) (j := 8) rfl nd rfl rfl (by decide) rfl rfl (pa_cons (pe_ix (ix_any (hu1 hr)) (pv 6) pe_int (fun _ _ => rfl)) (pa_cons (pe_ix (ix_any (hu1 hr)) (pv 6) pe_int (fun _ _ => rfl)) pa_nil)) rfl)
      (pss_cons (ps_set (i := 9) nd rfl (Or.inl rfl) (pe_call G_law_block (hr.mono (by omega)) (by rfl) T.g_law_block T.F_law_block.kp T.b_law_block .nil pass0 (pa_cons (pv 0) (pa_cons (pv 1) (pa_cons (pv 2) (pa_cons (pv 6) (pa_cons (pe_op op_addA (pv 4) pe_int) pa_nil)))))))
      (pss_cons (ps_asg (pe_op op_sub (pe_ix (ix_any (hu1 hr)) (pv 3) pe_int (fun _ _ => rfl)) (pe_op op_sub (pv 8) (pe_ix (ix_any (hu1 hr)) (pv 6) pe_int (fun _ _ => rfl)))) (pg_sub (pv 3) pe_int (set_any (hu1 hr))))
      (pss_cons (ps_for PassesOwn.never rfl (pi_range1 (by rfl) T.z_range (pa_cons (pv 5) pa_nil)) (pg_name (i := 10) nd rfl (Or.inl rfl)) (pss_one (ps_asg (pe_callB (call_max2' rfl) (by rfl) T.z_max (by decide +kernel) (pa_cons pe_int (pa_cons (pe_op op_fdivA (pe_ix (ix_any (hu1 hr)) (pv 3) pe_int (fun _ _ => rfl)) (pe_callB (call_max2' rfl) (by rfl) T.z_max (by decide +kernel) (pa_cons pe_int (pa_cons (pe_op op_fdivA (pv 7) (pe_callB (call_max2' rfl) (by rfl) T.z_max (by decide +kernel) (pa_cons pe_int (pa_cons (pe_ix (ix_any (hu1 hr)) (pv 6) pe_int (fun _ _ => rfl)) pa_nil)))) pa_nil)))) pa_nil))) (pg_sub (pv 3) pe_int (set_any (hu1 hr))))))
      (pss_cons (ps_asg (pe_op op_mulA (pe_ix (ix_any (hu1 hr)) (pv 6) pe_int (fun _ _ => rfl)) (pv 5)) (pg_sub (pv 3) pe_int (set_any (hu1 hr))))
      (pss_one (ps_ret (pe_tup (pa_cons pe_str (pa_cons (pv 5) (pa_cons (pv 9) pa_nil)))))))))))))
theorem ok_law_block (T : Txt K mg ad fd) (n : Nat) : FnOk P w K mg base CX0 (n + 22) (ad "_law_block") (fd "_law_block") ["_law_deal_here", "_law_world", "_law_known", "_law_room", "_law_deep"] (sp_law_block K ad (n)) := (ring_law_block T n).1
theorem ok_law_statement (T : Txt K mg ad fd) (n : Nat) : FnOk P w K mg base CX0 (n + 22) (ad "_law_statement") (fd "_law_statement") ["_law_deal_here", "_law_world", "_law_known", "_law_room", "_law_deep"] (sp_law_statement K ad (n)) := (ring_law_block T n).2.1
theorem ok_law_if (T : Txt K mg ad fd) (n : Nat) : FnOk P w K mg base CX0 (n + 22) (ad "_law_if") (fd "_law_if") ["_law_deal_here", "_law_world", "_law_known", "_law_room", "_law_deep"] (sp_law_if K ad (n)) := (ring_law_block T n).2.2.1
theorem ok_law_times (T : Txt K mg ad fd) (n : Nat) : FnOk P w K mg base CX0 (n + 22) (ad "_law_times") (fd "_law_times") ["_law_deal_here", "_law_world", "_law_known", "_law_room", "_law_deep"] (sp_law_times K ad (n)) := (ring_law_block T n).2.2.2
theorem ok_law_book (T : Txt K mg ad fd) : FnOk P w K mg base CX0 39 (ad "_law_book") (fd "_law_book") ["_law_deal_here"] (sp_law_book K ad) := by
  have nd : (N_law_book).Nodup := sc_law_book.nd
  have G_law_words := ok_law_words (P := P) (w := w) (base := base) T
  have G_law_draw := ok_law_draw (P := P) (w := w) (base := base) T
  have G_law_alts := ok_law_alts (P := P) (w := w) (base := base) T
  have G_law_block := ok_law_block (P := P) (w := w) (base := base) T 16
  refine T.F_law_book.ok sc_law_book ln_law_book fun cdv B out t H vs Q E hr h => ⟨t_law_book K ad, ?_, rd_law_book  N_law_book rfl vs H Q E h⟩
  exact (pss_cons (ps_set (i := 1) nd rfl (Or.inl rfl) (pe_call G_law_words (hr.mono (by decide)) (by rfl) T.g_law_words T.F_law_words.kp T.b_law_words .nil pass0 (pa_cons (pv 0) (pa_cons pe_int pa_nil))))
      (pss_cons (ps_par (i := 2) (j := 3) rfl nd rfl rfl (by decide) rfl rfl (pa_cons (pe_lst pa_nil) (pa_cons (pe_lst pa_nil) pa_nil)) rfl)
      (pss_cons (ps_for PassesOwn.never rfl (pi_range1 (by rfl) T.z_range (pa_cons (pe_ix (ix_any (hu1 hr)) (pe_lst (pa_cons pe_int (pa_cons pe_int (pa_cons pe_int (pa_cons pe_int (pa_cons pe_int pa_nil)))))) (pe_call G_law_draw (hr.mono (by decide)) (by rfl) T.g_law_draw T.F_law_draw.kp T.b_law_draw .nil pass0 (pa_cons (pv 0) (pa_cons pe_int pa_nil))) (fun _ _ => rfl)) pa_nil)) (pg_name (i := 4) nd rfl (Or.inl rfl)) (pss_cons (ps_expr (pe_bm PySem.F.plainAttrs_list PySem.F.slot_list_append PySem.F.type_list_append mt_append (pv 2) (pa_cons (pe_tup (pa_cons (pe_ix (ix_any (hu1 hr)) (pv 1) (pv 4) (fun _ _ => rfl)) (pa_cons (pe_call G_law_alts (hr.mono (by decide)) (by rfl) T.g_law_alts T.F_law_alts.kp T.b_law_alts .nil pass0 (pa_cons (pv 0) (pa_cons (pv 3) (pa_cons (pe_op op_addA pe_int (pe_call G_law_draw (hr.mono (by decide)) (by rfl) T.g_law_draw T.F_law_draw.kp T.b_law_draw .nil pass0 (pa_cons (pv 0) (pa_cons (pe_ix (ix_any (hu1 hr)) (pe_lst (pa_cons pe_int (pa_cons pe_int (pa_cons pe_int pa_nil)))) (pv 4) (fun _ _ => rfl)) pa_nil)))) pa_nil)))) pa_nil))) pa_nil)))
      (pss_one (ps_expr (pe_bm PySem.F.plainAttrs_list PySem.F.slot_list_append PySem.F.type_list_append mt_append (pv 3) (pa_cons (pe_ix (ix_any (hu1 hr)) (pv 1) (pv 4) (fun _ _ => rfl)) pa_nil))))))
      (pss_cons (ps_set (i := 5) nd rfl (Or.inl rfl) (pe_slice sl_any (pv 1) (po_some pe_int) (po_some (pe_op op_addA pe_int (pe_call G_law_draw (hr.mono (by decide)) (by rfl) T.g_law_draw T.F_law_draw.kp T.b_law_draw .nil pass0 (pa_cons (pv 0) (pa_cons pe_int pa_nil)))))))
      (pss_cons (ps_par (i := 6) (j := 7) rfl nd rfl rfl (by decide) rfl rfl (pa_cons (pe_disp (pps_cons pe_str (pv 1) (pps_cons pe_str (pv 3) (pps_cons pe_str (pe_op op_addA (pv 3) (pv 5)) pps_nil))) rfl rfl (by simp) (by decide)) (pa_cons (pe_lst pa_nil) pa_nil)) rfl)
      (pss_cons (ps_set (i := 8) nd rfl (Or.inl rfl) (pe_call G_law_block (hr.mono (by decide)) (by rfl) T.g_law_block T.F_law_block.kp T.b_law_block .nil pass0 (pa_cons (pv 0) (pa_cons (pv 6) (pa_cons (pv 7) (pa_cons (pe_lst (pa_cons pe_int (pa_cons pe_int (pa_cons pe_int pa_nil)))) (pa_cons pe_int pa_nil)))))))
      (pss_cons (ps_asg (pv 7) (pg_sub (pv 6) pe_str (set_any (hu1 hr))))
      (pss_one (ps_ret (pe_tup (pa_cons (pv 6) (pa_cons (pe_tup (pa_cons (pe_callTy call_tupOf (by rfl) T.z_tuple (by decide +kernel) (pa_cons (pv 2) pa_nil)) (pa_cons (pe_callTy call_tupOf (by rfl) T.z_tuple (by decide +kernel) (pa_cons (pv 5) pa_nil)) (pa_cons (pv 8) pa_nil)))) pa_nil))))))))))))
theorem ok_law (T : Txt K mg ad fd) : FnG P w K mg base CX0 40 (ad "law") (fd "law") ["_law_script"] (sp_law K ad) := by
  have nd : (N_law).Nodup := sc_law.nd
  have G_law_deal := ok_law_deal (P := P) (w := w) (base := base) T
  have G_law_book := ok_law_book (P := P) (w := w) (base := base) T
  have G_law_draw := ok_law_draw (P := P) (w := w) (base := base) T
  have G_law_otherwise := ok_law_otherwise (P := P) (w := w) (base := base) T
  have G_law_odd := ok_law_odd (P := P) (w := w) (base := base) T
  have G_is_row := ok_is_row (P := P) (w := w) (base := base) T
  have G_law_due := ok_law_due (P := P) (w := w) (base := base) T
  refine okG T.F_law sc_law ln_law fun cdv B out t H vs Q E hgd hr h => ⟨t_law K ad, ?_, rd_law  N_law rfl vs H Q E h⟩
  exact (pss_cons (ps_set (i := 1) nd rfl (Or.inr rfl) (pe_call G_law_deal (hr.mono (by decide)) (by rfl) T.g_law_deal T.F_law_deal.kp T.b_law_deal .nil pass0 (pa_cons (pv 0) (pa_cons pe_int pa_nil))))
      (pss_cons (ps_set (i := 2) nd rfl (Or.inl rfl) (pe_lst pa_nil))
      (pss_cons (ps_for PassesOwn.never rfl (pi_range1 (by rfl) T.z_range (pa_cons (pe_callB (call_max2' rfl) (by rfl) T.z_max (by decide +kernel) (pa_cons pe_int (pa_cons (pe_callB (call_min2' rfl) (by rfl) T.z_min (by decide +kernel) (pa_cons pe_int (pa_cons (pe_callB call_lenA (by rfl) T.z_len PySem.boot_len (pa_cons (pv 0) pa_nil)) pa_nil))) pa_nil))) pa_nil)) (pg_name (i := 3) nd rfl (Or.inl rfl)) (pss_cons (ps_set (i := 4) nd rfl (Or.inr rfl) (pe_ix (ix_any (hu1 hr)) (pe_call G_law_book (hr.mono (by decide)) (by rfl) T.g_law_book T.F_law_book.kp T.b_law_book .nil pass0 (pa_cons (pv 1) pa_nil)) pe_int (fun _ _ => rfl)))
      (pss_cons (ps_set (i := 5) nd rfl (Or.inr rfl) (pe_callTy call_tupOf (by rfl) T.z_tuple (by decide +kernel) (pa_cons (pe_lc (own := [("_law_name", 9)]) (g := (gName 9)) (tt := tYes) rfl nd (pi_seq (pe_ix (ix_any (hu1 hr)) (pv 4) pe_int (fun _ _ => rfl))) (blkOk_by (N := N_law) (sc := defScope s_law) (by decide +kernel)) (fun _ _ _ _ _ => (pg_name (i := 9) nd rfl (Or.inl rfl))) (fun _ _ _ _ _ => pts_nil) (fun _ _ _ _ _ => (pe_ix (ix_any (hu1 hr)) (pe_lst (pa_cons pe_int (pa_cons pe_int (pa_cons pe_int (pa_cons (pe_call G_law_draw (hr.mono (by decide)) (by rfl) T.g_law_draw T.F_law_draw.kp T.b_law_draw .nil pass0 (pa_cons (pv 1) (pa_cons pe_int pa_nil))) pa_nil))))) (pe_call G_law_draw (hr.mono (by decide)) (by rfl) T.g_law_draw T.F_law_draw.kp T.b_law_draw .nil pass0 (pa_cons (pv 1) (pa_cons pe_int pa_nil))) (fun _ _ => rfl)))) pa_nil)))
      (pss_cons (ps_setLc (i := 6) (own := [("_law_k", 8)]) (g := (gName 8)) (tt := tYes) rfl nd rfl rfl (sw_true rfl rfl rfl (by decide +kernel)) (pi_range1 (by rfl) T.z_range (pa_cons pe_int pa_nil)) (blkOk_by (N := N_law) (sc := defScope s_law) (by decide +kernel)) (fun _ _ _ _ _ => (pg_name (i := 8) nd rfl (Or.inl rfl))) (fun _ _ _ _ _ => pts_nil) (fun _ _ _ _ _ => (pe_call G_law_otherwise (hr.mono (by decide)) (by rfl) T.g_law_otherwise T.F_law_otherwise.kp T.b_law_otherwise .nil pass0 (pa_cons (pv 1) (pa_cons (pv 5) pa_nil)))))
      (pss_cons (ps_set (i := 7) nd rfl (Or.inl rfl) (pe_op op_addA (pe_lst (pa_cons (pv 5) (pa_cons (pe_call G_law_odd (hr.mono (by decide)) (by rfl) T.g_law_odd T.F_law_odd.kp T.b_law_odd .nil pass0 (pa_cons (pv 1) pa_nil)) (pa_cons (pe_call G_law_odd (hr.mono (by decide)) (by rfl) T.g_law_odd T.F_law_odd.kp T.b_law_odd .nil pass0 (pa_cons (pv 1) pa_nil)) (pa_cons (pe_op op_mulA (pe_slice sl_any (pv 5) po_none (po_some pe_int)) (pe_callB call_lenA (by rfl) T.z_len PySem.boot_len (pa_cons (pv 5) pa_nil))) pa_nil))))) (pv 6)))
      (pss_one (ps_expr (pe_bm PySem.F.plainAttrs_list PySem.F.slot_list_extend PySem.F.type_list_extend mt_extend (pv 2) (pa_cons (pe_lc (own := [("_law_one", 10)]) (g := (gName 10)) (tt := tYes) rfl nd (pi_seq (pe_op op_addA (pv 7) (pe_lc (own := [("_law_one", 10)]) (g := (gName 10)) (tt := tYes) rfl nd (pi_seq (pv 6)) (blkOk_by (N := N_law) (sc := defScope s_law) (by decide +kernel)) (fun _ _ _ _ _ => (pg_name (i := 10) nd rfl (Or.inl rfl))) (fun _ _ _ _ _ => pts_nil) (fun _ _ _ _ _ => (pe_call G_law_otherwise (hr.mono (by decide)) (by rfl) T.g_law_otherwise T.F_law_otherwise.kp T.b_law_otherwise .nil pass0 (pa_cons (pv 1) (pa_cons (pv 10) pa_nil))))))) (blkOk_by (N := N_law) (sc := defScope s_law) (by decide +kernel)) (fun _ _ _ _ _ => (pg_name (i := 10) nd rfl (Or.inl rfl))) (fun _ _ _ _ _ => pts_nil) (fun _ _ _ _ _ => (pe_tup (pa_cons (pv 4) (pa_cons (pv 10) pa_nil))))) pa_nil)))))))))
      (pss_cons (ps_for PassesOwn.never rfl (pi_seq (pe_op op_addA (pv 2) (pe_slice sl_any (pv 2) po_none (po_some pe_int)))) (pg_tup rfl (pgs_cons (pg_name (i := 4) nd rfl (Or.inr rfl)) (pgs_cons (pg_name (i := 5) nd rfl (Or.inr rfl)) pgs_nil))) (pss_one (ps_if (pt_cmpR (op_neA (hu64 hr)) (pe_callB (call_repr hgd (hu120 hr)) (by rfl) T.z_repr (by decide +kernel) (pa_cons (pe_call G_is_row (hr.mono (by decide)) (by rfl) T.g_is_row T.F_is_row.kp T.b_is_row .nil pass0 (pa_cons (pv 4) (pa_cons (pv 5) pa_nil))) pa_nil)) (pe_callB (call_repr hgd (hu120 hr)) (by rfl) T.z_repr (by decide +kernel) (pa_cons (pe_call G_law_due (hr.mono (by decide)) (by rfl) T.g_law_due T.F_law_due.kp T.b_law_due .nil pass0 (pa_cons (pv 4) (pa_cons (pv 5) pa_nil))) pa_nil)) (nomark _)) (pss_one (ps_ret pe_bl)) pss_nil)))
      (pss_one (ps_ret pe_bl))))))
end
theorem all_mk {l : PySem.W.OpenLaw} {w : World} {K : PySem.W.Frag} {h : Heap} {mg : Str → Option Value} {fa : Addr} (X : K.In h) (G : h.Ns mainGlobals mg) (hfa : mg "law" = some (.ref fa))
    {f0 : Addr} {od0 an0 : Option Addr} {sl0 : Array (Option Value)} {oc0 kV0 dc0 pm0 cd0 ct0 : Value}
    {f1 : Addr} {od1 an1 : Option Addr} {sl1 : Array (Option Value)} {oc1 kV1 dc1 pm1 cd1 ct1 : Value}
    {f2 : Addr} {od2 an2 : Option Addr} {sl2 : Array (Option Value)} {oc2 kV2 dc2 pm2 cd2 ct2 : Value}
    {f3 : Addr} {od3 an3 : Option Addr} {sl3 : Array (Option Value)} {oc3 kV3 dc3 pm3 cd3 ct3 : Value}
    {f4 : Addr} {od4 an4 : Option Addr} {sl4 : Array (Option Value)} {oc4 kV4 dc4 pm4 cd4 ct4 : Value}
    {f5 : Addr} {od5 an5 : Option Addr} {sl5 : Array (Option Value)} {oc5 kV5 dc5 pm5 cd5 ct5 : Value}
    {f6 : Addr} {od6 an6 : Option Addr} {sl6 : Array (Option Value)} {oc6 kV6 dc6 pm6 cd6 ct6 : Value}
    {f7 : Addr} {od7 an7 : Option Addr} {sl7 : Array (Option Value)} {oc7 kV7 dc7 pm7 cd7 ct7 : Value}
    {f8 : Addr} {od8 an8 : Option Addr} {sl8 : Array (Option Value)} {oc8 kV8 dc8 pm8 cd8 ct8 : Value}
    {f9 : Addr} {od9 an9 : Option Addr} {sl9 : Array (Option Value)} {oc9 kV9 dc9 pm9 cd9 ct9 : Value}
    {f10 : Addr} {od10 an10 : Option Addr} {sl10 : Array (Option Value)} {oc10 kV10 dc10 pm10 cd10 ct10 : Value}
    {f11 : Addr} {od11 an11 : Option Addr} {sl11 : Array (Option Value)} {oc11 kV11 dc11 pm11 cd11 ct11 : Value}
    {f12 : Addr} {od12 an12 : Option Addr} {sl12 : Array (Option Value)} {oc12 kV12 dc12 pm12 cd12 ct12 : Value}
    {f13 : Addr} {od13 an13 : Option Addr} {sl13 : Array (Option Value)} {oc13 kV13 dc13 pm13 cd13 ct13 : Value}
    {f14 : Addr} {od14 an14 : Option Addr} {sl14 : Array (Option Value)} {oc14 kV14 dc14 pm14 cd14 ct14 : Value}
    {f15 : Addr} {od15 an15 : Option Addr} {sl15 : Array (Option Value)} {oc15 kV15 dc15 pm15 cd15 ct15 : Value}
    {f16 : Addr} {od16 an16 : Option Addr} {sl16 : Array (Option Value)} {oc16 kV16 dc16 pm16 cd16 ct16 : Value}
    {f17 : Addr} {od17 an17 : Option Addr} {sl17 : Array (Option Value)} {oc17 kV17 dc17 pm17 cd17 ct17 : Value}
    {f18 : Addr} {od18 an18 : Option Addr} {sl18 : Array (Option Value)} {oc18 kV18 dc18 pm18 cd18 ct18 : Value}
    {f19 : Addr} {od19 an19 : Option Addr} {sl19 : Array (Option Value)} {oc19 kV19 dc19 pm19 cd19 ct19 : Value}
    {f20 : Addr} {od20 an20 : Option Addr} {sl20 : Array (Option Value)} {oc20 kV20 dc20 pm20 cd20 ct20 : Value}
    {u0 : Value}
    (a0 : PySem.W.nsIn K mainGlobals "is_count" = some (some (.ref f0)))
    (l0 : K.lookup f0 = some ⟨oc0, od0, .func (PySem.W.fnOf "is_count" "is_count" (defArgs s_is_count) (defBody s_is_count) (defScope s_is_count) .none kV0 dc0 pm0 an0 cd0 ct0), sl0⟩)
    (c0 : PySem.W.codeIn K cd0 "is_count" = true)
    (k0 : PySem.W.keepIn K (.ref f0) = true)
    (a1 : PySem.W.nsIn K mainGlobals "_law_deal" = some (some (.ref f1)))
    (l1 : K.lookup f1 = some ⟨oc1, od1, .func (PySem.W.fnOf "_law_deal" "_law_deal" (defArgs s_law_deal) (defBody s_law_deal) (defScope s_law_deal) .none kV1 dc1 pm1 an1 cd1 ct1), sl1⟩)
    (c1 : PySem.W.codeIn K cd1 "_law_deal" = true)
    (k1 : PySem.W.keepIn K (.ref f1) = true)
    (a2 : PySem.W.nsIn K mainGlobals "_law_draw" = some (some (.ref f2)))
    (l2 : K.lookup f2 = some ⟨oc2, od2, .func (PySem.W.fnOf "_law_draw" "_law_draw" (defArgs s_law_draw) (defBody s_law_draw) (defScope s_law_draw) .none kV2 dc2 pm2 an2 cd2 ct2), sl2⟩)
    (c2 : PySem.W.codeIn K cd2 "_law_draw" = true)
    (k2 : PySem.W.keepIn K (.ref f2) = true)
    (a3 : PySem.W.nsIn K mainGlobals "_law_root" = some (some (.ref f3)))
    (l3 : K.lookup f3 = some ⟨oc3, od3, .func (PySem.W.fnOf "_law_root" "_law_root" (defArgs s_law_root) (defBody s_law_root) (defScope s_law_root) .none kV3 dc3 pm3 an3 cd3 ct3), sl3⟩)
    (c3 : PySem.W.codeIn K cd3 "_law_root" = true)
    (k3 : PySem.W.keepIn K (.ref f3) = true)
    (a4 : PySem.W.nsIn K mainGlobals "_law_due" = some (some (.ref f4)))
    (l4 : K.lookup f4 = some ⟨oc4, od4, .func (PySem.W.fnOf "_law_due" "_law_due" (defArgs s_law_due) (defBody s_law_due) (defScope s_law_due) .none kV4 dc4 pm4 an4 cd4 ct4), sl4⟩)
    (c4 : PySem.W.codeIn K cd4 "_law_due" = true)
    (k4 : PySem.W.keepIn K (.ref f4) = true)
    (a5 : PySem.W.nsIn K mainGlobals "is_row" = some (some (.ref f5)))
    (l5 : K.lookup f5 = some ⟨oc5, od5, .func (PySem.W.fnOf "is_row" "is_row" (defArgs s_is_row) (defBody s_is_row) (defScope s_is_row) .none kV5 dc5 pm5 an5 cd5 ct5), sl5⟩)
    (c5 : PySem.W.codeIn K cd5 "is_row" = true)
    (k5 : PySem.W.keepIn K (.ref f5) = true)
    (a6 : PySem.W.nsIn K mainGlobals "_law_words" = some (some (.ref f6)))
    (l6 : K.lookup f6 = some ⟨oc6, od6, .func (PySem.W.fnOf "_law_words" "_law_words" (defArgs s_law_words) (defBody s_law_words) (defScope s_law_words) .none kV6 dc6 pm6 an6 cd6 ct6), sl6⟩)
    (c6 : PySem.W.codeIn K cd6 "_law_words" = true)
    (k6 : PySem.W.keepIn K (.ref f6) = true)
    (a7 : PySem.W.nsIn K mainGlobals "_law_number" = some (some (.ref f7)))
    (l7 : K.lookup f7 = some ⟨oc7, od7, .func (PySem.W.fnOf "_law_number" "_law_number" (defArgs s_law_number) (defBody s_law_number) (defScope s_law_number) .none kV7 dc7 pm7 an7 cd7 ct7), sl7⟩)
    (c7 : PySem.W.codeIn K cd7 "_law_number" = true)
    (k7 : PySem.W.keepIn K (.ref f7) = true)
    (a8 : PySem.W.nsIn K mainGlobals "_law_small" = some (some (.ref f8)))
    (l8 : K.lookup f8 = some ⟨oc8, od8, .func (PySem.W.fnOf "_law_small" "_law_small" (defArgs s_law_small) (defBody s_law_small) (defScope s_law_small) .none kV8 dc8 pm8 an8 cd8 ct8), sl8⟩)
    (c8 : PySem.W.codeIn K cd8 "_law_small" = true)
    (k8 : PySem.W.keepIn K (.ref f8) = true)
    (a9 : PySem.W.nsIn K mainGlobals "_law_odd" = some (some (.ref f9)))
    (l9 : K.lookup f9 = some ⟨oc9, od9, .func (PySem.W.fnOf "_law_odd" "_law_odd" (defArgs s_law_odd) (defBody s_law_odd) (defScope s_law_odd) .none kV9 dc9 pm9 an9 cd9 ct9), sl9⟩)
    (c9 : PySem.W.codeIn K cd9 "_law_odd" = true)
    (k9 : PySem.W.keepIn K (.ref f9) = true)
    (a10 : PySem.W.nsIn K mainGlobals "_law_otherwise" = some (some (.ref f10)))
    (l10 : K.lookup f10 = some ⟨oc10, od10, .func (PySem.W.fnOf "_law_otherwise" "_law_otherwise" (defArgs s_law_otherwise) (defBody s_law_otherwise) (defScope s_law_otherwise) .none kV10 dc10 pm10 an10 cd10 ct10), sl10⟩)
    (c10 : PySem.W.codeIn K cd10 "_law_otherwise" = true)
    (k10 : PySem.W.keepIn K (.ref f10) = true)
    (a11 : PySem.W.nsIn K mainGlobals "_law_expr" = some (some (.ref f11)))
    (l11 : K.lookup f11 = some ⟨oc11, od11, .func (PySem.W.fnOf "_law_expr" "_law_expr" (defArgs s_law_expr) (defBody s_law_expr) (defScope s_law_expr) .none kV11 dc11 pm11 an11 cd11 ct11), sl11⟩)
    (c11 : PySem.W.codeIn K cd11 "_law_expr" = true)
    (k11 : PySem.W.keepIn K (.ref f11) = true)
    (a12 : PySem.W.nsIn K mainGlobals "_law_test" = some (some (.ref f12)))
    (l12 : K.lookup f12 = some ⟨oc12, od12, .func (PySem.W.fnOf "_law_test" "_law_test" (defArgs s_law_test) (defBody s_law_test) (defScope s_law_test) .none kV12 dc12 pm12 an12 cd12 ct12), sl12⟩)
    (c12 : PySem.W.codeIn K cd12 "_law_test" = true)
    (k12 : PySem.W.keepIn K (.ref f12) = true)
    (a13 : PySem.W.nsIn K mainGlobals "_law_alts" = some (some (.ref f13)))
    (l13 : K.lookup f13 = some ⟨oc13, od13, .func (PySem.W.fnOf "_law_alts" "_law_alts" (defArgs s_law_alts) (defBody s_law_alts) (defScope s_law_alts) .none kV13 dc13 pm13 an13 cd13 ct13), sl13⟩)
    (c13 : PySem.W.codeIn K cd13 "_law_alts" = true)
    (k13 : PySem.W.keepIn K (.ref f13) = true)
    (a14 : PySem.W.nsIn K mainGlobals "_law_mild" = some (some (.ref f14)))
    (l14 : K.lookup f14 = some ⟨oc14, od14, .func (PySem.W.fnOf "_law_mild" "_law_mild" (defArgs s_law_mild) (defBody s_law_mild) (defScope s_law_mild) .none kV14 dc14 pm14 an14 cd14 ct14), sl14⟩)
    (c14 : PySem.W.codeIn K cd14 "_law_mild" = true)
    (k14 : PySem.W.keepIn K (.ref f14) = true)
    (a15 : PySem.W.nsIn K mainGlobals "_law_block" = some (some (.ref f15)))
    (l15 : K.lookup f15 = some ⟨oc15, od15, .func (PySem.W.fnOf "_law_block" "_law_block" (defArgs s_law_block) (defBody s_law_block) (defScope s_law_block) .none kV15 dc15 pm15 an15 cd15 ct15), sl15⟩)
    (c15 : PySem.W.codeIn K cd15 "_law_block" = true)
    (k15 : PySem.W.keepIn K (.ref f15) = true)
    (a16 : PySem.W.nsIn K mainGlobals "_law_statement" = some (some (.ref f16)))
    (l16 : K.lookup f16 = some ⟨oc16, od16, .func (PySem.W.fnOf "_law_statement" "_law_statement" (defArgs s_law_statement) (defBody s_law_statement) (defScope s_law_statement) .none kV16 dc16 pm16 an16 cd16 ct16), sl16⟩)
    (c16 : PySem.W.codeIn K cd16 "_law_statement" = true)
    (k16 : PySem.W.keepIn K (.ref f16) = true)
    (a17 : PySem.W.nsIn K mainGlobals "_law_if" = some (some (.ref f17)))
    (l17 : K.lookup f17 = some ⟨oc17, od17, .func (PySem.W.fnOf "_law_if" "_law_if" (defArgs s_law_if) (defBody s_law_if) (defScope s_law_if) .none kV17 dc17 pm17 an17 cd17 ct17), sl17⟩)
    (c17 : PySem.W.codeIn K cd17 "_law_if" = true)
    (k17 : PySem.W.keepIn K (.ref f17) = true)
    (a18 : PySem.W.nsIn K mainGlobals "_law_times" = some (some (.ref f18)))
    (l18 : K.lookup f18 = some ⟨oc18, od18, .func (PySem.W.fnOf "_law_times" "_law_times" (defArgs s_law_times) (defBody s_law_times) (defScope s_law_times) .none kV18 dc18 pm18 an18 cd18 ct18), sl18⟩)
    (c18 : PySem.W.codeIn K cd18 "_law_times" = true)
    (k18 : PySem.W.keepIn K (.ref f18) = true)
    (a19 : PySem.W.nsIn K mainGlobals "_law_book" = some (some (.ref f19)))
    (l19 : K.lookup f19 = some ⟨oc19, od19, .func (PySem.W.fnOf "_law_book" "_law_book" (defArgs s_law_book) (defBody s_law_book) (defScope s_law_book) .none kV19 dc19 pm19 an19 cd19 ct19), sl19⟩)
    (c19 : PySem.W.codeIn K cd19 "_law_book" = true)
    (k19 : PySem.W.keepIn K (.ref f19) = true)
    (a20 : PySem.W.nsIn K mainGlobals "law" = some (some (.ref f20)))
    (l20 : K.lookup f20 = some ⟨oc20, od20, .func (PySem.W.fnOf "law" "law" (defArgs s_law) (defBody s_law) (defScope s_law) .none kV20 dc20 pm20 an20 cd20 ct20), sl20⟩)
    (c20 : PySem.W.codeIn K cd20 "law" = true)
    (k20 : PySem.W.keepIn K (.ref f20) = true)
    (g0 : PySem.W.nsIn K mainGlobals "WIDE_ROW" = some (some u0))
    (h0 : RelV (.int 1000) u0)
    (z0 : PySem.W.nsIn K mainGlobals "isinstance" = some none)
    (z1 : PySem.W.nsIn K mainGlobals "int" = some none)
    (z2 : PySem.W.nsIn K mainGlobals "bool" = some none)
    (z3 : PySem.W.nsIn K mainGlobals "max" = some none)
    (z4 : PySem.W.nsIn K mainGlobals "list" = some none)
    (z5 : PySem.W.nsIn K mainGlobals "reversed" = some none)
    (z6 : PySem.W.nsIn K mainGlobals "len" = some none)
    (z7 : PySem.W.nsIn K mainGlobals "range" = some none)
    (z8 : PySem.W.nsIn K mainGlobals "tuple" = some none)
    (z9 : PySem.W.nsIn K mainGlobals "all" = some none)
    (z10 : PySem.W.nsIn K mainGlobals "min" = some none)
    (z11 : PySem.W.nsIn K mainGlobals "repr" = some none) :
    ∃ fd : FuncData, (∀ (s : Shared) (v : Value), BindsTo s fd ⟨[v], []⟩ [("_law_script", v)]) ∧ ∀ base : Heap, K.In base → base.Ns mainGlobals mg → base.NoDigits → FnG l.prog w K mg base CX0 40 fa fd ["_law_script"] (spL K) := by
  have e := hfa.symm.trans (PySem.W.mg_of X G a20)
  obtain rfl : f20 = fa := by cases e; rfl
  have F0 := fun_mk (st := s_is_count) l0 c0 k0
  have b0 := F0.binds (ps := ["thing"]) fun _ _ _ _ _ _ us hl => match us, hl with | [_], _ => rfl
  have F1 := fun_mk (st := s_law_deal) l1 c1 k1
  have b1 := F1.binds (ps := ["_law_script", "_law_base"]) fun _ _ _ _ _ _ us hl => match us, hl with | [_, _], _ => rfl
  have F2 := fun_mk (st := s_law_draw) l2 c2 k2
  have b2 := F2.binds (ps := ["_law_deal_here", "_law_many"]) fun _ _ _ _ _ _ us hl => match us, hl with | [_, _], _ => rfl
  have F3 := fun_mk (st := s_law_root) l3 c3 k3
  have b3 := F3.binds (ps := ["_law_ways", "_law_many"]) fun _ _ _ _ _ _ us hl => match us, hl with | [_, _], _ => rfl
  have F4 := fun_mk (st := s_law_due) l4 c4 k4
  have b4 := F4.binds (ps := ["_law_book_here", "_law_row"]) fun _ _ _ _ _ _ us hl => match us, hl with | [_, _], _ => rfl
  have F5 := fun_mk (st := s_is_row) l5 c5 k5
  have b5 := F5.binds (ps := ["book", "row"]) fun _ _ _ _ _ _ us hl => match us, hl with | [_, _], _ => rfl
  have F6 := fun_mk (st := s_law_words) l6 c6 k6
  have b6 := F6.binds (ps := ["_law_deal_here", "_law_many"]) fun _ _ _ _ _ _ us hl => match us, hl with | [_, _], _ => rfl
  have F7 := fun_mk (st := s_law_number) l7 c7 k7
  have b7 := F7.binds (ps := ["_law_deal_here"]) fun _ _ _ _ _ _ us hl => match us, hl with | [_], _ => rfl
  have F8 := fun_mk (st := s_law_small) l8 c8 k8
  have b8 := F8.binds (ps := ["_law_deal_here", "_law_names"]) fun _ _ _ _ _ _ us hl => match us, hl with | [_, _], _ => rfl
  have F9 := fun_mk (st := s_law_odd) l9 c9 k9
  have b9 := F9.binds (ps := ["_law_deal_here"]) fun _ _ _ _ _ _ us hl => match us, hl with | [_], _ => rfl
  have F10 := fun_mk (st := s_law_otherwise) l10 c10 k10
  have b10 := F10.binds (ps := ["_law_deal_here", "_law_row"]) fun _ _ _ _ _ _ us hl => match us, hl with | [_, _], _ => rfl
  have F11 := fun_mk (st := s_law_expr) l11 c11 k11
  have b11 := F11.binds (ps := ["_law_deal_here", "_law_names", "_law_deep"]) fun _ _ _ _ _ _ us hl => match us, hl with | [_, _, _], _ => rfl
  have F12 := fun_mk (st := s_law_test) l12 c12 k12
  have b12 := F12.binds (ps := ["_law_deal_here", "_law_names"]) fun _ _ _ _ _ _ us hl => match us, hl with | [_, _], _ => rfl
  have F13 := fun_mk (st := s_law_alts) l13 c13 k13
  have b13 := F13.binds (ps := ["_law_deal_here", "_law_names", "_law_many"]) fun _ _ _ _ _ _ us hl => match us, hl with | [_, _, _], _ => rfl
  have F14 := fun_mk (st := s_law_mild) l14 c14 k14
  have b14 := F14.binds (ps := ["_law_deal_here", "_law_names"]) fun _ _ _ _ _ _ us hl => match us, hl with | [_, _], _ => rfl
  have F15 := fun_mk (st := s_law_block) l15 c15 k15
  have b15 := F15.binds (ps := ["_law_deal_here", "_law_world", "_law_known", "_law_room", "_law_deep"]) fun _ _ _ _ _ _ us hl => match us, hl with | [_, _, _, _, _], _ => rfl
  have F16 := fun_mk (st := s_law_statement) l16 c16 k16
  have b16 := F16.binds (ps := ["_law_deal_here", "_law_world", "_law_known", "_law_room", "_law_deep"]) fun _ _ _ _ _ _ us hl => match us, hl with | [_, _, _, _, _], _ => rfl
  have F17 := fun_mk (st := s_law_if) l17 c17 k17
  have b17 := F17.binds (ps := ["_law_deal_here", "_law_world", "_law_known", "_law_room", "_law_deep"]) fun _ _ _ _ _ _ us hl => match us, hl with | [_, _, _, _, _], _ => rfl
  have F18 := fun_mk (st := s_law_times) l18 c18 k18
  have b18 := F18.binds (ps := ["_law_deal_here", "_law_world", "_law_known", "_law_room", "_law_deep"]) fun _ _ _ _ _ _ us hl => match us, hl with | [_, _, _, _, _], _ => rfl
  have F19 := fun_mk (st := s_law_book) l19 c19 k19
  have b19 := F19.binds (ps := ["_law_deal_here"]) fun _ _ _ _ _ _ us hl => match us, hl with | [_], _ => rfl
  have F20 := fun_mk (st := s_law) l20 c20 k20
  have b20 := F20.binds (ps := ["_law_script"]) fun _ _ _ _ _ _ us hl => match us, hl with | [_], _ => rfl
  let ad : String → Addr := fun s => if s = "is_count" then f0 else if s = "_law_deal" then f1 else if s = "_law_draw" then f2 else if s = "_law_root" then f3 else if s = "_law_due" then f4 else if s = "is_row" then f5 else if s = "_law_words" then f6 else if s = "_law_number" then f7 else if s = "_law_small" then f8 else if s = "_law_odd" then f9 else if s = "_law_otherwise" then f10 else if s = "_law_expr" then f11 else if s = "_law_test" then f12 else if s = "_law_alts" then f13 else if s = "_law_mild" then f14 else if s = "_law_block" then f15 else if s = "_law_statement" then f16 else if s = "_law_if" then f17 else if s = "_law_times" then f18 else if s = "_law_book" then f19 else if s = "law" then f20 else 0
  let fd : String → FuncData := fun s => if s = "is_count" then PySem.W.fnOf "is_count" "is_count" (defArgs s_is_count) (defBody s_is_count) (defScope s_is_count) .none kV0 dc0 pm0 an0 cd0 ct0 else if s = "_law_deal" then PySem.W.fnOf "_law_deal" "_law_deal" (defArgs s_law_deal) (defBody s_law_deal) (defScope s_law_deal) .none kV1 dc1 pm1 an1 cd1 ct1 else if s = "_law_draw" then PySem.W.fnOf "_law_draw" "_law_draw" (defArgs s_law_draw) (defBody s_law_draw) (defScope s_law_draw) .none kV2 dc2 pm2 an2 cd2 ct2 else if s = "_law_root" then PySem.W.fnOf "_law_root" "_law_root" (defArgs s_law_root) (defBody s_law_root) (defScope s_law_root) .none kV3 dc3 pm3 an3 cd3 ct3 else if s = "_law_due" then PySem.W.fnOf "_law_due" "_law_due" (defArgs s_law_due) (defBody s_law_due) (defScope s_law_due) .none kV4 dc4 pm4 an4 cd4 ct4 else if s = "is_row" then PySem.W.fnOf "is_row" "is_row" (defArgs s_is_row) (defBody s_is_row) (defScope s_is_row) .none kV5 dc5 pm5 an5 cd5 ct5 else if s = "_law_words" then PySem.W.fnOf "_law_words" "_law_words" (defArgs s_law_words) (defBody s_law_words) (defScope s_law_words) .none kV6 dc6 pm6 an6 cd6 ct6 else if s = "_law_number" then PySem.W.fnOf "_law_number" "_law_number" (defArgs s_law_number) (defBody s_law_number) (defScope s_law_number) .none kV7 dc7 pm7 an7 cd7 ct7 else if s = "_law_small" then PySem.W.fnOf "_law_small" "_law_small" (defArgs s_law_small) (defBody s_law_small) (defScope s_law_small) .none kV8 dc8 pm8 an8 cd8 ct8 else if s = "_law_odd" then PySem.W.fnOf "_law_odd" "_law_odd" (defArgs s_law_odd) (defBody s_law_odd) (defScope s_law_odd) .none kV9 dc9 pm9 an9 cd9 ct9 else if s = "_law_otherwise" then PySem.W.fnOf "_law_otherwise" "_law_otherwise" (defArgs s_law_otherwise) (defBody s_law_otherwise) (defScope s_law_otherwise) .none kV10 dc10 pm10 an10 cd10 ct10 else if s = "_law_expr" then PySem.W.fnOf "_law_expr" "_law_expr" (defArgs s_law_expr) (defBody s_law_expr) (defScope s_law_expr) .none kV11 dc11 pm11 an11 cd11 ct11 else if s = "_law_test" then PySem.W.fnOf "_law_test" "_law_test" (defArgs s_law_test) (defBody s_law_test) (defScope s_law_test) .none kV12 dc12 pm12 an12 cd12 ct12 else if s = "_law_alts" then PySem.W.fnOf "_law_alts" "_law_alts" (defArgs s_law_alts) (defBody s_law_alts) (defScope s_law_alts) .none kV13 dc13 pm13 an13 cd13 ct13 else if s = "_law_mild" then PySem.W.fnOf "_law_mild" "_law_mild" (defArgs s_law_mild) (defBody s_law_mild) (defScope s_law_mild) .none kV14 dc14 pm14 an14 cd14 ct14 else if s = "_law_block" then PySem.W.fnOf "_law_block" "_law_block" (defArgs s_law_block) (defBody s_law_block) (defScope s_law_block) .none kV15 dc15 pm15 an15 cd15 ct15 else if s = "_law_statement" then PySem.W.fnOf "_law_statement" "_law_statement" (defArgs s_law_statement) (defBody s_law_statement) (defScope s_law_statement) .none kV16 dc16 pm16 an16 cd16 ct16 else if s = "_law_if" then PySem.W.fnOf "_law_if" "_law_if" (defArgs s_law_if) (defBody s_law_if) (defScope s_law_if) .none kV17 dc17 pm17 an17 cd17 ct17 else if s = "_law_times" then PySem.W.fnOf "_law_times" "_law_times" (defArgs s_law_times) (defBody s_law_times) (defScope s_law_times) .none kV18 dc18 pm18 an18 cd18 ct18 else if s = "_law_book" then PySem.W.fnOf "_law_book" "_law_book" (defArgs s_law_book) (defBody s_law_book) (defScope s_law_book) .none kV19 dc19 pm19 an19 cd19 ct19 else if s = "law" then PySem.W.fnOf "law" "law" (defArgs s_law) (defBody s_law) (defScope s_law) .none kV20 dc20 pm20 an20 cd20 ct20 else default
  have ha0 : ad "is_count" = f0 := by simp [ad]
  have hf0 : fd "is_count" = PySem.W.fnOf "is_count" "is_count" (defArgs s_is_count) (defBody s_is_count) (defScope s_is_count) .none kV0 dc0 pm0 an0 cd0 ct0 := by simp [fd]
  have ha1 : ad "_law_deal" = f1 := by simp [ad]
  have hf1 : fd "_law_deal" = PySem.W.fnOf "_law_deal" "_law_deal" (defArgs s_law_deal) (defBody s_law_deal) (defScope s_law_deal) .none kV1 dc1 pm1 an1 cd1 ct1 := by simp [fd]
  have ha2 : ad "_law_draw" = f2 := by simp [ad]
  have hf2 : fd "_law_draw" = PySem.W.fnOf "_law_draw" "_law_draw" (defArgs s_law_draw) (defBody s_law_draw) (defScope s_law_draw) .none kV2 dc2 pm2 an2 cd2 ct2 := by simp [fd]
  have ha3 : ad "_law_root" = f3 := by simp [ad]
  have hf3 : fd "_law_root" = PySem.W.fnOf "_law_root" "_law_root" (defArgs s_law_root) (defBody s_law_root) (defScope s_law_root) .none kV3 dc3 pm3 an3 cd3 ct3 := by simp [fd]
  have ha4 : ad "_law_due" = f4 := by simp [ad]
  have hf4 : fd "_law_due" = PySem.W.fnOf "_law_due" "_law_due" (defArgs s_law_due) (defBody s_law_due) (defScope s_law_due) .none kV4 dc4 pm4 an4 cd4 ct4 := by simp [fd]
  have ha5 : ad "is_row" = f5 := by simp [ad]
  have hf5 : fd "is_row" = PySem.W.fnOf "is_row" "is_row" (defArgs s_is_row) (defBody s_is_row) (defScope s_is_row) .none kV5 dc5 pm5 an5 cd5 ct5 := by simp [fd]
  have ha6 : ad "_law_words" = f6 := by simp [ad]
  have hf6 : fd "_law_words" = PySem.W.fnOf "_law_words" "_law_words" (defArgs s_law_words) (defBody s_law_words) (defScope s_law_words) .none kV6 dc6 pm6 an6 cd6 ct6 := by simp [fd]
  have ha7 : ad "_law_number" = f7 := by simp [ad]
  have hf7 : fd "_law_number" = PySem.W.fnOf "_law_number" "_law_number" (defArgs s_law_number) (defBody s_law_number) (defScope s_law_number) .none kV7 dc7 pm7 an7 cd7 ct7 := by simp [fd]
  have ha8 : ad "_law_small" = f8 := by simp [ad]
  have hf8 : fd "_law_small" = PySem.W.fnOf "_law_small" "_law_small" (defArgs s_law_small) (defBody s_law_small) (defScope s_law_small) .none kV8 dc8 pm8 an8 cd8 ct8 := by simp [fd]
  have ha9 : ad "_law_odd" = f9 := by simp [ad]
  have hf9 : fd "_law_odd" = PySem.W.fnOf "_law_odd" "_law_odd" (defArgs s_law_odd) (defBody s_law_odd) (defScope s_law_odd) .none kV9 dc9 pm9 an9 cd9 ct9 := by simp [fd]
  have ha10 : ad "_law_otherwise" = f10 := by simp [ad]
  have hf10 : fd "_law_otherwise" = PySem.W.fnOf "_law_otherwise" "_law_otherwise" (defArgs s_law_otherwise) (defBody s_law_otherwise) (defScope s_law_otherwise) .none kV10 dc10 pm10 an10 cd10 ct10 := by simp [fd]
  have ha11 : ad "_law_expr" = f11 := by simp [ad]
  have hf11 : fd "_law_expr" = PySem.W.fnOf "_law_expr" "_law_expr" (defArgs s_law_expr) (defBody s_law_expr) (defScope s_law_expr) .none kV11 dc11 pm11 an11 cd11 ct11 := by simp [fd]
  have ha12 : ad "_law_test" = f12 := by simp [ad]
  have hf12 : fd "_law_test" = PySem.W.fnOf "_law_test" "_law_test" (defArgs s_law_test) (defBody s_law_test) (defScope s_law_test) .none kV12 dc12 pm12 an12 cd12 ct12 := by simp [fd]
  have ha13 : ad "_law_alts" = f13 := by simp [ad]
  have hf13 : fd "_law_alts" = PySem.W.fnOf "_law_alts" "_law_alts" (defArgs s_law_alts) (defBody s_law_alts) (defScope s_law_alts) .none kV13 dc13 pm13 an13 cd13 ct13 := by simp [fd]
  have ha14 : ad "_law_mild" = f14 := by simp [ad]
  have hf14 : fd "_law_mild" = PySem.W.fnOf "_law_mild" "_law_mild" (defArgs s_law_mild) (defBody s_law_mild) (defScope s_law_mild) .none kV14 dc14 pm14 an14 cd14 ct14 := by simp [fd]
  have ha15 : ad "_law_block" = f15 := by simp [ad]
  have hf15 : fd "_law_block" = PySem.W.fnOf "_law_block" "_law_block" (defArgs s_law_block) (defBody s_law_block) (defScope s_law_block) .none kV15 dc15 pm15 an15 cd15 ct15 := by simp [fd]
  have ha16 : ad "_law_statement" = f16 := by simp [ad]
  have hf16 : fd "_law_statement" = PySem.W.fnOf "_law_statement" "_law_statement" (defArgs s_law_statement) (defBody s_law_statement) (defScope s_law_statement) .none kV16 dc16 pm16 an16 cd16 ct16 := by simp [fd]
  have ha17 : ad "_law_if" = f17 := by simp [ad]
  have hf17 : fd "_law_if" = PySem.W.fnOf "_law_if" "_law_if" (defArgs s_law_if) (defBody s_law_if) (defScope s_law_if) .none kV17 dc17 pm17 an17 cd17 ct17 := by simp [fd]
  have ha18 : ad "_law_times" = f18 := by simp [ad]
  have hf18 : fd "_law_times" = PySem.W.fnOf "_law_times" "_law_times" (defArgs s_law_times) (defBody s_law_times) (defScope s_law_times) .none kV18 dc18 pm18 an18 cd18 ct18 := by simp [fd]
  have ha19 : ad "_law_book" = f19 := by simp [ad]
  have hf19 : fd "_law_book" = PySem.W.fnOf "_law_book" "_law_book" (defArgs s_law_book) (defBody s_law_book) (defScope s_law_book) .none kV19 dc19 pm19 an19 cd19 ct19 := by simp [fd]
  have ha20 : ad "law" = f20 := by simp [ad]
  have hf20 : fd "law" = PySem.W.fnOf "law" "law" (defArgs s_law) (defBody s_law) (defScope s_law) .none kV20 dc20 pm20 an20 cd20 ct20 := by simp [fd]
  clear_value ad fd
  have T : Txt K mg ad fd := {
    F_is_count := by rw [ha0, hf0]; exact F0
    g_is_count := by rw [ha0]; exact PySem.W.mg_of X G a0
    b_is_count := by rw [hf0]; exact b0
    F_law_deal := by rw [ha1, hf1]; exact F1
    g_law_deal := by rw [ha1]; exact PySem.W.mg_of X G a1
    b_law_deal := by rw [hf1]; exact b1
    F_law_draw := by rw [ha2, hf2]; exact F2
    g_law_draw := by rw [ha2]; exact PySem.W.mg_of X G a2
    b_law_draw := by rw [hf2]; exact b2
    F_law_root := by rw [ha3, hf3]; exact F3
    g_law_root := by rw [ha3]; exact PySem.W.mg_of X G a3
    b_law_root := by rw [hf3]; exact b3
    F_law_due := by rw [ha4, hf4]; exact F4
    g_law_due := by rw [ha4]; exact PySem.W.mg_of X G a4
    b_law_due := by rw [hf4]; exact b4
    F_is_row := by rw [ha5, hf5]; exact F5
    g_is_row := by rw [ha5]; exact PySem.W.mg_of X G a5
    b_is_row := by rw [hf5]; exact b5
    F_law_words := by rw [ha6, hf6]; exact F6
    g_law_words := by rw [ha6]; exact PySem.W.mg_of X G a6
    b_law_words := by rw [hf6]; exact b6
    F_law_number := by rw [ha7, hf7]; exact F7
    g_law_number := by rw [ha7]; exact PySem.W.mg_of X G a7
    b_law_number := by rw [hf7]; exact b7
    F_law_small := by rw [ha8, hf8]; exact F8
    g_law_small := by rw [ha8]; exact PySem.W.mg_of X G a8
    b_law_small := by rw [hf8]; exact b8
    F_law_odd := by rw [ha9, hf9]; exact F9
    g_law_odd := by rw [ha9]; exact PySem.W.mg_of X G a9
    b_law_odd := by rw [hf9]; exact b9
    F_law_otherwise := by rw [ha10, hf10]; exact F10
    g_law_otherwise := by rw [ha10]; exact PySem.W.mg_of X G a10
    b_law_otherwise := by rw [hf10]; exact b10
    F_law_expr := by rw [ha11, hf11]; exact F11
    g_law_expr := by rw [ha11]; exact PySem.W.mg_of X G a11
    b_law_expr := by rw [hf11]; exact b11
    F_law_test := by rw [ha12, hf12]; exact F12
    g_law_test := by rw [ha12]; exact PySem.W.mg_of X G a12
    b_law_test := by rw [hf12]; exact b12
    F_law_alts := by rw [ha13, hf13]; exact F13
    g_law_alts := by rw [ha13]; exact PySem.W.mg_of X G a13
    b_law_alts := by rw [hf13]; exact b13
    F_law_mild := by rw [ha14, hf14]; exact F14
    g_law_mild := by rw [ha14]; exact PySem.W.mg_of X G a14
    b_law_mild := by rw [hf14]; exact b14
    F_law_block := by rw [ha15, hf15]; exact F15
    g_law_block := by rw [ha15]; exact PySem.W.mg_of X G a15
    b_law_block := by rw [hf15]; exact b15
    F_law_statement := by rw [ha16, hf16]; exact F16
    g_law_statement := by rw [ha16]; exact PySem.W.mg_of X G a16
    b_law_statement := by rw [hf16]; exact b16
    F_law_if := by rw [ha17, hf17]; exact F17
    g_law_if := by rw [ha17]; exact PySem.W.mg_of X G a17
    b_law_if := by rw [hf17]; exact b17
    F_law_times := by rw [ha18, hf18]; exact F18
    g_law_times := by rw [ha18]; exact PySem.W.mg_of X G a18
    b_law_times := by rw [hf18]; exact b18
    F_law_book := by rw [ha19, hf19]; exact F19
    g_law_book := by rw [ha19]; exact PySem.W.mg_of X G a19
    b_law_book := by rw [hf19]; exact b19
    F_law := by rw [ha20, hf20]; exact F20
    g_law := by rw [ha20]; exact PySem.W.mg_of X G a20
    b_law := by rw [hf20]; exact b20
    g_WIDE_ROW := ⟨_, PySem.W.mg_of X G g0, h0⟩
    z_isinstance := PySem.W.mg_none_of X G z0
    z_int := PySem.W.mg_none_of X G z1
    z_bool := PySem.W.mg_none_of X G z2
    z_max := PySem.W.mg_none_of X G z3
    z_list := PySem.W.mg_none_of X G z4
    z_reversed := PySem.W.mg_none_of X G z5
    z_len := PySem.W.mg_none_of X G z6
    z_range := PySem.W.mg_none_of X G z7
    z_tuple := PySem.W.mg_none_of X G z8
    z_all := PySem.W.mg_none_of X G z9
    z_min := PySem.W.mg_none_of X G z10
    z_repr := PySem.W.mg_none_of X G z11
  }
  refine ⟨PySem.W.fnOf "law" "law" (defArgs s_law) (defBody s_law) (defScope s_law) .none kV20 dc20 pm20 an20 cd20 ct20, fun s v => .of_eq rfl, fun base _ _ hnd => ?_⟩
  have r := ok_law (P := l.prog) (w := w) (base := base) T
  rw [ha20, hf20] at r
  exact r
end Ct
open PySem PySem.W PyProof.Rows Ct
set_option maxHeartbeats 0 in
theorem PySem.Challenge.cw_chancetongue_k13_rows_of_data_holds : PySem.Challenge.rw_chancetongue_k13_rows_of_data.Holds := by
  w_on; o_law; k_head; (case hw => w_witness2)
  k_fill
  refine Ct.walk_ofG (l := PySem.Challenge.rw_chancetongue_k13_rows_of_data) (n := 63) (k := 40) (x := "_law_script") (CX := fun _ => L2.CX0) (sp := fun w => spL _) rfl (by decide) rfl ⟨rfl, by decide, by decide⟩ (fun w h Y => PySem.W.kIn_of Y) ?F (fun _ _ a ns hl hb hO hS => ⟨a, ns, rfl, hS, hl, hb, hO, fun _ => rfl⟩) (fun _ _ _ _ _ h => h)
  case F =>
    intro w mg fa h KX G hmg
    refine' all_mk KX G hmg ?y_a0 ?y_l0 ?y_c0 ?y_k0 ?y_a1 ?y_l1 ?y_c1 ?y_k1 ?y_a2 ?y_l2 ?y_c2 ?y_k2 ?y_a3 ?y_l3 ?y_c3 ?y_k3 ?y_a4 ?y_l4 ?y_c4 ?y_k4 ?y_a5 ?y_l5 ?y_c5 ?y_k5 ?y_a6 ?y_l6 ?y_c6 ?y_k6 ?y_a7 ?y_l7 ?y_c7 ?y_k7 ?y_a8 ?y_l8 ?y_c8 ?y_k8 ?y_a9 ?y_l9 ?y_c9 ?y_k9 ?y_a10 ?y_l10 ?y_c10 ?y_k10 ?y_a11 ?y_l11 ?y_c11 ?y_k11 ?y_a12 ?y_l12 ?y_c12 ?y_k12 ?y_a13 ?y_l13 ?y_c13 ?y_k13 ?y_a14 ?y_l14 ?y_c14 ?y_k14 ?y_a15 ?y_l15 ?y_c15 ?y_k15 ?y_a16 ?y_l16 ?y_c16 ?y_k16 ?y_a17 ?y_l17 ?y_c17 ?y_k17 ?y_a18 ?y_l18 ?y_c18 ?y_k18 ?y_a19 ?y_l19 ?y_c19 ?y_k19 ?y_a20 ?y_l20 ?y_c20 ?y_k20 ?y_g0 ?y_h0 ?y_z0 ?y_z1 ?y_z2 ?y_z3 ?y_z4 ?y_z5 ?y_z6 ?y_z7 ?y_z8 ?y_z9 ?y_z10 ?y_z11
    (case y_a0 => k_is); (case y_l0 => k_is); (case y_c0 => k_is); (case y_k0 => k_is); (case y_a1 => k_is); (case y_l1 => k_is); (case y_c1 => k_is); (case y_k1 => k_is); (case y_a2 => k_is); (case y_l2 => k_is); (case y_c2 => k_is); (case y_k2 => k_is); (case y_a3 => k_is); (case y_l3 => k_is); (case y_c3 => k_is); (case y_k3 => k_is); (case y_a4 => k_is); (case y_l4 => k_is); (case y_c4 => k_is); (case y_k4 => k_is); (case y_a5 => k_is); (case y_l5 => k_is); (case y_c5 => k_is); (case y_k5 => k_is); (case y_a6 => k_is); (case y_l6 => k_is); (case y_c6 => k_is); (case y_k6 => k_is); (case y_a7 => k_is); (case y_l7 => k_is); (case y_c7 => k_is); (case y_k7 => k_is); (case y_a8 => k_is); (case y_l8 => k_is); (case y_c8 => k_is); (case y_k8 => k_is); (case y_a9 => k_is); (case y_l9 => k_is); (case y_c9 => k_is); (case y_k9 => k_is); (case y_a10 => k_is); (case y_l10 => k_is); (case y_c10 => k_is); (case y_k10 => k_is); (case y_a11 => k_is); (case y_l11 => k_is); (case y_c11 => k_is); (case y_k11 => k_is); (case y_a12 => k_is); (case y_l12 => k_is); (case y_c12 => k_is); (case y_k12 => k_is); (case y_a13 => k_is); (case y_l13 => k_is); (case y_c13 => k_is); (case y_k13 => k_is); (case y_a14 => k_is); (case y_l14 => k_is); (case y_c14 => k_is); (case y_k14 => k_is); (case y_a15 => k_is); (case y_l15 => k_is); (case y_c15 => k_is); (case y_k15 => k_is); (case y_a16 => k_is); (case y_l16 => k_is); (case y_c16 => k_is); (case y_k16 => k_is); (case y_a17 => k_is); (case y_l17 => k_is); (case y_c17 => k_is); (case y_k17 => k_is); (case y_a18 => k_is); (case y_l18 => k_is); (case y_c18 => k_is); (case y_k18 => k_is); (case y_a19 => k_is); (case y_l19 => k_is); (case y_c19 => k_is); (case y_k19 => k_is); (case y_a20 => k_is); (case y_l20 => k_is); (case y_c20 => k_is); (case y_k20 => k_is); (case y_g0 => k_is); (case y_h0 => exact ⟨_, rfl⟩); (case y_z0 => k_is); (case y_z1 => k_is); (case y_z2 => k_is); (case y_z3 => k_is); (case y_z4 => k_is); (case y_z5 => k_is); (case y_z6 => k_is); (case y_z7 => k_is); (case y_z8 => k_is); (case y_z9 => k_is); (case y_z10 => k_is); (case y_z11 => k_is)
