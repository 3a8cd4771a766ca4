import PyProof.Rows.All
import Wide.All
import OpenK.AllK
import Wide.FinOn
import PySem.Challenge.RW_nu0047_01
open PySem PySem.W PyProof.Rows
set_option Elab.async false
set_option maxRecDepth 100000
set_option maxHeartbeats 8000000
namespace Mine
open_top hd for PySem.Challenge.rw_nu0047_01
open PySem.Calls PyProof.V PySem.Spec
section
/-- all but W stays -/
def Kp (W : List Addr) (h h' : Heap) : Prop := ∀ b o, b ∉ W → h.get? b = some o → h'.get? b = some o
theorem Kp.refl (W : List Addr) (h : Heap) : Kp W h h := fun _ _ _ e => e
theorem Kp.trans {W : List Addr} {h h' h'' : Heap} (a : Kp W h h') (b : Kp W h' h'') : Kp W h h'' := fun x o n e => b x o n (a x o n e)
theorem Kp.mono {W W' : List Addr} {h h' : Heap} (a : Kp W h h') (s : ∀ x ∈ W, x ∈ W') : Kp W' h h' := fun x o n e => a x o (fun q => n (s x q)) e
theorem Kp.fr {W : List Addr} {h₀ h h' : Heap} {L : Addr} {m : PySem.Str → Option Value} (k : Kp W h h') (F : Fr h₀ L h m) (hL : L ∉ W) (h0 : ∀ b ∈ W, h₀.get? b = none) : Fr h₀ L h' m :=
  ⟨F.ns.at' fun o e => k L o hL e, fun b o e => k b o (fun q => by rw [h0 b q] at e; cases e) (F.keep b o e), F.above⟩
theorem Kp.news {W : List Addr} {h₀ h h' : Heap} {L : Addr} {news : List (Addr × Obj)} (k : Kp W h h') (N : News h₀ L h news) (hn : ∀ p ∈ news, p.1 ∉ W) : News h₀ L h' news :=
  fun p hp => ⟨k _ _ (hn p hp) (N p hp).1, (N p hp).2⟩

theorem sub_news {h₀ h : Heap} {L : Addr} {l l' : List (Addr × Obj)} (N : News h₀ L h l) (s : ∀ p ∈ l', p ∈ l) : News h₀ L h l' := fun p hp => N p (s p hp)

section
variable {prog : Program} {w : World} {A A₀ : Around} {s : Shared} {K : Frag} {L : Addr} {h₀ base : Heap} {m mg mb : PySem.Str → Option Value} {news : List (Addr × Obj)} {p : Program} {loose : List PySem.Str} {mean : ExcName → Option Value}
/-- a def of the fragment is entered: the ground keeps all that the ledger handed on does not name -/
theorem enter {env : Env} {outer : List Env} {R : Result → Shared → Prop} {name qual : PySem.Str} {params : Arguments} {body : List Stmt} {scope : Scope} {dV kV doc pm cdv ct oc : Value} {an od : Option Addr} {osl : Array (Option Value)} {f : Addr} {args : Args} {binds : List (PySem.Str × Value)}
    (B : Below A₀ base outer h₀) (F : Fr h₀ L s.heap m) (X₀ : K.In h₀) (N : News h₀ L s.heap news) (T : Top p loose mean mg mb h₀) (hA : A.frames = some (env :: outer)) (hf : env.frame = some L) (hke : env.scope.kind = .function)
    (ho : K.lookup f = some ⟨oc, od, .func (fnOf name qual params body scope dV kV doc pm an cdv ct), osl⟩) (hcd : codeIn K cdv qual = true) (hroom : A.depth < recursionLimit)
    (hbind : BindsTo s (fnOf name qual params body scope dV kV doc pm an cdv ct) args binds) (hloc : ∀ y ∈ binds, scope.names.lookup y.1 = some .local)
    (h : ∀ g L' h₁, Kp (news.map (·.1)) s.heap g → s.heap.objs.size ≤ L' → Fr h₀ L g m → Fr g L' h₁ (fun y => binds.reverse.lookup y) → News g L' h₁ news → Below A base (env :: outer) g → K.In g → Top p loose mean mg mb g →
      wpAny (model prog w) (A.deeper (envOf qual scope L' f cdv)) (execs body (envOf qual scope L' f cdv))
        (fun fl s' => LeaveK h₀ L m g R (match fl with | .ret v => v | _ => .none) s')
        (fun e s' => wpAny (model prog w) (A.deeper (envOf qual scope L' f cdv)) (leaving (envOf qual scope L' f cdv) e) (fun _ s'' => R (.error e) s'') (fun e' s'' => R (.error e') s'') s')
        { s with heap := h₁, toks := s.toks + binds.length })
    (hco : scope.isCoroutine = false) (hgen : scope.isGenerator = false) (hk : scope.kind = .function)
    (hcell : ∀ x ∈ scope.names, x.2 ≠ .cell) : codeAny (model prog w) A (.call (.ref f) args) R s := by
  obtain ⟨FG, BG, st, lv⟩ := groundX (R := R) B F N hA hf hke
  refine codeAny_call_def (fd := fnX name qual params body scope [] dV kV doc pm an cdv ct) (body := body) (binds := binds) hroom ((X₀.keeps F.keep) _ _ ho) rfl (T.nolimit.keeps F.keep) (codeRec_of (X₀.keeps F.keep) hcd) rfl hbind hcell hloc (fun h₁ hns hk₁ => ?_) hco hgen hk
  refine wpAny_mono (h _ s.heap.objs.size h₁ (fun b o n e => hideAll_get _ e n) (Nat.le_refl _) FG ⟨hns, fun b o e => hk₁ b o (of_hideAll _ e), Nat.le_of_eq (hideAll_size _ _)⟩
    (fun q hq => ⟨hk₁ _ _ (N q hq).1, Nat.ne_of_lt (Heap.lt_size (N q hq).1), hideAll_none _ (List.mem_map_of_mem hq)⟩) BG (X₀.keeps st) (T.keeps st)) (fun fl s' hl => lv _ _ hl) fun _ _ y => y
/-- the same, where names of the def are cells -/
theorem enterC {env : Env} {outer : List Env} {R : Result → Shared → Prop} {name qual : PySem.Str} {params : Arguments} {body : List Stmt} {scope : Scope} {dV kV doc pm cdv ct oc : Value} {an od : Option Addr} {osl : Array (Option Value)} {f : Addr} {args : Args} {binds : List (PySem.Str × Value)}
    (B : Below A₀ base outer h₀) (F : Fr h₀ L s.heap m) (X₀ : K.In h₀) (N : News h₀ L s.heap news) (T : Top p loose mean mg mb h₀) (hA : A.frames = some (env :: outer)) (hf : env.frame = some L) (hke : env.scope.kind = .function)
    (ho : K.lookup f = some ⟨oc, od, .func (fnOf name qual params body scope dV kV doc pm an cdv ct), osl⟩) (hcd : codeIn K cdv qual = true) (hroom : A.depth < recursionLimit)
    (hbind : BindsTo s (fnOf name qual params body scope dV kV doc pm an cdv ct) args binds) (hkind : (binds.all fun y => scope.names.lookup y.1 == some .local || scope.names.lookup y.1 == some .cell) = true)
    (hnd : ((cellsFrom 0 scope.names []).map (·.1)).Nodup)
    (h : ∀ g L' h₁ tk cells, Kp (news.map (·.1)) s.heap g → s.heap.objs.size ≤ L' → Fr h₀ L g m → Fr g L' h₁ (bindL (envOfC qual scope L' f cdv).kindOf binds fun _ => none) → News g L' h₁ (cells ++ news) →
      CellsAre (bindC (envOfC qual scope L' f cdv).kindOf binds fun _ => none) (cellsFrom (L' + 1) scope.names []) cells → Below A base (env :: outer) g → K.In g → Top p loose mean mg mb g → (∀ p ∈ news, p.1 < L') →
      wpAny (model prog w) (A.deeper (envOfC qual scope L' f cdv)) (execs body (envOfC qual scope L' f cdv))
        (fun fl s' => LeaveK h₀ L m g R (match fl with | .ret v => v | _ => .none) s')
        (fun e s' => wpAny (model prog w) (A.deeper (envOfC qual scope L' f cdv)) (leaving (envOfC qual scope L' f cdv) e) (fun _ s'' => R (.error e) s'') (fun e' s'' => R (.error e') s'') s')
        { s with heap := h₁, toks := tk })
    (hco : scope.isCoroutine = false) (hgen : scope.isGenerator = false) (hk : scope.kind = .function) : codeAny (model prog w) A (.call (.ref f) args) R s := by
  obtain ⟨FG, BG, st, lv⟩ := groundX (R := R) B F N hA hf hke
  refine codeAny_call_function hroom ((X₀.keeps F.keep) _ _ ho) rfl hco hgen rfl (codeRec_of (X₀.keeps F.keep) hcd) (hbind _ _ _ _ ?_)
  refine wpAny_newFunctionEnv_cells hk (kindsX hkind _) fun env' he s' x => ?_
  subst he
  refine ⟨(T.nolimit.keeps F.keep).keeps x.toInCall.keep, codeAny_func ?_⟩
  obtain ⟨h₁, tk, rfl, _⟩ := x.done
  have hk₁ := x.toInCall.keep
  obtain ⟨cells, NC, Y⟩ := Cl.news (h₀ := s.heap) (Nat.le_refl _) fun n c hm => ⟨x.cell n c (lookup_of_mem_nodup (cellsFrom_names scope.names 0 (s.heap.objs.size + 1) [] [] rfl ▸ hnd) hm), x.above n c hm⟩
  refine wpAny_mono (h _ s.heap.objs.size h₁ tk cells (fun b o n e => hideAll_get _ e n) (Nat.le_refl _) FG ⟨x.toInCall.ns, fun b o e => hk₁ b o (of_hideAll _ e), Nat.le_of_eq (hideAll_size _ _)⟩ (fun q hq => ?_) Y BG (X₀.keeps st) (T.keeps st) (fun q hq => Heap.lt_size (N q hq).1)) (fun fl s' hl => lv _ _ hl) fun _ _ y => y
  rcases List.mem_append.mp hq with hq | hq
  · refine ⟨(NC q hq).1, (NC q hq).2.1, ?_⟩
    cases z : (hideAll s.heap (news.map (·.1))).get? q.1 with
    | none => rfl
    | some o => have := of_hideAll _ z; rw [(NC q hq).2.2] at this; cases this
  · exact ⟨hk₁ _ _ (N q hq).1, Nat.ne_of_lt (Heap.lt_size (N q hq).1), hideAll_none _ (List.mem_map_of_mem hq)⟩
end

/-- one entry of the ledger is another behind a step that keeps all else -/
theorem updF_news {h₀ h h' : Heap} {L d : Addr} {o o' : Obj} {news : List (Addr × Obj)} {u : Obj → List (Addr × Obj)} (U : UpdF d o news u) (N : News h₀ L h news) (k : Kp [d] h h') (hd : h'.get? d = some o') : News h₀ L h' (u o') := by
  obtain ⟨pre, post, rfl, hg, a, b⟩ := U.split
  rw [hg]
  intro q hq
  have hD := N (d, o) (by simp)
  rcases List.mem_append.mp hq with h1 | h1
  · have := N q (List.mem_append_left _ h1)
    exact ⟨k _ _ (by simpa using a q h1) this.1, this.2⟩
  · rcases List.mem_cons.mp h1 with rfl | h1
    · exact ⟨hd, hD.2⟩
    · have := N q (List.mem_append_right _ (List.mem_cons_of_mem _ h1))
      exact ⟨k _ _ (by simpa using b q h1) this.1, this.2⟩
theorem updF_mem {d : Addr} {o : Obj} {news : List (Addr × Obj)} {u : Obj → List (Addr × Obj)} (U : UpdF d o news u) : (d, o) ∈ news := by
  obtain ⟨pre, post, rfl, _⟩ := U.split
  simp
end
section
abbrev PG : Program := PySem.Challenge.rw_nu0047_01.row.prog
abbrev ixDict (w : World) (tk : Tok) (nd : Addr) (n : Nat) : Obj := dictOf [⟨PyData.keyHash w.params (PySem.Str.ofString "names"), .str (PySem.Str.ofString "names") tk, .ref nd⟩] n
section
variable {w : World} {A : Around} {E : Value → Shared → Prop} {Q : Value → Shared → Prop} {s : Shared} {d : Addr} {kvs : List (PySem.Str × Value)} {k : PySem.Str} {tk : Tok} {v dflt : Value}
theorem notin_hit (hD : s.heap.DictOf (strKind PG w) d kvs) (lo : (d == sysModules) = false) (hl : valueAt kvs k = some v) (h : Q (.bool false) { s with toks := s.toks + 1 }) :
    wpAny (model PG w) A (compareOp .NotIn (.str k tk) (.ref d)) Q E s := wpAny_notIn_of (strKind_is _ _ _ _) lo hD.mapOf (by rw [hl]; exact h)
theorem notin_miss (hD : s.heap.DictOf (strKind PG w) d kvs) (lo : (d == sysModules) = false) (hl : valueAt kvs k = none) (h : Q (.bool true) { s with toks := s.toks + 1 }) :
    wpAny (model PG w) A (compareOp .NotIn (.str k tk) (.ref d)) Q E s := wpAny_notIn_of (strKind_is _ _ _ _) lo hD.mapOf (by rw [hl]; exact h)
theorem in_hit (hD : s.heap.DictOf (strKind PG w) d kvs) (lo : (d == sysModules) = false) (hl : valueAt kvs k = some v) (h : Q (.bool true) { s with toks := s.toks + 1 }) :
    wpAny (model PG w) A (compareOp .In (.str k tk) (.ref d)) Q E s := wpAny_in_of (strKind_is _ _ _ _) lo hD.mapOf (by rw [hl]; exact h)
theorem in_miss (hD : s.heap.DictOf (strKind PG w) d kvs) (lo : (d == sysModules) = false) (hl : valueAt kvs k = none) (h : Q (.bool false) { s with toks := s.toks + 1 }) :
    wpAny (model PG w) A (compareOp .In (.str k tk) (.ref d)) Q E s := wpAny_in_of (strKind_is _ _ _ _) lo hD.mapOf (by rw [hl]; exact h)
theorem sitem_hit {value slice : PySem.Expr} (hD : s.heap.DictOf (strKind PG w) d kvs) (hl : valueAt kvs k = some v) (h : Q v { s with toks := s.toks + 1 })
    (hs : subscripted slice false (.ref d) (.str k tk) = operate [.ref d, .str k tk] (getItem (.ref d) (.str k tk)) := by with_unfolding_all rfl) :
    wpAny (model PG w) A (subscriptTail value slice (.ref d) (.str k tk)) Q E s :=
  tail_any hD.typeIs slot_dict_getitem.lookup (wpAny_getItem_of (strKind_is _ _ _ _) hD.mapOf hl h) hs
theorem iitem_hit {kvi : List (Int × Value)} {i : Int} {value slice : PySem.Expr} (hD : s.heap.DictOf (intKind PG w) d kvi) (hl : valueAt kvi i = some v) (h : Q v { s with toks := s.toks + 1 })
    (hs : subscripted slice false (.ref d) (.int i tk) = operate [.ref d, .int i tk] (getItem (.ref d) (.int i tk)) := by with_unfolding_all rfl) :
    wpAny (model PG w) A (subscriptTail value slice (.ref d) (.int i tk)) Q E s :=
  tail_any hD.typeIs slot_dict_getitem.lookup (wpAny_getItem_of (intKind_is _ _ _ _) hD.mapOf hl h) hs
theorem sget_item (hD : s.heap.DictOf (strKind PG w) d kvs) (hl : valueAt kvs k = some v) (h : Q v { s with toks := s.toks + 1 }) :
    wpAny (model PG w) A (getItem (.ref d) (.str k tk)) Q E s := wpAny_getItem_of (strKind_is _ _ _ _) hD.mapOf hl h
theorem iget_item {kvi : List (Int × Value)} {i : Int} (hD : s.heap.DictOf (intKind PG w) d kvi) (hl : valueAt kvi i = some v) (h : Q v { s with toks := s.toks + 1 }) :
    wpAny (model PG w) A (getItem (.ref d) (.int i tk)) Q E s := wpAny_getItem_of (intKind_is _ _ _ _) hD.mapOf hl h
theorem meth_setdef {pl : Sem Bool} {Q : Value × List Value → Shared → Prop} (hD : s.heap.DictOf (strKind PG w) d kvs) (h : Q (.builtin "dict.setdefault", [.ref d]) s) :
    wpAny (model PG w) A (getMethod (.ref d) (PySem.Str.ofString "setdefault") pl) Q E s :=
  getMethod_builtin hD.typeIs PySem.F.plainAttrs_dict PySem.F.slot_dict_setdefault PySem.F.type_dict_setdefault hD.mapOf.noDict h
theorem meth_get {pl : Sem Bool} {Q : Value × List Value → Shared → Prop} (hD : s.heap.DictOf (strKind PG w) d kvs) (h : Q (.builtin "dict.get", [.ref d]) s) :
    wpAny (model PG w) A (getMethod (.ref d) (PySem.Str.ofString "get") pl) Q E s :=
  getMethod_builtin hD.typeIs PySem.F.plainAttrs_dict PySem.F.slot_dict_get PySem.F.type_dict_get hD.mapOf.noDict h
theorem setdef_hit (hD : s.heap.DictOf (strKind PG w) d kvs) (lo : (d == sysModules) = false) (hl : valueAt kvs k = some v) (hz : kvs.length ≤ 100) (h : Q v { s with toks := s.toks + 1 }) :
    wpAny (model PG w) A (call (.builtin "dict.setdefault") [.ref d, .str k tk, dflt]) Q E s :=
  call_meetsIn PySem.F.slot_dict_setdefault hD.typeIs PySem.F.entry_dict_setdefault (PySem.F.args_dict_setdefault_3 _ _ _) (kt_meets_setdefault (strKind PG w) d (strKind_is _ _ _ _) lo dflt) ⟨kvs, hD, by rw [sizeLine_eq]; omega, (fun v' hv' => by rw [hl] at hv'; cases hv'; exact h), fun hn => by rw [hl] at hn; cases hn⟩
theorem get_hit (hD : s.heap.DictOf (strKind PG w) d kvs) (lo : (d == sysModules) = false) (hl : valueAt kvs k = some v) (h : Q v { s with toks := s.toks + 1 }) :
    wpAny (model PG w) A (call (.builtin "dict.get") [.ref d, .str k tk, dflt]) Q E s :=
  call_meetsIn PySem.F.slot_dict_get hD.typeIs PySem.F.entry_dict_get (PySem.F.args_dict_get_3 _ _ _) (meets_dict_get_default (strKind PG w) d (strKind_is _ _ _ _) lo dflt) ⟨_, hD.mapOf, by rw [hl]; exact h⟩
theorem get_miss (hD : s.heap.DictOf (strKind PG w) d kvs) (lo : (d == sysModules) = false) (hl : valueAt kvs k = none) (h : Q dflt { s with toks := s.toks + 1 }) :
    wpAny (model PG w) A (call (.builtin "dict.get") [.ref d, .str k tk, dflt]) Q E s :=
  call_meetsIn PySem.F.slot_dict_get hD.typeIs PySem.F.entry_dict_get (PySem.F.args_dict_get_3 _ _ _) (meets_dict_get_default (strKind PG w) d (strKind_is _ _ _ _) lo dflt) ⟨_, hD.mapOf, by rw [hl]; exact h⟩
end
theorem dictOf_keep {K : Type} [DecidableEq K] {prog : Program} {w : World} {knd : KeyKind prog w K} {h h' : Heap} {d : Addr} {kvs : List (K × Value)} (hD : h.DictOf knd d kvs) (k : ∀ b o, h.get? b = some o → h'.get? b = some o) : h'.DictOf knd d kvs :=
  let ⟨o, es, ep, ho, r⟩ := hD; ⟨o, es, ep, k _ _ ho, r⟩
theorem Kp.of_news {W : List Addr} {news news' : List (Addr × Obj)} {h₀ h g h' : Heap} {L L' : Addr} {m' : PySem.Str → Option Value} (kp : Kp (news.map (·.1)) h g) (FZ : Fr g L' h' m') (N : News h₀ L h news) (N' : News g L' h' news') (hs : ∀ p ∈ news, p.1 ∈ W ∨ p ∈ news') : Kp W h h' := by
  intro b o nb e
  by_cases hb : b ∈ news.map (·.1)
  · obtain ⟨q, hq, rfl⟩ := List.mem_map.mp hb
    have e1 := (N q hq).1
    rw [e] at e1
    cases e1
    rcases hs q hq with h1 | h1
    · exact absurd h1 nb
    · exact (N' q h1).1
  · exact FZ.keep b o (kp b o hb e)

theorem Kp.fresh {W : List Addr} {h g : Heap} {l : Addr} (kp : Kp W h g) (hg : g.get? l = none) (hn : l ∉ W) : h.get? l = none := by
  cases e : h.get? l with
  | none => rfl
  | some o => rw [kp l o hn e] at hg; cases hg

/-- add's own turn upon one list -/
def addN (ns : List Int) (i : Int) : List Int := if (ns.drop (ns.length - 1)).any (fun x => x == i) then ns else ns ++ [i]
theorem addN_nil (i : Int) : addN [] i = [i] := rfl
theorem addN_len (ns : List Int) (i : Int) : (addN ns i).length ≤ ns.length + 1 := by unfold addN; split <;> simp
theorem intsAre_snoc {vs : List Value} {ns : List Int} (h : IntsAre vs ns) (i : Int) (t : Tok) : IntsAre (vs ++ [.int i t]) (ns ++ [i]) := h.append (.cons _ _ .nil)
theorem instAt_g {h g : Heap} {x C dx : Addr} {od : Obj} {sl : Array (Option Value)} (k : ∀ b o, g.get? b = some o → h.get? b = some o) (h1 : g.get? x = some (⟨.ref C, some dx, .plain, sl⟩ : Obj)) (h2 : g.get? dx = some od) :
    InstAt h x ⟨.ref C, some dx, .plain, sl⟩ C (some od) := ⟨k _ _ h1, rfl, rfl, k _ _ h2⟩
theorem Kp.all {h h' : Heap} (k : Kp [] h h') : ∀ b o, h.get? b = some o → h'.get? b = some o := fun b o e => k b o (fun h => nomatch h) e
/-- one text's nodes under a key -/
structure TE where
  t : PySem.Str
  l : Addr
  vs : List Value
  ns : List Int
  n : Nat
abbrev kvT (es : List TE) : List (PySem.Str × Value) := es.map fun e => (e.t, Value.ref e.l)
abbrev TE.ent (e : TE) : Addr × Obj := (e.l, listOf e.vs.toArray e.n)
def getT (es : List TE) (t : PySem.Str) : List Int := ((es.find? fun e => decide (e.t = t)).map TE.ns).getD []
theorem getT_some {es : List TE} {t : PySem.Str} {e : TE} (h : (es.find? fun e => decide (e.t = t)) = some e) : getT es t = e.ns := by unfold getT; rw [h]; rfl
theorem getT_none {es : List TE} {t : PySem.Str} (h : (es.find? fun e => decide (e.t = t)) = none) : getT es t = [] := by unfold getT; rw [h]; rfl
theorem valueAt_kvT (es : List TE) (t : PySem.Str) : valueAt (kvT es) t = (es.find? fun e => decide (e.t = t)).map fun e => Value.ref e.l := by
  unfold valueAt kvT
  induction es with
  | nil => rfl
  | cons e es ih =>
    rw [List.map_cons, List.find?_cons, List.find?_cons]
    by_cases h : e.t = t
    · simp [h]
    · simp only [h, decide_false]; exact ih
/-- a key's dict as it stands in the heap -/
structure TxAt (w : World) (h : Heap) (d : Addr) (es : List TE) : Prop where
  dict : h.DictOf (strKind PG w) d (kvT es)
  lists : ∀ e ∈ es, h.get? e.l = some (listOf e.vs.toArray e.n) ∧ IntsAre e.vs e.ns
  lo : (d == sysModules) = false
theorem TxAt.keep {w : World} {h h' : Heap} {d : Addr} {es : List TE} (x : TxAt w h d es) (k : ∀ b o, h.get? b = some o → h'.get? b = some o) : TxAt w h' d es :=
  ⟨dictOf_keep x.dict k, fun e he => ⟨k _ _ (x.lists e he).1, (x.lists e he).2⟩, x.lo⟩
theorem isList_of {h : Heap} {l : Addr} {its : Array Value} {n : Nat} (e : h.get? l = some (listOf its n)) : h.IsList l its := ⟨_, e, rfl, _, rfl⟩
end
section
/-- a turn's end: the frame, the ledger of the next turn, what the iterator holds -/
def TurnEnd (h₀ : Heap) (L : Addr) (J : (PySem.Str → Option Value) → List (Addr × Obj) → Prop) (own : List (Addr × Obj)) (s₁ s₂ : Shared) : Prop :=
  ∃ h' tk m' nx, s₂ = { s₁ with heap := h', toks := tk } ∧ Fr h₀ L h' m' ∧ News h₀ L h' nx ∧ (∀ p ∈ own, h'.get? p.1 = some p.2) ∧ (∀ q ∈ nx, ∀ p ∈ own, q.1 ≠ p.1) ∧ J m' nx
def TurnPost (h₀ : Heap) (L : Addr) (J : (PySem.Str → Option Value) → List (Addr × Obj) → Prop) (own : List (Addr × Obj)) (s₁ : Shared) (Q : Flow → Shared → Prop) (f : Flow) (s₂ : Shared) : Prop :=
  match f with
  | .ret v => Q (.ret v) s₂
  | .brk => Q .next s₂
  | _ => TurnEnd h₀ L J own s₁ s₂
section
variable {prog : Program} {w : World} {A : Around} {E : Value → Shared → Prop} {s : Shared} {env : Env} {h₀ : Heap} {x : PySem.Str} {body : List Stmt} {Q : Flow → Shared → Prop}
/-- a for over anything that walks: the ledger may grow from turn to turn -/
theorem iter_walks {I : Addr} {fp : List Addr} {n : Nat} {P : Nat → Value → Prop} {St : Nat → Heap → Prop} {m₀ : PySem.Str → Option Value} {news : List (Addr × Obj)}
    (J : Nat → (PySem.Str → Option Value) → List (Addr × Obj) → Prop) (W : Walks prog w A I fp [I] n P St) (hL : env.locals ∉ fp) (hI : h₀.get? I = none) (hst : St 0 s.heap)
    (hIs : ∀ i h, St i h → ∃ o, h.get? I = some o) (F : Fr h₀ env.locals s.heap m₀) (N : News h₀ env.locals s.heap news) (hn : ∀ p ∈ news, p.1 ∉ fp) (hfp : ∀ i h, St i h → ∀ b ∈ fp, ∃ o, h.get? b = some o) (hj : J 0 m₀ news)
    (turn : ∀ i v m₁ news₁ h tk own, i < n → P i v → J i m₁ news₁ → (∀ q ∈ news₁, ∀ p ∈ own, q.1 ≠ p.1) → News h₀ env.locals h own → Fr h₀ env.locals h (fun y => if y = x then some v else m₁ y) → News h₀ env.locals h news₁ →
      wpAny (model prog w) A (execs body env) (TurnPost h₀ env.locals (J (i + 1)) own { s with heap := h, toks := tk } Q) E { s with heap := h, toks := tk })
    (done : ∀ m₁ news₁ h tk, J n m₁ news₁ → Fr h₀ env.locals h m₁ → News h₀ env.locals h news₁ → Q .next { s with heap := h, toks := tk }) :
    LoopAtV prog w A h₀ env x body Q E (.ref I) s := by
  refine ⟨I, fp, [I], n, P, St, m₀, news, (fun i m₁ news₁ => J i m₁ news₁ ∧ ∀ p ∈ news₁, p.1 ∉ fp), rfl, W, hL, ?_, ?_, hst, F, N, ⟨hj, hn⟩, ?_, ?_⟩
  · intro b hb; rw [List.mem_singleton.mp hb]; exact hI
  · intro p hp q; exact hn p hp (W.sub _ q)
  · rintro i v m₁ news₁ s₁ own ⟨hh', tk', rfl⟩ hin hP ⟨hJ, hoffp⟩ hoff hsub hget hall hst₁ F₁ N₁
    have N₂ : News h₀ env.locals hh' news₁ := fun p hp => N₁ p (List.mem_append_right _ hp)
    have hd : ∀ q ∈ news₁, ∀ p ∈ own, q.1 ≠ p.1 := fun q hq p hp e => hoffp q hq (e ▸ hsub p hp)
    refine wpAny_mono (turn i v m₁ news₁ hh' tk' (own) hin hP hJ hd (fun p hp => N₁ p (List.mem_append_left _ hp)) F₁ N₂) (fun f s₂ p => ?_) fun _ _ e => e
    have fin : TurnEnd h₀ env.locals (J (i + 1)) own { s with heap := hh', toks := tk' } s₂ → LoopStepU h₀ env.locals [I] own (fun m₁ news₁ => J (i + 1) m₁ news₁ ∧ ∀ p ∈ news₁, p.1 ∉ fp) { s with heap := hh', toks := tk' } .next s₂ := by
      rintro ⟨h', tk, m', nx, e, F', N', ho, hq, hJ'⟩
      have nfp : ∀ p ∈ nx, p.1 ∉ fp := fun p hp hb => by
        cases h0 : h₀.get? p.1 with
        | some o => have := (N' p hp).2.2; rw [h0] at this; cases this
        | none =>
          obtain ⟨o, ho'⟩ := hfp _ _ hst₁ _ hb
          exact hq p hp (p.1, o) (hall _ hb h0 o ho') rfl
      refine ⟨rfl, h', tk, m', nx, e, F', fun p hp => ?_, fun p hp hb => nfp p hp (W.sub _ hb), hJ', nfp⟩
      rcases List.mem_append.mp hp with h1 | h1
      · exact ⟨ho p h1, (N₁ p (List.mem_append_left _ h1)).2⟩
      · exact N' p h1
    cases f with
    | ret v => exact .ret p
    | brk => exact .brk p
    | next => exact .next (fin p)
    | cont => exact .cont (fin p)
  · rintro h' tk m' news' F' N' _ ⟨hJ, _⟩
    exact done m' news' h' tk hJ F' N'

/-- a for over a list that stands in the heap -/
theorem iter_list {l : Addr} {vs : List Value} {m₀ : PySem.Str → Option Value} {news : List (Addr × Obj)} (J : Nat → (PySem.Str → Option Value) → List (Addr × Obj) → Prop)
    (hh : A.handled = none) (hl : s.heap.IsList l vs.toArray) (hlL : l ≠ env.locals) (F : Fr h₀ env.locals s.heap m₀) (N : News h₀ env.locals s.heap news) (hln : ∀ p ∈ news, p.1 ≠ l) (hj : J 0 m₀ news)
    (turn : ∀ i v m₁ news₁ h tk own, vs[i]? = some v → J i m₁ news₁ → (∀ q ∈ news₁, ∀ p ∈ own, q.1 ≠ p.1) → News h₀ env.locals h own → Fr h₀ env.locals h (fun y => if y = x then some v else m₁ y) → News h₀ env.locals h news₁ →
      wpAny (model prog w) A (execs body env) (TurnPost h₀ env.locals (J (i + 1)) own { s with heap := h, toks := tk } Q) E { s with heap := h, toks := tk })
    (done : ∀ m₁ news₁ h tk, J vs.length m₁ news₁ → Fr h₀ env.locals h m₁ → News h₀ env.locals h news₁ → Q .next { s with heap := h, toks := tk }) :
    wpAny (model prog w) A (pyIter (.ref l)) (fun it s₂ => LoopAtV prog w A h₀ env x body Q E it s₂) E s := by
  obtain ⟨ol, hol, hoc⟩ := id hl
  have hlt : l < s.heap.objs.size := Heap.lt_size hol
  have hne : l ≠ s.heap.objs.size := Nat.ne_of_lt hlt
  refine wpAny_pyIter_list hl ?_
  have W := Walks.list (prog := prog) (w := w) hh s.heap.objs.size l hne vs.toArray
  have up : ∀ b o, s.heap.get? b = some o → (s.heap.push { cls := .type "list_iterator", data := .fields #[.ref l, .int 0 0] }).get? b = some o := fun b o e => Heap.get?_push_of_some _ e
  have hIn : h₀.get? s.heap.objs.size = none := next_is_new F
  refine iter_walks (s := { s with heap := s.heap.push { cls := .type "list_iterator", data := .fields #[.ref l, .int 0 0] } }) (m₀ := m₀) (news := news) J W ?_ hIn ⟨⟨_, Heap.get?_push_size _ rfl, rfl, rfl⟩, hl.push _⟩ ?_ (F.push _) (N.grown up) ?_ ?_ hj ?_ ?_
  · intro hm
    rcases List.mem_cons.mp hm with e | hm
    · exact absurd F.ns.lt (e ▸ Nat.lt_irrefl _)
    · exact hlL (List.mem_singleton.mp hm).symm
  · rintro i h ⟨⟨o, e, _⟩, _⟩; exact ⟨o, e⟩
  · intro p hp hm
    rcases List.mem_cons.mp hm with e | hm
    · exact absurd (Heap.lt_size (N p hp).1) (e ▸ Nat.lt_irrefl _)
    · exact hln p hp (List.mem_singleton.mp hm)
  · rintro i h ⟨⟨o, e, _⟩, ⟨ol', e', _⟩⟩ b hb
    rcases List.mem_cons.mp hb with rfl | hb
    · exact ⟨o, e⟩
    · rw [List.mem_singleton.mp hb]; exact ⟨ol', e'⟩
  · intro i v m₁ news₁ h tk own hi hP
    refine turn i v m₁ news₁ h tk own ?_
    have hP' : vs[i]? = some v := by simpa using hP
    exact hP'
  · intro m₁ news₁ h tk hJ
    exact done m₁ news₁ h tk (by simpa using hJ)
end
section
variable {prog : Program} {w : World} {A : Around} {E : Value → Shared → Prop} {s : Shared} {env : Env} {h₀ : Heap} {x : PySem.Str} {body : List Stmt} {Q : Flow → Shared → Prop}
/-- a for whose name is a cell c: the cell stands at the ledger's head -/
theorem forLoop_cell {R : Result → Shared → Prop} {px : Pos} {c I : Addr} {fp : List Addr} {n : Nat} {P : Nat → Value → Prop} {St : Nat → Heap → Prop} {m₀ : PySem.Str → Option Value} {oc : Obj} {v₀ : Option Value} {news : List (Addr × Obj)}
    (J : Nat → (PySem.Str → Option Value) → List (Addr × Obj) → Prop) (W : Walks prog w A I fp [I] n P St) (hk : env.scope.kind = .function) (hx : env.kindOf x = some .cell) (hc : env.cells.lookup x = some c)
    (hL : env.locals ∉ fp) (hcf : c ∉ fp) (hI : h₀.get? I = none) (hst : St 0 s.heap)
    (F : Fr h₀ env.locals s.heap m₀) (N : News h₀ env.locals s.heap ((c, oc) :: news)) (hoc : oc.data = .cell v₀) (hcn : ∀ p ∈ news, p.1 ≠ c) (hn : ∀ p ∈ news, p.1 ∉ fp) (hfp : ∀ i h, St i h → ∀ b ∈ fp, ∃ o, h.get? b = some o) (hj : J 0 m₀ news)
    (turn : ∀ i v m₁ news₁ h tk own oc₁, i < n → P i v → J i m₁ news₁ → (∀ p ∈ news₁, p.1 ≠ c) → (∀ q ∈ (c, oc₁) :: news₁, ∀ p ∈ own, q.1 ≠ p.1) → News h₀ env.locals h own → oc₁.data = .cell (some v) → Fr h₀ env.locals h m₁ → News h₀ env.locals h ((c, oc₁) :: news₁) →
      wpAny (model prog w) A (execs body env) (TurnPost h₀ env.locals (fun m' nx => ∃ oc' v' nx', nx = (c, oc') :: nx' ∧ oc'.data = .cell v' ∧ (∀ p ∈ nx', p.1 ≠ c) ∧ J (i + 1) m' nx') own { s with heap := h, toks := tk } (fun f s' => R (.ok f) s')) (notedBy (model prog w) A env fun e s' => R (.error e) s') { s with heap := h, toks := tk })
    (done : ∀ m₁ news₁ h tk oc₁ v₁, J n m₁ news₁ → oc₁.data = .cell v₁ → (∀ p ∈ news₁, p.1 ≠ c) → Fr h₀ env.locals h m₁ → News h₀ env.locals h ((c, oc₁) :: news₁) → R (.ok .next) { s with heap := h, toks := tk }) :
    codeAny (model prog w) A (.forLoop (.Name x px) (.ref I) body [] env) R s := by
  have hwI : ∀ b, b ∉ fp → b ∉ [I] := fun b hb hm => hb (W.sub _ hm)
  refine codeAny_forLoop
    (fun k s' => ∃ h' tk' m' news' oc' v' i, s' = { s with heap := h', toks := tk' } ∧ St i h' ∧ Fr h₀ env.locals h' m' ∧ News h₀ env.locals h' ((c, oc') :: news') ∧ oc'.data = .cell v' ∧ (∀ p ∈ news', p.1 ≠ c) ∧ (∀ p ∈ news', p.1 ∉ fp) ∧ J i m' news' ∧ i ≤ n ∧ k = n + 1 - i) ?_ (n + 1)
    ⟨s.heap, s.toks, m₀, news, oc, v₀, 0, rfl, hst, F, N, hoc, hcn, hn, hj, Nat.zero_le _, rfl⟩
  rintro k s' ⟨h', tk', m', news', oc', v', i, rfl, hst', F', N', hoc', hcn', hn', hJ, hi, rfl⟩
  have next : ∀ h₁ : Heap, (∀ b o, b ∉ [I] → h'.get? b = some o → h₁.get? b = some o) → Fr h₀ env.locals h₁ m' ∧ News h₀ env.locals h₁ ((c, oc') :: news') := fun h₁ hk₁ =>
    ⟨⟨F'.ns.at' fun o e => hk₁ _ o (hwI _ hL) e, fun b o e => hk₁ b o (fun hb => by rw [List.mem_singleton.mp hb, hI] at e; cases e) (F'.keep b o e), F'.above⟩, fun p hp => ⟨hk₁ _ _ (hwI _ (by
      rcases List.mem_cons.mp hp with rfl | hp
      · exact hcf
      · exact hn' p hp)) (N' p hp).1, (N' p hp).2⟩⟩
  by_cases hlt : i < n
  · refine W.item i _ _ _ hlt hst' fun v h₁ tk₁ hP hst₁ hk₁ => ?_
    obtain ⟨F₁, N₁⟩ := next h₁ hk₁
    have hcm := N₁ (c, oc') (List.mem_cons_self ..)
    refine wpAny_assign_Name (wpAny_storeName_cell hk hx hc ⟨oc', hcm.1, hoc'⟩ fun h₂ hv hs => ?_)
    obtain ⟨oc₁, hoc₁, hd₁⟩ := hv
    have k2 : ∀ b o, b ≠ c → h₁.get? b = some o → h₂.get? b = some o := fun b o nb e => (hs.2 b nb).trans e
    have hcL : c ≠ env.locals := hcm.2.1
    have F₂ : Fr h₀ env.locals h₂ m' := ⟨F₁.ns.sameBut hs hcL.symm, fun b o e => k2 b o (fun q => by rw [q, hcm.2.2] at e; cases e) (F₁.keep b o e), F₁.above⟩
    have N₂ : News h₀ env.locals h₂ ((c, oc₁) :: news') := fun p hp => by
      rcases List.mem_cons.mp hp with rfl | hp
      · exact ⟨hoc₁, hcm.2⟩
      · have := N₁ p (List.mem_cons_of_mem _ hp)
        exact ⟨k2 _ _ (hcn' p hp) this.1, this.2⟩
    have hst₂ : St (i + 1) h₂ := W.frame _ _ _ hst₁ fun b hb o e => k2 b o (fun q => hcf (q ▸ hb)) e
    have No : News h₀ env.locals h₂ (ownOf h₀ fp h₂) := news_ownOf hL
    have hdis : ∀ q ∈ (c, oc₁) :: news', ∀ p ∈ ownOf h₀ fp h₂, q.1 ≠ p.1 := fun q hq p hp e => by
      have hpf := ownOf_sub p hp
      rcases List.mem_cons.mp hq with rfl | hq
      · have e' : c = p.1 := e
        exact hcf (by rw [e']; exact hpf)
      · exact hn' q hq (by rw [e]; exact hpf)
    refine wpAny_mono (turn i v m' news' h₂ _ (ownOf h₀ fp h₂) oc₁ hlt hP hJ hcn' hdis No hd₁ F₂ N₂) (fun f s₃ h₃ => ?_) fun _ _ e => e
    have fin : TurnEnd h₀ env.locals (fun m' nx => ∃ oc' v' nx', nx = (c, oc') :: nx' ∧ oc'.data = .cell v' ∧ (∀ p ∈ nx', p.1 ≠ c) ∧ J (i + 1) m' nx') (ownOf h₀ fp h₂) { s with heap := h₂, toks := tk₁ } s₃ →
        ∃ m, m < n + 1 - i ∧ ∃ h' tk' m' news' oc' v' i, s₃ = { s with heap := h', toks := tk' } ∧ St i h' ∧ Fr h₀ env.locals h' m' ∧ News h₀ env.locals h' ((c, oc') :: news') ∧ oc'.data = .cell v' ∧ (∀ p ∈ news', p.1 ≠ c) ∧ (∀ p ∈ news', p.1 ∉ fp) ∧ J i m' news' ∧ i ≤ n ∧ m = n + 1 - i := by
      rintro ⟨h₄, tk₄, m₄, nx, rfl, F₄, N₄, ho, hq, oc₄, v₄, nx', rfl, hd₄, hcn₄, hJ₄⟩
      refine ⟨n + 1 - (i + 1), by omega, h₄, tk₄, m₄, nx', oc₄, v₄, i + 1, rfl, ?_, F₄, N₄, hd₄, hcn₄, ?_, hJ₄, hlt, rfl⟩
      · refine W.frame _ _ _ hst₂ fun b hb o e => ?_
        cases hz : h₀.get? b with
        | some o₀ =>
          have h5 := F₂.keep b o₀ hz
          rw [e] at h5; cases h5
          exact F₄.keep b o hz
        | none => exact ho (b, o) (mem_ownOf hb hz e)
      · intro p hp hb
        cases hz : h₀.get? p.1 with
        | some o => have := (N₄ p (List.mem_cons_of_mem _ hp)).2.2; rw [hz] at this; cases this
        | none =>
          obtain ⟨o, ho'⟩ := hfp _ _ hst₂ _ hb
          exact hq p (List.mem_cons_of_mem _ hp) (p.1, o) (mem_ownOf hb hz ho') rfl
    cases f with
    | ret v => exact h₃
    | brk => exact h₃
    | cont => exact fin h₃
    | next => exact fin h₃
  · have hin : i = n := by omega
    subst hin
    refine W.done _ _ _ hst' fun h₁ tk₁ hk₁ => wpAny_execs_nil ?_
    obtain ⟨F₁, N₁⟩ := next h₁ hk₁
    exact done m' news' h₁ tk₁ oc' v' hJ hoc' hcn' F₁ N₁

theorem For_cell {px pos : Pos} {iter : PySem.Expr} (h : wpAny (model prog w) A (eval iter env) (fun xv s₁ => wpAny (model prog w) A (pyIter xv) (fun it s₂ =>
      ∃ (c I : Addr) (fp : List Addr) (n : Nat) (P : Nat → Value → Prop) (St : Nat → Heap → Prop) (m₀ : PySem.Str → Option Value) (oc : Obj) (v₀ : Option Value) (news : List (Addr × Obj)) (J : Nat → (PySem.Str → Option Value) → List (Addr × Obj) → Prop),
        it = .ref I ∧ Walks prog w A I fp [I] n P St ∧ env.scope.kind = .function ∧ env.kindOf x = some .cell ∧ env.cells.lookup x = some c ∧ env.locals ∉ fp ∧ c ∉ fp ∧ h₀.get? I = none ∧ St 0 s₂.heap ∧ Fr h₀ env.locals s₂.heap m₀ ∧ News h₀ env.locals s₂.heap ((c, oc) :: news) ∧ oc.data = .cell v₀ ∧
        (∀ p ∈ news, p.1 ≠ c) ∧ (∀ p ∈ news, p.1 ∉ fp) ∧ (∀ i h, St i h → ∀ b ∈ fp, ∃ o, h.get? b = some o) ∧ J 0 m₀ news ∧
        (∀ i v m₁ news₁ h tk own oc₁, i < n → P i v → J i m₁ news₁ → (∀ p ∈ news₁, p.1 ≠ c) → (∀ q ∈ (c, oc₁) :: news₁, ∀ p ∈ own, q.1 ≠ p.1) → News h₀ env.locals h own → oc₁.data = .cell (some v) → Fr h₀ env.locals h m₁ → News h₀ env.locals h ((c, oc₁) :: news₁) →
          wpAny (model prog w) A (execs body env) (TurnPost h₀ env.locals (fun m' nx => ∃ oc' v' nx', nx = (c, oc') :: nx' ∧ oc'.data = .cell v' ∧ (∀ p ∈ nx', p.1 ≠ c) ∧ J (i + 1) m' nx') own { s₂ with heap := h, toks := tk } Q) E { s₂ with heap := h, toks := tk }) ∧
        (∀ m₁ news₁ h tk oc₁ v₁, J n m₁ news₁ → oc₁.data = .cell v₁ → (∀ p ∈ news₁, p.1 ≠ c) → Fr h₀ env.locals h m₁ → News h₀ env.locals h ((c, oc₁) :: news₁) → Q .next { s₂ with heap := h, toks := tk })) E s₁) E s)
    (hs : ∀ x, foldedSetIterable iter env x = pure x := by intro _; rfl) (hE : PassesOwn (model prog w) A env E := by passes_own) :
    wpAny (model prog w) A (exec (.For (.Name x px) iter body [] pos) env) Q E s := by
  refine wpAny_For (wpAny_mono h (fun xv s₁ h₁ => wpAny_mono h₁ (fun it s₂ h₂ => ?_) fun _ _ e => e) fun _ _ e => e) hs
  obtain ⟨c, I, fp, n, P, St, m₀, oc, v₀, news, J, rfl, W, hk, hx, hc, hL, hcf, hI, hst, F, N, hoc, hcn, hn, hfp, hj, turn, done⟩ := h₂
  refine forLoop_cell (R := fun r s' => match r with | .ok f => Q f s' | .error e => cameBackBy (model prog w) A env E e s') J W hk hx hc hL hcf hI hst F N hoc hcn hn hfp hj ?_ done
  intros
  exact wpAny_passesOwn hE (by apply turn <;> assumption)
def CellLoop (prog : Program) (w : World) (A : Around) (h₀ : Heap) (env : Env) (x : PySem.Str) (body : List Stmt) (Q : Flow → Shared → Prop) (E : Value → Shared → Prop) (it : Value) (s₂ : Shared) : Prop :=
      ∃ (c I : Addr) (fp : List Addr) (n : Nat) (P : Nat → Value → Prop) (St : Nat → Heap → Prop) (m₀ : PySem.Str → Option Value) (oc : Obj) (v₀ : Option Value) (news : List (Addr × Obj)) (J : Nat → (PySem.Str → Option Value) → List (Addr × Obj) → Prop),
        it = .ref I ∧ Walks prog w A I fp [I] n P St ∧ env.scope.kind = .function ∧ env.kindOf x = some .cell ∧ env.cells.lookup x = some c ∧ env.locals ∉ fp ∧ c ∉ fp ∧ h₀.get? I = none ∧ St 0 s₂.heap ∧ Fr h₀ env.locals s₂.heap m₀ ∧ News h₀ env.locals s₂.heap ((c, oc) :: news) ∧ oc.data = .cell v₀ ∧
        (∀ p ∈ news, p.1 ≠ c) ∧ (∀ p ∈ news, p.1 ∉ fp) ∧ (∀ i h, St i h → ∀ b ∈ fp, ∃ o, h.get? b = some o) ∧ J 0 m₀ news ∧
        (∀ i v m₁ news₁ h tk own oc₁, i < n → P i v → J i m₁ news₁ → (∀ p ∈ news₁, p.1 ≠ c) → (∀ q ∈ (c, oc₁) :: news₁, ∀ p ∈ own, q.1 ≠ p.1) → News h₀ env.locals h own → oc₁.data = .cell (some v) → Fr h₀ env.locals h m₁ → News h₀ env.locals h ((c, oc₁) :: news₁) →
          wpAny (model prog w) A (execs body env) (TurnPost h₀ env.locals (fun m' nx => ∃ oc' v' nx', nx = (c, oc') :: nx' ∧ oc'.data = .cell v' ∧ (∀ p ∈ nx', p.1 ≠ c) ∧ J (i + 1) m' nx') own { s₂ with heap := h, toks := tk } Q) E { s₂ with heap := h, toks := tk }) ∧
        (∀ m₁ news₁ h tk oc₁ v₁, J n m₁ news₁ → oc₁.data = .cell v₁ → (∀ p ∈ news₁, p.1 ≠ c) → Fr h₀ env.locals h m₁ → News h₀ env.locals h ((c, oc₁) :: news₁) → Q .next { s₂ with heap := h, toks := tk })
theorem For_cellL {px pos : Pos} {iter : PySem.Expr} (h : wpAny (model prog w) A (eval iter env) (fun xv s₁ => wpAny (model prog w) A (pyIter xv) (fun it s₂ => CellLoop prog w A h₀ env x body Q E it s₂) E s₁) E s)
    (hs : ∀ x, foldedSetIterable iter env x = pure x := by intro _; rfl) (hE : PassesOwn (model prog w) A env E := by passes_own) :
    wpAny (model prog w) A (exec (.For (.Name x px) iter body [] pos) env) Q E s := For_cell h hs hE
theorem cell_list {c l : Addr} {vs : List Value} {m₀ : PySem.Str → Option Value} {oc : Obj} {v₀ : Option Value} {news : List (Addr × Obj)} (J : Nat → (PySem.Str → Option Value) → List (Addr × Obj) → Prop)
    (hh : A.handled = none) (hk : env.scope.kind = .function) (hx : env.kindOf x = some .cell) (hc : env.cells.lookup x = some c) (hl : s.heap.IsList l vs.toArray) (hlL : l ≠ env.locals) (F : Fr h₀ env.locals s.heap m₀) (N : News h₀ env.locals s.heap ((c, oc) :: news)) (hoc : oc.data = .cell v₀) (hcn : ∀ p ∈ news, p.1 ≠ c)
    (hln : ∀ p ∈ (c, oc) :: news, p.1 ≠ l) (hj : J 0 m₀ news)
    (turn : ∀ i v m₁ news₁ h tk own oc₁, vs[i]? = some v → J i m₁ news₁ → (∀ p ∈ news₁, p.1 ≠ c) → (∀ q ∈ (c, oc₁) :: news₁, ∀ p ∈ own, q.1 ≠ p.1) → News h₀ env.locals h own → oc₁.data = .cell (some v) → Fr h₀ env.locals h m₁ → News h₀ env.locals h ((c, oc₁) :: news₁) →
      wpAny (model prog w) A (execs body env) (TurnPost h₀ env.locals (fun m' nx => ∃ oc' v' nx', nx = (c, oc') :: nx' ∧ oc'.data = .cell v' ∧ (∀ p ∈ nx', p.1 ≠ c) ∧ J (i + 1) m' nx') own { s with heap := h, toks := tk } Q) E { s with heap := h, toks := tk })
    (done : ∀ m₁ news₁ h tk oc₁ v₁, J vs.length m₁ news₁ → oc₁.data = .cell v₁ → (∀ p ∈ news₁, p.1 ≠ c) → Fr h₀ env.locals h m₁ → News h₀ env.locals h ((c, oc₁) :: news₁) → Q .next { s with heap := h, toks := tk }) :
    wpAny (model prog w) A (pyIter (.ref l)) (fun it s₂ => CellLoop prog w A h₀ env x body Q E it s₂) E s := by
  obtain ⟨ol, hol, hoc'⟩ := id hl
  have hlt : l < s.heap.objs.size := Heap.lt_size hol
  have hne : l ≠ s.heap.objs.size := Nat.ne_of_lt hlt
  refine wpAny_pyIter_list hl ?_
  have W := Walks.list (prog := prog) (w := w) hh s.heap.objs.size l hne vs.toArray
  have up : ∀ b o, s.heap.get? b = some o → (s.heap.push { cls := .type "list_iterator", data := .fields #[.ref l, .int 0 0] }).get? b = some o := fun b o e => Heap.get?_push_of_some _ e
  have hnw : ∀ p ∈ (c, oc) :: news, p.1 ∉ [s.heap.objs.size, l] := fun p hp hm => by
    rcases List.mem_cons.mp hm with e | hm
    · exact absurd (Heap.lt_size (N p hp).1) (e ▸ Nat.lt_irrefl _)
    · exact hln p hp (List.mem_singleton.mp hm)
  refine ⟨c, s.heap.objs.size, [s.heap.objs.size, l], _, _, _, m₀, oc, v₀, news, J, rfl, W, hk, hx, hc, ?_, hnw (c, oc) (List.mem_cons_self ..), next_is_new F, ⟨⟨_, Heap.get?_push_size _ rfl, rfl, rfl⟩, hl.push _⟩, F.push _, N.grown up, hoc, hcn, fun p hp => hnw p (List.mem_cons_of_mem _ hp), ?_, hj, ?_, ?_⟩
  · intro hm
    rcases List.mem_cons.mp hm with e | hm
    · exact absurd F.ns.lt (e ▸ Nat.lt_irrefl _)
    · exact hlL (List.mem_singleton.mp hm).symm
  · rintro i h ⟨⟨o, e, _⟩, ⟨ol', e', _⟩⟩ b hb
    rcases List.mem_cons.mp hb with rfl | hb
    · exact ⟨o, e⟩
    · rw [List.mem_singleton.mp hb]; exact ⟨ol', e'⟩
  · intro i v m₁ news₁ h tk own oc₁ hi hP
    exact turn i v m₁ news₁ h tk own oc₁ (by simpa using hP)
  · intro m₁ news₁ h tk oc₁ v₁ hJ
    exact done m₁ news₁ h tk oc₁ v₁ (by simpa using hJ)
end
theorem TurnEnd.intro {h₀ : Heap} {L : Addr} {J : (PySem.Str → Option Value) → List (Addr × Obj) → Prop} {own : List (Addr × Obj)} {s₁ : Shared} {h' : Heap} {tk : Nat} {m' : PySem.Str → Option Value} {nx : List (Addr × Obj)}
    (F : Fr h₀ L h' m') (N : News h₀ L h' nx) (ho : ∀ p ∈ own, h'.get? p.1 = some p.2) (hq : ∀ q ∈ nx, ∀ p ∈ own, q.1 ≠ p.1) (hj : J m' nx) : TurnEnd h₀ L J own s₁ { s₁ with heap := h', toks := tk } := ⟨h', tk, m', nx, rfl, F, N, ho, hq, hj⟩
end
section
section
variable {w : World} {A : Around} {E : Value → Shared → Prop} {s : Shared} {h₀ : Heap} {L : Addr} {m : PySem.Str → Option Value} {news : List (Addr × Obj)} {Q : Value → Shared → Prop}
theorem sort_any {D : Addr} {vs : List Value} {ns : List Int} {n : Nat} (hD : s.heap.get? D = some (listOf vs.toArray n)) (hi : IntsAre vs ns) (h64 : vs.length < 64)
    (h : ∀ h' out ns' k, IntsAre out ns' → ns'.Perm ns → ns'.Pairwise (· ≤ ·) → Kp [D] s.heap h' → h'.get? D = some (listOf out.toArray k) → Q .none { s with heap := h' }) :
    wpAny (model PG w) A (call (.builtin "list.sort") [.ref D]) Q E s := by
  refine wpAny_call_entry PyProof.Rows.slot_list_sort ⟨_, hD, rfl⟩ PyProof.Rows.entry_list_sort (list_sort_tree (n := n) (vs := vs) hD hi h64 fun out ns' hI hp hP => ⟨.none, rfl, ?_⟩) (PyProof.Rows.args_list_sort _)
  have ho1 := get?_update_seq hD (fun _ => (#[] : Array Value))
  have ho2 := Heap.get?_push_of_some (seqObj "list" #[] 0) (Heap.get?_push_of_some (seqObj "tuple" vs.toArray 0) ho1)
  have ho3 := get?_update_seq ho2 (fun _ => out)
  refine h _ out.toList ns' _ hI hp hP (fun b o nb e => ?_) (by rw [Array.toArray_toList]; exact ho3)
  have nb' : b ≠ D := by simpa using nb
  show (sortedHeap s.heap D vs out).get? b = some o
  unfold sortedHeap
  rw [Heap.get?_update_ne _ _ _ _ nb']
  refine Heap.get?_push_of_some _ (Heap.get?_push_of_some _ ?_)
  rw [Heap.get?_update_ne _ _ _ _ nb']
  exact e
theorem ints_of {kvs : List (Int × Value)} : ∀ {vs : List Value}, vs.length = kvs.length → (∀ (j : Nat) (v : Value), vs[j]? = some v → ∃ k x, kvs[j]? = some (k, x) ∧ (intKind PG w).is k v = true) → IntsAre vs (kvs.map (·.1)) := by
  induction kvs with
  | nil => intro vs hl _; cases vs with
    | nil => exact .nil
    | cons _ _ => simp at hl
  | cons kv kvs ih =>
    intro vs hl hv
    cases vs with
    | nil => simp at hl
    | cons v vs =>
      obtain ⟨k, x, hx, hk⟩ := hv 0 v rfl
      simp at hx
      subst hx
      obtain ⟨t, rfl⟩ := Flat.int_inv (kdl_flat_int hk)
      exact .cons _ _ (ih (by simpa using hl) fun j v hj => by simpa using hv (j + 1) v (by simpa using hj))
theorem sorted_rows {r : Addr} {kvs : List (Int × Value)} {ks : List Int} (lo : (r == sysModules) = false) (hD : s.heap.DictOf (intKind PG w) r kvs) (hk : kvs.map (·.1) = ks) (hs : ks.Pairwise (· < ·)) (hz : kvs.length ≤ 60) (hh : A.handled = none)
    (F : Fr h₀ L s.heap m) (N : News h₀ L s.heap news)
    (h : ∀ D vs k h' tk, Fr h₀ L h' m → News h₀ L h' ((D, listOf vs.toArray k) :: news) → (∀ q ∈ news, q.1 ≠ D) → IntsAre vs ks → Q (.ref D) { s with heap := h', toks := tk }) :
    wpAny (model PG w) A (call (.builtin "sorted") [.ref r]) Q E s := by
  obtain ⟨ep, hat⟩ := hD.dictAt
  refine kdu_sorted (kdl_dict (knd := intKind PG w) (kvs := kvs) (ep := ep) lo) hh F N hat (by rw [sizeLine_eq]; omega) fun D h' tk vs F' N' l1 hl hv => ?_
  have hi := ints_of hl hv
  rw [hk] at hi
  have hne : ∀ q ∈ news, q.1 ≠ D := fun q hq => Nat.ne_of_lt (l1 q hq)
  refine sort_any (N' _ (List.Mem.head _)).1 hi (by omega) fun h2 out ns' k hI hp hP kp hD2 => ?_
  have e : ns' = ks := lks_uniq hp hP (hs.imp (fun h => Int.le_of_lt h))
  subst e
  refine h D out k h2 tk (kp.fr F' ?_ ?_) (fun q hq => ?_) hne hI
  · intro hm; exact (N' _ (List.Mem.head _)).2.1 (List.mem_singleton.mp hm).symm
  · intro b hb; rw [List.mem_singleton.mp hb]; exact (N' _ (List.Mem.head _)).2.2
  · rcases List.mem_cons.mp hq with rfl | hq
    · exact ⟨hD2, (N' _ (List.Mem.head _)).2⟩
    · have := N' q (List.mem_cons_of_mem _ hq)
      exact ⟨kp _ _ (by simpa using hne q hq) this.1, this.2⟩
end
section
variable {prog : Program} {w : World} {A : Around} {s : Shared} {h₀ : Heap} {L : Addr} {m : PySem.Str → Option Value} {env : Env} {ct elt : PySem.Expr} {x : PySem.Str} {scope : Scope} {cl : List (PySem.Str × Addr)} {S : List (Addr × Obj) → Prop} {P : Nat → Value → Prop} {Fin : List Value → List (Addr × Obj) → Prop}
/-- a comprehension with a test, by what holds of the items made so far -/
theorem compT_ind {n : Nat} (J : Nat → List Value → List (Addr × Obj) → Prop)
    (turn : ∀ i ys news v I oI C oC D m₂ h tk (E' : Value → Shared → Prop), i < n → J i ys news → P i v → LCg.NsObj oC m₂ → m₂ x = some v → Fr h₀ L h m → News h₀ L h ((I, oI) :: (C, oC) :: (D, LCg.lst ys) :: news) → LCg.Off3 I C D news → ((@Ne Nat I C) ∧ (@Ne Nat I D) ∧ (@Ne Nat C D)) →
      wpAny (model prog w) A (isTrue ct (compEnvC scope cl C env) (eval ct (compEnvC scope cl C env))) (fun ok s' => if ok = true then
        wpAny (model prog w) A (eval elt (compEnvC scope cl C env)) (LCg.CompEnd h₀ L m { s with heap := h, toks := tk } I oI C oC D (LCg.lst ys) S (fun y news' => J (i + 1) (ys ++ [y]) news')) E' s'
        else LCg.CompEnd h₀ L m { s with heap := h, toks := tk } I oI C oC D (LCg.lst ys) S (fun _ news' => J (i + 1) ys news') Value.none s') E' { s with heap := h, toks := tk })
    (fin : ∀ ys news, J n ys news → Fin ys news) : ∀ k i ys news, i + k = n → J i ys news → LCt.CompRestT prog w A h₀ L m env ct elt x scope cl s S P Fin k i ys news
  | 0, i, ys, news, e, hj => LCt.CompRestT.zero (fin ys news ((show i = n from e) ▸ hj))
  | k + 1, i, ys, news, e, hj => LCt.CompRestT.succ fun v I oI C oC D m₂ h tk E' hP hC hx F N off ne => by
    have up : ∀ {R R' : Value → List (Addr × Obj) → Prop} (_ : ∀ y news', R y news' → R' y news') {y : Value} {s₂ : Shared}, LCg.CompEnd h₀ L m { s with heap := h, toks := tk } I oI C oC D (LCg.lst ys) S R y s₂ → LCg.CompEnd h₀ L m { s with heap := h, toks := tk } I oI C oC D (LCg.lst ys) S R' y s₂ := by
      rintro R R' hR y s₂ ⟨h', tk', news', e1, F', N', o', hS, hr⟩
      exact ⟨h', tk', news', e1, F', N', o', hS, hR _ _ hr⟩
    refine wpAny_mono (turn i ys news v I oI C oC D m₂ h tk E' (by omega) hj hP hC hx F N off ne) (fun ok s' hok => ?_) fun _ _ e => e
    cases ok with
    | true =>
      rw [if_pos rfl] at hok ⊢
      exact wpAny_mono hok (fun y s₂ h2 => up (fun y news' hr => compT_ind J turn fin k (i + 1) _ news' (by omega) hr) h2) fun _ _ e => e
    | false =>
      rw [if_neg (by decide)] at hok ⊢
      exact up (fun _ news' hr => compT_ind J turn fin k (i + 1) _ news' (by omega) hr) hok
/-- one without a test -/
theorem compU_ind {n : Nat} (J : Nat → List Value → List (Addr × Obj) → Prop)
    (turn : ∀ i ys news v I oI C oC D m₂ h tk (E' : Value → Shared → Prop), i < n → J i ys news → P i v → LCg.NsObj oC m₂ → m₂ x = some v → Fr h₀ L h m → News h₀ L h ((I, oI) :: (C, oC) :: (D, LCg.lst ys) :: news) → LCg.Off3 I C D news → ((@Ne Nat I C) ∧ (@Ne Nat I D) ∧ (@Ne Nat C D)) →
      wpAny (model prog w) A (eval elt (compEnvC scope cl C env)) (LCg.CompEnd h₀ L m { s with heap := h, toks := tk } I oI C oC D (LCg.lst ys) S (fun y news' => J (i + 1) (ys ++ [y]) news')) E' { s with heap := h, toks := tk })
    (fin : ∀ ys news, J n ys news → Fin ys news) : ∀ k i ys news, i + k = n → J i ys news → LCg.CompRest prog w A h₀ L m env elt x scope cl s S P Fin k i ys news
  | 0, i, ys, news, e, hj => LCg.CompRest.zero (fin ys news ((show i = n from e) ▸ hj))
  | k + 1, i, ys, news, e, hj => LCg.CompRest.succ fun v I oI C oC D m₂ h tk E' hP hC hx F N off ne => by
    refine wpAny_mono (turn i ys news v I oI C oC D m₂ h tk E' (by omega) hj hP hC hx F N off ne) (fun y s₂ h2 => ?_) fun _ _ e => e
    obtain ⟨h', tk', news', e1, F', N', o', hS, hr⟩ := h2
    exact ⟨h', tk', news', e1, F', N', o', hS, compU_ind J turn fin k (i + 1) _ news' (by omega) hr⟩
end
theorem off1_all {D : Addr} : ∀ {l : List (Addr × Obj)}, LCg.Off1 D l → ∀ p ∈ l, p.1 ≠ D
  | [], _, _, h => nomatch h
  | q :: _, x, p, h => by
    rcases List.mem_cons.mp h with rfl | h
    · exact x.1
    · exact off1_all x.2 p h
end
section
abbrev cell0 : Obj := { cls := .type "cell", data := .cell none }
/-- the block of a comprehension whose one name x is a cell of its own -/
theorem newEnv_C {M : Model} {A : Around} {E : Value → Shared → Prop} {s : Shared} {scope : Scope} {env : Env} {cl : List (PySem.Str × Addr)} {x : PySem.Str} {Q : Env → Shared → Prop}
    (hc : ∀ n, cellsFrom n scope.names cl = (x, n) :: cl) (hp : ∀ h, pushCells h scope.names = h.push cell0)
    (h : Q (newEnv scope s.heap.objs.size env.globals ((x, s.heap.objs.size + 1) :: cl) env.qual none .none (some env) builtinsNs) { s with heap := (s.heap.push { cls := .type "dict", data := .dict #[] }).push cell0 }) :
    wpAny M A (newFunctionEnv scope env.globals cl [] env.qual none .none (some env)) Q E s := by
  simp only [newFunctionEnv, Option.isSome_some, if_true]
  refine wpAny_bind (wpAny_alloc ?_)
  refine wpAny_bind (wpAny_layCells _ (fun name kind cells => by cases hkc : kind == NameKind.cell <;> simp [hkc]) _ _ _ _ ?_)
  rw [hc, hp]
  rw [show ({ s with heap := s.heap.push { cls := .type "dict", data := .dict #[] } } : Shared).heap.objs.size = s.heap.objs.size + 1 from Heap.size_push ..]
  refine wpAny_bind ?_
  rw [List.forIn_nil]
  exact wpAny_pure (wpAny_pure h)

def Off4 (I C D c : Addr) (news : List (Addr × Obj)) : Prop := ∀ p ∈ news, p.1 ≠ I ∧ p.1 ≠ C ∧ p.1 ≠ D ∧ p.1 ≠ c
def EndC (h₀ : Heap) (L : Addr) (m : PySem.Str → Option Value) (s₁ : Shared) (I : Addr) (oI : Obj) (C : Addr) (oC : Obj) (D : Addr) (oD : Obj) (c : Addr) (oc : Obj) (rest : Value → List (Addr × Obj) → Prop) (y : Value) (s₂ : Shared) : Prop :=
  ∃ h' tk news', s₂ = { s₁ with heap := h', toks := tk } ∧ Fr h₀ L h' m ∧ News h₀ L h' ((I, oI) :: (C, oC) :: (D, oD) :: (c, oc) :: news') ∧ Off4 I C D c news' ∧ rest y news'
theorem EndC.intro {h₀ : Heap} {L I C D c : Addr} {m : PySem.Str → Option Value} {s₁ : Shared} {oI oC oD oc : Obj} {rest : Value → List (Addr × Obj) → Prop} {y : Value} {h' : Heap} {tk : Nat} {all : List (Addr × Obj)}
    (F : Fr h₀ L h' m) (N : News h₀ L h' all) (news' : List (Addr × Obj)) (sub : ∀ p ∈ (I, oI) :: (C, oC) :: (D, oD) :: (c, oc) :: news', p ∈ all) (off : Off4 I C D c news') (r : rest y news') :
    EndC h₀ L m s₁ I oI C oC D oD c oc rest y { s₁ with heap := h', toks := tk } := ⟨h', tk, news', rfl, F, fun p hp => N p (sub p hp), off, r⟩

section
variable {prog : Program} {w : World} {A : Around} {E : Value → Shared → Prop} {s : Shared} {h₀ : Heap} {L : Addr} {m : PySem.Str → Option Value} {env : Env}
theorem block_C {ct elt iter : PySem.Expr} {x : PySem.Str} {px : Pos} {scope : Scope} {cl : List (PySem.Str × Addr)} {pos : Pos} {s₂ : Shared} {I ax : Addr} {its : Array Value} {news : List (Addr × Obj)}
    {RR : Value → Addr → Result → Shared → Prop} (J : Nat → List Value → List (Addr × Obj) → Prop)
    (hh : A.handled = none) (hne : ax ≠ I) (hsz : its.size ≤ sizeLine) (hc : ∀ n, cellsFrom n scope.names cl = (x, n) :: cl) (hp : ∀ h, pushCells h scope.names = h.push cell0)
    (hk : ∀ c C, (compEnvC scope ((x, c) :: cl) C env).scope.kind = .function) (hx : ∀ c C, (compEnvC scope ((x, c) :: cl) C env).kindOf x = some .cell)
    (hst : s₂.heap.IsListIter I ax 0 ∧ s₂.heap.IsList ax its) (hI : @LT.lt Nat _ I s₂.heap.objs.size)
    (F : Fr h₀ L s₂.heap m) (N : News h₀ L s₂.heap news) (hIL : L ≠ I) (hI₀ : h₀.get? I = none) (off : ∀ p ∈ news, p.1 ≠ I) (hj : J 0 [] news) (hS : ∀ i ys news, J i ys news → LCg.SrcAt h₀ ax its news)
    (turn : ∀ i ys news v I oI C oC D c oc h tk (E' : Value → Shared → Prop), its[i]? = some v → J i ys news → oc.data = .cell (some v) → Fr h₀ L h m → News h₀ L h ((I, oI) :: (C, oC) :: (D, LCg.lst ys) :: (c, oc) :: news) → Off4 I C D c news →
      ((@Ne Nat I C) ∧ (@Ne Nat I D) ∧ (@Ne Nat C D) ∧ (@Ne Nat c I) ∧ (@Ne Nat c C) ∧ (@Ne Nat c D)) →
      wpAny (model prog w) A (isTrue ct (compEnvC scope ((x, c) :: cl) C env) (eval ct (compEnvC scope ((x, c) :: cl) C env))) (fun ok s' => if ok = true then
        wpAny (model prog w) A (eval elt (compEnvC scope ((x, c) :: cl) C env)) (EndC h₀ L m { s₂ with heap := h, toks := tk } I oI C oC D (LCg.lst ys) c oc (fun y news' => J (i + 1) (ys ++ [y]) news')) E' s'
        else EndC h₀ L m { s₂ with heap := h, toks := tk } I oI C oC D (LCg.lst ys) c oc (fun _ news' => J (i + 1) ys news') Value.none s') E' { s₂ with heap := h, toks := tk })
    (hRR : ∀ D C h tk m' ys news', Fr h₀ L h m → News h₀ L h ((D, LCg.lst ys) :: news') → (∀ p ∈ news', p.1 ≠ D) → h.Ns C m' → h₀.get? C = none → h₀.get? D = none → C ≠ L → D ≠ L → C ≠ D → (∀ p ∈ news', p.1 ≠ C) → J its.size ys news' → RR (.ref D) C (.ok .next) { s₂ with heap := h, toks := tk }) :
    wpAny (model prog w) A (newList []) (fun acc s₃ => wpAny (model prog w) A (newFunctionEnv scope env.globals cl [] env.qual none .none (some env)) (fun cenv s₄ =>
      codeAny (model prog w) A (.compStart (.ListComp elt [⟨.Name x px, iter, [ct], 0⟩] scope pos) 0 (.ref I) acc { cenv with scope := relabel scope env }) (RR acc cenv.locals) s₄) E s₃) E s₂ := by
  refine wpAny_newObj_type (newEnv_C hc hp ?_)
  show codeAny (model prog w) A (.compStart _ 0 (.ref I) (.ref s₂.heap.objs.size) (compEnvC scope ((x, (s₂.heap.push (LCg.lst [])).objs.size + 1) :: cl) (s₂.heap.push (LCg.lst [])).objs.size env)) (RR (.ref s₂.heap.objs.size) (s₂.heap.push (LCg.lst [])).objs.size) _
  have hDs : (s₂.heap.push (LCg.lst [])).objs.size = s₂.heap.objs.size + 1 := Heap.size_push ..
  rw [hDs]
  generalize hD : s₂.heap.objs.size = D at *
  have fresh : ∀ a, D ≤ a → s₂.heap.get? a = none := fun a ha => Heap.get?_none_of_le (hD ▸ ha)
  have fresh₀ : ∀ a, D ≤ a → h₀.get? a = none := fun a ha => by
    cases e : h₀.get? a with
    | none => rfl
    | some o' => have := F.keep a o' e; rw [fresh a ha] at this; cases this
  have hLlt : @LT.lt Nat _ L D := hD ▸ F.ns.lt
  have nL : ∀ {k : Nat}, D ≤ k → k ≠ L := fun h => Nat.ne_of_gt (Nat.lt_of_lt_of_le hLlt h)
  have hp1 : (s₂.heap.push (LCg.lst [])).objs.size = D + 1 := by rw [Heap.size_push, hD]
  have hp2 : ((s₂.heap.push (LCg.lst [])).push { cls := .type "dict", data := .dict #[] }).objs.size = D + 1 + 1 := by rw [Heap.size_push, hp1]
  have old : ∀ b o, s₂.heap.get? b = some o → (((s₂.heap.push (LCg.lst [])).push { cls := .type "dict", data := .dict #[] }).push cell0).get? b = some o := fun b o e => Heap.get?_push_of_some _ (Heap.get?_push_of_some _ (Heap.get?_push_of_some _ e))
  have gD : (((s₂.heap.push (LCg.lst [])).push { cls := .type "dict", data := .dict #[] }).push cell0).get? D = some (LCg.lst []) := Heap.get?_push_of_some _ (Heap.get?_push_of_some _ (hD ▸ Heap.get?_push_size _ rfl))
  have gC : (((s₂.heap.push (LCg.lst [])).push { cls := .type "dict", data := .dict #[] }).push cell0).get? (D + 1) = some { cls := .type "dict", data := .dict #[] } := Heap.get?_push_of_some _ (hp1 ▸ Heap.get?_push_size _ rfl)
  have gc : (((s₂.heap.push (LCg.lst [])).push { cls := .type "dict", data := .dict #[] }).push cell0).get? (D + 1 + 1) = some cell0 := hp2 ▸ Heap.get?_push_size _ rfl
  generalize ((s₂.heap.push (LCg.lst [])).push { cls := .type "dict", data := .dict #[] }).push cell0 = H at old gD gC gc ⊢
  have hnI : D ≠ I ∧ D + 1 ≠ I ∧ D + 1 + 1 ≠ I := ⟨by omega, by omega, by omega⟩
  have W := Walks.list (prog := prog) (w := w) hh I ax hne its
  have dictNs : ∀ {h : Heap}, h.get? (D + 1) = some { cls := .type "dict", data := .dict #[] } → h.Ns (D + 1) (fun _ => none) := fun e => ⟨_, #[], 0, e, rfl, (by intro _ h; simp at h), fun _ => rfl⟩
  have loop : codeAny (model prog w) A (.compLoop (.ListComp elt [⟨.Name x px, iter, [ct], 0⟩] scope pos) 0 (.ref I) (.ref D) (compEnvC scope ((x, D + 1 + 1) :: cl) (D + 1) env)) (RR (.ref D) (D + 1)) { s₂ with heap := H } := by
    refine codeAny_compLoop_tests
      (fun k s' => ∃ h' tk i ys oc v₀ news', s' = { s₂ with heap := h', toks := tk } ∧ i ≤ its.size ∧ k = its.size + 1 - i ∧ ys.length ≤ i ∧ h'.IsListIter I ax i ∧ Fr h₀ L h' m ∧
        News h₀ L h' ((D + 1, { cls := .type "dict", data := .dict #[] }) :: (D, LCg.lst ys) :: (D + 1 + 1, oc) :: news') ∧ oc.data = .cell v₀ ∧ Off4 I (D + 1) D (D + 1 + 1) news' ∧ J i ys news') ?_ (its.size + 1)
      ⟨H, _, 0, [], cell0, none, news, rfl, Nat.zero_le _, rfl, Nat.le_refl _, hst.1.at fun o e => old _ o e, F.keeps old, fun p hp => ?_, rfl, fun p hp => ?_, hj⟩
    · rintro k s' ⟨h', tk, i, ys, oc, v₀, news', rfl, hi, rfl, hyl, hst', F', N', hoc, off', hJ⟩
      have hls : h'.IsList ax its := (hS _ _ _ hJ).list F'.keep fun p hp => N' p (List.mem_cons_of_mem _ (List.mem_cons_of_mem _ (List.mem_cons_of_mem _ hp)))
      by_cases hlt : i < its.size
      · refine W.item i _ _ _ hlt ⟨hst', hls⟩ fun v h₂ tk₂ hPv hst₂ hk₂ => ?_
        have kI : ∀ b o, b ≠ I → h'.get? b = some o → h₂.get? b = some o := fun b o nb e => hk₂ b o (by simpa using nb) e
        have hcm := N' (D + 1 + 1, oc) (List.mem_cons_of_mem _ (List.mem_cons_of_mem _ (List.mem_cons_self ..)))
        refine wpAny_assign_Name (wpAny_storeName_cell (hk _ _) (hx _ _) (c := D + 1 + 1) (by show List.lookup x ((x, D + 1 + 1) :: cl) = _; simp) ⟨oc, kI _ _ hnI.2.2 hcm.1, hoc⟩ fun h₃ hv hs₃ => ?_)
        obtain ⟨oc', hoc', hd'⟩ := hv
        have k3 : ∀ b o, b ≠ D + 1 + 1 → h₂.get? b = some o → h₃.get? b = some o := fun b o nb e => (hs₃.2 b nb).trans e
        refine wpAny_tests_one ?_
        obtain ⟨oI, heI, rI⟩ := hst₂.1
        have F₃ : Fr h₀ L h₃ m := ⟨F'.ns.at' fun o e => k3 _ o (Ne.symm (nL (by omega))) (kI _ o hIL e), fun b o e => k3 b o (fun q => by rw [q, fresh₀ _ (by omega)] at e; cases e) (kI b o (fun q => by rw [q, hI₀] at e; cases e) (F'.keep b o e)), F'.above⟩
        have up : ∀ b o, b ≠ I → b ≠ D + 1 + 1 → h'.get? b = some o → h₃.get? b = some o := fun b o n1 n2 e => k3 b o n2 (kI b o n1 e)
        have N₃ : News h₀ L h₃ ((I, oI) :: (D + 1, { cls := .type "dict", data := .dict #[] }) :: (D, LCg.lst ys) :: (D + 1 + 1, oc') :: news') := fun p hp => by
          rcases List.mem_cons.mp hp with rfl | hp
          · exact ⟨k3 _ _ (show I ≠ D + 1 + 1 from hnI.2.2.symm) heI, hIL.symm, hI₀⟩
          · rcases List.mem_cons.mp hp with rfl | hp
            · have := N' (D + 1, _) (List.mem_cons_self ..)
              exact ⟨up _ _ hnI.2.1 (show D + 1 ≠ D + 1 + 1 by omega) this.1, this.2⟩
            · rcases List.mem_cons.mp hp with rfl | hp
              · have := N' (D, LCg.lst ys) (List.mem_cons_of_mem _ (List.mem_cons_self ..))
                exact ⟨up _ _ hnI.1 (show D ≠ D + 1 + 1 by omega) this.1, this.2⟩
              · rcases List.mem_cons.mp hp with rfl | hp
                · exact ⟨hoc', hcm.2⟩
                · have := N' p (List.mem_cons_of_mem _ (List.mem_cons_of_mem _ (List.mem_cons_of_mem _ hp)))
                  exact ⟨up _ _ (off' p hp).1 (off' p hp).2.2.2 this.1, this.2⟩
        refine wpAny_mono (turn i ys news' v I oI (D + 1) _ D (D + 1 + 1) oc' h₃ _ _ (by simpa using hPv) hJ hd' F₃ N₃ off' ⟨hnI.2.1.symm, hnI.1.symm, by omega, hnI.2.2, by omega, by omega⟩) (fun ok s₄ h₄ => ?_) fun _ _ e => e
        cases ok with
        | true =>
          simp only [if_true] at h₄ ⊢
          refine wpAny_mono h₄ (fun y s₅ h₅ => ?_) fun _ _ e => e
          obtain ⟨h₄, tk₄, news₄, rfl, F₄, N₄, off₄, J₄⟩ := h₅
          have zI := N₄ (I, oI) (List.mem_cons_self ..)
          have zC := N₄ (D + 1, _) (List.mem_cons_of_mem _ (List.mem_cons_self ..))
          have zD := N₄ (D, LCg.lst ys) (List.mem_cons_of_mem _ (List.mem_cons_of_mem _ (List.mem_cons_self ..)))
          have zc := N₄ (D + 1 + 1, oc') (List.mem_cons_of_mem _ (List.mem_cons_of_mem _ (List.mem_cons_of_mem _ (List.mem_cons_self ..))))
          refine append_at (hsz := by show ys.toArray.size ≤ sizeLine; rw [List.size_toArray]; exact Nat.le_trans (Nat.le_trans hyl hi) hsz) zD.1 fun h₅ hs₅ hD₅ => ?_
          have k5 : ∀ b o, b ≠ D → h₄.get? b = some o → h₅.get? b = some o := fun b o nb e => (hs₅.2 b nb).trans e
          refine ⟨its.size + 1 - (i + 1), by omega, h₅, tk₄, i + 1, ys ++ [y], oc', _, news₄, rfl, hlt, rfl, by rw [List.length_append, List.length_singleton]; omega, ⟨oI, k5 _ _ hnI.1.symm zI.1, rI⟩, F₄.change hs₅ zD.2.1 zD.2.2, fun p hp => ?_, hd', off₄, J₄⟩
          rcases List.mem_cons.mp hp with rfl | hp
          · exact ⟨k5 _ _ (show D + 1 ≠ D by omega) zC.1, zC.2⟩
          · rcases List.mem_cons.mp hp with rfl | hp
            · exact ⟨hD₅.trans (congrArg some (LCg.lst_snoc ys y)), zD.2⟩
            · rcases List.mem_cons.mp hp with rfl | hp
              · exact ⟨k5 _ _ (show D + 1 + 1 ≠ D by omega) zc.1, zc.2⟩
              · have := N₄ p (List.mem_cons_of_mem _ (List.mem_cons_of_mem _ (List.mem_cons_of_mem _ (List.mem_cons_of_mem _ hp))))
                exact ⟨k5 _ _ (off₄ p hp).2.2.1 this.1, this.2⟩
        | false =>
          simp only [Bool.false_eq_true, if_false] at h₄ ⊢
          obtain ⟨h₄, tk₄, news₄, rfl, F₄, N₄, off₄, J₄⟩ := h₄
          refine ⟨its.size + 1 - (i + 1), by omega, h₄, tk₄, i + 1, ys, oc', _, news₄, rfl, hlt, rfl, by omega, ⟨oI, (N₄ (I, oI) (List.mem_cons_self ..)).1, rI⟩, F₄, fun p hp => N₄ p (List.mem_cons_of_mem _ hp), hd', off₄, J₄⟩
      · obtain rfl : i = its.size := Nat.le_antisymm hi (Nat.not_lt.mp hlt)
        refine W.done _ _ _ ⟨hst', hls⟩ fun h₂ tk₂ hk₂ => ?_
        have kI : ∀ b o, b ≠ I → h'.get? b = some o → h₂.get? b = some o := fun b o nb e => hk₂ b o (by simpa using nb) e
        have zC := N' (D + 1, _) (List.mem_cons_self ..)
        have zD := N' (D, LCg.lst ys) (List.mem_cons_of_mem _ (List.mem_cons_self ..))
        exact hRR D (D + 1) h₂ tk₂ _ ys news' ⟨F'.ns.at' fun o e => kI _ o hIL e, fun b o e => kI b o (fun q => by rw [q, hI₀] at e; cases e) (F'.keep b o e), F'.above⟩ (fun p hp => by
          rcases List.mem_cons.mp hp with rfl | hp
          · exact ⟨kI _ _ hnI.1 zD.1, zD.2⟩
          · have := N' p (List.mem_cons_of_mem _ (List.mem_cons_of_mem _ (List.mem_cons_of_mem _ hp)))
            exact ⟨kI _ _ (off' p hp).1 this.1, this.2⟩) (fun p hp => (off' p hp).2.2.1) (dictNs (kI _ _ hnI.2.1 zC.1)) (fresh₀ _ (by omega)) (fresh₀ _ (Nat.le_refl _)) (nL (by omega)) (nL (Nat.le_refl _)) (neN (by omega)) (fun p hp => (off' p hp).2.1) hJ
    · rcases List.mem_cons.mp hp with rfl | hp
      · exact ⟨gC, nL (by omega), fresh₀ _ (show D ≤ D + 1 by omega)⟩
      · rcases List.mem_cons.mp hp with rfl | hp
        · exact ⟨gD, nL (Nat.le_refl _), fresh₀ _ (Nat.le_refl _)⟩
        · rcases List.mem_cons.mp hp with rfl | hp
          · exact ⟨gc, nL (by omega), fresh₀ _ (show D ≤ D + 1 + 1 by omega)⟩
          · exact ⟨old _ _ (N p hp).1, (N p hp).2⟩
    · have hl : @LT.lt Nat _ p.1 D := hD ▸ Heap.lt_size (N p hp).1
      exact ⟨off p hp, neN (by omega), neN (by omega), neN (by omega)⟩
  exact codeAny_compStart_list loop (W.self 0 _ _ _ ⟨hst.1.at fun o e => old _ o e, stays_list old hst.2⟩ loop)

def SrcC (prog : Program) (w : World) (A : Around) (h₀ : Heap) (L : Addr) (m : PySem.Str → Option Value) (env : Env) (ct elt : PySem.Expr) (x : PySem.Str) (scope : Scope) (cl : List (PySem.Str × Addr)) (Fin : Shared → List Value → List (Addr × Obj) → Prop) (xv : Value) (s₁ : Shared) : Prop :=
  ∃ (ax : Addr) (its : Array Value) (news : List (Addr × Obj)) (J : Nat → List Value → List (Addr × Obj) → Prop), xv = .ref ax ∧ A.handled = none ∧ Fr h₀ L s₁.heap m ∧ News h₀ L s₁.heap news ∧ its.size ≤ sizeLine ∧ J 0 [] news ∧ (∀ i ys news, J i ys news → LCg.SrcAt h₀ ax its news) ∧
    ∀ s₂ : Shared, (∃ h, s₂ = { s₁ with heap := h }) →
      (∀ i ys news v I oI C oC D c oc h tk (E' : Value → Shared → Prop), its[i]? = some v → J i ys news → oc.data = .cell (some v) → Fr h₀ L h m → News h₀ L h ((I, oI) :: (C, oC) :: (D, LCg.lst ys) :: (c, oc) :: news) → Off4 I C D c news →
        ((@Ne Nat I C) ∧ (@Ne Nat I D) ∧ (@Ne Nat C D) ∧ (@Ne Nat c I) ∧ (@Ne Nat c C) ∧ (@Ne Nat c D)) →
        wpAny (model prog w) A (isTrue ct (compEnvC scope ((x, c) :: cl) C env) (eval ct (compEnvC scope ((x, c) :: cl) C env))) (fun ok s' => if ok = true then
          wpAny (model prog w) A (eval elt (compEnvC scope ((x, c) :: cl) C env)) (EndC h₀ L m { s₂ with heap := h, toks := tk } I oI C oC D (LCg.lst ys) c oc (fun y news' => J (i + 1) (ys ++ [y]) news')) E' s'
          else EndC h₀ L m { s₂ with heap := h, toks := tk } I oI C oC D (LCg.lst ys) c oc (fun _ news' => J (i + 1) ys news') Value.none s') E' { s₂ with heap := h, toks := tk }) ∧
      (∀ ys news', J its.size ys news' → Fin s₂ ys news')
theorem off1_of {D : Addr} : ∀ {l : List (Addr × Obj)}, (∀ p ∈ l, p.1 ≠ D) → LCg.Off1 D l
  | [], _ => trivial
  | _ :: _, h => ⟨h _ (List.mem_cons_self ..), off1_of fun p hp => h p (List.mem_cons_of_mem _ hp)⟩
theorem Assign_comp_C {ct elt iter : PySem.Expr} {x y : PySem.Str} {px py : Pos} {scope : Scope} {cl : List (PySem.Str × Addr)} {pos spos : Pos} {Q : Flow → Shared → Prop} (_F₀ : Fr h₀ env.locals s.heap m)
    (hsw : swapsWith (.ListComp elt [⟨.Name x px, iter, [ct], 0⟩] scope pos) (some (.Name y py)) spos.line env = pure true)
    (hclos : closureFor scope env = pure cl) (hkind : scope.kind = .function)
    (hnames : ∀ z ∈ scope.names, z.2 = .local → scope.names.lookup z.1 = some .local)
    (hc : ∀ n, cellsFrom n scope.names cl = (x, n) :: cl) (hp : ∀ h, pushCells h scope.names = h.push cell0)
    (hk : ∀ c C, (compEnvC scope ((x, c) :: cl) C env).scope.kind = .function) (hx : ∀ c C, (compEnvC scope ((x, c) :: cl) C env).kindOf x = some .cell)
    (hy : env.kindOf y = some .local) (hpp : (env.scope.kind == .class || (env.scope.kind == .module && env.locals != env.globals)) = false)
    (h : wpAny (model prog w) A (eval iter env) (SrcC prog w A h₀ env.locals m env ct elt x scope cl (fun s₂ => LCg.FinA h₀ env.locals m s₂ y Q)) E s)
    (hs : ∀ x, foldedSetIterable iter env x = pure x := by intro _; rfl) :
    wpAny (model prog w) A (exec (.Assign [.Name y py] (.ListComp elt [⟨.Name x px, iter, [ct], 0⟩] scope pos) spos) env) Q E s := by
  rw [exec_Assign_Name_used _ _ _ _ hsw]
  refine wpAny_bind (wpAny_standAt (wpAny_bind ?_))
  show wpAny _ A (do let _ ← comprehension (.ListComp elt [⟨.Name x px, iter, [ct], 0⟩] scope pos) scope env _ (newList []) false (eval iter env) (some (assign (.Name y py) env))) _ _ s
  refine wpAny_bind (wpAny_mono (wpAny_comprehension_free (use := some (assign (.Name y py) env)) (Q := fun _ s' => Q .next s') rfl hs hclos hkind hnames
    (wpAny_mono h (fun xv s₁ h₁ => ?_) fun _ _ e => e)) (fun _ s' hq => wpAny_pure (wpAny_pure hq)) fun _ _ e => e)
  obtain ⟨ax, its, news, J, rfl, hh, F, N, hsz, hj, hS, R⟩ := h₁
  have hl := (hS _ _ _ hj).list F.keep N
  have hlt : ax < s₁.heap.objs.size := by obtain ⟨_, e, _⟩ := hl; exact Heap.lt_size e
  refine wpAny_pyIter_list hl ?_
  have up : ∀ b o, s₁.heap.get? b = some o → (s₁.heap.push { cls := .type "list_iterator", data := .fields #[.ref ax, .int 0 0] }).get? b = some o := fun b o e => Heap.get?_push_of_some _ e
  obtain ⟨turn, fin⟩ := R { s₁ with heap := s₁.heap.push { cls := .type "list_iterator", data := .fields #[.ref ax, .int 0 0] } } ⟨_, rfl⟩
  refine block_C (s₂ := { s₁ with heap := s₁.heap.push { cls := .type "list_iterator", data := .fields #[.ref ax, .int 0 0] } }) J hh (Nat.ne_of_lt hlt) hsz hc hp hk hx ⟨⟨_, Heap.get?_push_size _ rfl, rfl, rfl⟩, hl.push _⟩ (by rw [Heap.size_push]; exact Nat.lt_succ_self _)
    (F.keeps up) (N.grown up) (Nat.ne_of_lt F.ns.lt) (next_is_new F) (fun p hp => Nat.ne_of_lt (Heap.lt_size (N p hp).1)) hj hS turn ?_
  intro D C h' tk m' ys news' F' N' o1 hn hC₀ hD₀ hCL hDL hCD offC hJ
  show wpAny _ A (assign (.Name y py) env (.ref D)) _ _ _
  refine wpAny_assign_Name (wpAny_storeName_local hy F'.ns (fun h₂ hn₂ hs₂ => ?_) hpp)
  have hL₀ : h₀.get? env.locals = none := Heap.get?_none_of_le F'.above
  have F₂ : Fr h₀ env.locals h₂ (fun z => if z = y then some (.ref D) else m z) := ⟨hn₂, fun b o e => hs₂.extBut b o (fun q => by rw [q, hL₀] at e; cases e) (F'.keep b o e), F'.above⟩
  refine ⟨m', hn.sameBut hs₂ hCL, fun h'' hs'' => fin ys news' hJ D h'' _ (F₂.change hs'' hCL hC₀) (fun p hp => ?_) (off1_of o1)⟩
  have z : h₂.get? p.1 = some p.2 := hs₂.extBut _ _ (N' p hp).2.1 (N' p hp).1
  refine ⟨hs''.extBut _ _ ?_ z, (N' p hp).2⟩
  rcases List.mem_cons.mp hp with rfl | hp
  · exact Ne.symm hCD
  · exact offC p hp
end
end
section
theorem canLayAll0_strs : ∀ ns : List PySem.Str, (∀ t ∈ ns, PyData.strOk t = true) → PyData.canLayAll0 (ns.map PyData.str) = true
  | [], _ => rfl
  | t :: r, h => by simp [PyData.canLayAll0, PyData.canLay0, canLayAll0_strs r fun t ht => h t (List.mem_cons_of_mem _ ht), h t (List.mem_cons_self ..)]
theorem depthAll_strs : ∀ ns : List PySem.Str, PyData.depthAll (ns.map PyData.str) = 0
  | [] => rfl
  | _ :: r => by simp [PyData.depthAll, PyData.depth, depthAll_strs r]
theorem shaped_strs (ns : List PySem.Str) (h : ∀ t ∈ ns, PyData.strOk t = true) : SeqAt.shaped (.list (ns.map PyData.str)) = true := by
  simp [SeqAt.shaped, PyData.canLay0, PyData.depth, canLayAll0_strs ns h, depthAll_strs]
theorem sameAll_strs : ∀ ns ms : List PySem.Str, PySem.Spec.sameAll (ns.map PyData.str) (ms.map PyData.str) = decide (ns = ms)
  | [], [] => by simp [PySem.Spec.sameAll]
  | [], _ :: _ => by simp [PySem.Spec.sameAll]
  | _ :: _, [] => by simp [PySem.Spec.sameAll]
  | a :: r, b :: t => by
    simp only [List.map_cons, PySem.Spec.sameAll, PySem.Spec.same, sameAll_strs r t]
    by_cases h : a = b <;> by_cases h' : r = t <;> simp [h, h']
theorem carried_strs : ∀ {vs : List Value} {ns : List PySem.Str}, StrsAre vs ns → CarriedAll vs (ns.map PyData.str)
  | _, _, .nil => .nil
  | _, _, .cons _ t r => .cons (.str _ t) (carried_strs r)
theorem ne_strs {w : World} {A : Around} {E : Value → Shared → Prop} {s : Shared} {a b : Addr} {xs ys : List Value} {ns ms : List PySem.Str} {Q : Value → Shared → Prop} (ha : s.heap.IsList a xs.toArray) (hb : s.heap.IsList b ys.toArray) (hi : StrsAre xs ns) (hj : StrsAre ys ms) (ho : ∀ t ∈ ns, PyData.strOk t = true) (hp : ∀ t ∈ ms, PyData.strOk t = true) (hu : A.units + 64 < cLine) (h : Q (.bool (!decide (ns = ms))) s) :
    wpAny (model PG w) A (compareOp .NotEq (.ref a) (.ref b)) Q E s :=
  ne_dataH_same (reads_newData ha (carried_strs hi)) (reads_newData hb (carried_strs hj)) (shaped_strs _ ho) (shaped_strs _ hp) hu (SeqAt.noMix_of_shape (.list .str) rfl _ _ (list_map_has fun _ => rfl) (list_map_has fun _ => rfl)) (by simp only [PySem.Spec.same]; rw [sameAll_strs]; exact h)
end
section
section
variable {prog : Program} {w : World} {A : Around} {E : Value → Shared → Prop} {s : Shared} {env : Env} {h₀ : Heap} {x : PySem.Str} {body : List Stmt} {Q : Flow → Shared → Prop}
/-- a for over range(b): the ledger may grow -/
theorem iter_range {r : Addr} {b : Int} {t u v : Tok} {n : Nat} {m₀ : PySem.Str → Option Value} {news : List (Addr × Obj)} (J : Nat → (PySem.Str → Option Value) → List (Addr × Obj) → Prop)
    (hh : A.handled = none) (hr : IsRange s.heap r 0 b 1 t u v) (hsm : Builtin.Range.small 0 b 1 = true) (hn : Builtin.Range.rangeSize 0 b 1 = ((n : Nat) : Int)) (F : Fr h₀ env.locals s.heap m₀) (N : News h₀ env.locals s.heap news) (hj : J 0 m₀ news)
    (turn : ∀ i tk₀ m₁ news₁ h tk own, i < n → J i m₁ news₁ → (∀ q ∈ news₁, ∀ p ∈ own, q.1 ≠ p.1) → News h₀ env.locals h own → Fr h₀ env.locals h (fun y => if y = x then some (.int (i : Nat) tk₀) else m₁ y) → News h₀ env.locals h news₁ →
      wpAny (model prog w) A (execs body env) (TurnPost h₀ env.locals (J (i + 1)) own { s with heap := h, toks := tk } Q) E { s with heap := h, toks := tk })
    (done : ∀ m₁ news₁ h tk, J n m₁ news₁ → Fr h₀ env.locals h m₁ → News h₀ env.locals h news₁ → Q .next { s with heap := h, toks := tk }) :
    wpAny (model prog w) A (pyIter (.ref r)) (fun it s₂ => LoopAtV prog w A h₀ env x body Q E it s₂) E s := by
  refine wpAny_pyIter_range hr hsm ?_
  refine iter_walks (s := { s with heap := s.heap.push _ }) (m₀ := m₀) (news := news) J (LCg.range_walks hh 0 n) ?_ (next_is_new F) (by show IsRangeIter _ _ _ _ _; rw [hn]; simpa using Heap.get?_push_size _ rfl) (fun i h st => ⟨_, st⟩) (F.push _) (N.grown fun _ _ e => Heap.get?_push_of_some _ e) ?_ ?_ hj ?_ ?_
  · intro hm; exact absurd F.ns.lt (by rw [List.mem_singleton.mp hm]; exact Nat.lt_irrefl _)
  · intro p hp hm
    exact absurd (Heap.lt_size (N p hp).1) (by rw [List.mem_singleton.mp hm]; exact Nat.lt_irrefl _)
  · intro i h st b hb
    rw [List.mem_singleton.mp hb]; exact ⟨_, st⟩
  · rintro i v m₁ news₁ h tk own hi ⟨t', rfl⟩ hJ hd No F₁ N₁
    exact turn i t' m₁ news₁ h tk own hi hJ hd No (by simpa using F₁) N₁
  · intro m₁ news₁ h tk hJ
    exact done m₁ news₁ h tk hJ
end
end
section
section
variable {prog : Program} {w : World} {A : Around} {E : Value → Shared → Prop} {s : Shared} {env : Env} {h₀ : Heap} {x : PySem.Str} {body : List Stmt} {Q : Flow → Shared → Prop}
/-- a for over a dict's keys; the dict stands in the ledger and does not turn -/
theorem iter_dict {K : Type} [DecidableEq K] {knd : KeyKind prog w K} {d : Addr} {od : Obj} {kvs : List (K × Value)} {m₀ : PySem.Str → Option Value} {news : List (Addr × Obj)} (J : Nat → (PySem.Str → Option Value) → List (Addr × Obj) → Prop)
    (hh : A.handled = none) (lo : (d == sysModules) = false) (hd : od.IsDictOf knd kvs) (hm : ∀ i m₁ news₁, J i m₁ news₁ → (d, od) ∈ news₁) (F : Fr h₀ env.locals s.heap m₀) (N : News h₀ env.locals s.heap news) (hj : J 0 m₀ news)
    (turn : ∀ i v m₁ news₁ h tk own k y, kvs[i]? = some (k, y) → knd.is k v = true → J i m₁ news₁ → (∀ q ∈ news₁, ∀ p ∈ own, q.1 ≠ p.1) → News h₀ env.locals h own → Fr h₀ env.locals h (fun y => if y = x then some v else m₁ y) → News h₀ env.locals h news₁ →
      wpAny (model prog w) A (execs body env) (TurnPost h₀ env.locals (J (i + 1)) own { s with heap := h, toks := tk } Q) E { s with heap := h, toks := tk })
    (done : ∀ m₁ news₁ h tk, J kvs.length m₁ news₁ → Fr h₀ env.locals h m₁ → News h₀ env.locals h news₁ → Q .next { s with heap := h, toks := tk }) :
    wpAny (model prog w) A (pyIter (.ref d)) (fun it s₂ => LoopAtV prog w A h₀ env x body Q E it s₂) E s := by
  have hmd := N _ (hm _ _ _ hj)
  obtain ⟨ep, hat⟩ := (Heap.dictOf_iff.mpr ⟨od, hmd.1, hd⟩ : s.heap.DictOf knd d kvs).dictAt
  have hne : d ≠ s.heap.objs.size := Nat.ne_of_lt hat.lt_size
  refine wpAny_pyIter_dict lo hat ?_
  have W := Walks.dictKeys (knd := knd) hh s.heap.objs.size d hne kvs ep
  have hIn : h₀.get? s.heap.objs.size = none := next_is_new F
  generalize hI : s.heap.objs.size = I at *
  refine ⟨I, [I, d], [I], _, _, _, m₀, news, J, rfl, W, ?_, ?_, ?_, ⟨⟨_, hI ▸ Heap.get?_push_size _ rfl, rfl, rfl⟩, hat.push _⟩, F.push _, N.grown fun _ _ e => Heap.get?_push_of_some _ e, hj, ?_, ?_⟩
  · intro hm
    rcases List.mem_cons.mp hm with e | hm
    · exact absurd F.ns.lt (by rw [e, hI]; exact Nat.lt_irrefl _)
    · exact hmd.2.1 (List.mem_singleton.mp hm).symm
  · intro b hb; rw [List.mem_singleton.mp hb]; exact hIn
  · intro p hp hm
    exact absurd (Heap.lt_size (N p hp).1) (by rw [List.mem_singleton.mp hm, hI]; exact Nat.lt_irrefl _)
  · rintro i v m₁ news₁ s₁ own ⟨hh', tk', rfl⟩ hin ⟨k, y, hk, hv⟩ hJ hoffw hsub hget hall ⟨⟨oI, hoI, _⟩, _⟩ F₁ N₁
    have N₂ : News h₀ env.locals hh' news₁ := fun p hp => N₁ p (List.mem_append_right _ hp)
    have hIm := hall I (List.mem_cons_self ..) hIn oI hoI
    have hone : ∀ p ∈ [(I, oI)], p ∈ own := fun p hp => by rw [List.mem_singleton.mp hp]; exact hIm
    have hdn := N₂ _ (hm _ _ _ hJ)
    have hnI : ∀ q ∈ news₁, ∀ p ∈ [(I, oI)], q.1 ≠ p.1 := fun q hq p hp e => hoffw q hq (by rw [e, List.mem_singleton.mp hp]; exact List.mem_singleton.mpr rfl)
    refine wpAny_mono (turn i v m₁ news₁ hh' tk' [(I, oI)] k y hk hv hJ hnI (fun p hp => N₁ p (List.mem_append_left _ (hone p hp))) F₁ N₂) (fun f s₂ p => ?_) fun _ _ e => e
    have fin : TurnEnd h₀ env.locals (J (i + 1)) [(I, oI)] { s with heap := hh', toks := tk' } s₂ → LoopStepU h₀ env.locals [I] own (J (i + 1)) { s with heap := hh', toks := tk' } .next s₂ := by
      rintro ⟨h', tk, m', nx, e, F', N', ho, hq, hJ'⟩
      refine ⟨rfl, h', tk, m', nx, e, F', fun p hp => ?_, fun p hp hb => hq p hp _ (List.mem_singleton.mpr rfl) (List.mem_singleton.mp hb), hJ'⟩
      rcases List.mem_append.mp hp with h1 | h1
      · refine ⟨?_, (N₁ p (List.mem_append_left _ h1)).2⟩
        have hg := hget p h1
        rcases List.mem_cons.mp (hsub p h1) with e1 | e1
        · rw [e1] at hg ⊢
          have := ho _ (List.mem_singleton.mpr rfl)
          have hg' : hh'.get? I = some p.2 := hg
          rw [hoI] at hg'
          cases hg'
          exact this
        · have e1 := List.mem_singleton.mp e1
          rw [e1] at hg ⊢
          have hg' : hh'.get? d = some p.2 := hg
          rw [hdn.1] at hg'
          cases hg'
          exact (N' _ (hm _ _ _ hJ')).1
      · exact N' p h1
    cases f with
    | ret v => exact .ret p
    | brk => exact .brk p
    | next => exact .next (fin p)
    | cont => exact .cont (fin p)
  · rintro h' tk m' news' F' N' _ hJ
    exact done m' news' h' tk hJ F' N'
end
end
section
theorem mulok_fmod {c b l : Int} (h : c = l.fmod 2147483647) : IntMulOk c b := by
  subst h
  have h1 : 0 ≤ l.fmod 2147483647 := Int.fmod_nonneg_of_pos _ (by decide)
  have h2 : l.fmod 2147483647 < 2147483647 := Int.fmod_lt_of_pos _ (by decide)
  exact IntMulOk.of_left (intBits_le_64 (by omega) (by omega))
section
local macro_rules | `(tactic| mul_fits) => `(tactic| exact mulok_fmod (by exact rfl))

theorem take_spec {w : World} {p : Program} {loose : List PySem.Str} {mean : ExcName → Option Value} {mg mb : PySem.Str → Option Value} {dp un : Nat} {gd : Option (List Code)} {cn : PySem.Str} {cs : Scope} {a : Addr} {ccd : Value} {cl : List (PySem.Str × Addr)} {outer : List Env} {A₀ : Around} {base h₀ : Heap} {L : Addr} {m : PySem.Str → Option Value} {s : Shared}
    {Q E : Value → Shared → Prop} {src : Addr} {x y : Int} {tx ty tt : Tok} {n : Nat} {top : Int}
    (B : Below A₀ base outer h₀) (F : Fr h₀ L s.heap m) (X : (hd.heap_39 w.params).In h₀) (T : Top p loose mean mg mb h₀) (hk : cs.kind = .function) (N : News h₀ L s.heap [(src, listOf #[.int x tx, .int y ty] n)])
    (hx : 0 ≤ x) (hy : 0 ≤ y) (hyy : y < 2147483647) (ht : 1 ≤ top) (ht' : top ≤ 10) (hdp : dp + 1 < recursionLimit) (hu : un + 8 < cLine)
    (ret : ∀ d td x' y' tx' ty' n' h' tk', 0 ≤ d → d < top → 0 ≤ x' → 0 ≤ y' → y' < 2147483647 → Fr h₀ L h' m → Kp [src] s.heap h' → h'.get? src = some (listOf #[.int x' tx', .int y' ty'] n') → Q (.int d td) { s with heap := h', toks := tk' }) :
    wpAny (model PG w) (ktrTop dp un gd cn cs L a ccd cl outer) (call (.ref 123) [.ref src, .int top tt]) Q E s := by
  w_top off; (have kf : (hd.heap_39 w.params).In h₀ → PySem.Challenge.rw_nu0047_01 = PySem.Challenge.rw_nu0047_01 := by (k_fill; exact fun _ => rfl)); clear kf
  refine wpAny_call ?_
  k_dflt (refine' enter ?k1 ?k2 ?k3 ?k4 ?k5 ?kA ?kF ?kK ?k6 ?k7 ?k8 ?k9 ?kB ?_ ?c2 ?c3 ?c4 ?c5; (case kA => exact rfl); (case kF => exact rfl); (case kK => assumption); (case k1 => k_asm); (case k2 => k_asm); (case k3 => k_asm); (case k4 => k_asm); (case k5 => k_asm); (case k6 => k_is); (case k7 => k_is); (case k8 => ktr_room); (case k9 => exact BindsTo.of_eq rfl); (case c5 => decide); (case kB => exact locs rfl); (case c2 => exact rfl); (case c3 => exact rfl); (case c4 => exact rfl); k_whole; intro g' L' h' kp' hL' FG' F' N' B' X' T'; (try dsimp only); (try k_fold))
  k_steps
  rotate_left
  refine mul_int ?_ (mulok_fmod (l := _) rfl)
  k_steps
  all_goals (try dsimp only)
  all_goals (rename Fr g' L' _ _ => FZ; rename News g' L' _ _ => NZ; rename Fr h₀ L _ _ => FY)
  all_goals (refine ret _ _ _ _ _ _ _ _ _ ?_ ?_ ?_ ?_ ?_ FY (fun b o nb e => FZ.keep b o (kp' b o nb e)) (News.get NZ (List.Mem.head _)))

  all_goals (first | exact hx | exact hy | exact hyy | exact Int.fmod_nonneg_of_pos _ (by omega) | exact Int.fmod_lt_of_pos _ (by omega) | exact Int.fdiv_nonneg hx (by omega))
end
end
section
section
variable {M : Model} {A : Around} {E : Value → Shared → Prop} {h : Heap} {g : Array GenState} {d : Drawn} {tk : Nat} {os : OsState}
variable {nm q : PySem.Str} {C N : Addr} {bs bm : List Value} {hdct : Bool} {sn : List PySem.Str} {sub : List Value} {ab : Bool} {col : Option Bool} {dd : Option Addr} {k0 k1 k2 k3 k5 : Option Value}
theorem exc_check_init (hb : bm.contains (.type "Exception") = true) {e : Addr} {oe : Obj} {rest : List Value} {Q : Unit → Shared → Prop} (hC : h.get? C = some (excClassObj nm q C N bs bm hdct sn sub ab col dd k0 k1 k2 k3 k5 "Exception.__new__"))
    (he : h.get? e = some oe) (hcls : oe.cls = .ref C) (hq : Q () ⟨h, g, d, tk, os⟩) : wpAny M A (checkBuiltinCall "Exception.__init__" ⟨.ref e :: rest, []⟩) Q E ⟨h, g, d, tk, os⟩ := by
  have F := PySem.F.excBase_Exception
  have hcB : (Value.ref C :: bm).contains (.type "Exception") = true := by rw [List.contains_cons, hb, Bool.or_true]
  have hshort := F.noStar
  simp only [checkBuiltinCall, F.initKind, F.initSplit, F.initRow]
  repeat (first | (with_reducible refine wpAny_loadPart_at he ?_; rw [hcls]) | with_reducible refine wpAny_loadPart_at hC ?_ | (with_reducible refine wpAny_isSubtype_exc hC ?_; rw [hcB]) | wp_step)
  refine wpAny_onRaise ?_
  rw [show ∀ (a b : String) (n : Nat), Bind.check ⟨.positional, "*", "Exception", .self, [⟨"args", .varPos, false⟩]⟩ a b n (List.map (fun x => x.fst) ({ pos := Value.ref e :: rest } : Args).kw) = pure () from
    fun a b n => check_star_args _ _ _ _ _ _]
  exact wpAny_pure hq
theorem exc_check_new (hb : bm.contains (.type "Exception") = true) {rest : List Value} {Q : Unit → Shared → Prop} (hC : h.get? C = some (excClassObj nm q C N bs bm hdct sn sub ab col dd k0 k1 k2 k3 k5 "Exception.__new__"))
    (hq : Q () ⟨h, g, d, tk, os⟩) : wpAny M A (checkBuiltinCall "Exception.__new__" ⟨.ref C :: rest, []⟩) Q E ⟨h, g, d, tk, os⟩ :=
  wpAny_check_new_subU PySem.F.excBase_Exception hb .base hC hq
end
section
variable {prog : Program} {w : World} {A : Around} {E : Value → Shared → Prop} {h : Heap} {g : Array GenState} {d : Drawn} {tk : Nat} {os : OsState}
variable {nm q : PySem.Str} {C N : Addr} {bs bm : List Value} {hdct : Bool} {sn : List PySem.Str} {sub : List Value} {ab : Bool} {col : Option Bool} {dd : Option Addr} {k0 k1 k2 k3 k5 : Option Value}
theorem exc_init (hb : bm.contains (.type "Exception") = true) {e : Addr} {ob : Obj} {vs : Array Value} {t0 : Addr} {rest : List Value} {Q : Value → Shared → Prop}
    (hC : h.get? C = some (excClassObj nm q C N bs bm hdct sn sub ab col dd k0 k1 k2 k3 k5 "Exception.__new__"))
    (he : h.get? e = some ob) (hcls : ob.cls = .ref C) (hdt : ob.data = .fields vs) (h0 : vs[0]? = some (.ref t0))
    (hq : Q .none ⟨(h.push { cls := .type "tuple", data := .seq rest.toArray }).update e (Obj.mapFields (·.setIfInBounds 0 (.ref h.objs.size))), g, d, tk, os⟩) (hrest : rest.length ≤ sizeLine := by size_fits) :
    wpAny (model prog w) A (call (.builtin "Exception.__init__") (.ref e :: rest)) Q E ⟨h, g, d, tk, os⟩ := by
  have F := PySem.F.excBase_Exception
  refine wpAny_call (codeAny_call_builtin F.init.plain F.initEntry (exc_check_init hb hC he hcls ?_))
  unfold Builtin.«BaseException.__init__»
  dsimp only
  rw [if_neg (by simp)]
  unfold newTuple Builtin.BaseException.bexcPut
  have hsz : 0 < vs.size := (Array.getElem?_eq_some_iff.mp h0).1
  have he₁ := Heap.get?_push_of_some (h := h) { cls := .type "tuple", data := .seq rest.toArray } he
  refine wpAny_bind (wpAny_newObj_type (wpAny_bind (wpAny_bind (wpAny_field he₁ hdt h0 (wpAny_bind (wpAny_setField he₁ hdt hsz ?_))))) (by show rest.toArray.size ≤ sizeLine; rw [List.size_toArray]; exact hrest))
  exact wpAny_letGo (wpAny_pure hq)
theorem exc_new {R : Result → Shared → Prop} (hb : bm.contains (.type "Exception") = true) (ha : bm.contains (.type "AttributeError") = false) (hn : bm.contains (.type "NameError") = false) {rest : List Value}
    (hC : h.get? C = some (excClassObj nm q C N bs bm hdct sn sub ab col dd k0 k1 k2 k3 k5 "Exception.__new__"))
    (hq : R (.ok (.ret (.ref (h.objs.size + 1)))) ⟨(h.push { cls := .type "tuple", data := .seq rest.toArray }).push
      { cls := .ref C, data := .fields #[.ref h.objs.size, .none, .none, .none, .bool false, .none] }, g, d, tk, os⟩) (hrest : rest.length ≤ sizeLine := by size_fits) :
    codeAny (model prog w) A (.builtin "Exception.__new__" ⟨.ref C :: rest, []⟩) R ⟨h, g, d, tk, os⟩ := by
  have Fn := PySem.F.excBase_Exception
  have hends := Fn.ends
  have hcB : (Value.ref C :: bm).contains (.type "Exception") = true := by rw [List.contains_cons, hb, Bool.or_true]
  have hcA : (Value.ref C :: bm).contains (.type "AttributeError") = false := by rw [List.contains_cons, ha]; rfl
  have hcN : (Value.ref C :: bm).contains (.type "NameError") = false := by rw [List.contains_cons, hn]; rfl
  refine codeAny_builtinAt Fn.entry ?_
  unfold Builtin.«BaseException.__new__»
  refine PySem.wpAt_bind ?_
  show PySem.wpAt _ _ _ (PySem.stack >>= _) _ _ _
  refine PySem.wpAt_bind (PySem.wpAt_stack fun p below => PySem.wpAt_of_wpAny ?_)
  wp_walk
  refine PySem.wpAt_of_wpAny ?_
  rw [Fn.owner]
  repeat (first | with_reducible refine wpAny_madeHere_exc Fn.canon hC ?_ | with_reducible refine wpAny_loadPart_at hC ?_ | (with_reducible refine wpAny_isSubtype_exc hC ?_; first | rw [hcB] | rw [hcA] | rw [hcN]) | wp_step)
  show R _ _
  rw [Heap.size_push]
  exact hq
theorem exc_type_call {K : Frag} (X : K.In h) (hb : bm.contains (.type "Exception") = true) (ha : bm.contains (.type "AttributeError") = false) (hn : bm.contains (.type "NameError") = false) {rest : List Value} {fI : Addr} {Q : Fin → Shared → Prop}
    (hC : h.get? C = some (excClassObj nm q C N bs bm hdct sn sub ab col dd k0 k1 k2 k3 k5 "Exception.__new__")) (hi : findIn K (.ref C) "__init__" = some (some (.ref fI))) (hf : typeIn K (.ref fI) = some (.type "function"))
    (hq : ∀ h' e, Heap.MadeExcOf h h' e (.ref C) rest →
      wpAny (model prog w) A (call (.ref fI) (.ref e :: rest)) (fun r s' => r = .none ∧ Q (.done (.ret (.ref e))) s') E ⟨h', g, d, tk, os⟩) (hrest : rest.length ≤ sizeLine := by size_fits) :
    wpAny (model prog w) A (Builtin.«type.__call__» ⟨.ref C :: rest, []⟩) Q E ⟨h, g, d, tk, os⟩ := by
  have F := PySem.F.excBase_Exception
  repeat (first | with_reducible refine wpAny_loadPart_at hC ?_ | with_reducible refine wpAny_madeBy_exc hC ?_ | wp_step)
  refine codeAny_call_builtin_code (Code.quiet_builtin _ F.quiet) (exc_check_new hb hC ?_)
  refine exc_new hb ha hn hC ?_ hrest
  show wpAny _ _ _ _ _ _
  have up : ∀ b o, h.get? b = some o → ((h.push { cls := .type "tuple", data := .seq rest.toArray }).push { cls := .ref C, data := .fields #[.ref h.objs.size, .none, .none, .none, .bool false, .none] }).get? b = some o :=
    fun b o e => Heap.get?_push_of_some _ (Heap.get?_push_of_some _ e)
  have hC₁ := up _ _ hC
  have X₁ := X.keeps up
  have hget : ((h.push { cls := .type "tuple", data := .seq rest.toArray }).push
      { cls := .ref C, data := .fields #[.ref h.objs.size, .none, .none, .none, .bool false, .none] }).get? (h.objs.size + 1) = some
      { cls := .ref C, data := .fields #[.ref h.objs.size, .none, .none, .none, .bool false, .none] } := by heap_get
  have hcC : (Value.ref C :: bm).contains (.ref C) = true := by simp
  unfold isInstance
  repeat (first | with_reducible refine wpAny_loadPart_at hget ?_ | (with_reducible refine wpAny_isSubtype_exc hC₁ ?_; rw [hcC]) | wp_step)
  show wpAny _ _ (typeLookup (.ref C) _) _ _ _
  refine (looks_findIn X₁ hi).here ?_
  refine wpAny_holding (wpAny_bind ?_)
  unfold bindSpecial
  refine wpAny_bind ((looks_typeIn X₁ hf).here ?_)
  rw [if_pos (by decide)]
  refine wpAny_pure (wpAny_bind (wpAny_mono (hq _ (h.objs.size + 1) ⟨up, Heap.get?_none_of_le (Nat.le_succ _), h.objs.size, hget, Heap.get?_none_of_le (Nat.le_refl _), ?_⟩) (fun r s' hr => ?_) fun _ _ x => x))
  · exact Heap.get?_push_of_some _ (Heap.get?_push_at rfl rfl)
  · obtain ⟨rfl, hQ⟩ := hr
    wp_walk
    exact hQ
theorem exc_call {K : Frag} (X : K.In h) (hb : bm.contains (.type "Exception") = true) (ha : bm.contains (.type "AttributeError") = false) (hn : bm.contains (.type "NameError") = false) {rest : List Value} {fI : Addr} {Q : Value → Shared → Prop}
    (hC : h.get? C = some (excClassObj nm q C N bs bm hdct sn sub ab col dd k0 k1 k2 k3 k5 "Exception.__new__")) (hi : findIn K (.ref C) "__init__" = some (some (.ref fI))) (hf : typeIn K (.ref fI) = some (.type "function"))
    (hq : ∀ h' e, Heap.MadeExcOf h h' e (.ref C) rest →
      wpAny (model prog w) (A.under (.builtin "type.__call__" ⟨.ref C :: rest, []⟩)) (call (.ref fI) (.ref e :: rest)) (fun r s' => r = .none ∧ Q (.ref e) s') E ⟨h', g, d, tk, os⟩) (hrest : rest.length ≤ sizeLine := by size_fits) :
    wpAny (model prog w) A (call (.ref C) rest) Q E ⟨h, g, d, tk, os⟩ := by
  have f1 := tc_lookup
  have f2 := tc_bind (.ref C)
  have hT : (⟨h, g, d, tk, os⟩ : Shared).TypeIs (.ref C) "type" := ⟨_, hC, rfl⟩
  refine wpAny_call (codeAny_of_tree ?_)
  show wpAny _ _ (callAny (.ref C) _) _ _ _
  repeat (any_goals (first | assumption | with_reducible refine wpAny_loadPart_at hC ?_ | wp_step))
  refine ⟨rfl, ?_⟩
  refine codeAny_call_builtin_at (Code.quiet_builtin _ (by decide +kernel)) entry_typeCall (wpAny_check_type_call_sub hC (exc_type_call X hb ha hn hC hi hf (fun h' e hm => ?_) hrest))
  exact hq h' e hm
theorem exc_raise {env : Env} {s : Shared} {x : Sem Value} {Q : Flow → Shared → Prop} (hbase : bm.contains (.type "BaseException") = true) (hh : A.handled = none) {M : Model}
    (hx : wpAny M A x (fun v s₁ => ∃ e t od, v = .ref e ∧ s₁.heap.get? C = some (excClassObj nm q C N bs bm hdct sn sub ab col dd k0 k1 k2 k3 k5 "Exception.__new__") ∧
      s₁.heap.get? e = some { cls := .ref C, dict := od, data := .fields #[.ref t, .none, .none, .none, .bool false, .none] } ∧ E (.ref e) s₁) E s) :
    wpAny M A (raiseStmt env (some x) none) Q E s := by
  have hcB : (Value.ref C :: bm).contains (.type "BaseException") = true := by rw [List.contains_cons, hbase, Bool.or_true]
  unfold raiseStmt
  refine wpAny_bind (wpAny_mono hx (fun v s₁ h₁ => ?_) fun _ _ x => x)
  obtain ⟨e, t, od, rfl, hC, he, hE⟩ := h₁
  obtain ⟨hp, g, d, tk, os⟩ := s₁
  repeat (first | with_reducible refine wpAny_loadPart_at he ?_ | with_reducible refine wpAny_loadPart_at hC ?_ | (with_reducible refine wpAny_isSubtype_exc hC ?_; rw [hcB]) | wp_step)
  exact wpAny_raiseNew_none hh hE
end
end
section
abbrev excO (d : Option Addr) (t : Addr) : Obj := { cls := .ref 44, dict := d, data := .fields #[.ref t, .none, .none, .none, .bool false, .none] }
abbrev tupO (v : Value) : Obj := { cls := .type "tuple", data := .seq #[v] }
theorem cls44 {w : World} {h : Heap} (X : (hd.heap_39 w.params).In h) : ∃ nm q bs hdct sn sub ab col dd k0 k1 k2 k3 k5, h.get? 44 = some (excClassObj nm q 44 43 bs [.ref 31, .type "Exception", .type "BaseException", .type "object"] hdct sn sub ab col dd k0 k1 k2 k3 k5 "Exception.__new__") := ⟨_, _, _, _, _, _, _, _, _, _, _, _, _, _, X 44 _ rfl⟩
theorem exc_initW {w : World} {A : Around} {E : Value → Shared → Prop} {s : Shared} {h₀ : Heap} {L e t : Addr} {m : PySem.Str → Option Value} {news : List (Addr × Obj)} {u : Obj → List (Addr × Obj)} {v : Value} {Q : Value → Shared → Prop}
    (F : Fr h₀ L s.heap m) (N : News h₀ L s.heap news) (X : (hd.heap_39 w.params).In h₀) (U : UpdF e (excO none t) news u)
    (ret : ∀ t' h', Fr h₀ L h' m → News h₀ L h' ((t', tupO v) :: u (excO none t')) → (∀ p ∈ news, p.1 < t') → Q .none { s with heap := h' }) :
    wpAny (model PG w) A (call (.builtin "Exception.__init__") [.ref e, v]) Q E s := by
  obtain ⟨nm, q, bs, hdct, sn, sub, ab, col, dd, k0, k1, k2, k3, k5, hC⟩ := cls44 (X.keeps F.keep)
  have hm := updF_mem U
  have he := (N _ hm).1
  refine exc_init (C := 44) (by decide) hC he rfl rfl rfl ?_
  have he₁ := Heap.get?_push_of_some (h := s.heap) { cls := .type "tuple", data := .seq [v].toArray } he
  have kp : Kp [e] s.heap ((s.heap.push { cls := .type "tuple", data := .seq [v].toArray }).update e (Obj.mapFields (·.setIfInBounds 0 (.ref s.heap.objs.size)))) := fun b o nb hb => by
    rw [Heap.get?_update_ne _ _ _ _ (by simpa using nb)]
    exact Heap.get?_push_of_some _ hb
  have hd' : ((s.heap.push { cls := .type "tuple", data := .seq [v].toArray }).update e (Obj.mapFields (·.setIfInBounds 0 (.ref s.heap.objs.size)))).get? e = some (excO none s.heap.objs.size) :=
    Heap.get?_update_self _ he₁ (Obj.isFreed_of_fields (Obj.data_mapFields rfl _))
  have F' := kp.fr F (fun hb => (N _ hm).2.1 (List.mem_singleton.mp hb).symm) (fun b hb => by rw [List.mem_singleton.mp hb]; exact (N _ hm).2.2)
  have ht : ((s.heap.push { cls := .type "tuple", data := .seq [v].toArray }).update e (Obj.mapFields (·.setIfInBounds 0 (.ref s.heap.objs.size)))).get? s.heap.objs.size = some (tupO v) := by
    rw [Heap.get?_update_ne _ _ _ _ (Nat.ne_of_gt (Heap.lt_size he))]
    exact Heap.get?_push_size _ rfl
  refine ret s.heap.objs.size _ F' (fun p hp => ?_) (fun p hp => Heap.lt_size (N p hp).1)
  rcases List.mem_cons.mp hp with rfl | hp
  · exact ⟨ht, Nat.ne_of_gt F.ns.lt, next_is_new F⟩
  · exact updF_news U N kp hd' p hp
open PySem.Builtin PySem.Builtin.ObjectAttr in
theorem exc_set {w : World} {A : Around} {E : Value → Shared → Prop} {s : Shared} {e t : Addr} {v : Value} {Q : Unit → Shared → Prop} (X : (hd.heap_39 w.params).In s.heap) (he : s.heap.get? e = some (excO none t))
    (ret : ∀ d h' tk', Kp [e] s.heap h' → s.heap.get? d = none → h'.get? e = some (excO (some d) t) → Q () { s with heap := h', toks := tk' }) :
    wpAny (model PG w) A (setAttr (.ref e) (PySem.Str.ofString "message") v) Q E s := by
  obtain ⟨h, g, d, tk, os⟩ := s
  dsimp only at X he ret
  have I : InstAt h e (excO none t) 44 none := ⟨he, rfl, rfl, trivial⟩
  obtain ⟨nm, q, bs, hdct, sn, sub, ab, col, dd, k0, k1, k2, k3, k5, hC⟩ := cls44 X
  have SF := PySem.F.store_object
  refine set_plain X I (by rfl) ?_
  dsimp only
  have sub : Looks (model PG w) h (isInstance (.ref e) (.type "object")) true := I.type.andThen (looks_mroIn X (by rfl))
  refine codeAny_call_builtin SF.slot.plain SF.entry (@check_slot (model PG w) _ _ _ "object.__setattr__" "object" "__setattr__" (.ref e) [_, v] [] _ SF.kind SF.split sub (SF.args (.ref e) _ v) ?_)
  have hm : Looks (model PG w) h (mroOf (.ref 44)) [.ref 44, .ref 31, .type "Exception", .type "BaseException", .type "object"] := (looks_clsIn X (C := 44) rfl).andThen .now
  rw [osa_eq, refuse_eq]
  refine wpAny_bind (wpAny_bind ((Looks.here (s := ⟨h, g, d, tk + 1, os⟩) I.type) (wpAny_bind ((Looks.here (s := ⟨h, g, d, tk + 1, os⟩) hm) ?_))))
  rw [refuseLoop_ref, refuseLoop_ref, PySem.F.store_Exception.passes]
  refine wpAny_pure (wpAny_bind ((Looks.here (s := ⟨h, g, d, tk + 1, os⟩) I.type) (wpAny_bind (Looks.here (s := ⟨h, g, d, tk + 1, os⟩) (looks_findIn X (r := none) (by rfl)) (wpAny_bind (wpAny_pure ?_))))))
  show wpAny _ _ (storeInOwnDict (.ref e) (.ref 44) _ _ v _) _ _ _
  refine wpAny_bind (wpAny_pure (wpAny_bind ?_))
  refine wpAny_bind (wpAny_loadPart he (wpAny_bind (Looks.here (s := ⟨h, g, d, tk + 1, os⟩) (looks_clsIn X (C := 44) rfl) ?_)))
  show wpAny _ _ (alloc { cls := .type "dict", data := .dict #[] } >>= fun d' => update e (fun o => { o with dict := some d' }) >>= fun _ => dictMade (.ref 44) e d') _ _ _
  have hx₁ : (h.push { cls := .type "dict", data := .dict #[] }).get? e = some (excO none t) := Heap.get?_push_of_some _ he
  have hxs : e ≠ h.objs.size := Nat.ne_of_lt (Heap.lt_size he)
  refine wpAny_bind (wpAny_alloc' ?_)
  refine wpAny_bind (wpAny_update' hx₁ ?_)
  refine wpAny_pure ?_
  have hgd : ((h.push { cls := .type "dict", data := .dict #[] }).update e fun o => { o with dict := some h.objs.size }).get? h.objs.size = some { cls := .type "dict", data := .dict #[] } :=
    (Heap.get?_update_ne _ _ _ _ hxs.symm).trans (Heap.get?_push_at rfl rfl)
  have hnd : ((h.push { cls := .type "dict", data := .dict #[] }).update e fun o => { o with dict := some h.objs.size }).Ns h.objs.size (fun _ => none) :=
    ⟨_, #[], _, hgd, rfl, fun e he => absurd he (by simp), fun _ => rfl⟩
  show wpAny _ _ (storeInDict h.objs.size _ _ v) _ _ _
  unfold storeInDict newKeyGuard
  refine wpAny_bind (wpAny_pure (wpAny_bind (wpAny_nsSet1 (Heap.Ns1.of_empty hnd) fun h' hn' hs => ?_)))
  obtain ⟨oD, esD, epD, hoD, hdD, hcD⟩ := hn'.count (Within.cons (PySem.Str.ofString "message") v Within.nil)
  refine wpAny_bind (wpAny_lookBehind hoD (by rw [hdD]; exact pastItsLine_dict (Nat.le_trans hcD (by rw [List.length_cons, List.length_nil, sizeLine_eq]; omega))) ?_)
  wp_walk
  refine ret h.objs.size h' _ (fun b o nb hb => ?_) (Heap.get?_none_of_le (Nat.le_refl _)) ?_
  · have nb' : b ≠ e := by simpa using nb
    exact (hs.2 b (Nat.ne_of_lt (Heap.lt_size hb))).trans ((Heap.get?_update_ne _ _ _ _ nb').trans (Heap.get?_push_of_some _ hb))
  · exact (hs.2 e hxs).trans (Heap.get?_update_self _ hx₁ rfl)
theorem exc_setW {w : World} {A : Around} {E : Value → Shared → Prop} {s : Shared} {h₀ : Heap} {L e t : Addr} {m : PySem.Str → Option Value} {news : List (Addr × Obj)} {u : Obj → List (Addr × Obj)} {v : Value} {Q : Unit → Shared → Prop}
    (F : Fr h₀ L s.heap m) (N : News h₀ L s.heap news) (X : (hd.heap_39 w.params).In h₀) (U : UpdF e (excO none t) news u)
    (ret : ∀ d h' tk', Fr h₀ L h' m → News h₀ L h' (u (excO (some d) t)) → Q () { s with heap := h', toks := tk' }) :
    wpAny (model PG w) A (setAttr (.ref e) (PySem.Str.ofString "message") v) Q E s := by
  have hm := updF_mem U
  have he := N _ hm
  refine exc_set (X.keeps F.keep) he.1 fun d h' tk' kp hd hd' => ?_
  exact ret d h' tk' (kp.fr F (fun hb => he.2.1 (List.mem_singleton.mp hb).symm) (fun b hb => by rw [List.mem_singleton.mp hb]; exact he.2.2)) (updF_news U N kp hd')
end
section
local macro_rules | `(tactic| k_room) => `(tactic| ktr_room)
local macro_rules | `(tactic| k_all) => `(tactic| with_reducible assumption)
local macro_rules | `(tactic| walk_at "compareOp NotIn str ref") => `(tactic| (k_here; k_dflt (first
  | refine notin_hit (by (first | exact kda_dict (by k_asm) (by k_mem) (by k_asm) | (refine' dictOf_keep ?a ?b; (case b => exact Fr.keep (by k_asm)); (case a => assumption)))) (by k_asm) (by k_asm) ?_
  | refine notin_miss (by (first | exact kda_dict (by k_asm) (by k_mem) (by k_asm) | (refine' dictOf_keep ?a ?b; (case b => exact Fr.keep (by k_asm)); (case a => assumption)))) (by k_asm) (by k_asm) ?_)))
local macro_rules | `(tactic| walk_at "compareOp In str ref") => `(tactic| (k_here; k_dflt (first
  | refine in_hit (by (first | exact kda_dict (by k_asm) (by k_mem) (by k_asm) | (refine' dictOf_keep ?a ?b; (case b => exact Fr.keep (by k_asm)); (case a => assumption)))) (by k_asm) (by k_asm) ?_
  | refine in_miss (by (first | exact kda_dict (by k_asm) (by k_mem) (by k_asm) | (refine' dictOf_keep ?a ?b; (case b => exact Fr.keep (by k_asm)); (case a => assumption)))) (by k_asm) (by k_asm) ?_)))
local macro_rules | `(tactic| walk_at "subscriptTail") => `(tactic| (k_here; (with_reducible show wpAny _ _ (subscriptTail _ _ (Value.ref _) (Value.str _ _)) _ _ _); k_dflt (refine sitem_hit (by (first | exact kda_dict (by k_asm) (by k_mem) (by k_asm) | (refine' dictOf_keep ?a ?b; (case b => exact Fr.keep (by k_asm)); (case a => assumption)))) (by k_asm) ?_)))
local macro_rules | `(tactic| walk_at "subscriptTail") => `(tactic| (k_here; (with_reducible show wpAny _ _ (subscriptTail _ _ (Value.ref _) (Value.int _ _)) _ _ _); k_dflt (refine iitem_hit (by (first | exact kda_dict (by k_asm) (by k_mem) (by k_asm) | (refine' dictOf_keep ?a ?b; (case b => exact Fr.keep (by k_asm)); (case a => assumption)))) (by k_asm) ?_)))
local macro_rules | `(tactic| walk_at "getMethod ref") => `(tactic| (k_here; k_dflt (first
  | ((with_reducible show wpAny _ _ (getMethod (Value.ref _) (Str.ofString "setdefault") _) _ _ _); refine meth_setdef (by (first | exact kda_dict (by k_asm) (by k_mem) (by k_asm) | (refine' dictOf_keep ?a ?b; (case b => exact Fr.keep (by k_asm)); (case a => assumption)))) ?_)
  | ((with_reducible show wpAny _ _ (getMethod (Value.ref _) (Str.ofString "get") _) _ _ _); refine meth_get (by (first | exact kda_dict (by k_asm) (by k_mem) (by k_asm) | (refine' dictOf_keep ?a ?b; (case b => exact Fr.keep (by k_asm)); (case a => assumption)))) ?_))))
local macro_rules | `(tactic| walk_at "call builtin:dict.setdefault") => `(tactic| (k_here; (with_reducible show wpAny _ _ (call (Value.builtin "dict.setdefault") [Value.ref _, Value.str _ _, _]) _ _ _); k_dflt (first
  | refine setdef_hit (by (first | exact kda_dict (by k_asm) (by k_mem) (by k_asm) | (refine' dictOf_keep ?a ?b; (case b => exact Fr.keep (by k_asm)); (case a => assumption)))) (by k_asm) (by k_asm) (by k_asm) ?_
  | (refine' kob_setdef_new (knd := PySem.strKind _ _) ?F ?N ?U ?d ?o (strKind_is _ _ _ _) (PySem.F.args_dict_setdefault_3 _ _ _) ?l ?z ?_; (case F => k_asm); (case N => k_asm); (case U => k_updF); (case d => k_asm); (case o => k_asm); (case l => k_asm); (case z => (rw [sizeLine_eq]; omega)); intro h' o' F' N' hd'; (try dsimp only at N')))))
local macro_rules | `(tactic| walk_at "call builtin:dict.get") => `(tactic| (k_here; (with_reducible show wpAny _ _ (call (Value.builtin "dict.get") [Value.ref _, Value.str _ _, _]) _ _ _); k_dflt (first
  | refine get_hit (by (first | exact kda_dict (by k_asm) (by k_mem) (by k_asm) | (refine' dictOf_keep ?a ?b; (case b => exact Fr.keep (by k_asm)); (case a => assumption)))) (by k_asm) (by k_asm) ?_
  | refine get_miss (by (first | exact kda_dict (by k_asm) (by k_mem) (by k_asm) | (refine' dictOf_keep ?a ?b; (case b => exact Fr.keep (by k_asm)); (case a => assumption)))) (by k_asm) (by k_asm) ?_)))
section
section
theorem add_hit {w : World} {p : Program} {loose : List PySem.Str} {mean : ExcName → Option Value} {mg mb : PySem.Str → Option Value} {dp un : Nat} {gd : Option (List Code)} {cn : PySem.Str} {cs : Scope} {a : Addr} {ccd : Value} {cl : List (PySem.Str × Addr)} {outer : List Env} {A₀ : Around} {base h₀ : Heap} {L : Addr} {m : PySem.Str → Option Value} {s : Shared}
    {Q E : Value → Shared → Prop} {x dx nd d l : Addr} {tk tn tv ti : Tok} {nn ln : Nat} {ond od : Obj} {kvs kvd : List (PySem.Str × Value)} {vs : List Value} {ns : List Int} {name value : PySem.Str} {i : Int}
    (B : Below A₀ base outer h₀) (F : Fr h₀ L s.heap m) (X : (hd.heap_39 w.params).In h₀) (T : Top p loose mean mg mb h₀) (hk : cs.kind = .function) (N : News h₀ L s.heap [(x, instObj 91 dx), (dx, ixDict w tk nd nn), (nd, ond), (d, od), (l, listOf vs.toArray ln)])
    (ne : [x, dx, nd, d, l].Nodup) (lo : (nd == sysModules) = false) (lo2 : (d == sysModules) = false)
    (hnd : ond.IsDictOf (strKind PG w) kvs) (hod : od.IsDictOf (strKind PG w) kvd) (hi : IntsAre vs ns)
    (hv1 : valueAt kvs name = some (.ref d)) (hv2 : valueAt kvd value = some (.ref l)) (hz : kvs.length ≤ 100) (hz2 : kvd.length ≤ 100) (hz3 : ns.length ≤ 100)
    (hdp : dp + 3 < recursionLimit) (hu : un + 100 < cLine)
    (ret : ∀ vs' n' h' tk', Fr h₀ L h' m → Kp [l] s.heap h' → h'.get? l = some (listOf vs'.toArray n') → IntsAre vs' (addN ns i) → Q .none { s with heap := h', toks := tk' }) :
    wpAny (model PG w) (ktrTop dp un gd cn cs L a ccd cl outer) (call (.ref 74) [.ref x, .str name tn, .str value tv, .int i ti]) Q E s := by
  w_top off; (have kf : (hd.heap_39 w.params).In h₀ → PySem.Challenge.rw_nu0047_01 = PySem.Challenge.rw_nu0047_01 := by (k_fill; exact fun _ => rfl)); clear kf
  simp only [List.nodup_cons, List.mem_cons, List.not_mem_nil, or_false, not_or, not_false_eq_true, and_true, List.nodup_nil] at ne
  obtain ⟨⟨a1, a2, a3, a4⟩, ⟨a5, a6, a7⟩, ⟨a8, a9⟩, a10⟩ := ne
  replace a1 := neN a1; replace a2 := neN a2; replace a3 := neN a3; replace a4 := neN a4; replace a5 := neN a5; replace a6 := neN a6; replace a7 := neN a7; replace a8 := neN a8; replace a9 := neN a9; replace a10 := neN a10
  have hvs : vs.length ≤ 100 := by rw [hi.length]; exact hz3
  refine wpAny_call ?_
  k_dflt (refine' enter ?k1 ?k2 ?k3 ?k4 ?k5 ?kA ?kF ?kK ?k6 ?k7 ?k8 ?k9 ?kB ?_ ?c2 ?c3 ?c4 ?c5; (case kA => exact rfl); (case kF => exact rfl); (case kK => assumption); (case k1 => k_asm); (case k2 => k_asm); (case k3 => k_asm); (case k4 => k_asm); (case k5 => k_asm); (case k6 => k_is); (case k7 => k_is); (case k8 => ktr_room); (case k9 => exact BindsTo.of_eq rfl); (case c5 => decide); (case kB => exact locs rfl); (case c2 => exact rfl); (case c3 => exact rfl); (case c4 => exact rfl); k_whole; intro g' L' h' kp' hL' FG' F' N' B' X' T'; (try dsimp only); (try k_fold))
  k_steps
  all_goals (try dsimp only)
  all_goals (rename Fr g' L' _ _ => FZ; rename News g' L' _ _ => NZ; rename Fr h₀ L _ _ => FY; rename (List.any _ _ = _) => hany)
  all_goals (have kz := Kp.of_news (W := [l]) kp' FZ N NZ (by intro p hp; simp only [List.mem_cons, List.not_mem_nil, or_false] at hp; rcases hp with rfl | rfl | rfl | rfl | rfl; all_goals first | exact .inl (List.Mem.head _) | exact .inr (by k_memK)))
  · refine ret vs _ _ _ FY kz (News.get NZ (by k_memK)) ?_
    unfold addN; rw [if_pos hany]; exact hi
  · refine ret (vs ++ [.int i ti]) _ _ _ FY kz (by rw [← List.push_toArray]; exact News.get NZ (by k_memK)) ?_
    unfold addN; rw [hany]; exact intsAre_snoc hi i ti

theorem add_miss {w : World} {p : Program} {loose : List PySem.Str} {mean : ExcName → Option Value} {mg mb : PySem.Str → Option Value} {dp un : Nat} {gd : Option (List Code)} {cn : PySem.Str} {cs : Scope} {a : Addr} {ccd : Value} {cl : List (PySem.Str × Addr)} {outer : List Env} {A₀ : Around} {base h₀ : Heap} {L : Addr} {m : PySem.Str → Option Value} {s : Shared}
    {Q E : Value → Shared → Prop} {x dx nd d : Addr} {tk tn tv ti : Tok} {nn : Nat} {ond od : Obj} {kvs kvd : List (PySem.Str × Value)} {name value : PySem.Str} {i : Int}
    (B : Below A₀ base outer h₀) (F : Fr h₀ L s.heap m) (X : (hd.heap_39 w.params).In h₀) (T : Top p loose mean mg mb h₀) (hk : cs.kind = .function) (N : News h₀ L s.heap [(x, instObj 91 dx), (dx, ixDict w tk nd nn), (nd, ond), (d, od)])
    (ne : [x, dx, nd, d].Nodup) (lo : (nd == sysModules) = false) (lo2 : (d == sysModules) = false)
    (hnd : ond.IsDictOf (strKind PG w) kvs) (hod : od.IsDictOf (strKind PG w) kvd)
    (hv1 : valueAt kvs name = some (.ref d)) (hv2 : valueAt kvd value = none) (hz : kvs.length ≤ 100) (hz2 : kvd.length ≤ 100)
    (hdp : dp + 3 < recursionLimit) (hu : un + 100 < cLine)
    (ret : ∀ l od' vs' n' h' tk', Fr h₀ L h' m → Kp [d] s.heap h' → s.heap.get? l = none → h'.get? d = some od' → od'.IsDictOf (strKind PG w) (stored kvd value (.ref l)) → h'.get? l = some (listOf vs'.toArray n') → IntsAre vs' [i] → Q .none { s with heap := h', toks := tk' }) :
    wpAny (model PG w) (ktrTop dp un gd cn cs L a ccd cl outer) (call (.ref 74) [.ref x, .str name tn, .str value tv, .int i ti]) Q E s := by
  w_top off; (have kf : (hd.heap_39 w.params).In h₀ → PySem.Challenge.rw_nu0047_01 = PySem.Challenge.rw_nu0047_01 := by (k_fill; exact fun _ => rfl)); clear kf
  simp only [List.nodup_cons, List.mem_cons, List.not_mem_nil, or_false, not_or, not_false_eq_true, and_true, List.nodup_nil] at ne
  obtain ⟨⟨a1, a2, a3⟩, ⟨a5, a6⟩, a8⟩ := ne
  replace a1 := neN a1; replace a2 := neN a2; replace a3 := neN a3; replace a5 := neN a5; replace a6 := neN a6; replace a8 := neN a8
  refine wpAny_call ?_
  k_dflt (refine' enter ?k1 ?k2 ?k3 ?k4 ?k5 ?kA ?kF ?kK ?k6 ?k7 ?k8 ?k9 ?kB ?_ ?c2 ?c3 ?c4 ?c5; (case kA => exact rfl); (case kF => exact rfl); (case kK => assumption); (case k1 => k_asm); (case k2 => k_asm); (case k3 => k_asm); (case k4 => k_asm); (case k5 => k_asm); (case k6 => k_is); (case k7 => k_is); (case k8 => ktr_room); (case k9 => exact BindsTo.of_eq rfl); (case c5 => decide); (case kB => exact locs rfl); (case c2 => exact rfl); (case c3 => exact rfl); (case c4 => exact rfl); k_whole; intro g' L' h' kp' hL' FG' F' N' B' X' T'; (try dsimp only); (try k_fold))
  k_steps
  try dsimp only
  (rename Fr g' L' _ _ => FZ; rename News g' L' _ _ => NZ; rename Fr h₀ L _ _ => FY; rename (Obj.IsDictOf _ _ _) => hod')
  have kz := Kp.of_news (W := [d]) kp' FZ N NZ (by intro p hp; simp only [List.mem_cons, List.not_mem_nil, or_false] at hp; rcases hp with rfl | rfl | rfl | rfl; all_goals first | exact .inl (List.Mem.head _) | exact .inr (by k_memK))
  rename (x < _ ∧ _) => lt1
  have fr := kp'.fresh (News.fresh NZ (List.Mem.tail _ (List.Mem.head _))) (by simp only [List.map_cons, List.map_nil, List.mem_cons, List.not_mem_nil, or_false]; exact not_or.mpr ⟨neN (by omega), not_or.mpr ⟨neN (by omega), not_or.mpr ⟨neN (by omega), neN (by omega)⟩⟩⟩)
  exact ret _ _ [.int i ti] _ _ _ FY kz fr (News.get NZ (by k_memK)) hod' (News.get NZ (List.Mem.tail _ (List.Mem.head _))) (.cons _ _ .nil)
end
end
section
section
local macro_rules | `(tactic| k_inst) => `(tactic| (refine' instAt_g ?k ?a ?b; (case k => exact Fr.keep (by k_asm)); (case a => assumption); (case b => assumption)))
theorem find_hit {w : World} {p : Program} {loose : List PySem.Str} {mean : ExcName → Option Value} {mg mb : PySem.Str → Option Value} {dp un : Nat} {gd : Option (List Code)} {cn : PySem.Str} {cs : Scope} {a : Addr} {ccd : Value} {cl : List (PySem.Str × Addr)} {outer : List Env} {A₀ : Around} {base h₀ : Heap} {L : Addr} {m : PySem.Str → Option Value} {s : Shared}
    {Q E : Value → Shared → Prop} {x dx nd d l : Addr} {tk tn tv : Tok} {nn : Nat} {kvs kvd : List (PySem.Str × Value)} {vs : List Value} {ns : List Int} {name value : PySem.Str}
    (B : Below A₀ base outer h₀) (F : Fr h₀ L s.heap m) (X : (hd.heap_39 w.params).In h₀) (T : Top p loose mean mg mb h₀) (hk : cs.kind = .function) (N : News h₀ L s.heap []) (gx : s.heap.get? x = some (instObj 91 dx)) (gdx : s.heap.get? dx = some (ixDict w tk nd nn)) (gnd : s.heap.DictOf (strKind PG w) nd kvs) (gdd : s.heap.DictOf (strKind PG w) d kvd) (gl : s.heap.IsList l vs.toArray)
    (lo : (nd == sysModules) = false) (lo2 : (d == sysModules) = false) (hi : IntsAre vs ns)
    (hv1 : valueAt kvs name = some (.ref d)) (hv2 : valueAt kvd value = some (.ref l)) (hz3 : ns.length ≤ 100)
    (hdp : dp + 3 < recursionLimit) (hu : un + 100 < cLine)
    (ret : ∀ r n' h' tk', Fr h₀ L h' m → Kp [] s.heap h' → s.heap.get? r = none → h'.get? r = some (listOf vs.toArray n') → Q (.ref r) { s with heap := h', toks := tk' }) :
    wpAny (model PG w) (ktrTop dp un gd cn cs L a ccd cl outer) (call (.ref 81) [.ref x, .str name tn, .str value tv]) Q E s := by
  w_top off; (have kf : (hd.heap_39 w.params).In h₀ → PySem.Challenge.rw_nu0047_01 = PySem.Challenge.rw_nu0047_01 := by (k_fill; exact fun _ => rfl)); clear kf
  have hvs : vs.length ≤ 100 := by rw [hi.length]; exact hz3
  refine wpAny_call ?_
  k_dflt (refine' enter ?k1 ?k2 ?k3 ?k4 ?k5 ?kA ?kF ?kK ?k6 ?k7 ?k8 ?k9 ?kB ?_ ?c2 ?c3 ?c4 ?c5; (case kA => exact rfl); (case kF => exact rfl); (case kK => assumption); (case k1 => k_asm); (case k2 => k_asm); (case k3 => k_asm); (case k4 => k_asm); (case k5 => k_asm); (case k6 => k_is); (case k7 => k_is); (case k8 => ktr_room); (case k9 => exact BindsTo.of_eq rfl); (case c5 => decide); (case kB => exact locs rfl); (case c2 => exact rfl); (case c3 => exact rfl); (case c4 => exact rfl); k_whole; intro g' L' h' kp' hL' FG' F' N' B' X' T'; (try dsimp only); (try k_fold))
  have gx' := kp'.all _ _ gx
  have gdx' := kp'.all _ _ gdx
  have gnd' := dictOf_keep gnd kp'.all
  have gd' := dictOf_keep gdd kp'.all
  have gl' := stays_list kp'.all gl
  k_steps
  try dsimp only
  (rename Fr g' L' _ _ => FZ; rename News g' L' _ _ => NZ; rename Fr h₀ L _ _ => FY)
  exact ret _ _ _ _ FY (fun b o nb e => FZ.keep b o (kp' b o nb e)) (kp'.fresh (News.fresh NZ (List.Mem.head _)) (fun h => nomatch h)) (News.get NZ (List.Mem.head _))
theorem find_miss {w : World} {p : Program} {loose : List PySem.Str} {mean : ExcName → Option Value} {mg mb : PySem.Str → Option Value} {dp un : Nat} {gd : Option (List Code)} {cn : PySem.Str} {cs : Scope} {a : Addr} {ccd : Value} {cl : List (PySem.Str × Addr)} {outer : List Env} {A₀ : Around} {base h₀ : Heap} {L : Addr} {m : PySem.Str → Option Value} {s : Shared}
    {Q E : Value → Shared → Prop} {x dx nd d : Addr} {tk tn tv : Tok} {nn : Nat} {kvs kvd : List (PySem.Str × Value)} {name value : PySem.Str}
    (B : Below A₀ base outer h₀) (F : Fr h₀ L s.heap m) (X : (hd.heap_39 w.params).In h₀) (T : Top p loose mean mg mb h₀) (hk : cs.kind = .function) (N : News h₀ L s.heap []) (gx : s.heap.get? x = some (instObj 91 dx)) (gdx : s.heap.get? dx = some (ixDict w tk nd nn)) (gnd : s.heap.DictOf (strKind PG w) nd kvs) (gdd : s.heap.DictOf (strKind PG w) d kvd)
    (lo : (nd == sysModules) = false) (lo2 : (d == sysModules) = false)
    (hv1 : valueAt kvs name = some (.ref d)) (hv2 : valueAt kvd value = none)
    (hdp : dp + 3 < recursionLimit) (hu : un + 100 < cLine)
    (ret : ∀ r n' h' tk', Fr h₀ L h' m → Kp [] s.heap h' → s.heap.get? r = none → h'.get? r = some (listOf ([] : List Value).toArray n') → Q (.ref r) { s with heap := h', toks := tk' }) :
    wpAny (model PG w) (ktrTop dp un gd cn cs L a ccd cl outer) (call (.ref 81) [.ref x, .str name tn, .str value tv]) Q E s := by
  w_top off; (have kf : (hd.heap_39 w.params).In h₀ → PySem.Challenge.rw_nu0047_01 = PySem.Challenge.rw_nu0047_01 := by (k_fill; exact fun _ => rfl)); clear kf
  refine wpAny_call ?_
  k_dflt (refine' enter ?k1 ?k2 ?k3 ?k4 ?k5 ?kA ?kF ?kK ?k6 ?k7 ?k8 ?k9 ?kB ?_ ?c2 ?c3 ?c4 ?c5; (case kA => exact rfl); (case kF => exact rfl); (case kK => assumption); (case k1 => k_asm); (case k2 => k_asm); (case k3 => k_asm); (case k4 => k_asm); (case k5 => k_asm); (case k6 => k_is); (case k7 => k_is); (case k8 => ktr_room); (case k9 => exact BindsTo.of_eq rfl); (case c5 => decide); (case kB => exact locs rfl); (case c2 => exact rfl); (case c3 => exact rfl); (case c4 => exact rfl); k_whole; intro g' L' h' kp' hL' FG' F' N' B' X' T'; (try dsimp only); (try k_fold))
  have gx' := kp'.all _ _ gx
  have gdx' := kp'.all _ _ gdx
  have gnd' := dictOf_keep gnd kp'.all
  have gd' := dictOf_keep gdd kp'.all
  k_steps
  try dsimp only
  (rename Fr g' L' _ _ => FZ; rename News g' L' _ _ => NZ; rename Fr h₀ L _ _ => FY)
  exact ret _ _ _ _ FY (fun b o nb e => FZ.keep b o (kp' b o nb e)) (kp'.fresh (News.fresh NZ (List.Mem.head _)) (fun h => nomatch h)) (News.get NZ (List.Mem.head _))
theorem find_spec {w : World} {p : Program} {loose : List PySem.Str} {mean : ExcName → Option Value} {mg mb : PySem.Str → Option Value} {dp un : Nat} {gd : Option (List Code)} {cn : PySem.Str} {cs : Scope} {a : Addr} {ccd : Value} {cl : List (PySem.Str × Addr)} {outer : List Env} {A₀ : Around} {base h₀ : Heap} {L : Addr} {m : PySem.Str → Option Value} {s : Shared}
    {Q E : Value → Shared → Prop} {x dx nd d : Addr} {tk tn tv : Tok} {nn : Nat} {kvs : List (PySem.Str × Value)} {es : List TE} {name value : PySem.Str}
    (B : Below A₀ base outer h₀) (F : Fr h₀ L s.heap m) (X : (hd.heap_39 w.params).In h₀) (T : Top p loose mean mg mb h₀) (hk : cs.kind = .function) (gx : s.heap.get? x = some (instObj 91 dx)) (gdx : s.heap.get? dx = some (ixDict w tk nd nn)) (gnd : s.heap.DictOf (strKind PG w) nd kvs) (lo : (nd == sysModules) = false) (gt : TxAt w s.heap d es)
    (hv1 : valueAt kvs name = some (.ref d)) (hz : (getT es value).length ≤ 100)
    (hdp : dp + 3 < recursionLimit) (hu : un + 100 < cLine)
    (ret : ∀ r n' vs h' tk', Fr h₀ L h' m → Kp [] s.heap h' → s.heap.get? r = none → h'.get? r = some (listOf vs.toArray n') → IntsAre vs (getT es value) → Q (.ref r) { s with heap := h', toks := tk' }) :
    wpAny (model PG w) (ktrTop dp un gd cn cs L a ccd cl outer) (call (.ref 81) [.ref x, .str name tn, .str value tv]) Q E s := by
  have hv := valueAt_kvT es value
  cases hf : es.find? (fun e => decide (e.t = value)) with
  | none =>
    rw [hf] at hv
    refine find_miss B F X T hk News.nil gx gdx gnd gt.dict lo gt.lo hv1 hv hdp hu fun r n' h' tk' a b c e => ret r n' [] h' tk' a b c e (by rw [getT_none hf]; exact .nil)
  | some e =>
    rw [hf] at hv
    rw [getT_some hf] at hz
    have he := gt.lists e (List.mem_of_find?_eq_some hf)
    refine find_hit B F X T hk News.nil gx gdx gnd gt.dict (isList_of he.1) lo gt.lo he.2 hv1 hv hz hdp hu fun r n' h' tk' a b c e' => ret r n' e.vs h' tk' a b c e' (by rw [getT_some hf]; exact he.2)
end
end
section
/-- take, in the walk: the source's entry turns -/
theorem take_walk {w : World} {p : Program} {loose : List PySem.Str} {mean : ExcName → Option Value} {mg mb : PySem.Str → Option Value} {dp un : Nat} {gd : Option (List Code)} {cn : PySem.Str} {cs : Scope} {a : Addr} {ccd : Value} {cl : List (PySem.Str × Addr)} {outer : List Env} {A₀ : Around} {base h₀ : Heap} {L : Addr} {m : PySem.Str → Option Value} {s : Shared}
    {Q E : Value → Shared → Prop} {news : List (Addr × Obj)} {u : Obj → List (Addr × Obj)} {src : Addr} {x y : Int} {tx ty tt : Tok} {n : Nat} {top : Int}
    (B : Below A₀ base outer h₀) (F : Fr h₀ L s.heap m) (X : (hd.heap_39 w.params).In h₀) (T : Top p loose mean mg mb h₀) (hk : cs.kind = .function) (N : News h₀ L s.heap news) (U : UpdF src (listOf #[.int x tx, .int y ty] n) news u)
    (hx : 0 ≤ x) (hy : 0 ≤ y) (hyy : y < 2147483647) (ht : 1 ≤ top) (ht' : top ≤ 10) (hdp : dp + 1 < recursionLimit) (hu : un + 8 < cLine)
    (ret : ∀ d td x' y' tx' ty' n' h' tk', 0 ≤ d → d < top → 0 ≤ x' → 0 ≤ y' → y' < 2147483647 → Fr h₀ L h' m → News h₀ L h' (u (listOf #[.int x' tx', .int y' ty'] n')) → Kp [src] s.heap h' → Q (.int d td) { s with heap := h', toks := tk' }) :
    wpAny (model PG w) (ktrTop dp un gd cn cs L a ccd cl outer) (call (.ref 123) [.ref src, .int top tt]) Q E s :=
  take_spec B F X T hk (sub_news N (by intro p hp; rw [List.mem_singleton.mp hp]; exact updF_mem U)) hx hy hyy ht ht' hdp hu
    fun d td x' y' tx' ty' n' h' tk' a b c e f F' k g => ret d td x' y' tx' ty' n' h' tk' a b c e f F' (updF_news U N k g) k
section
local macro_rules | `(tactic| walk_at "call ref") => `(tactic| (k_here; (with_reducible show wpAny _ _ (call (Value.ref 123) [Value.ref _, Value.int _ _]) _ _ _); k_dflt (refine' take_walk ?B ?F ?X ?T ?hk ?N ?U ?hx ?hy ?hyy ?ht ?ht2 ?hdp ?hu ?_; (case B => k_asm); (case F => k_asm); (case X => k_asm); (case T => k_asm); (case hk => first | assumption | exact rfl); (case N => k_asm); (case U => k_updF); (case hx => assumption); (case hy => assumption); (case hyy => assumption); (case ht => first | decide | omega); (case ht2 => first | decide | omega); (case hdp => ktr_room); (case hu => ktr_units); intro d' td' x' y' tx' ty' n' h' tk' hd0' hd1' hx' hy' hyy' F' N' kp'; (try dsimp only at N'); (try k_sweep))))
theorem one_spec {w : World} {p : Program} {loose : List PySem.Str} {mean : ExcName → Option Value} {mg mb : PySem.Str → Option Value} {dp un : Nat} {gd : Option (List Code)} {cn : PySem.Str} {cs : Scope} {a : Addr} {ccd : Value} {cl : List (PySem.Str × Addr)} {outer : List Env} {A₀ : Around} {base h₀ : Heap} {L : Addr} {m : PySem.Str → Option Value} {s : Shared}
    {Q E : Value → Shared → Prop} {src th : Addr} {x y : Int} {tx ty : Tok} {n nt : Nat} {t0 t1 t2 t3 : PySem.Str} {k0 k1 k2 k3 : Tok}
    (B : Below A₀ base outer h₀) (F : Fr h₀ L s.heap m) (X : (hd.heap_39 w.params).In h₀) (T : Top p loose mean mg mb h₀) (hk : cs.kind = .function) (N : News h₀ L s.heap [(src, listOf #[.int x tx, .int y ty] n), (th, listOf #[.str t0 k0, .str t1 k1, .str t2 k2, .str t3 k3] nt)])
    (ne : src ≠ th) (hx : 0 ≤ x) (hy : 0 ≤ y) (hyy : y < 2147483647) (hdp : dp + 3 < recursionLimit) (hu : un + 50 < cLine)
    (ret : ∀ t k x' y' tx' ty' n' h' tk', t ∈ [t0, t1, t2, t3] → 0 ≤ x' → 0 ≤ y' → y' < 2147483647 → Fr h₀ L h' m → Kp [src] s.heap h' → h'.get? src = some (listOf #[.int x' tx', .int y' ty'] n') → Q (.str t k) { s with heap := h', toks := tk' }) :
    wpAny (model PG w) (ktrTop dp un gd cn cs L a ccd cl outer) (call (.ref 130) [.ref src, .ref th]) Q E s := by
  w_top off; (have kf : (hd.heap_39 w.params).In h₀ → PySem.Challenge.rw_nu0047_01 = PySem.Challenge.rw_nu0047_01 := by (k_fill; exact fun _ => rfl)); clear kf
  replace ne := neN ne
  refine wpAny_call ?_
  k_dflt (refine' enter ?k1 ?k2 ?k3 ?k4 ?k5 ?kA ?kF ?kK ?k6 ?k7 ?k8 ?k9 ?kB ?_ ?c2 ?c3 ?c4 ?c5; (case kA => exact rfl); (case kF => exact rfl); (case kK => assumption); (case k1 => k_asm); (case k2 => k_asm); (case k3 => k_asm); (case k4 => k_asm); (case k5 => k_asm); (case k6 => k_is); (case k7 => k_is); (case k8 => ktr_room); (case k9 => exact BindsTo.of_eq rfl); (case c5 => decide); (case kB => exact locs rfl); (case c2 => exact rfl); (case c3 => exact rfl); (case c4 => exact rfl); k_whole; intro g' L' h' kp' hL' FG' F' N' B' X' T'; (try dsimp only); (try k_fold))
  k_steps
  all_goals (try dsimp only)
  all_goals (rename Fr g' L' _ _ => FZ; rename News g' L' _ _ => NZ; rename Fr h₀ L _ _ => FY)
  all_goals (have kz := Kp.of_news (W := [src]) kp' FZ N NZ (by intro p hp; simp only [List.mem_cons, List.not_mem_nil, or_false] at hp; rcases hp with rfl | rfl; all_goals first | exact .inl (List.Mem.head _) | exact .inr (by k_memK)))
  all_goals exact ret _ _ _ _ _ _ _ _ _ (by k_memK) (by assumption) (by assumption) (by assumption) FY kz (News.get NZ (List.Mem.head _))
end
end
section
theorem ite01 (c : Prop) [Decidable c] : (0 : Int) ≤ if c then 1 else 0 := by split <;> decide
section
theorem pool_spec {w : World} {p : Program} {loose : List PySem.Str} {mean : ExcName → Option Value} {mg mb : PySem.Str → Option Value} {dp un : Nat} {gd : Option (List Code)} {cn : PySem.Str} {cs : Scope} {a : Addr} {ccd : Value} {cl : List (PySem.Str × Addr)} {outer : List Env} {A₀ : Around} {base h₀ : Heap} {L : Addr} {m : PySem.Str → Option Value} {s : Shared}
    {Q E : Value → Shared → Prop} {sl : Addr} {vs : List Value} {ns : List Int} {k : Int} {tkk : Tok}
    (B : Below A₀ base outer h₀) (F : Fr h₀ L s.heap m) (X : (hd.heap_39 w.params).In h₀) (T : Top p loose mean mg mb h₀) (hk : cs.kind = .function) (gl : s.heap.IsList sl vs.toArray) (hi : IntsAre vs ns) (hz : ns.length ≤ 63) (hk0 : 0 ≤ k) (hk2 : k < 2) (hdp : dp + 3 < recursionLimit) (hu : un + 50 < cLine)
    (ret : ∀ r x y tx ty n h' tk', 0 ≤ x → 0 ≤ y → y < 2147483647 → Fr h₀ L h' m → Kp [] s.heap h' → s.heap.get? r = none → h'.get? r = some (listOf #[.int x tx, .int y ty] n) → Q (.ref r) { s with heap := h', toks := tk' }) :
    wpAny (model PG w) (ktrTop dp un gd cn cs L a ccd cl outer) (call (.ref 116) [.ref sl, .int k tkk]) Q E s := by
  w_top off; (have kf : (hd.heap_39 w.params).In h₀ → PySem.Challenge.rw_nu0047_01 = PySem.Challenge.rw_nu0047_01 := by (k_fill; exact fun _ => rfl)); clear kf
  have N : News h₀ L s.heap [] := News.nil
  refine wpAny_call ?_
  k_dflt (refine' enter ?k1 ?k2 ?k3 ?k4 ?k5 ?kA ?kF ?kK ?k6 ?k7 ?k8 ?k9 ?kB ?_ ?c2 ?c3 ?c4 ?c5; (case kA => exact rfl); (case kF => exact rfl); (case kK => assumption); (case k1 => k_asm); (case k2 => k_asm); (case k3 => k_asm); (case k4 => k_asm); (case k5 => k_asm); (case k6 => k_is); (case k7 => k_is); (case k8 => ktr_room); (case k9 => exact BindsTo.of_eq rfl); (case c5 => decide); (case kB => exact locs rfl); (case c2 => exact rfl); (case c3 => exact rfl); (case c4 => exact rfl); k_whole; intro g' L' h' kp' hL' FG' F' N' B' X' T'; (try dsimp only); (try k_fold))
  have gl' := stays_list kp'.all gl
  k_steps
  all_goals (try dsimp only)
  all_goals (rename Fr g' L' _ _ => FZ; rename News g' L' _ _ => NZ; rename Fr h₀ L _ _ => FY)
  all_goals (refine ret _ _ _ _ _ _ _ _ ?_ ?_ ?_ FY (fun b o nb e => FZ.keep b o (kp' b o nb e)) (kp'.fresh (News.fresh NZ (List.Mem.head _)) (fun h => nomatch h)) (News.get NZ (List.Mem.head _)))
  all_goals (first
    | exact Int.fmod_nonneg_of_pos _ (by omega)
    | exact Int.fmod_lt_of_pos _ (by omega)
    | exact Int.mul_nonneg (by first | (split <;> omega) | omega) (ite01 _))
end
end
section
theorem kp_ne {l : Addr} {h h' : Heap} {b : Addr} {o : Obj} (k : Kp [l] h h') (n : b ≠ l) (e : h.get? b = some o) : h'.get? b = some o := k b o (by simpa using n) e
theorem find_app {pre post : List TE} {e : TE} {t : PySem.Str} (hp : ∀ a ∈ pre, ¬ a.t = t) (h : e.t = t) : ((pre ++ e :: post).find? fun e => decide (e.t = t)) = some e := by
  induction pre with
  | nil => simp [h]
  | cons a pre ih =>
    rw [List.cons_append, List.find?_cons]
    have : decide (a.t = t) = false := by simpa using hp a (List.mem_cons_self ..)
    rw [this]
    exact ih fun b hb => hp b (List.mem_cons_of_mem _ hb)
theorem find_swap {pre post : List TE} {e e' : TE} {t : PySem.Str} (he : e'.t = e.t) (ht : ¬ e.t = t) : ((pre ++ e' :: post).find? fun e => decide (e.t = t)) = ((pre ++ e :: post).find? fun e => decide (e.t = t)) := by
  induction pre with
  | nil =>
    have h1 : decide (e.t = t) = false := by simpa using ht
    have h2 : decide (e'.t = t) = false := by rw [he]; exact h1
    rw [List.nil_append, List.nil_append, List.find?_cons, List.find?_cons, h1, h2]
  | cons a pre ih => rw [List.cons_append, List.cons_append, List.find?_cons, List.find?_cons, ih]
theorem getT_swap {pre post : List TE} {e e' : TE} {v : PySem.Str} (hp : ∀ a ∈ pre, ¬ a.t = v) (h : e.t = v) (he : e'.t = e.t) (t : PySem.Str) : getT (pre ++ e' :: post) t = if t = v then e'.ns else getT (pre ++ e :: post) t := by
  by_cases ht : t = v
  · subst ht; rw [if_pos rfl]; exact getT_some (find_app hp (he.trans h))
  · rw [if_neg ht]; unfold getT; rw [find_swap he (fun q => ht (q.symm.trans h))]
theorem getT_snoc {es : List TE} {e : TE} {v : PySem.Str} (hn : (es.find? fun e => decide (e.t = v)) = none) (h : e.t = v) (t : PySem.Str) : getT (es ++ [e]) t = if t = v then e.ns else getT es t := by
  unfold getT
  rw [List.find?_append]
  by_cases ht : t = v
  · subst ht; rw [if_pos rfl, hn]; simp [h]
  · rw [if_neg ht]
    cases hf : es.find? (fun e => decide (e.t = t)) with
    | some a => rfl
    | none =>
      have : decide (e.t = t) = false := by simpa using fun q => ht (q.symm.trans h)
      simp [List.find?_cons, this]
/-- what a key's texts are in a frame's ledger -/
structure TxOk (w : World) (x dx nd d : Addr) (od : Obj) (es : List TE) : Prop where
  dict : od.IsDictOf (strKind PG w) (kvT es)
  are : ∀ e ∈ es, IntsAre e.vs e.ns
  nodup : (x :: dx :: nd :: d :: es.map TE.l).Nodup
abbrev ledI (w : World) (x dx nd d : Addr) (tk : Tok) (nn : Nat) (ond od : Obj) (es : List TE) : List (Addr × Obj) := (x, instObj 91 dx) :: (dx, ixDict w tk nd nn) :: (nd, ond) :: (d, od) :: es.map TE.ent

theorem add_all {w : World} {p : Program} {loose : List PySem.Str} {mean : ExcName → Option Value} {mg mb : PySem.Str → Option Value} {dp un : Nat} {gd : Option (List Code)} {cn : PySem.Str} {cs : Scope} {a : Addr} {ccd : Value} {cl : List (PySem.Str × Addr)} {outer : List Env} {A₀ : Around} {base h₀ : Heap} {L : Addr} {m : PySem.Str → Option Value} {s : Shared}
    {Q E : Value → Shared → Prop} {x dx nd d : Addr} {tk tn tv ti : Tok} {nn : Nat} {ond od : Obj} {kvs : List (PySem.Str × Value)} {es : List TE} {name value : PySem.Str} {i : Int}
    (B : Below A₀ base outer h₀) (F : Fr h₀ L s.heap m) (X : (hd.heap_39 w.params).In h₀) (T : Top p loose mean mg mb h₀) (hk : cs.kind = .function) (N : News h₀ L s.heap (ledI w x dx nd d tk nn ond od es)) (lo : (nd == sysModules) = false) (lo2 : (d == sysModules) = false)
    (hnd : ond.IsDictOf (strKind PG w) kvs) (ok : TxOk w x dx nd d od es)
    (hv1 : valueAt kvs name = some (.ref d)) (hz : kvs.length ≤ 100) (hz2 : es.length ≤ 100) (hz3 : (getT es value).length ≤ 100)
    (hdp : dp + 3 < recursionLimit) (hu : un + 100 < cLine)
    (ret : ∀ od' es' h' tk', Fr h₀ L h' m → News h₀ L h' (ledI w x dx nd d tk nn ond od' es') → TxOk w x dx nd d od' es' → (∀ e ∈ es', e.l ∈ es.map TE.l ∨ s.heap.get? e.l = none) → es'.length ≤ es.length + 1 →
      (∀ t, getT es' t = if t = value then addN (getT es value) i else getT es t) → Kp (d :: es.map TE.l) s.heap h' → Q .none { s with heap := h', toks := tk' }) :
    wpAny (model PG w) (ktrTop dp un gd cn cs L a ccd cl outer) (call (.ref 74) [.ref x, .str name tn, .str value tv, .int i ti]) Q E s := by
  have hv := valueAt_kvT es value
  have nd4 : [x, dx, nd, d].Nodup := by
    have := ok.nodup
    simp only [List.nodup_cons, List.mem_cons, not_or, List.not_mem_nil, or_false, not_false_eq_true, List.nodup_nil, and_true] at this ⊢
    exact ⟨⟨this.1.1, this.1.2.1, this.1.2.2.1⟩, ⟨this.2.1.1, this.2.1.2.1⟩, this.2.2.1.1⟩
  cases hf : es.find? (fun e => decide (e.t = value)) with
  | none =>
    rw [hf] at hv
    have hg := getT_none hf
    refine add_miss (od := od) (kvd := kvT es) B F X T hk (sub_news N (by intro p hp; simp only [List.mem_cons, List.not_mem_nil, or_false] at hp; rcases hp with rfl | rfl | rfl | rfl; all_goals k_memK)) nd4 lo lo2 hnd ok.dict hv1 hv hz (by rw [List.length_map]; exact hz2) hdp hu ?_
    intro l od' vs' n' h' tk' F' k fr hd' hod' hl hi
    have nl : ∀ p ∈ ledI w x dx nd d tk nn ond od es, p.1 ≠ l := fun p hp q => by have := (N p hp).1; rw [q, fr] at this; cases this
    have hst : stored (kvT es) value (.ref l) = kvT (es ++ [⟨value, l, vs', [i], n'⟩]) := by
      have h1 : (kvT es).any (fun kv => decide (kv.1 = value)) = false := by
        rw [List.any_eq_false]
        intro kv hkv
        obtain ⟨e, he, rfl⟩ := List.mem_map.mp hkv
        have := List.find?_eq_none.mp hf e he
        simpa using this
      unfold stored
      rw [h1]
      simp
    rw [hst] at hod'
    have Fl : h₀.get? l = none := by
      cases e : h₀.get? l with
      | none => rfl
      | some o => have := F.keep _ _ e; rw [fr] at this; cases this
    have lL : l ≠ L := fun q => by obtain ⟨o, _, _, e, _⟩ := F.ns; rw [← q, fr] at e; cases e
    refine ret od' (es ++ [⟨value, l, vs', [i], n'⟩]) h' tk' F' ?_ ⟨hod', ?_, ?_⟩ ?_ (by simp) ?_ (k.mono (by intro a ha; rw [List.mem_singleton.mp ha]; exact List.mem_cons_self ..))
    · have nn1 := ok.nodup
      simp only [List.nodup_cons, List.mem_cons, not_or] at nn1
      intro p hp
      simp only [List.map_append, List.map_cons, List.map_nil, List.mem_cons, List.mem_append, List.not_mem_nil, or_false] at hp
      rcases hp with rfl | rfl | rfl | rfl | hp | rfl
      · exact ⟨kp_ne k nn1.1.2.2.1 (N (x, _) (by k_memK)).1, (N (x, _) (by k_memK)).2⟩
      · exact ⟨kp_ne k nn1.2.1.2.1 (N (dx, _) (by k_memK)).1, (N (dx, _) (by k_memK)).2⟩
      · exact ⟨kp_ne k nn1.2.2.1.1 (N (nd, _) (by k_memK)).1, (N (nd, _) (by k_memK)).2⟩
      · exact ⟨hd', (N (d, od) (by k_memK)).2⟩
      · have hm := N p (by simp [hp])
        obtain ⟨e, he, rfl⟩ := List.mem_map.mp hp
        exact ⟨kp_ne k (fun q => nn1.2.2.2.1 (by rw [← q]; exact List.mem_map_of_mem he)) hm.1, hm.2⟩
      · exact ⟨hl, lL, Fl⟩
    · intro e he
      rcases List.mem_append.mp he with he | he
      · exact ok.are e he
      · rw [List.mem_singleton.mp he]; exact hi
    · have nn1 := ok.nodup
      rw [List.map_append, List.map_cons, List.map_nil, show x :: dx :: nd :: d :: (es.map TE.l ++ [l]) = (x :: dx :: nd :: d :: es.map TE.l) ++ [l] from rfl, List.nodup_append]
      refine ⟨nn1, by simp, ?_⟩
      intro a ha b hb e
      rw [List.mem_singleton.mp hb] at e
      subst e
      have : ∃ p ∈ ledI w x dx nd d tk nn ond od es, p.1 = a := by
        simp only [List.mem_cons] at ha
        rcases ha with rfl | rfl | rfl | rfl | ha
        · exact ⟨(a, _), by k_memK, rfl⟩
        · exact ⟨(a, _), by k_memK, rfl⟩
        · exact ⟨(a, _), by k_memK, rfl⟩
        · exact ⟨(a, _), by k_memK, rfl⟩
        · obtain ⟨e, he, rfl⟩ := List.mem_map.mp ha
          exact ⟨e.ent, by simp only [List.mem_cons]; exact .inr (.inr (.inr (.inr (List.mem_map_of_mem he)))), rfl⟩
      obtain ⟨p, hp, rfl⟩ := this
      have := nl p hp
      simp only [List.mem_singleton] at hb
      exact this (by first | exact hb | rfl)
    · intro e he
      rcases List.mem_append.mp he with he | he
      · exact .inl (List.mem_map_of_mem he)
      · rw [List.mem_singleton.mp he]; exact .inr fr
    · intro t
      rw [getT_snoc hf rfl, hg]
      rfl
  | some e =>
    rw [hf] at hv
    have hg := getT_some hf
    rw [hg] at hz3
    obtain ⟨hp, pre, post, rfl, hpre⟩ := List.find?_eq_some_iff_append.mp hf
    have hpe : e.t = value := by simpa using hp
    have hpre' : ∀ a ∈ pre, ¬ a.t = value := fun a ha => by simpa using hpre a ha
    have nn1 := ok.nodup
    have hie := ok.are e (by simp)
    have hin : e.ent ∈ ledI w x dx nd d tk nn ond od (pre ++ e :: post) := by simp
    refine add_hit (od := od) (kvd := kvT (pre ++ e :: post)) (l := e.l) (vs := e.vs) (ns := e.ns) (ln := e.n) B F X T hk (sub_news N (by intro p hp; simp only [List.mem_cons, List.not_mem_nil, or_false] at hp; rcases hp with rfl | rfl | rfl | rfl | rfl; exact List.mem_cons_self ..; all_goals first | exact hin | k_memK)) ?_ lo lo2 hnd ok.dict hie hv1 hv hz (by rw [List.length_map]; exact hz2) hz3 hdp hu ?_
    · have h1 : (x :: dx :: nd :: d :: (pre ++ e :: post).map TE.l).Nodup := nn1
      simp only [List.nodup_cons, List.mem_cons, List.map_append, List.map_cons, List.mem_append, not_or] at h1
      simp only [List.nodup_cons, List.mem_cons, not_or, List.not_mem_nil, or_false, not_false_eq_true, List.nodup_nil, and_true]
      exact ⟨⟨h1.1.1, h1.1.2.1, h1.1.2.2.1, h1.1.2.2.2.2.1⟩, ⟨h1.2.1.1, h1.2.1.2.1, h1.2.1.2.2.2.1⟩, ⟨h1.2.2.1.1, h1.2.2.1.2.2.1⟩, h1.2.2.2.1.2.1⟩
    · intro vs' n' h' tk' F' k hl hi
      have hmap : (pre ++ (⟨e.t, e.l, vs', addN e.ns i, n'⟩ : TE) :: post).map TE.l = (pre ++ e :: post).map TE.l := by simp
      have hkv : kvT (pre ++ (⟨e.t, e.l, vs', addN e.ns i, n'⟩ : TE) :: post) = kvT (pre ++ e :: post) := by simp [kvT]
      refine ret od (pre ++ ⟨e.t, e.l, vs', addN e.ns i, n'⟩ :: post) h' tk' F' ?_ ⟨by rw [hkv]; exact ok.dict, ?_, by rw [hmap]; exact nn1⟩ ?_ (by simp) ?_ (k.mono (by intro a ha; rw [List.mem_singleton.mp ha]; simp))
      · have h1 : (x :: dx :: nd :: d :: (pre ++ e :: post).map TE.l).Nodup := nn1
        simp only [List.nodup_cons, List.mem_cons, List.map_append, List.map_cons, List.mem_append, not_or] at h1
        have h2 := h1.2.2.2.2
        rw [List.nodup_append] at h2
        have hne1 : ∀ a ∈ pre, a.l ≠ e.l := fun a ha => h2.2.2 _ (List.mem_map_of_mem ha) _ (List.mem_cons_self ..)
        have hne2 : ∀ a ∈ post, a.l ≠ e.l := fun a ha q => (List.nodup_cons.mp h2.2.1).1 (q ▸ List.mem_map_of_mem ha)
        intro p hp
        simp only [List.map_append, List.map_cons, List.mem_cons, List.mem_append] at hp
        rcases hp with rfl | rfl | rfl | rfl | hp | rfl | hp
        · exact ⟨kp_ne k h1.1.2.2.2.2.1 (N (x, _) (by k_memK)).1, (N (x, _) (by k_memK)).2⟩
        · exact ⟨kp_ne k h1.2.1.2.2.2.1 (N (dx, _) (by k_memK)).1, (N (dx, _) (by k_memK)).2⟩
        · exact ⟨kp_ne k h1.2.2.1.2.2.1 (N (nd, _) (by k_memK)).1, (N (nd, _) (by k_memK)).2⟩
        · exact ⟨kp_ne k h1.2.2.2.1.2.1 (N (d, _) (by k_memK)).1, (N (d, _) (by k_memK)).2⟩
        · have hm := N p (by simp only [List.mem_cons, List.map_append, List.mem_append]; exact .inr (.inr (.inr (.inr (.inl hp)))))
          obtain ⟨a, ha, rfl⟩ := List.mem_map.mp hp
          exact ⟨kp_ne k (hne1 a ha) hm.1, hm.2⟩
        · exact ⟨hl, (N e.ent hin).2⟩
        · have hm := N p (by simp only [List.mem_cons, List.map_append, List.map_cons, List.mem_append]; exact .inr (.inr (.inr (.inr (.inr (.inr hp))))))
          obtain ⟨a, ha, rfl⟩ := List.mem_map.mp hp
          exact ⟨kp_ne k (hne2 a ha) hm.1, hm.2⟩
      · intro a ha
        rcases List.mem_append.mp ha with ha | ha
        · exact ok.are a (by simp [ha])
        · rcases List.mem_cons.mp ha with rfl | ha
          · exact hi
          · exact ok.are a (by simp [ha])
      · intro a ha
        exact .inl (hmap ▸ List.mem_map_of_mem ha)
      · intro t
        have := getT_swap (post := post) (e' := ⟨e.t, e.l, vs', addN e.ns i, n'⟩) hpre' hpe rfl t
        rw [hg]; exact this
end
section
local macro_rules | `(tactic| walk_at "setItem ref str") => `(tactic| (k_here; (with_reducible show wpAny _ _ (setItem (Value.ref _) (Value.str _ _) (Value.ref _)) _ _ _); k_dflt (refine' kda_set (knd := PySem.strKind _ _) ?F ?N ?U ?d (strKind_is _ _ _ _) ?z ?_; (case F => k_asm); (case N => k_asm); (case U => k_updF); (case d => k_asm); (case z => (rw [sizeLine_eq]; omega))); intro h' o' F' N' hd'; (try dsimp only at N')))
local macro_rules | `(tactic| walk_at "setItem ref int") => `(tactic| (k_here; (with_reducible show wpAny _ _ (setItem (Value.ref _) (Value.int _ _) (Value.ref _)) _ _ _); k_dflt (refine' kda_set (knd := PySem.intKind _ _) ?F ?N ?U ?d (intKind_is _ _ _ _) ?z ?_; (case F => k_asm); (case N => k_asm); (case U => k_updF); (case d => k_asm); (case z => (rw [sizeLine_eq]; omega))); intro h' o' F' N' hd'; (try dsimp only at N')))
section
theorem addN_same (l : List Int) (k : Int) : addN (l ++ [k]) k = l ++ [k] := by
  unfold addN
  have : ((l ++ [k]).drop ((l ++ [k]).length - 1)).any (fun x => x == k) = true := by
    rw [List.length_append, List.length_singleton, Nat.add_sub_cancel, List.drop_left]
    simp
  rw [if_pos this]
theorem addN_new {l : List Int} {k : Int} (h : k ∉ l) : addN l k = l ++ [k] := by
  unfold addN
  have : (l.drop (l.length - 1)).any (fun x => x == k) = false := by
    rw [List.any_eq_false]
    intro a ha
    have := List.mem_of_mem_drop ha
    simp only [beq_iff_eq]
    exact fun q => h (q ▸ this)
  rw [this]; rfl
/-- a function value that answers on an int by R, in any frame, as long as the heap keeps g but for W -/
def LamOk (w : World) (p : Program) (loose : List PySem.Str) (mean : ExcName → Option Value) (mg mb : PySem.Str → Option Value) (W : List Addr) (f : Addr) (g : Heap) (R : Int → Value → Prop) : Prop :=
  ∀ {dp un : Nat} {gd : Option (List Code)} {cn : PySem.Str} {cs : Scope} {a : Addr} {ccd : Value} {cl : List (PySem.Str × Addr)} {outer : List Env} {A₀ : Around} {base h₀ : Heap} {L : Addr} {m : PySem.Str → Option Value} {s : Shared}
    {Q E : Value → Shared → Prop} (i : Int) (t : Tok) (v : Value), Below A₀ base outer h₀ → Fr h₀ L s.heap m → (hd.heap_39 w.params).In h₀ → Top p loose mean mg mb h₀ → cs.kind = .function → dp + 3 < recursionLimit → un + 100 < cLine →
    Kp W g s.heap → R i v → (∀ h' tk', Fr h₀ L h' m → Kp [] s.heap h' → Q v { s with heap := h', toks := tk' }) →
    wpAny (model PG w) (ktrTop dp un gd cn cs L a ccd cl outer) (call (.ref f) [.int i t]) Q E s
structure RowE where
  k : Int
  b : Bool
  l : Addr
  vs : List Value
  ts : List PySem.Str
  a : Addr
def due (rs : List RowE) (t : PySem.Str) : List Int := (rs.filter fun r => r.b && decide (t ∈ r.ts)).map RowE.k
theorem due_take {rs : List RowE} {i : Nat} {r : RowE} (h : rs[i]? = some r) (t : PySem.Str) : due (rs.take (i + 1)) t = due (rs.take i) t ++ if r.b && decide (t ∈ r.ts) then [r.k] else [] := by
  unfold due
  rw [List.take_add_one, h, List.filter_append, List.map_append]
  congr 1
  simp only [Option.toList_some, List.filter_cons, List.filter_nil]
  split <;> rfl
theorem due_len (rs : List RowE) (t : PySem.Str) : (due rs t).length ≤ rs.length := by unfold due; rw [List.length_map]; exact List.length_filter_le ..
theorem due_keys {rs : List RowE} {i : Nat} {r : RowE} (h : rs[i]? = some r) (hn : (rs.map RowE.k).Nodup) (t : PySem.Str) : r.k ∉ due (rs.take i) t := by
  intro hm
  unfold due at hm
  obtain ⟨a, ha, e⟩ := List.mem_map.mp hm
  have ha' := (List.mem_filter.mp ha).1
  have h2 := List.take_append_drop i rs
  rw [← h2, List.map_append, List.nodup_append] at hn
  obtain ⟨hlt, hr⟩ := List.getElem?_eq_some_iff.mp h
  have hd : r ∈ rs.drop i := by rw [← hr]; exact List.mem_drop_iff_getElem.mpr ⟨0, by simpa using hlt, by simp⟩
  exact hn.2.2 _ (List.mem_map_of_mem ha') _ (List.mem_map_of_mem hd) e
/-- what stands under t when j texts of the row at hand are in -/
def mid (rs : List RowE) (i : Nat) (r : RowE) (j : Nat) (t : PySem.Str) : List Int := due (rs.take i) t ++ if t ∈ r.ts.take j then [r.k] else []
theorem mid_zero (rs : List RowE) (i : Nat) (r : RowE) (t : PySem.Str) : mid rs i r 0 t = due (rs.take i) t := by unfold mid; simp
theorem mid_step {rs : List RowE} {i : Nat} {r : RowE} {j : Nat} {v : PySem.Str} (h : rs[i]? = some r) (hn : (rs.map RowE.k).Nodup) (hv : r.ts[j]? = some v) (t : PySem.Str) :
    mid rs i r (j + 1) t = if t = v then addN (mid rs i r j v) r.k else mid rs i r j t := by
  have hk := due_keys h hn v
  have ht : r.ts.take (j + 1) = r.ts.take j ++ [v] := by rw [List.take_add_one, hv]; rfl
  unfold mid
  rw [ht]
  by_cases e : t = v
  · subst e
    rw [if_pos rfl, if_pos (by simp)]
    by_cases q : t ∈ r.ts.take j
    · rw [if_pos q, addN_same]
    · rw [if_neg q, List.append_nil, addN_new hk]
  · rw [if_neg e]
    have : (t ∈ r.ts.take j ++ [v]) ↔ t ∈ r.ts.take j := by simp [e]
    by_cases q : t ∈ r.ts.take j
    · rw [if_pos q, if_pos (this.mpr q)]
    · rw [if_neg q, if_neg (fun z => q (this.mp z))]
theorem mid_all {rs : List RowE} {i : Nat} {r : RowE} (h : rs[i]? = some r) (hb : r.b = true) (t : PySem.Str) : mid rs i r r.ts.length t = due (rs.take (i + 1)) t := by
  rw [due_take h]
  unfold mid
  rw [List.take_length, hb]
  by_cases q : t ∈ r.ts <;> simp [q]
theorem due_skip {rs : List RowE} {i : Nat} {r : RowE} (h : rs[i]? = some r) (hb : r.b = false) (t : PySem.Str) : due (rs.take (i + 1)) t = due (rs.take i) t := by rw [due_take h, hb]; simp
theorem mid_len (rs : List RowE) (i : Nat) (r : RowE) (j : Nat) (t : PySem.Str) : (mid rs i r j t).length ≤ rs.length + 1 := by
  unfold mid
  have := due_len (rs.take i) t
  have h2 : (rs.take i).length ≤ rs.length := by rw [List.length_take]; omega
  rw [List.length_append]
  split <;> simp <;> omega
theorem pack_fill {P : Prop} {w : World} {g h : Heap} {L x dx nd d : Addr} {ox odx od ond' : Obj} {kvs : List (PySem.Str × Value)} {name : PySem.Str} (N : News g L h [(d, od), (x, ox), (dx, odx), (nd, ond')])
    (a : ond'.IsDictOf (strKind PG w) (stored kvs name (.ref d))) (b : od.IsDictOf (strKind PG w) []) (c : @LT.lt Nat _ x d ∧ @LT.lt Nat _ dx d ∧ @LT.lt Nat _ nd d) (e : (d == sysModules) = false)
    (k : ∀ d od ond', News g L h [(d, od), (x, ox), (dx, odx), (nd, ond')] → ond'.IsDictOf (strKind PG w) (stored kvs name (.ref d)) → od.IsDictOf (strKind PG w) [] → @LT.lt Nat _ x d ∧ @LT.lt Nat _ dx d ∧ @LT.lt Nat _ nd d → (d == sysModules) = false → P) : P := k d od ond' N a b c e
theorem stored_new {kvs : List (PySem.Str × Value)} {name : PySem.Str} {v : Value} (h : valueAt kvs name = none) : stored kvs name v = kvs ++ [(name, v)] := by
  unfold stored
  have : kvs.any (fun kv => decide (kv.1 = name)) = false := by
    rw [List.any_eq_false]
    intro kv hkv
    unfold valueAt at h
    have := List.find?_eq_none.mp (Option.map_eq_none_iff.mp h) kv hkv
    simpa using this
  rw [this]; rfl
theorem valueAt_new {kvs : List (PySem.Str × Value)} {name : PySem.Str} {v : Value} (h : valueAt kvs name = none) : valueAt (kvs ++ [(name, v)]) name = some v := by
  unfold valueAt at *
  rw [List.find?_append, Option.map_eq_none_iff.mp h]
  simp
theorem lam_walk {w : World} {p : Program} {loose : List PySem.Str} {mean : ExcName → Option Value} {mg mb : PySem.Str → Option Value} {dp un : Nat} {gd : Option (List Code)} {cn : PySem.Str} {cs : Scope} {a : Addr} {ccd : Value} {cl : List (PySem.Str × Addr)} {outer : List Env} {A₀ : Around} {base h₀ : Heap} {L : Addr} {m : PySem.Str → Option Value} {s : Shared}
    {Q E : Value → Shared → Prop} {W : List Addr} {f : Addr} {g : Heap} {R : Int → Value → Prop} {news : List (Addr × Obj)} {i : Int} {t : Tok} {v : Value} (hl : LamOk w p loose mean mg mb W f g R)
    (B : Below A₀ base outer h₀) (F : Fr h₀ L s.heap m) (X : (hd.heap_39 w.params).In h₀) (T : Top p loose mean mg mb h₀) (hk : cs.kind = .function) (N : News h₀ L s.heap news) (hdp : dp + 3 < recursionLimit) (hu : un + 100 < cLine) (k : Kp W g s.heap) (r : R i v)
    (ret : ∀ h' tk', Fr h₀ L h' m → News h₀ L h' news → Kp [] s.heap h' → Q v { s with heap := h', toks := tk' }) :
    wpAny (model PG w) (ktrTop dp un gd cn cs L a ccd cl outer) (call (.ref f) [.int i t]) Q E s :=
  hl i t v B F X T hk hdp hu k r fun h' tk' F' k' => ret h' tk' F' (k'.news N fun _ _ h => nomatch h) k'
theorem led_in {w : World} {x dx nd d : Addr} {tk : Tok} {nn : Nat} {ond od : Obj} {es : List TE} {a : Addr} (ha : a ∈ d :: es.map TE.l) : ∃ q ∈ ledI w x dx nd d tk nn ond od es, q.1 = a := by
  rcases List.mem_cons.mp ha with rfl | ha
  · exact ⟨(a, od), by k_memK, rfl⟩
  · obtain ⟨e, he, rfl⟩ := List.mem_map.mp ha
    exact ⟨e.ent, by simp only [List.mem_cons]; exact .inr (.inr (.inr (.inr (List.mem_map_of_mem he)))), rfl⟩
theorem led_off {w : World} {h : Heap} {x dx nd d : Addr} {tk : Tok} {nn : Nat} {ond od od' : Obj} {es es' : List TE} {own : List (Addr × Obj)} (hoff : ∀ q ∈ ledI w x dx nd d tk nn ond od es, ∀ p ∈ own, q.1 ≠ p.1) (No : ∀ p ∈ own, h.get? p.1 = some p.2)
    (fr : ∀ e ∈ es', e.l ∈ es.map TE.l ∨ h.get? e.l = none) : ∀ q ∈ ledI w x dx nd d tk nn ond od' es', ∀ p ∈ own, q.1 ≠ p.1 := by
  intro q hq p hp e
  simp only [List.mem_cons] at hq
  rcases hq with rfl | rfl | rfl | rfl | hq
  · exact hoff (x, _) (by k_memK) p hp e
  · exact hoff (dx, _) (by k_memK) p hp e
  · exact hoff (nd, _) (by k_memK) p hp e
  · exact hoff (d, od) (by k_memK) p hp e
  · obtain ⟨e', he', rfl⟩ := List.mem_map.mp hq
    rcases fr e' he' with h1 | h1
    · obtain ⟨e0, he0, e00⟩ := List.mem_map.mp h1
      exact hoff e0.ent (by simp only [List.mem_cons]; exact .inr (.inr (.inr (.inr (List.mem_map_of_mem he0))))) p hp (e00.trans e)
    · have := No p hp
      rw [← e, h1] at this; cases this
theorem led_keep {w : World} {h h' : Heap} {x dx nd d : Addr} {tk : Tok} {nn : Nat} {ond od : Obj} {es : List TE} {own : List (Addr × Obj)} (hoff : ∀ q ∈ ledI w x dx nd d tk nn ond od es, ∀ p ∈ own, q.1 ≠ p.1) (No : ∀ p ∈ own, h.get? p.1 = some p.2)
    (k : Kp (d :: es.map TE.l) h h') : ∀ p ∈ own, h'.get? p.1 = some p.2 := fun p hp => k _ _ (fun hb => by
  obtain ⟨q, hq, e⟩ := led_in (w := w) (x := x) (dx := dx) (nd := nd) (tk := tk) (nn := nn) (ond := ond) (od := od) hb
  exact hoff q hq p hp e) (No p hp)
/-- add, in the walk: behind the key's own entries the ledger may hold more -/
theorem add_walk {w : World} {p : Program} {loose : List PySem.Str} {mean : ExcName → Option Value} {mg mb : PySem.Str → Option Value} {dp un : Nat} {gd : Option (List Code)} {cn : PySem.Str} {cs : Scope} {a : Addr} {ccd : Value} {cl : List (PySem.Str × Addr)} {outer : List Env} {A₀ : Around} {base h₀ : Heap} {L : Addr} {m : PySem.Str → Option Value} {s : Shared}
    {Q E : Value → Shared → Prop} {x dx nd d : Addr} {tk tn tv ti : Tok} {nn : Nat} {ond od : Obj} {kvs : List (PySem.Str × Value)} {es : List TE} {name value : PySem.Str} {i : Int} {own : List (Addr × Obj)}
    (B : Below A₀ base outer h₀) (F : Fr h₀ L s.heap m) (X : (hd.heap_39 w.params).In h₀) (T : Top p loose mean mg mb h₀) (hk : cs.kind = .function) (N : News h₀ L s.heap (ledI w x dx nd d tk nn ond od es ++ own)) (hoff : ∀ q ∈ ledI w x dx nd d tk nn ond od es, ∀ p ∈ own, q.1 ≠ p.1) (lo : (nd == sysModules) = false) (lo2 : (d == sysModules) = false)
    (hnd : ond.IsDictOf (strKind PG w) kvs) (ok : TxOk w x dx nd d od es)
    (hv1 : valueAt kvs name = some (.ref d)) (hz : kvs.length ≤ 100) (hz2 : es.length ≤ 100) (hz3 : (getT es value).length ≤ 100)
    (hdp : dp + 3 < recursionLimit) (hu : un + 100 < cLine)
    (ret : ∀ od' es' h' tk', Fr h₀ L h' m → News h₀ L h' (ledI w x dx nd d tk nn ond od' es' ++ own) → (∀ q ∈ ledI w x dx nd d tk nn ond od' es', ∀ p ∈ own, q.1 ≠ p.1) → TxOk w x dx nd d od' es' → (∀ e ∈ es', e.l ∈ es.map TE.l ∨ s.heap.get? e.l = none) → es'.length ≤ es.length + 1 →
      (∀ t, getT es' t = if t = value then addN (getT es value) i else getT es t) → Kp (d :: es.map TE.l) s.heap h' → Q .none { s with heap := h', toks := tk' }) :
    wpAny (model PG w) (ktrTop dp un gd cn cs L a ccd cl outer) (call (.ref 74) [.ref x, .str name tn, .str value tv, .int i ti]) Q E s := by
  refine add_all B F X T hk (sub_news N fun p hp => List.mem_append_left _ hp) lo lo2 hnd ok hv1 hz hz2 hz3 hdp hu ?_
  intro od' es' h' tk' F' N' ok' fr hlen hget k
  have No : ∀ p ∈ own, s.heap.get? p.1 = some p.2 := fun p hp => (N p (List.mem_append_right _ hp)).1
  refine ret od' es' h' tk' F' (fun p hp => ?_) (led_off hoff No fr) ok' fr hlen hget k
  rcases List.mem_append.mp hp with hp | hp
  · exact N' p hp
  · exact ⟨led_keep hoff No k p hp, (N p (List.mem_append_right _ hp)).2⟩
theorem ne_cls {h : Heap} {a b : Addr} {o o' : Obj} (ha : h.get? a = some o) (hb : h.get? b = some o') (n : o.cls ≠ o'.cls) : a ≠ b := fun e => by
  subst e; rw [ha] at hb; cases hb; exact n rfl
theorem ints_at {vs : List Value} {ns : List Int} (h : IntsAre vs ns) {i : Nat} {v : Value} (hv : vs[i]? = some v) : ∃ n t, ns[i]? = some n ∧ v = .int n t := by
  have hlt : i < vs.length := (List.getElem?_eq_some_iff.mp hv).1
  have hlt' : i < ns.length := by rw [← h.length]; exact hlt
  obtain ⟨t, ht⟩ := h.get i ns[i] (by simp [hlt'])
  rw [hv] at ht
  exact ⟨ns[i], t, by simp [hlt'], Option.some.inj ht⟩
theorem strs_at {vs : List Value} {ts : List PySem.Str} (h : StrsAre vs ts) {i : Nat} {v : Value} (hv : vs[i]? = some v) : ∃ x t, ts[i]? = some x ∧ v = .str x t := by
  induction h generalizing i with
  | nil => simp at hv
  | cons y t _ ih =>
    cases i with
    | zero => simp at hv; exact ⟨y, t, rfl, hv.symm⟩
    | succ i => simp at hv; obtain ⟨x, t', a, b⟩ := ih hv; exact ⟨x, t', by simpa using a, b⟩
def FnAt (h : Heap) (f : Addr) : Prop := ∃ o fd, h.get? f = some o ∧ o.data = .func fd
theorem FnAt.keep {h h' : Heap} {f : Addr} (x : FnAt h f) (k : ∀ b o, h.get? b = some o → h'.get? b = some o) : FnAt h' f := let ⟨o, fd, a, b⟩ := x; ⟨o, fd, k _ _ a, b⟩
theorem callWith_L {M : Model} {A : Around} {E : Value → Shared → Prop} {s : Shared} {env : Env} {pos : Pos} {f : Addr} {g : Heap} {first : List Value} {Q : Value → Shared → Prop} {e : Expr} {rest : List Expr} (_X : FnAt g f)
    (h : wpAny M A (spliced (backTo pos (starEach (e :: rest) env))) (fun vs s₁ => FnAt s₁.heap f ∧ wpAny M A (call (.ref f) (first ++ vs)) Q E s₁) E s)
    (he : starEach (e :: rest) env = (false, eval e env) :: starEach rest env := by rfl) (hplain : (backTo pos (starEach rest env)).any (·.1) = false := by rfl) :
    wpAny M A (callWith pos (.ref f) first (backTo pos (starEach (e :: rest) env)) []) Q E s := by
  rw [he] at h ⊢
  refine callWith_of (P := fun h => FnAt h f) (by show ((false || (backTo pos (starEach rest env)).any (·.1)) || false) = false; rw [hplain]; rfl) (fun h ⟨o, fd, ho, hd⟩ => ⟨.frame, .inl rfl, ?_⟩) (evalArgs_plain h)
  unfold keeperOf
  refine (Looks.ld ho).andThen ?_
  rw [hd]
  exact .now
def vw (m : PySem.Str → Option Value) : List (PySem.Str × Value) → PySem.Str → Option Value
  | [], q => m q
  | (a, v) :: r, q => if q = a then some v else vw m r q
theorem vw_eq (m : PySem.Str → Option Value) : ∀ ps : List (PySem.Str × Value), (∀ p ∈ ps, m p.1 = some p.2) → ∀ q, vw m ps q = m q
  | [], _, _ => rfl
  | (a, v) :: r, h, q => by
    show (if q = a then some v else vw m r q) = m q
    by_cases e : q = a
    · rw [if_pos e, e]; exact (h (a, v) (List.mem_cons_self ..)).symm
    · rw [if_neg e]; exact vw_eq m r (fun b hb => h b (List.mem_cons_of_mem _ hb)) q
theorem fr_view {h₀ h : Heap} {L : Addr} {m : PySem.Str → Option Value} {x : PySem.Str} {v : Value} (ps : List (PySem.Str × Value)) (F : Fr h₀ L h (fun q => if q = x then some v else m q)) (hp : ∀ p ∈ ps, m p.1 = some p.2) :
    Fr h₀ L h (fun q => if q = x then some v else vw m ps q) := by
  have e : (fun q => if q = x then some v else vw m ps q) = (fun q => if q = x then some v else m q) := by
    funext q; rw [vw_eq m ps hp q]
  rw [e]; exact F
theorem fr_view0 {h₀ h : Heap} {L : Addr} {m : PySem.Str → Option Value} (ps : List (PySem.Str × Value)) (F : Fr h₀ L h m) (hp : ∀ p ∈ ps, m p.1 = some p.2) : Fr h₀ L h (fun q => vw m ps q) := by
  have e : (fun q => vw m ps q) = m := by
    funext q; rw [vw_eq m ps hp q]
  rw [e]; exact F
theorem all4 {m : PySem.Str → Option Value} {a b c d : PySem.Str} {va vb vc vd : Value} (h1 : m a = some va) (h2 : m b = some vb) (h3 : m c = some vc) (h4 : m d = some vd) : ∀ p ∈ [(a, va), (b, vb), (c, vc), (d, vd)], m p.1 = some p.2 := by
  intro p hp
  simp only [List.mem_cons, List.not_mem_nil, or_false] at hp
  rcases hp with rfl | rfl | rfl | rfl <;> assumption
section
local macro_rules | `(tactic| walk_at "callWith ref") => `(tactic| (k_here; k_dflt (refine callWith_L (by assumption) ?_)))
local macro_rules | `(tactic| walk_at "And") => `(tactic| ((with_reducible show FnAt _ _ ∧ _); refine ⟨FnAt.keep (by assumption) (Fr.keep (by k_asm)), ?_⟩; try dsimp only [List.nil_append, List.cons_append]))
theorem fill_spec {w : World} {p : Program} {loose : List PySem.Str} {mean : ExcName → Option Value} {mg mb : PySem.Str → Option Value} {dp un : Nat} {gd : Option (List Code)} {cn : PySem.Str} {cs : Scope} {a : Addr} {ccd : Value} {cl : List (PySem.Str × Addr)} {outer : List Env} {A₀ : Around} {base h₀ : Heap} {L : Addr} {m : PySem.Str → Option Value} {s : Shared}
    {Q E : Value → Shared → Prop} {x dx nd nl f1 f2 : Addr} {tkx tn : Tok} {nn : Nat} {ond : Obj} {kvs : List (PySem.Str × Value)} {name : PySem.Str} {rs : List RowE} {vsn : List Value}
    (B : Below A₀ base outer h₀) (F : Fr h₀ L s.heap m) (X : (hd.heap_39 w.params).In h₀) (T : Top p loose mean mg mb h₀) (hk : cs.kind = .function) (N : News h₀ L s.heap [(x, instObj 91 dx), (dx, ixDict w tkx nd nn), (nd, ond)]) (ne : [x, dx, nd].Nodup) (lo : (nd == sysModules) = false)
    (hnd : ond.IsDictOf (strKind PG w) kvs) (hv1 : valueAt kvs name = none) (hz : kvs.length ≤ 50) (hrs : rs.length ≤ 9) (hrt : ∀ r ∈ rs, r.ts.length ≤ 3) (hnk : (rs.map RowE.k).Nodup)
    (gn : s.heap.IsList nl vsn.toArray) (hi : IntsAre vsn (rs.map RowE.k)) (hl : ∀ r ∈ rs, s.heap.IsList r.l r.vs.toArray ∧ StrsAre r.vs r.ts) (fn1 : FnAt s.heap f1) (fn2 : FnAt s.heap f2)
    (off : ∀ a ∈ [x, dx, nd], a ≠ nl ∧ a ≠ f1 ∧ a ≠ f2 ∧ ∀ r ∈ rs, a ≠ r.l)
    (l1 : LamOk w p loose mean mg mb [nd] f1 s.heap (fun i v => ∃ r ∈ rs, r.k = i ∧ v = .bool r.b)) (l2 : LamOk w p loose mean mg mb [nd] f2 s.heap (fun i v => ∃ r ∈ rs, r.k = i ∧ v = .ref r.l))
    (hdp : dp + 8 < recursionLimit) (hu : un + 200 < cLine)
    (ret : ∀ d es ond' h' tk', Fr h₀ L h' m → Kp [nd] s.heap h' → s.heap.get? d = none → h'.get? nd = some ond' → ond'.IsDictOf (strKind PG w) (kvs ++ [(name, .ref d)]) → TxAt w h' d es → (∀ e ∈ es, s.heap.get? e.l = none) → (∀ t, getT es t = due rs t) →
      (d :: es.map TE.l).Nodup → Q .none { s with heap := h', toks := tk' }) :
    wpAny (model PG w) (ktrTop dp un gd cn cs L a ccd cl outer) (call (.ref 102) [.ref x, .str name tn, .ref nl, .ref f1, .ref f2]) Q E s := by
  w_top off; (have kf : (hd.heap_39 w.params).In h₀ → PySem.Challenge.rw_nu0047_01 = PySem.Challenge.rw_nu0047_01 := by (k_fill; exact fun _ => rfl)); clear kf
  simp only [List.nodup_cons, List.mem_cons, List.not_mem_nil, or_false, not_or, not_false_eq_true, and_true, List.nodup_nil] at ne
  obtain ⟨⟨a1, a2⟩, a3⟩ := ne
  replace a1 := neN a1; replace a2 := neN a2; replace a3 := neN a3
  refine wpAny_call ?_
  k_dflt (refine' enter ?k1 ?k2 ?k3 ?k4 ?k5 ?kA ?kF ?kK ?k6 ?k7 ?k8 ?k9 ?kB ?_ ?c2 ?c3 ?c4 ?c5; (case kA => exact rfl); (case kF => exact rfl); (case kK => assumption); (case k1 => k_asm); (case k2 => k_asm); (case k3 => k_asm); (case k4 => k_asm); (case k5 => k_asm); (case k6 => k_is); (case k7 => k_is); (case k8 => ktr_room); (case k9 => exact BindsTo.of_eq rfl); (case c5 => decide); (case kB => exact locs rfl); (case c2 => exact rfl); (case c3 => exact rfl); (case c4 => exact rfl); k_whole; intro g' L' h' kp' hL' FG' F' N' B' X' T'; (try dsimp only); (try k_fold))
  have offn : ∀ b, (∀ a ∈ [x, dx, nd], a ≠ b) → b ∉ List.map (fun q : Addr × Obj => q.1) [(x, instObj 91 dx), (dx, ixDict w tkx nd nn), (nd, ond)] := fun b hb hm => hb b hm rfl
  have gn' : g'.IsList nl vsn.toArray := by obtain ⟨o, e, r⟩ := gn; exact ⟨o, kp' _ _ (offn _ fun a ha => (off a ha).1) e, r⟩
  have hl' : ∀ r ∈ rs, g'.IsList r.l r.vs.toArray := by intro r hr; obtain ⟨o, e, q⟩ := (hl r hr).1; exact ⟨o, kp' _ _ (offn _ fun a ha => (off a ha).2.2.2 r hr) e, q⟩
  have fn1' : FnAt g' f1 := by obtain ⟨o, fd, e, q⟩ := fn1; exact ⟨o, fd, kp' _ _ (offn _ fun a ha => (off a ha).2.1) e, q⟩
  have fn2' : FnAt g' f2 := by obtain ⟨o, fd, e, q⟩ := fn2; exact ⟨o, fd, kp' _ _ (offn _ fun a ha => (off a ha).2.2.1) e, q⟩
  repeat' ((fail_if_success (with_reducible show wpAny _ _ (pyIter (Value.ref _)) _ _ _)); (fail_if_success (with_reducible show wpAny _ _ (call (Value.ref 74) _ _) _ _ _)); (fail_if_success (with_reducible show wpAny _ _ (call (Value.ref 81) _ _) _ _ _)); (fail_if_success (with_reducible show wpAny _ _ (call (Value.ref 102) _ _) _ _ _)); (fail_if_success (with_reducible show wpAny _ _ (call (Value.ref 109) _ _) _ _ _)); (fail_if_success (with_reducible show wpAny _ _ (call (Value.ref 116) _ _) _ _ _)); (fail_if_success (with_reducible show wpAny _ _ (call (Value.ref 130) _ _) _ _ _)); (fail_if_success (with_reducible show wpAny _ _ (call (Value.ref 135) _ _) _ _ _)); (fail_if_success (with_reducible show wpAny _ _ (call (Value.ref 142) _ _) _ _ _)); (fail_if_success (with_reducible show wpAny _ _ (call (Value.ref 147) _ _) _ _ _)); (first | (k_unfold; (try dsimp only)) | (k_end; wrow_close) | walk1 | (dsimp only; walk1) | (leave1; try dsimp only) | fail "no step"))
  (rename Fr g' L' _ _ => FZ; rename News g' L' _ _ => NZ; rename (Obj.IsDictOf _ _ (stored _ _ _)) => hnd'; rename (Obj.IsDictOf (strKind _ _) _ []) => hod0; rename (x < _ ∧ _) => ltd; rename ((_ == _) = false) => lod)
  rename IntsAre _ _ => hi
  refine pack_fill NZ hnd' hod0 ltd lod ?_
  clear NZ hnd' hod0 ltd lod
  intro d od ond' NZ hnd' hod0 ltd lod
  rw [stored_new hv1] at hnd'
  have hvd : valueAt (kvs ++ [(name, Value.ref d)]) name = some (.ref d) := valueAt_new hv1
  have hdn : d ∉ List.map (fun q : Addr × Obj => q.1) [(x, instObj 91 dx), (dx, ixDict w tkx nd nn), (nd, ond)] := by
    simp only [List.map_cons, List.map_nil, List.mem_cons, List.not_mem_nil, or_false]; exact not_or.mpr ⟨neN (by omega), not_or.mpr ⟨neN (by omega), neN (by omega)⟩⟩
  have hdf : s.heap.get? d = none := kp'.fresh (News.fresh NZ (List.Mem.head _)) hdn
  have NI : News g' L' _ (ledI w x dx nd d tkx nn ond' od []) := sub_news NZ (by intro q hq; simp only [List.map_nil, List.mem_cons, List.not_mem_nil, or_false] at hq; rcases hq with rfl | rfl | rfl | rfl; all_goals k_memK)
  have ok0 : TxOk w x dx nd d od [] := ⟨hod0, fun _ h => (nomatch h), by
    simp only [List.map_nil, List.nodup_cons, List.mem_cons, List.not_mem_nil, or_false, not_or, not_false_eq_true, and_true, List.nodup_nil]
    exact ⟨⟨a1, a2, neN (by omega)⟩, ⟨a3, neN (by omega)⟩, neN (by omega)⟩⟩
  refine iter_list (J := fun i m₁ news₁ => m₁ (PySem.Str.ofString "index") = some (.ref x) ∧ m₁ (PySem.Str.ofString "name") = some (.str name tn) ∧ m₁ (PySem.Str.ofString "is_matched") = some (.ref f1) ∧ m₁ (PySem.Str.ofString "values_of") = some (.ref f2) ∧
    ∃ od es, news₁ = ledI w x dx nd d tkx nn ond' od es ∧ TxOk w x dx nd d od es ∧ (∀ e ∈ es, s.heap.get? e.l = none) ∧ es.length ≤ 3 * i ∧ ∀ t, getT es t = due (rs.take i) t) rfl (stays_list FZ.keep gn') ?_ FZ NI ?_ ⟨rfl, rfl, rfl, rfl, od, [], rfl, ok0, fun _ h => (nomatch h), Nat.zero_le _, fun t => by rw [List.take_zero]; rfl⟩ ?_ ?_
  · obtain ⟨o, e, _⟩ := gn; exact Nat.ne_of_lt (Nat.lt_of_lt_of_le (Heap.lt_size e) hL')
  · intro q hq
    simp only [List.map_nil, List.mem_cons, List.not_mem_nil, or_false] at hq
    rcases hq with rfl | rfl | rfl | rfl
    · exact (off x (List.Mem.head _)).1
    · exact (off dx (List.Mem.tail _ (List.Mem.head _))).1
    · exact (off nd (List.Mem.tail _ (List.Mem.tail _ (List.Mem.head _)))).1
    · obtain ⟨o, e, _⟩ := gn; intro q; rw [← q, hdf] at e; cases e
  · intro i v m₁ news₁ h tk' own hv hJ hdis No F₁ N₁
    obtain ⟨hm1, hm2, hm3, hm4, od₁, es, rfl, ok, hfr, hlen, hget⟩ := hJ
    obtain ⟨k, ti, hk', rfl⟩ := ints_at hi hv
    obtain ⟨r, hr, rfl⟩ : ∃ r, rs[i]? = some r ∧ r.k = k := by rw [List.getElem?_map] at hk'; obtain ⟨r, a, b⟩ := Option.map_eq_some_iff.mp hk'; exact ⟨r, a, b⟩
    have hrm : r ∈ rs := List.mem_of_getElem? hr
    have hi9 : i < rs.length := (List.getElem?_eq_some_iff.mp hr).1
    have F₂ := fr_view _ F₁ (all4 hm1 hm2 hm3 hm4)
    clear F₁
    have NN : News g' L' h (ledI w x dx nd d tkx nn ond' od₁ es ++ own) := fun q hq => (List.mem_append.mp hq).elim (N₁ q) (No q)
    clear N₁
    clear NZ NI FZ
    repeat' ((fail_if_success (with_reducible show wpAny _ _ (pyIter (Value.ref _)) _ _ _)); (fail_if_success (with_reducible show wpAny _ _ (call (Value.ref 74) _ _) _ _ _)); (fail_if_success (with_reducible show wpAny _ _ (call (Value.ref 81) _ _) _ _ _)); (fail_if_success (with_reducible show wpAny _ _ (call (Value.ref 102) _ _) _ _ _)); (fail_if_success (with_reducible show wpAny _ _ (call (Value.ref 109) _ _) _ _ _)); (fail_if_success (with_reducible show wpAny _ _ (call (Value.ref 116) _ _) _ _ _)); (fail_if_success (with_reducible show wpAny _ _ (call (Value.ref 130) _ _) _ _ _)); (fail_if_success (with_reducible show wpAny _ _ (call (Value.ref 135) _ _) _ _ _)); (fail_if_success (with_reducible show wpAny _ _ (call (Value.ref 142) _ _) _ _ _)); (fail_if_success (with_reducible show wpAny _ _ (call (Value.ref 147) _ _) _ _ _)); (first | (k_unfold; (try dsimp only)) | (k_end; wrow_close) | walk1 | (dsimp only; walk1) | (leave1; try dsimp only) | fail "no step"))
    have kz : ∀ (h2 : Heap) (m2 : PySem.Str → Option Value) (od2 : Obj) (es2 : List TE), Fr g' L' h2 m2 → News g' L' h2 (ledI w x dx nd d tkx nn ond' od2 es2 ++ own) → Kp [nd] s.heap h2 := fun h2 m2 od2 es2 F2 N2 =>
      Kp.of_news kp' F2 N N2 (by intro q hq; simp only [List.mem_cons, List.not_mem_nil, or_false] at hq; rcases hq with rfl | rfl | rfl; all_goals first | exact .inl (List.Mem.head _) | exact .inr (List.mem_append_left _ (by k_memK)))
    k_dflt (refine' lam_walk l1 B' F₂ X' T' rfl NN ?hdp ?hu (kz _ _ _ _ F₂ NN) ⟨r, hrm, rfl, rfl⟩ ?_; (case hdp => ktr_room); (case hu => ktr_units))
    intro h2 tk2 F₃ N₃ k2
    clear F₂ NN
    repeat' ((fail_if_success (with_reducible show wpAny _ _ (pyIter (Value.ref _)) _ _ _)); (fail_if_success (with_reducible show wpAny _ _ (call (Value.ref 74) _ _) _ _ _)); (fail_if_success (with_reducible show wpAny _ _ (call (Value.ref 81) _ _) _ _ _)); (fail_if_success (with_reducible show wpAny _ _ (call (Value.ref 102) _ _) _ _ _)); (fail_if_success (with_reducible show wpAny _ _ (call (Value.ref 109) _ _) _ _ _)); (fail_if_success (with_reducible show wpAny _ _ (call (Value.ref 116) _ _) _ _ _)); (fail_if_success (with_reducible show wpAny _ _ (call (Value.ref 130) _ _) _ _ _)); (fail_if_success (with_reducible show wpAny _ _ (call (Value.ref 135) _ _) _ _ _)); (fail_if_success (with_reducible show wpAny _ _ (call (Value.ref 142) _ _) _ _ _)); (fail_if_success (with_reducible show wpAny _ _ (call (Value.ref 147) _ _) _ _ _)); (first | (k_unfold; (try dsimp only)) | (k_end; wrow_close) | walk1 | (dsimp only; walk1) | (leave1; try dsimp only) | fail "no step"))
    rotate_left
    · rename (r.b = false) => hb
      refine TurnEnd.intro F₃ (sub_news N₃ fun q hq => List.mem_append_left _ hq) (fun q hq => (N₃ q (List.mem_append_right _ hq)).1) hdis ⟨rfl, rfl, rfl, rfl, od₁, es, rfl, ok, hfr, by omega, fun t => by rw [due_skip hr hb]; exact hget t⟩
    rename (r.b = true) => hb
    rename Fr g' L' _ _ => F₃
    k_dflt (refine' lam_walk l2 B' F₃ X' T' rfl N₃ ?hdp ?hu (kz _ _ _ _ F₃ N₃) ⟨r, hrm, rfl, rfl⟩ ?_; (case hdp => ktr_room); (case hu => ktr_units))
    intro h3 tk3 F₄ N₄ k3
    clear F₃ N₃
    repeat' ((fail_if_success (with_reducible show wpAny _ _ (pyIter (Value.ref _)) _ _ _)); (fail_if_success (with_reducible show wpAny _ _ (call (Value.ref 74) _ _) _ _ _)); (fail_if_success (with_reducible show wpAny _ _ (call (Value.ref 81) _ _) _ _ _)); (fail_if_success (with_reducible show wpAny _ _ (call (Value.ref 102) _ _) _ _ _)); (fail_if_success (with_reducible show wpAny _ _ (call (Value.ref 109) _ _) _ _ _)); (fail_if_success (with_reducible show wpAny _ _ (call (Value.ref 116) _ _) _ _ _)); (fail_if_success (with_reducible show wpAny _ _ (call (Value.ref 130) _ _) _ _ _)); (fail_if_success (with_reducible show wpAny _ _ (call (Value.ref 135) _ _) _ _ _)); (fail_if_success (with_reducible show wpAny _ _ (call (Value.ref 142) _ _) _ _ _)); (fail_if_success (with_reducible show wpAny _ _ (call (Value.ref 147) _ _) _ _ _)); (first | (k_unfold; (try dsimp only)) | (k_end; wrow_close) | walk1 | (dsimp only; walk1) | (leave1; try dsimp only) | fail "no step"))
    rename Fr g' L' _ _ => F₄
    refine iter_list (J := fun j m₂ news₂ => m₂ (PySem.Str.ofString "index") = some (.ref x) ∧ m₂ (PySem.Str.ofString "name") = some (.str name tn) ∧ m₂ (PySem.Str.ofString "is_matched") = some (.ref f1) ∧ m₂ (PySem.Str.ofString "values_of") = some (.ref f2) ∧ m₂ (PySem.Str.ofString "node") = some (.int r.k ti) ∧
      ∃ od2 es2, news₂ = ledI w x dx nd d tkx nn ond' od2 es2 ++ own ∧ TxOk w x dx nd d od2 es2 ∧ (∀ q ∈ ledI w x dx nd d tkx nn ond' od2 es2, ∀ p ∈ own, q.1 ≠ p.1) ∧ (∀ e ∈ es2, s.heap.get? e.l = none) ∧ es2.length ≤ 3 * i + j ∧ ∀ t, getT es2 t = mid rs i r j t) rfl (stays_list F₄.keep (hl' r hrm)) ?_ F₄ N₄ ?_
        ⟨rfl, rfl, rfl, rfl, rfl, od₁, es, rfl, ok, hdis, hfr, hlen, fun t => by rw [mid_zero]; exact hget t⟩ ?_ ?_
    · obtain ⟨o, e, _⟩ := (hl r hrm).1; exact Nat.ne_of_lt (Nat.lt_of_lt_of_le (Heap.lt_size e) hL')
    · intro q hq e
      have h1 := (N₄ q hq).2.2
      obtain ⟨o, e1, _⟩ := hl' r hrm
      rw [e, e1] at h1; cases h1
    · intro j v m₂ news₂ h5 tk5 own2 hv2 hJ2 hdis2 No2 F₅ N₅
      obtain ⟨hn1, hn2, hn3, hn4, hn5, od2, es2, rfl, ok2, hdis3, hfr2, hlen2, hget2⟩ := hJ2
      obtain ⟨y, ty, hy, rfl⟩ := strs_at (hl r hrm).2 hv2
      have F₆ := fr_view _ F₅ (all4 hn1 hn2 hn4 hn5)
      clear F₄ N₄ F₅
      repeat' ((fail_if_success (with_reducible show wpAny _ _ (pyIter (Value.ref _)) _ _ _)); (fail_if_success (with_reducible show wpAny _ _ (call (Value.ref 74) _ _) _ _ _)); (fail_if_success (with_reducible show wpAny _ _ (call (Value.ref 81) _ _) _ _ _)); (fail_if_success (with_reducible show wpAny _ _ (call (Value.ref 102) _ _) _ _ _)); (fail_if_success (with_reducible show wpAny _ _ (call (Value.ref 109) _ _) _ _ _)); (fail_if_success (with_reducible show wpAny _ _ (call (Value.ref 116) _ _) _ _ _)); (fail_if_success (with_reducible show wpAny _ _ (call (Value.ref 130) _ _) _ _ _)); (fail_if_success (with_reducible show wpAny _ _ (call (Value.ref 135) _ _) _ _ _)); (fail_if_success (with_reducible show wpAny _ _ (call (Value.ref 142) _ _) _ _ _)); (fail_if_success (with_reducible show wpAny _ _ (call (Value.ref 147) _ _) _ _ _)); (first | (k_unfold; (try dsimp only)) | (k_end; wrow_close) | walk1 | (dsimp only; walk1) | (leave1; try dsimp only) | fail "no step"))
      have hj3 : j < r.ts.length := (List.getElem?_eq_some_iff.mp hy).1
      have hr3 := hrt r hrm
      have hml := mid_len rs i r j y
      rename Fr g' L' _ _ => F₇
      rename News g' L' _ _ => N₇
      have kh5 := kz _ _ _ _ F₇ N₇
      have hN5 : h5.get? nd = some ond' := (N₇ (nd, ond') (List.mem_append_left _ (by k_memK))).1
      k_dflt (refine' add_walk (kvs := kvs ++ [(name, Value.ref d)]) B' F₇ X' T' rfl N₇ hdis3 lo lod hnd' ok2 hvd ?hz ?hz2 ?hz3 ?hdp ?hu ?_; (case hz => (rw [List.length_append, List.length_singleton]; omega)); (case hz2 => omega); (case hz3 => (rw [hget2 y]; omega)); (case hdp => ktr_room); (case hu => ktr_units))
      intro od3 es3 h7 tk7 F₈ N₈ hdis4 ok3 hfr3 hlen3 hget3 k7
      clear F₇ N₇
      repeat' ((fail_if_success (with_reducible show wpAny _ _ (pyIter (Value.ref _)) _ _ _)); (fail_if_success (with_reducible show wpAny _ _ (call (Value.ref 74) _ _) _ _ _)); (fail_if_success (with_reducible show wpAny _ _ (call (Value.ref 81) _ _) _ _ _)); (fail_if_success (with_reducible show wpAny _ _ (call (Value.ref 102) _ _) _ _ _)); (fail_if_success (with_reducible show wpAny _ _ (call (Value.ref 109) _ _) _ _ _)); (fail_if_success (with_reducible show wpAny _ _ (call (Value.ref 116) _ _) _ _ _)); (fail_if_success (with_reducible show wpAny _ _ (call (Value.ref 130) _ _) _ _ _)); (fail_if_success (with_reducible show wpAny _ _ (call (Value.ref 135) _ _) _ _ _)); (fail_if_success (with_reducible show wpAny _ _ (call (Value.ref 142) _ _) _ _ _)); (fail_if_success (with_reducible show wpAny _ _ (call (Value.ref 147) _ _) _ _ _)); (first | (k_unfold; (try dsimp only)) | (k_end; wrow_close) | walk1 | (dsimp only; walk1) | (leave1; try dsimp only) | fail "no step"))
      rename Fr g' L' _ _ => F₈
      have hoff2 : ∀ q ∈ ledI w x dx nd d tkx nn ond' od2 es2, ∀ p ∈ own2, q.1 ≠ p.1 := fun q hq p hp => hdis2 q (List.mem_append_left _ hq) p hp
      have No2' : ∀ p ∈ own2, h5.get? p.1 = some p.2 := fun p hp => (No2 p hp).1
      refine TurnEnd.intro F₈ N₈ (led_keep hoff2 No2' k7) (fun q hq p hp => ?_) ⟨rfl, rfl, hn3, rfl, rfl, od3, es3, rfl, ok3, hdis4, fun e he => ?_, by omega, fun t => ?_⟩
      · rcases List.mem_append.mp hq with hq | hq
        · exact led_off hoff2 No2' hfr3 q hq p hp
        · exact hdis2 q (List.mem_append_right _ hq) p hp
      · rcases hfr3 e he with h1 | h1
        · obtain ⟨e0, he0, e00⟩ := List.mem_map.mp h1
          rw [← e00]; exact hfr2 e0 he0
        · refine kh5.fresh h1 (fun q => ?_)
          have hq : e.l = nd := List.mem_singleton.mp q
          have h1' : h5.get? e.l = none := h1
          rw [hq, hN5] at h1'; cases h1'
      · rw [hget3 t, hget2 y, hget2 t]; exact (mid_step hr hnk hy t).symm
    · intro m₂ news₂ h6 tk6 hJ2 F₆ N₆
      obtain ⟨hn1, hn2, hn3, hn4, hn5, od2, es2, rfl, ok2, hdis3, hfr2, hlen2, hget2⟩ := hJ2
      clear F₄ N₄
      have hvl : r.vs.length = r.ts.length := (hl r hrm).2.length
      have hr3 := hrt r hrm
      repeat' ((fail_if_success (with_reducible show wpAny _ _ (pyIter (Value.ref _)) _ _ _)); (fail_if_success (with_reducible show wpAny _ _ (call (Value.ref 74) _ _) _ _ _)); (fail_if_success (with_reducible show wpAny _ _ (call (Value.ref 81) _ _) _ _ _)); (fail_if_success (with_reducible show wpAny _ _ (call (Value.ref 102) _ _) _ _ _)); (fail_if_success (with_reducible show wpAny _ _ (call (Value.ref 109) _ _) _ _ _)); (fail_if_success (with_reducible show wpAny _ _ (call (Value.ref 116) _ _) _ _ _)); (fail_if_success (with_reducible show wpAny _ _ (call (Value.ref 130) _ _) _ _ _)); (fail_if_success (with_reducible show wpAny _ _ (call (Value.ref 135) _ _) _ _ _)); (fail_if_success (with_reducible show wpAny _ _ (call (Value.ref 142) _ _) _ _ _)); (fail_if_success (with_reducible show wpAny _ _ (call (Value.ref 147) _ _) _ _ _)); (first | (k_unfold; (try dsimp only)) | (k_end; wrow_close) | walk1 | (dsimp only; walk1) | (leave1; try dsimp only) | fail "no step"))
      refine TurnEnd.intro F₆ (sub_news N₆ fun q hq => List.mem_append_left _ hq) (fun q hq => (N₆ q (List.mem_append_right _ hq)).1) hdis3 ⟨hn1, hn2, hn3, hn4, od2, es2, rfl, ok2, hfr2, by omega, fun t => by rw [hget2 t, hvl]; exact mid_all hr hb t⟩
  · clear NI NZ FZ
    intro m₁ news₁ h6 tk6 hJ F₆ N₆
    obtain ⟨hm1, hm2, hm3, hm4, od₁, es, rfl, ok, hfr, hlen, hget⟩ := hJ
    clear FG'
    repeat' ((fail_if_success (with_reducible show wpAny _ _ (pyIter (Value.ref _)) _ _ _)); (fail_if_success (with_reducible show wpAny _ _ (call (Value.ref 74) _ _) _ _ _)); (fail_if_success (with_reducible show wpAny _ _ (call (Value.ref 81) _ _) _ _ _)); (fail_if_success (with_reducible show wpAny _ _ (call (Value.ref 102) _ _) _ _ _)); (fail_if_success (with_reducible show wpAny _ _ (call (Value.ref 109) _ _) _ _ _)); (fail_if_success (with_reducible show wpAny _ _ (call (Value.ref 116) _ _) _ _ _)); (fail_if_success (with_reducible show wpAny _ _ (call (Value.ref 130) _ _) _ _ _)); (fail_if_success (with_reducible show wpAny _ _ (call (Value.ref 135) _ _) _ _ _)); (fail_if_success (with_reducible show wpAny _ _ (call (Value.ref 142) _ _) _ _ _)); (fail_if_success (with_reducible show wpAny _ _ (call (Value.ref 147) _ _) _ _ _)); (first | (k_unfold; (try dsimp only)) | (k_end; wrow_close) | walk1 | (dsimp only; walk1) | (leave1; try dsimp only) | fail "no step"))
    rename Fr h₀ L _ _ => FY
    have hvl : vsn.length = rs.length := by rw [hi.length, List.length_map]
    have kz := Kp.of_news (W := [nd]) kp' F₆ N N₆ (by intro q hq; simp only [List.mem_cons, List.not_mem_nil, or_false] at hq; rcases hq with rfl | rfl | rfl; all_goals first | exact .inl (List.Mem.head _) | exact .inr (by k_memK))
    refine ret d es ond' _ _ FY kz hdf (N₆ (nd, ond') (by k_memK)).1 hnd' ⟨Heap.dictOf_iff.mpr ⟨od₁, (N₆ (d, od₁) (by k_memK)).1, ok.dict⟩, fun e he => ⟨(N₆ e.ent (by simp only [List.mem_cons]; exact .inr (.inr (.inr (.inr (List.mem_map_of_mem he)))))).1, ok.are e he⟩, lod⟩ hfr (fun t => by rw [hget t, hvl, List.take_length]) ?_
    have := ok.nodup
    simp only [List.nodup_cons, List.mem_cons, not_or] at this ⊢
    exact this.2.2.2
end
end
section
local macro_rules | `(tactic| k_inst) => `(tactic| (refine' instAt_g ?k ?a ?b; (case k => exact Fr.keep (by k_asm)); (case a => assumption); (case b => assumption)))
section
theorem fold_filter (b : Int → Bool) : ∀ (l acc : List Int), l.foldl (fun l' k' => if b k' = true then l' ++ [k'] else if b k' = false then l' else l') acc = acc ++ l.filter b
  | [], acc => by simp
  | k :: l, acc => by
    rw [List.foldl_cons, fold_filter b l, List.filter_cons]
    cases h : b k <;> simp
/-- in_order's answer -/
def inOrder (ns : List Int) : List Int := (rangeKs 0 (30 - 0 : Int).toNat).filter fun k => ns.any fun x => x == k
/-- a fresh entry goes onto the ledger -/
theorem news_fresh {h₀ h h' : Heap} {L r : Addr} {m : PySem.Str → Option Value} {o : Obj} {news : List (Addr × Obj)} (F : Fr h₀ L h m) (N : News h₀ L h news) (k : Kp [] h h') (fr : h.get? r = none) (hr : h'.get? r = some o) :
    News h₀ L h' ((r, o) :: news) ∧ ∀ p ∈ news, p.1 ≠ r := by
  have ne : ∀ p ∈ news, p.1 ≠ r := fun p hp e => by have := (N p hp).1; rw [e, fr] at this; cases this
  refine ⟨fun p hp => ?_, ne⟩
  rcases List.mem_cons.mp hp with rfl | hp
  · refine ⟨hr, fun e => ?_, ?_⟩
    · obtain ⟨o', _, _, e', _⟩ := F.ns
      have e2 : r = L := e
      rw [← e2, fr] at e'; cases e'
    · show h₀.get? r = none
      cases e : h₀.get? r with
      | none => rfl
      | some o' => have := F.keep _ _ e; rw [fr] at this; cases this
  · exact ⟨k.all _ _ (N p hp).1, (N p hp).2⟩
theorem updF_upd {d : Addr} {o : Obj} {news : List (Addr × Obj)} {u : Obj → List (Addr × Obj)} (U : UpdF d o news u) (o' : Obj) : Upd d o o' news (u o') := by
  induction U with
  | head h => exact .head h
  | tail h _ ih => exact .tail h ih
theorem ext_any {prog : Program} {w : World} {A : Around} {E : Value → Shared → Prop} {s : Shared} {h₀ : Heap} {L D b : Addr} {m : PySem.Str → Option Value} {news : List (Addr × Obj)} {u : Obj → List (Addr × Obj)} {vs vs2 : List Value} {n n2 : Nat} {Q : Value → Shared → Prop}
    (F : Fr h₀ L s.heap m) (N : News h₀ L s.heap news) (hb : (b, listOf vs2.toArray n2) ∈ news) (U : UpdF D (listOf vs.toArray n) news u) (hz : vs.length ≤ 100) (hz2 : vs2.length ≤ 100)
    (h : ∀ h' n', Fr h₀ L h' m → News h₀ L h' (u (listOf (vs ++ vs2).toArray n')) → Q .none { s with heap := h' }) : wpAny (model prog w) A (call (.builtin "list.extend") [.ref D, .ref b]) Q E s := by
  have hd : ¬(!(vs.toArray).isEmpty && Builtin.List.listTooLong (vs.toArray.size + vs2.toArray.size)) = true := by
    simp only [Bool.and_eq_true, not_and, Bool.not_eq_true, List.size_toArray, Builtin.List.listTooLong]
    intro _
    have hl : sizeLine = 16777216 := sizeLine_eq
    exact decide_eq_false (by omega)
  have hl : sizeLine = 16777216 := sizeLine_eq
  by_cases e : vs2 = []
  · subst e
    exact kxn_extend F N hb rfl (updF_upd U _) hd (by simp; omega) (by simp; omega) fun h' F' N' => h h' n F' (by rw [List.append_nil]; exact N')
  · refine kl_extend (l := vs ++ vs2) F N hb rfl ?_ (updF_upd U _) hd (by simp; omega) (by simp; omega) fun h' F' N' => h h' (n + 1) F' N'
    simpa using e
theorem flat_len {es : List TE} (hz : ∀ t, (getT es t).length ≤ 9) : ∀ ts : List PySem.Str, (ts.flatMap (getT es)).length ≤ 9 * ts.length
  | [] => by simp
  | t :: ts => by rw [List.flatMap_cons, List.length_append, List.length_cons]; have := hz t; have := flat_len hz ts; omega
theorem flat_take {es : List TE} {ts : List PySem.Str} {i : Nat} {y : PySem.Str} (h : ts[i]? = some y) : (ts.take (i + 1)).flatMap (getT es) = (ts.take i).flatMap (getT es) ++ getT es y := by
  rw [List.take_add_one, h, List.flatMap_append]; simp
theorem pack_list {P : Prop} {g h : Heap} {L l : Addr} {o : Obj} {a : PySem.Str} {m : PySem.Str → Option Value} (N : News g L h [(l, o)]) (F : Fr g L h (fun y => if y = a then some (.ref l) else m y)) (k : ∀ l, News g L h [(l, o)] → Fr g L h (fun y => if y = a then some (.ref l) else m y) → P) : P := k l N F
theorem find_walk {w : World} {p : Program} {loose : List PySem.Str} {mean : ExcName → Option Value} {mg mb : PySem.Str → Option Value} {dp un : Nat} {gd : Option (List Code)} {cn : PySem.Str} {cs : Scope} {a : Addr} {ccd : Value} {cl : List (PySem.Str × Addr)} {outer : List Env} {A₀ : Around} {base h₀ : Heap} {L : Addr} {m : PySem.Str → Option Value} {s : Shared}
    {Q E : Value → Shared → Prop} {x dx nd d : Addr} {tk tn tv : Tok} {nn : Nat} {kvs : List (PySem.Str × Value)} {es : List TE} {name value : PySem.Str} {news : List (Addr × Obj)}
    (B : Below A₀ base outer h₀) (F : Fr h₀ L s.heap m) (X : (hd.heap_39 w.params).In h₀) (T : Top p loose mean mg mb h₀) (hk : cs.kind = .function) (N : News h₀ L s.heap news) (gx : h₀.get? x = some (instObj 91 dx)) (gdx : h₀.get? dx = some (ixDict w tk nd nn)) (gnd : h₀.DictOf (strKind PG w) nd kvs) (lo : (nd == sysModules) = false) (gt : TxAt w h₀ d es)
    (hv1 : valueAt kvs name = some (.ref d)) (hz : (getT es value).length ≤ 100)
    (hdp : dp + 3 < recursionLimit) (hu : un + 100 < cLine)
    (ret : ∀ r n' vs h' tk', Fr h₀ L h' m → News h₀ L h' ((r, listOf vs.toArray n') :: news) → (∀ p ∈ news, p.1 ≠ r) → IntsAre vs (getT es value) → Kp [] s.heap h' → Q (.ref r) { s with heap := h', toks := tk' }) :
    wpAny (model PG w) (ktrTop dp un gd cn cs L a ccd cl outer) (call (.ref 81) [.ref x, .str name tn, .str value tv]) Q E s :=
  find_spec B F X T hk (F.keep _ _ gx) (F.keep _ _ gdx) (dictOf_keep gnd F.keep) lo (gt.keep F.keep) hv1 hz hdp hu fun r n' vs h' tk' F' k fr hr hi =>
    ret r n' vs h' tk' F' (news_fresh F N k fr hr).1 (news_fresh F N k fr hr).2 hi k
section
theorem order_spec {w : World} {p : Program} {loose : List PySem.Str} {mean : ExcName → Option Value} {mg mb : PySem.Str → Option Value} {dp un : Nat} {gd : Option (List Code)} {cn : PySem.Str} {cs : Scope} {a : Addr} {ccd : Value} {cl : List (PySem.Str × Addr)} {outer : List Env} {A₀ : Around} {base h₀ : Heap} {L : Addr} {m : PySem.Str → Option Value} {s : Shared}
    {Q E : Value → Shared → Prop} {nl : Addr} {vsn : List Value} {ns : List Int}
    (B : Below A₀ base outer h₀) (F : Fr h₀ L s.heap m) (X : (hd.heap_39 w.params).In h₀) (T : Top p loose mean mg mb h₀) (hk : cs.kind = .function) (gn : s.heap.IsList nl vsn.toArray) (hi : IntsAre vsn ns) (hz : ns.length ≤ 100)
    (hdp : dp + 8 < recursionLimit) (hu : un + 200 < cLine)
    (ret : ∀ r ys n h' tk', Fr h₀ L h' m → Kp [] s.heap h' → s.heap.get? r = none → h'.get? r = some (listOf ys.toArray n) → IntsAre ys (inOrder ns) → Q (.ref r) { s with heap := h', toks := tk' }) :
    wpAny (model PG w) (ktrTop dp un gd cn cs L a ccd cl outer) (call (.ref 135) [.ref nl]) Q E s := by
  w_top off; (have kf : (hd.heap_39 w.params).In h₀ → PySem.Challenge.rw_nu0047_01 = PySem.Challenge.rw_nu0047_01 := by (k_fill; exact fun _ => rfl)); clear kf
  have N0 : News h₀ L s.heap [] := News.nil
  refine wpAny_call ?_
  k_dflt (refine' enterC ?k1 ?k2 ?k3 ?k4 ?k5 ?kA ?kF ?kK ?k6 ?k7 ?k8 ?k9 ?kB ?kD ?_ ?c2 ?c3 ?c4; (case kA => exact rfl); (case kF => exact rfl); (case kK => assumption); (case k1 => k_asm); (case k2 => k_asm); (case k3 => k_asm); (case k4 => k_asm); (case k5 => k_asm); (case k6 => k_is); (case k7 => k_is); (case k8 => ktr_room); (case k9 => exact BindsTo.of_eq rfl); (case kB => exact rfl); (case kD => decide +kernel); (case c2 => exact rfl); (case c3 => exact rfl); (case c4 => exact rfl); k_whole; intro g' L' h' tk' cells' kp' hL' FG' F' N' Y' B' X' T' l1; (try k_lt l1); k_cells Y'; (try simp only [List.cons_append, List.nil_append] at N'); (try dsimp only); (try k_fold))
  have gn' : g'.IsList nl vsn.toArray := stays_list kp'.all gn
  repeat' ((fail_if_success (with_reducible show wpAny _ _ (pyIter (Value.ref _)) _ _ _)); (fail_if_success (with_reducible show wpAny _ _ (call (Value.ref 74) _ _) _ _ _)); (fail_if_success (with_reducible show wpAny _ _ (call (Value.ref 81) _ _) _ _ _)); (fail_if_success (with_reducible show wpAny _ _ (call (Value.ref 102) _ _) _ _ _)); (fail_if_success (with_reducible show wpAny _ _ (call (Value.ref 109) _ _) _ _ _)); (fail_if_success (with_reducible show wpAny _ _ (call (Value.ref 116) _ _) _ _ _)); (fail_if_success (with_reducible show wpAny _ _ (call (Value.ref 130) _ _) _ _ _)); (fail_if_success (with_reducible show wpAny _ _ (call (Value.ref 135) _ _) _ _ _)); (fail_if_success (with_reducible show wpAny _ _ (call (Value.ref 142) _ _) _ _ _)); (fail_if_success (with_reducible show wpAny _ _ (call (Value.ref 147) _ _) _ _ _)); (first | (k_unfold; (try dsimp only)) | (k_end; wrow_close) | walk1 | (dsimp only; walk1) | (leave1; try dsimp only) | fail "no step"))
  rename Fr h₀ L _ _ => FY
  rename Fr g' L' _ _ => FZ
  rename News g' L' _ _ => NZ
  rename (IntsAre _ (List.foldl _ _ _)) => hfo
  rw [fold_filter, List.nil_append] at hfo
  exact ret _ _ _ _ _ FY (fun b o nb e => FZ.keep b o (kp' b o nb e)) (kp'.fresh (News.fresh NZ (List.Mem.head _)) (fun h => nomatch h)) (News.get NZ (List.Mem.head _)) hfo

theorem found_spec {w : World} {p : Program} {loose : List PySem.Str} {mean : ExcName → Option Value} {mg mb : PySem.Str → Option Value} {dp un : Nat} {gd : Option (List Code)} {cn : PySem.Str} {cs : Scope} {a : Addr} {ccd : Value} {cl : List (PySem.Str × Addr)} {outer : List Env} {A₀ : Around} {base h₀ : Heap} {L : Addr} {m : PySem.Str → Option Value} {s : Shared}
    {Q E : Value → Shared → Prop} {x dx nd d tl : Addr} {tkx tn : Tok} {nn : Nat} {kvs : List (PySem.Str × Value)} {es : List TE} {name : PySem.Str} {vst : List Value} {ts : List PySem.Str}
    (B : Below A₀ base outer h₀) (F : Fr h₀ L s.heap m) (X : (hd.heap_39 w.params).In h₀) (T : Top p loose mean mg mb h₀) (hk : cs.kind = .function) (gx : s.heap.get? x = some (instObj 91 dx)) (gdx : s.heap.get? dx = some (ixDict w tkx nd nn)) (gnd : s.heap.DictOf (strKind PG w) nd kvs) (lo : (nd == sysModules) = false) (gt : TxAt w s.heap d es)
    (hv1 : valueAt kvs name = some (.ref d)) (hz : ∀ t, (getT es t).length ≤ 9) (gl : s.heap.IsList tl vst.toArray) (hst : StrsAre vst ts) (hts : ts.length ≤ 3)
    (hdp : dp + 12 < recursionLimit) (hu : un + 300 < cLine)
    (ret : ∀ r ys n h' tk', Fr h₀ L h' m → Kp [] s.heap h' → s.heap.get? r = none → h'.get? r = some (listOf ys.toArray n) → IntsAre ys (inOrder (ts.flatMap (getT es))) → Q (.ref r) { s with heap := h', toks := tk' }) :
    wpAny (model PG w) (ktrTop dp un gd cn cs L a ccd cl outer) (call (.ref 109) [.ref x, .str name tn, .ref tl, .ref 135]) Q E s := by
  w_top off; (have kf : (hd.heap_39 w.params).In h₀ → PySem.Challenge.rw_nu0047_01 = PySem.Challenge.rw_nu0047_01 := by (k_fill; exact fun _ => rfl)); clear kf
  have N0 : News h₀ L s.heap [] := News.nil
  refine wpAny_call ?_
  k_dflt (refine' enter ?k1 ?k2 ?k3 ?k4 ?k5 ?kA ?kF ?kK ?k6 ?k7 ?k8 ?k9 ?kB ?_ ?c2 ?c3 ?c4 ?c5; (case kA => exact rfl); (case kF => exact rfl); (case kK => assumption); (case k1 => k_asm); (case k2 => k_asm); (case k3 => k_asm); (case k4 => k_asm); (case k5 => k_asm); (case k6 => k_is); (case k7 => k_is); (case k8 => ktr_room); (case k9 => exact BindsTo.of_eq rfl); (case c5 => decide); (case kB => exact locs rfl); (case c2 => exact rfl); (case c3 => exact rfl); (case c4 => exact rfl); k_whole; intro g' L' h' kp' hL' FG' F' N' B' X' T'; (try dsimp only); (try k_fold))
  have gx' := kp'.all _ _ gx
  have gdx' := kp'.all _ _ gdx
  have gnd' := dictOf_keep gnd kp'.all
  have gt' := gt.keep kp'.all
  have gl' := stays_list kp'.all gl
  repeat' ((fail_if_success (with_reducible show wpAny _ _ (exec (Stmt.For _ _ _ _ _) _) _ _ _)); (fail_if_success (with_reducible show wpAny _ _ (pyIter (Value.ref _)) _ _ _)); (fail_if_success (with_reducible show wpAny _ _ (call (Value.ref 74) _ _) _ _ _)); (fail_if_success (with_reducible show wpAny _ _ (call (Value.ref 81) _ _) _ _ _)); (fail_if_success (with_reducible show wpAny _ _ (call (Value.ref 102) _ _) _ _ _)); (fail_if_success (with_reducible show wpAny _ _ (call (Value.ref 109) _ _) _ _ _)); (fail_if_success (with_reducible show wpAny _ _ (call (Value.ref 116) _ _) _ _ _)); (fail_if_success (with_reducible show wpAny _ _ (call (Value.ref 130) _ _) _ _ _)); (fail_if_success (with_reducible show wpAny _ _ (call (Value.ref 135) _ _) _ _ _)); (fail_if_success (with_reducible show wpAny _ _ (call (Value.ref 142) _ _) _ _ _)); (fail_if_success (with_reducible show wpAny _ _ (call (Value.ref 147) _ _) _ _ _)); (first | (k_unfold; (try dsimp only)) | (k_end; wrow_close) | walk1 | (dsimp only; walk1) | (leave1; try dsimp only) | fail "no step"))
  rename Fr g' L' _ _ => FZ
  (with_unfolding_all refine' For_invVF FZ ?k1 ?k2 ?_; (case k1 => exact rfl); (case k2 => exact rfl); k_whole)
  repeat' ((fail_if_success (with_reducible show wpAny _ _ (pyIter (Value.ref _)) _ _ _)); (fail_if_success (with_reducible show wpAny _ _ (call (Value.ref 74) _ _) _ _ _)); (fail_if_success (with_reducible show wpAny _ _ (call (Value.ref 81) _ _) _ _ _)); (fail_if_success (with_reducible show wpAny _ _ (call (Value.ref 102) _ _) _ _ _)); (fail_if_success (with_reducible show wpAny _ _ (call (Value.ref 109) _ _) _ _ _)); (fail_if_success (with_reducible show wpAny _ _ (call (Value.ref 116) _ _) _ _ _)); (fail_if_success (with_reducible show wpAny _ _ (call (Value.ref 130) _ _) _ _ _)); (fail_if_success (with_reducible show wpAny _ _ (call (Value.ref 135) _ _) _ _ _)); (fail_if_success (with_reducible show wpAny _ _ (call (Value.ref 142) _ _) _ _ _)); (fail_if_success (with_reducible show wpAny _ _ (call (Value.ref 147) _ _) _ _ _)); (first | (k_unfold; (try dsimp only)) | (k_end; wrow_close) | walk1 | (dsimp only; walk1) | (leave1; try dsimp only) | fail "no step"))
  rename Fr g' L' _ _ => FZ
  rename News g' L' _ _ => NZ
  refine pack_list NZ FZ ?_
  clear NZ FZ
  intro fl NZ FZ
  refine iter_list (J := fun i m₁ news₁ => m₁ (PySem.Str.ofString "index") = some (.ref x) ∧ m₁ (PySem.Str.ofString "name") = some (.str name tn) ∧ m₁ (PySem.Str.ofString "in_order") = some (.ref 135) ∧ m₁ (PySem.Str.ofString "found") = some (.ref fl) ∧
    ∃ vs n, news₁ = [(fl, listOf vs.toArray n)] ∧ IntsAre vs ((ts.take i).flatMap (getT es))) rfl (stays_list FZ.keep gl') ?_ FZ NZ ?_ ⟨rfl, rfl, rfl, rfl, [], 0, rfl, by rw [List.take_zero]; exact .nil⟩ ?_ ?_
  · obtain ⟨o, e, _⟩ := gl; exact Nat.ne_of_lt (Nat.lt_of_lt_of_le (Heap.lt_size e) hL')
  · intro q hq e
    have h1 := (NZ q hq).2.2
    obtain ⟨o, e1, _⟩ := gl'
    rw [e, e1] at h1; cases h1
  · intro i v m₁ news₁ h tk' own hv hJ hdis No F₁ N₁
    obtain ⟨hm1, hm2, hm3, hm4, vs, n, rfl, hvs⟩ := hJ
    obtain ⟨y, ty, hy, rfl⟩ := strs_at hst hv
    have F₂ := fr_view _ F₁ (all4 hm1 hm2 hm3 hm4)
    clear F₁ NZ FZ
    repeat' ((fail_if_success (with_reducible show wpAny _ _ (pyIter (Value.ref _)) _ _ _)); (fail_if_success (with_reducible show wpAny _ _ (call (Value.ref 74) _ _) _ _ _)); (fail_if_success (with_reducible show wpAny _ _ (call (Value.ref 81) _ _) _ _ _)); (fail_if_success (with_reducible show wpAny _ _ (call (Value.ref 102) _ _) _ _ _)); (fail_if_success (with_reducible show wpAny _ _ (call (Value.ref 109) _ _) _ _ _)); (fail_if_success (with_reducible show wpAny _ _ (call (Value.ref 116) _ _) _ _ _)); (fail_if_success (with_reducible show wpAny _ _ (call (Value.ref 130) _ _) _ _ _)); (fail_if_success (with_reducible show wpAny _ _ (call (Value.ref 135) _ _) _ _ _)); (fail_if_success (with_reducible show wpAny _ _ (call (Value.ref 142) _ _) _ _ _)); (fail_if_success (with_reducible show wpAny _ _ (call (Value.ref 147) _ _) _ _ _)); (first | (k_unfold; (try dsimp only)) | (k_end; wrow_close) | walk1 | (dsimp only; walk1) | (leave1; try dsimp only) | fail "no step"))
    have hyz := hz y
    rename Fr g' L' _ _ => F₂
    rename News g' L' _ _ => N₁
    k_dflt (refine' find_walk (value := y) B' F₂ X' T' rfl N₁ gx' gdx' gnd' lo gt' hv1 (by omega) ?hdp ?hu ?_; (case hdp => ktr_room); (case hu => ktr_units))
    intro r n' vs2 h2 tk2 F₃ N₃ hne hi2 k2
    have hl1 : vs.length ≤ 100 := by rw [hvs.length]; have := flat_len hz (ts.take i); have : (ts.take i).length ≤ 3 := by rw [List.length_take]; omega
                                     omega
    have hl2 : vs2.length ≤ 100 := by rw [hi2.length]; omega
    clear F₂ N₁
    repeat' ((fail_if_success (with_reducible show wpAny _ _ (pyIter (Value.ref _)) _ _ _)); (fail_if_success (with_reducible show wpAny _ _ (call (Value.ref 74) _ _) _ _ _)); (fail_if_success (with_reducible show wpAny _ _ (call (Value.ref 81) _ _) _ _ _)); (fail_if_success (with_reducible show wpAny _ _ (call (Value.ref 102) _ _) _ _ _)); (fail_if_success (with_reducible show wpAny _ _ (call (Value.ref 109) _ _) _ _ _)); (fail_if_success (with_reducible show wpAny _ _ (call (Value.ref 116) _ _) _ _ _)); (fail_if_success (with_reducible show wpAny _ _ (call (Value.ref 130) _ _) _ _ _)); (fail_if_success (with_reducible show wpAny _ _ (call (Value.ref 135) _ _) _ _ _)); (fail_if_success (with_reducible show wpAny _ _ (call (Value.ref 142) _ _) _ _ _)); (fail_if_success (with_reducible show wpAny _ _ (call (Value.ref 147) _ _) _ _ _)); (first | (k_unfold; (try dsimp only)) | (k_end; wrow_close) | walk1 | (dsimp only; walk1) | (leave1; try dsimp only) | fail "no step"))
    rename Fr g' L' _ _ => F₄
    have hnr : r ≠ fl := fun e => hne _ (List.Mem.head _) e.symm
    have hof : ∀ p ∈ own, p.1 ≠ fl := fun p hp e => hdis _ (List.Mem.head _) p hp e.symm
    have NN : News g' L' h2 ((r, listOf vs2.toArray n') :: (fl, listOf vs.toArray n) :: own) := fun q hq => by
      rcases List.mem_cons.mp hq with rfl | hq
      · exact N₃ _ (List.Mem.head _)
      · rcases List.mem_cons.mp hq with rfl | hq
        · exact N₃ _ (List.Mem.tail _ (List.Mem.head _))
        · exact ⟨k2.all _ _ (No q hq).1, (No q hq).2⟩
    k_dflt (refine ext_any F₄ NN (List.Mem.head _) (.tail hnr (.head hof)) hl1 hl2 ?_)
    intro h3 n3 F₅ N₅
    clear F₄ N₃ NN
    repeat' ((fail_if_success (with_reducible show wpAny _ _ (pyIter (Value.ref _)) _ _ _)); (fail_if_success (with_reducible show wpAny _ _ (call (Value.ref 74) _ _) _ _ _)); (fail_if_success (with_reducible show wpAny _ _ (call (Value.ref 81) _ _) _ _ _)); (fail_if_success (with_reducible show wpAny _ _ (call (Value.ref 102) _ _) _ _ _)); (fail_if_success (with_reducible show wpAny _ _ (call (Value.ref 109) _ _) _ _ _)); (fail_if_success (with_reducible show wpAny _ _ (call (Value.ref 116) _ _) _ _ _)); (fail_if_success (with_reducible show wpAny _ _ (call (Value.ref 130) _ _) _ _ _)); (fail_if_success (with_reducible show wpAny _ _ (call (Value.ref 135) _ _) _ _ _)); (fail_if_success (with_reducible show wpAny _ _ (call (Value.ref 142) _ _) _ _ _)); (fail_if_success (with_reducible show wpAny _ _ (call (Value.ref 147) _ _) _ _ _)); (first | (k_unfold; (try dsimp only)) | (k_end; wrow_close) | walk1 | (dsimp only; walk1) | (leave1; try dsimp only) | fail "no step"))
    refine TurnEnd.intro F₅ (nx := [(fl, listOf (vs ++ vs2).toArray n3)]) (sub_news N₅ (by intro q hq; rw [List.mem_singleton.mp hq]; k_memK)) (fun q hq => (N₅ q (List.mem_cons_of_mem _ (List.mem_cons_of_mem _ hq))).1) (fun q hq p hp => by rw [List.mem_singleton.mp hq]; exact fun e => hof p hp e.symm)
      ⟨rfl, rfl, rfl, rfl, vs ++ vs2, n3, rfl, by rw [flat_take hy]; exact hvs.append hi2⟩
  · intro m₁ news₁ h6 tk6 hJ F₆ N₆
    obtain ⟨hm1, hm2, hm3, hm4, vs, n, rfl, hvs⟩ := hJ
    clear NZ FZ
    have F₇ := fr_view0 _ F₆ (all4 hm1 hm2 hm3 hm4)
    clear F₆
    have hvl : vst.length = ts.length := hst.length
    rw [hvl, List.take_length] at hvs
    have hl1 : (ts.flatMap (getT es)).length ≤ 100 := by have := flat_len hz ts; omega
    repeat' ((fail_if_success (with_reducible show wpAny _ _ (pyIter (Value.ref _)) _ _ _)); (fail_if_success (with_reducible show wpAny _ _ (call (Value.ref 74) _ _) _ _ _)); (fail_if_success (with_reducible show wpAny _ _ (call (Value.ref 81) _ _) _ _ _)); (fail_if_success (with_reducible show wpAny _ _ (call (Value.ref 102) _ _) _ _ _)); (fail_if_success (with_reducible show wpAny _ _ (call (Value.ref 109) _ _) _ _ _)); (fail_if_success (with_reducible show wpAny _ _ (call (Value.ref 116) _ _) _ _ _)); (fail_if_success (with_reducible show wpAny _ _ (call (Value.ref 130) _ _) _ _ _)); (fail_if_success (with_reducible show wpAny _ _ (call (Value.ref 135) _ _) _ _ _)); (fail_if_success (with_reducible show wpAny _ _ (call (Value.ref 142) _ _) _ _ _)); (fail_if_success (with_reducible show wpAny _ _ (call (Value.ref 147) _ _) _ _ _)); (first | (k_unfold; (try dsimp only)) | (k_end; wrow_close) | walk1 | (dsimp only; walk1) | (leave1; try dsimp only) | fail "no step"))
    rename Fr g' L' _ _ => F₇
    k_dflt (refine' order_spec B' F₇ X' T' rfl (isList_of (N₆ _ (List.Mem.head _)).1) hvs hl1 ?hdp ?hu ?_; (case hdp => ktr_room); (case hu => ktr_units))
    intro r ys n2 h7 tk7 F₈ k8 fr8 hr8 hi8
    have N₈ := (news_fresh F₇ N₆ k8 fr8 hr8).1
    clear F₇ N₆
    repeat' ((fail_if_success (with_reducible show wpAny _ _ (pyIter (Value.ref _)) _ _ _)); (fail_if_success (with_reducible show wpAny _ _ (call (Value.ref 74) _ _) _ _ _)); (fail_if_success (with_reducible show wpAny _ _ (call (Value.ref 81) _ _) _ _ _)); (fail_if_success (with_reducible show wpAny _ _ (call (Value.ref 102) _ _) _ _ _)); (fail_if_success (with_reducible show wpAny _ _ (call (Value.ref 109) _ _) _ _ _)); (fail_if_success (with_reducible show wpAny _ _ (call (Value.ref 116) _ _) _ _ _)); (fail_if_success (with_reducible show wpAny _ _ (call (Value.ref 130) _ _) _ _ _)); (fail_if_success (with_reducible show wpAny _ _ (call (Value.ref 135) _ _) _ _ _)); (fail_if_success (with_reducible show wpAny _ _ (call (Value.ref 142) _ _) _ _ _)); (fail_if_success (with_reducible show wpAny _ _ (call (Value.ref 147) _ _) _ _ _)); (first | (k_unfold; (try dsimp only)) | (k_end; wrow_close) | walk1 | (dsimp only; walk1) | (leave1; try dsimp only) | fail "no step"))
    rename Fr h₀ L _ _ => FY
    rename Fr g' L' _ _ => FZ
    rename News g' L' _ _ => NZ
    exact ret _ _ _ _ _ FY (fun b o nb e => FZ.keep b o (kp' b o nb e)) (kp'.fresh (News.fresh NZ (List.Mem.head _)) (fun h => nomatch h)) (News.get NZ (List.Mem.head _)) hi8
end
end
section
def due2 (rs : List RowE) (us : List PySem.Str) : List Int := (rs.filter fun r => r.b && us.any fun t => decide (t ∈ r.ts)).map RowE.k
theorem due2_take {rs : List RowE} {i : Nat} {r : RowE} (h : rs[i]? = some r) (us : List PySem.Str) : due2 (rs.take (i + 1)) us = due2 (rs.take i) us ++ if (r.b && us.any fun t => decide (t ∈ r.ts)) then [r.k] else [] := by
  unfold due2
  rw [List.take_add_one, h, List.filter_append, List.map_append]
  congr 1
  simp only [Option.toList_some, List.filter_cons, List.filter_nil]
  split <;> rfl
theorem due2_skip {rs : List RowE} {i : Nat} {r : RowE} {us : List PySem.Str} (h : rs[i]? = some r) (hb : r.b = false) : due2 (rs.take (i + 1)) us = due2 (rs.take i) us := by rw [due2_take h, hb]; simp
theorem any_filter (us : List PySem.Str) (p : PySem.Str → Bool) : (!decide (us.filter p = [])) = us.any p := by
  cases h : us.any p with
  | true =>
    obtain ⟨x, hx, hp⟩ := List.any_eq_true.mp h
    have : us.filter p ≠ [] := fun e => by have := List.mem_filter.mpr ⟨hx, hp⟩; rw [e] at this; cases this
    simp [this]
  | false =>
    have : us.filter p = [] := List.filter_eq_nil_iff.mpr fun x hx => by simpa using List.any_eq_false.mp h x hx
    simp [this]
theorem due2_yes {rs : List RowE} {i : Nat} {r : RowE} {us : List PySem.Str} (h : rs[i]? = some r) (hb : r.b = true) (hq : (!decide (us.filter (fun t => decide (t ∈ r.ts)) = [])) = true) : due2 (rs.take (i + 1)) us = due2 (rs.take i) us ++ [r.k] := by
  rw [any_filter] at hq
  rw [due2_take h, hb, hq]; simp
theorem due2_no {rs : List RowE} {i : Nat} {r : RowE} {us : List PySem.Str} (h : rs[i]? = some r) (hq : (!decide (us.filter (fun t => decide (t ∈ r.ts)) = [])) = false) : due2 (rs.take (i + 1)) us = due2 (rs.take i) us := by
  rw [any_filter] at hq
  rw [due2_take h, hq]; simp
theorem filt_yes {ts : List PySem.Str} {i : Nat} {y : PySem.Str} {r : RowE} (h : ts[i]? = some y) (ha : (r.ts.any fun x => x == y) = true) : (ts.take (i + 1)).filter (fun t => decide (t ∈ r.ts)) = (ts.take i).filter (fun t => decide (t ∈ r.ts)) ++ [y] := by
  have : y ∈ r.ts := by obtain ⟨x, hx, e⟩ := List.any_eq_true.mp ha; rw [← eq_of_beq e]; exact hx
  rw [List.take_add_one, h, List.filter_append]
  simp [this]
theorem filt_no {ts : List PySem.Str} {i : Nat} {y : PySem.Str} {r : RowE} (h : ts[i]? = some y) (ha : (r.ts.any fun x => x == y) = false) : (ts.take (i + 1)).filter (fun t => decide (t ∈ r.ts)) = (ts.take i).filter (fun t => decide (t ∈ r.ts)) := by
  have : y ∉ r.ts := fun hm => by have := List.any_eq_false.mp ha y hm; simp at this
  rw [List.take_add_one, h, List.filter_append]
  simp [this]
theorem inOrder_due {rs : List RowE} {ts : List PySem.Str} {f : PySem.Str → List Int} (hf : ∀ t, f t = due rs t) (hk : rs.Pairwise (fun a b => a.k < b.k)) (h30 : ∀ r ∈ rs, 0 ≤ r.k ∧ r.k < 30) : inOrder (ts.flatMap f) = due2 rs ts := by
  have h1 : (inOrder (ts.flatMap f)).Pairwise (· < ·) := by
    unfold inOrder
    refine List.Pairwise.filter _ ?_
    decide
  have h2 : (due2 rs ts).Pairwise (· < ·) := by
    unfold due2
    exact List.pairwise_map.mpr (List.Pairwise.filter _ hk)
  refine lks_uniq ((List.perm_ext_iff_of_nodup (h1.imp fun h => Int.ne_of_lt h) (h2.imp fun h => Int.ne_of_lt h)).mpr fun a => ?_) (h1.imp fun h => Int.le_of_lt h) (h2.imp fun h => Int.le_of_lt h)
  unfold inOrder due2
  rw [List.mem_filter, List.mem_map]
  constructor
  · rintro ⟨_, h⟩
    obtain ⟨x, hx, e⟩ := List.any_eq_true.mp h
    obtain rfl := eq_of_beq e
    obtain ⟨t, ht, hx⟩ := List.mem_flatMap.mp hx
    rw [hf] at hx
    unfold due at hx
    obtain ⟨r, hr, e⟩ := List.mem_map.mp hx
    obtain ⟨hr, hp⟩ := List.mem_filter.mp hr
    rw [Bool.and_eq_true] at hp
    exact ⟨r, List.mem_filter.mpr ⟨hr, by rw [Bool.and_eq_true]; exact ⟨hp.1, List.any_eq_true.mpr ⟨t, ht, hp.2⟩⟩⟩, e⟩
  · rintro ⟨r, hr, rfl⟩
    obtain ⟨hr, hp⟩ := List.mem_filter.mp hr
    rw [Bool.and_eq_true] at hp
    obtain ⟨t, ht, hp2⟩ := List.any_eq_true.mp hp.2
    refine ⟨kre_mem (h30 r hr).1 (by have := (h30 r hr).2; simpa using this), List.any_eq_true.mpr ⟨r.k, List.mem_flatMap.mpr ⟨t, ht, ?_⟩, by simp⟩⟩
    rw [hf]
    unfold due
    exact List.mem_map.mpr ⟨r, List.mem_filter.mpr ⟨hr, by rw [Bool.and_eq_true]; exact ⟨hp.1, hp2⟩⟩, rfl⟩
end
section
section
local macro_rules | `(tactic| walk_at "getMethod type:Exception") => `(tactic| (k_here; k_dflt (refine' method_type (K := []) (v := Value.builtin "Exception.__init__") ?F ?X ?m (by decide +kernel) ?e ?h ?_; (case F => k_asm); (case X => exact fun _ _ h => nomatch h); (case m => first | rfl | kernel_rfl); (case e => rfl); (case h => rfl))))
local macro_rules | `(tactic| walk_at "call builtin:Exception.__init__") => `(tactic| (k_here; k_dflt (refine' exc_initW ?F ?N ?X ?U ?_; (case F => k_asm); (case N => k_asm); (case X => k_asm); (case U => k_updF); intro t' h' F' N' l1; (try k_lt l1); (try dsimp only at N'); (try k_sweep))))
local macro_rules | `(tactic| walk_at "setAttr ref") => `(tactic| (k_here; k_dflt (refine' exc_setW ?F ?N ?X ?U ?_; (case F => k_asm); (case N => k_asm); (case X => k_asm); (case U => k_updF); intro d' h' tk' F' N'; (try dsimp only at N'); (try k_sweep))))
theorem init_spec {w : World} {p : Program} {loose : List PySem.Str} {mean : ExcName → Option Value} {mg mb : PySem.Str → Option Value} {dp un : Nat} {gd : Option (List Code)} {cn : PySem.Str} {cs : Scope} {a : Addr} {ccd : Value} {cl : List (PySem.Str × Addr)} {outer : List Env} {A₀ : Around} {base h₀ : Heap} {L : Addr} {m : PySem.Str → Option Value} {s : Shared}
    {Q E : Value → Shared → Prop} {e t : Addr} {msg : PySem.Str} {tm : Tok}
    (B : Below A₀ base outer h₀) (F : Fr h₀ L s.heap m) (X : (hd.heap_39 w.params).In h₀) (T : Top p loose mean mg mb h₀) (hk : cs.kind = .function) (N : News h₀ L s.heap [(e, excO none t), (t, tupO (.str msg tm))]) (ne : @Ne Nat e t) (hdp : dp + 3 < recursionLimit) (hu : un + 50 < cLine)
    (ret : ∀ d' t' h' tk', Fr h₀ L h' m → Kp [e] s.heap h' → h'.get? e = some (excO (some d') t') → h'.get? t' = some (tupO (.str msg tm)) → s.heap.get? t' = none → Q .none { s with heap := h', toks := tk' }) :
    wpAny (model PG w) (ktrTop dp un gd cn cs L a ccd cl outer) (call (.ref 28) [.ref e, .str msg tm]) Q E s := by
  w_top off; (have kf : (hd.heap_39 w.params).In h₀ → PySem.Challenge.rw_nu0047_01 = PySem.Challenge.rw_nu0047_01 := by (k_fill; exact fun _ => rfl)); clear kf
  refine wpAny_call ?_
  k_dflt (refine' enter ?k1 ?k2 ?k3 ?k4 ?k5 ?kA ?kF ?kK ?k6 ?k7 ?k8 ?k9 ?kB ?_ ?c2 ?c3 ?c4 ?c5; (case kA => exact rfl); (case kF => exact rfl); (case kK => assumption); (case k1 => k_asm); (case k2 => k_asm); (case k3 => k_asm); (case k4 => k_asm); (case k5 => k_asm); (case k6 => k_is); (case k7 => k_is); (case k8 => ktr_room); (case k9 => exact BindsTo.of_eq rfl); (case c5 => decide); (case kB => exact locs rfl); (case c2 => exact rfl); (case c3 => exact rfl); (case c4 => exact rfl); k_whole; intro g' L' h' kp' hL' FG' F' N' B' X' T'; (try dsimp only); (try k_fold))
  k_steps
  try dsimp only
  rename (_ < _ ∧ _ < _) => lt1
  rename Fr g' L' _ _ => FZ; rename News g' L' _ _ => NZ; rename Fr h₀ L _ _ => FY
  have kz := Kp.of_news (W := [e]) kp' FZ N NZ (by intro p hp; simp only [List.mem_cons, List.not_mem_nil, or_false] at hp; rcases hp with rfl | rfl; all_goals first | exact .inl (List.Mem.head _) | exact .inr (by k_memK))
  refine ret _ _ _ _ FY kz (News.get NZ (by k_memK)) (News.get NZ (List.Mem.head _)) (kp'.fresh (News.fresh NZ (List.Mem.head _)) fun hb => ?_)
  simp only [List.map_cons, List.map_nil, List.mem_cons, List.not_mem_nil, or_false] at hb
  rcases hb with rfl | rfl
  · exact Nat.lt_irrefl _ lt1.1
  · exact Nat.lt_irrefl _ lt1.2
theorem sheet_spec {w : World} {p : Program} {loose : List PySem.Str} {mean : ExcName → Option Value} {mg mb : PySem.Str → Option Value} {dp un : Nat} {gd : Option (List Code)} {cn : PySem.Str} {cs : Scope} {a : Addr} {ccd : Value} {cl : List (PySem.Str × Addr)} {outer : List Env} {A₀ : Around} {base h₀ : Heap} {L : Addr} {m : PySem.Str → Option Value} {s : Shared}
    {Q E : Value → Shared → Prop} {msg : PySem.Str} {tm : Tok}
    (B : Below A₀ base outer h₀) (F : Fr h₀ L s.heap m) (X : (hd.heap_39 w.params).In h₀) (T : Top p loose mean mg mb h₀) (hk : cs.kind = .function) (hdp : dp + 4 < recursionLimit) (hu : un + 51 < cLine)
    (ret : ∀ e d' t' h' tk', Fr h₀ L h' m → Kp [] s.heap h' → s.heap.get? e = none → h'.get? e = some (excO (some d') t') → h'.get? t' = some (tupO (.str msg tm)) → s.heap.get? t' = none → Q (.ref e) { s with heap := h', toks := tk' }) :
    wpAny (model PG w) (ktrTop dp un gd cn cs L a ccd cl outer) (call (.ref 44) [.str msg tm]) Q E s := by
  have Xh := X.keeps F.keep
  obtain ⟨nm, q, bs, hdct, sn, sub, ab, col, dd, k0, k1, k2, k3, k5, hC⟩ := cls44 Xh
  obtain ⟨hh, g, d, tk, os⟩ := s
  dsimp only at Xh hC ret F
  refine exc_call (K := hd.heap_39 w.params) (C := 44) (fI := 28) Xh (by decide) (by decide) (by decide) hC (by rfl) (by rfl) (fun h1 e hm => ?_)
  obtain ⟨t, he, ht0, ht⟩ := hm.there
  have F₁ : Fr h₀ L h1 m := F.keeps hm.keeps
  have up0 : ∀ b, hh.get? b = none → h₀.get? b = none := fun b hb => by
    cases q : h₀.get? b with
    | none => rfl
    | some o => have := F.keep b o q; rw [hb] at this; cases this
  have nL : ∀ b, hh.get? b = none → b ≠ L := fun b hb e => by
    obtain ⟨o, _, _, ho, _⟩ := F.ns
    rw [e, ho] at hb; cases hb
  have ne : e ≠ t := fun q => by rw [q, ht] at he; cases he
  have N₁ : News h₀ L h1 [(e, excO none t), (t, tupO (.str msg tm))] := fun p hp => by
    simp only [List.mem_cons, List.not_mem_nil, or_false] at hp
    rcases hp with rfl | rfl
    · exact ⟨he, nL _ hm.new, up0 _ hm.new⟩
    · exact ⟨ht, nL _ ht0, up0 _ ht0⟩
  refine init_spec (dp := dp + 1) (un := un + 1) B F₁ X T hk N₁ (neN ne) (by omega) (by omega) ?_
  intro d' t' h' tk' F' kp' h1' h2' h3'
  have new' : ∀ b, h1.get? b = none → hh.get? b = none := fun b hb => by
    cases q : hh.get? b with
    | none => rfl
    | some o => have := hm.keeps b o q; rw [hb] at this; cases this
  exact ⟨rfl, ret e d' t' h' tk' F' (fun b o _ hb => kp' b o (fun q => by rw [List.mem_singleton.mp q, hm.new] at hb; cases hb) (hm.keeps b o hb)) hm.new h1' h2' (new' _ h3')⟩
end
end
section
theorem Raise44 {w : World} {A : Around} {E : Value → Shared → Prop} {s : Shared} {h₀ : Heap} {env : Env} {e₀ : PySem.Expr} {pos : Pos} {Q : Flow → Shared → Prop} (X : (hd.heap_39 w.params).In h₀) (hh : A.handled = none)
    (h : wpAny (model PG w) A (eval e₀ env) (fun v s₁ => ∃ e t od, v = .ref e ∧ (∀ b o, h₀.get? b = some o → s₁.heap.get? b = some o) ∧ s₁.heap.get? e = some (excO od t) ∧ E (.ref e) s₁) E s) :
    wpAny (model PG w) A (exec (.Raise (some e₀) none pos) env) Q E s := by
  obtain ⟨nm, q, bs, hdct, sn, sub, ab, col, dd, k0, k1, k2, k3, k5, hC⟩ := cls44 X
  show wpAny (model PG w) A (do standAt pos; raiseStmt env (some (do let v ← eval e₀ env; standAt pos; pure v)) none) Q E s
  refine wpAny_bind (wpAny_standAt (exc_raise (C := 44) (nm := nm) (q := q) (N := 43) (bs := bs) (bm := [.ref 31, .type "Exception", .type "BaseException", .type "object"]) (hdct := hdct) (sn := sn) (sub := sub) (ab := ab) (col := col) (dd := dd) (k0 := k0) (k1 := k1) (k2 := k2) (k3 := k3) (k5 := k5) (by decide) hh ?_))
  refine wpAny_bind (wpAny_mono h (fun v s₁ h₁ => wpAny_bind (wpAny_standAt (wpAny_pure ?_))) fun _ _ x => x)
  obtain ⟨e, t, od, rfl, k, he, hE⟩ := h₁
  exact ⟨e, t, od, rfl, k _ _ hC, he, hE⟩
theorem leave44 {M : Model} {A : Around} {E : Value → Shared → Prop} {s' : Shared} {base g h : Heap} {outer : List Env} {L a e t : Addr} {od : Option Addr} {m : PySem.Str → Option Value} {name : PySem.Str} {scope : Scope} {cd v : Value} {Q : Unit → Shared → Prop}
    (K : Below A base outer g) (F : Fr g L h m) (hk' : ∀ b o, h.get? b = some o → s'.heap.get? b = some o) (hen : h.get? e = none) (htn : h.get? t = none) (he : s'.heap.get? e = some (excO od t)) (ht : s'.heap.get? t = some (tupO v))
    (hQ : ∀ h', RaisedS base g outer e (.ref 44) t [v] [] h' → g.UpToSlots h' → Q () { s' with heap := h' }) (hk : scope.kind = .function := by rfl) :
    wpAny M (A.deeper (envOf name scope L a cd)) (leaving (envOf name scope L a cd) (.ref e)) Q E s' := by
  have K' := K.push (name := name) (a := a) (cd := cd) F hk
  have hin : ∀ env ∈ (envOf name scope L a cd :: outer), ∀ b, env.frame = some b → b ∈ (envOf name scope L a cd :: outer).filterMap (·.frame) := fun env he b hb => List.mem_filterMap.mpr ⟨env, he, hb⟩
  have fresh : ∀ b, h.get? b = none → ∀ l, (hideAll h l).get? b = none := fun b hb l => by
    cases q : (hideAll h l).get? b with
    | none => rfl
    | some o => have := of_hideAll _ q; rw [hb] at this; cases this
  have st : base.StaysIn (hideAll h ((envOf name scope L a cd :: outer).filterMap (·.frame))) := fun b o q => hideAll_get _ (K'.stays b o q) fun hm => by
    rw [(K'.frames.mem hm).1] at q; cases q
  have sg : ∀ b o, g.get? b = some o → b ∉ outer.filterMap (·.frame) → (hideAll h ((envOf name scope L a cd :: outer).filterMap (·.frame))).get? b = some o := fun b o q nm => hideAll_get _ (F.keep b o q) fun hm => by
    rcases kts_mem hm with z | z
    · rw [z, kts_self F] at q
      cases q
    · exact nm z
  refine wpAny_leaving_firstW (a0 := .ref t) (vs := #[.ref t, .none, .none, .none, .bool false, .none]) K'.stack ((funFrames_hide K'.frames hin).of_keeps fun b o hb _ => ⟨o, hk' b o hb, rfl⟩) rfl he (fun b o hb => hk' b o (of_hideAll _ hb)) (fresh _ hen _) rfl rfl rfl fun h' hL => ?_
  obtain ⟨k1, ⟨_, _, k2⟩, k3, k4⟩ := hL
  exact hQ h' ⟨⟨_, st, sg, (fun q hq => nomatch hq), ⟨k1, fresh _ hen _, k2, k3⟩, fresh _ htn _⟩, Heap.TupAt.of_slots ⟨_, _, ht, rfl, rfl⟩ k4⟩ (((Heap.UpToSlots.of_keeps F.keep).trans (Heap.UpToSlots.of_keeps hk')).trans k4)
section
theorem keyText {name : PySem.Str} (h : name.length ≤ 100) : (PySem.Str.ofString "there is no key ").length + name.length ≤ sizeLine := by
  have e : (PySem.Str.ofString "there is no key ").length = 16 := by decide +kernel
  rw [sizeLine_eq, e]; omega
local macro_rules | `(tactic| walk_at "binaryOp Add str str") => `(tactic| (k_here; (with_reducible refine PyProof.Rows.add_str ?_ (keyText (by assumption))); intro _ _))
theorem find_raise {w : World} {p : Program} {loose : List PySem.Str} {mean : ExcName → Option Value} {mg mb : PySem.Str → Option Value} {dp un : Nat} {gd : Option (List Code)} {cn : PySem.Str} {cs : Scope} {a : Addr} {ccd : Value} {cl : List (PySem.Str × Addr)} {outer : List Env} {A₀ : Around} {base h₀ : Heap} {L : Addr} {m : PySem.Str → Option Value} {s : Shared}
    {Q E : Value → Shared → Prop} {x dx nd : Addr} {tkx tn tv : Tok} {nn : Nat} {kvs : List (PySem.Str × Value)} {name value : PySem.Str}
    (B : Below A₀ base outer h₀) (F : Fr h₀ L s.heap m) (X : (hd.heap_39 w.params).In h₀) (T : Top p loose mean mg mb h₀) (hk : cs.kind = .function) (gx : s.heap.get? x = some (instObj 91 dx)) (gdx : s.heap.get? dx = some (ixDict w tkx nd nn)) (gnd : s.heap.DictOf (strKind PG w) nd kvs) (lo : (nd == sysModules) = false)
    (hv1 : valueAt kvs name = none) (hnl : name.length ≤ 100) (hdp : dp + 6 < recursionLimit) (hu : un + 100 < cLine)
    (ret : ∀ G e t v h' tk', Kp [] s.heap G → Fr h₀ L G m → RaisedS base G (envX cn cs L a ccd cl :: outer) e (.ref 44) t [v] [] h' → G.UpToSlots h' → E (.ref e) { s with heap := h', toks := tk' }) :
    wpAny (model PG w) (ktrTop dp un gd cn cs L a ccd cl outer) (call (.ref 81) [.ref x, .str name tn, .str value tv]) Q E s := by
  w_top off; (have kf : (hd.heap_39 w.params).In h₀ → PySem.Challenge.rw_nu0047_01 = PySem.Challenge.rw_nu0047_01 := by (k_fill; exact fun _ => rfl)); clear kf
  have N : News h₀ L s.heap [] := News.nil
  refine wpAny_call ?_
  k_dflt (refine' enter ?k1 ?k2 ?k3 ?k4 ?k5 ?kA ?kF ?kK ?k6 ?k7 ?k8 ?k9 ?kB ?_ ?c2 ?c3 ?c4 ?c5; (case kA => exact rfl); (case kF => exact rfl); (case kK => assumption); (case k1 => k_asm); (case k2 => k_asm); (case k3 => k_asm); (case k4 => k_asm); (case k5 => k_asm); (case k6 => k_is); (case k7 => k_is); (case k8 => ktr_room); (case k9 => exact BindsTo.of_eq rfl); (case c5 => decide); (case kB => exact locs rfl); (case c2 => exact rfl); (case c3 => exact rfl); (case c4 => exact rfl); k_whole; intro g' L' h' kp' hL' FG' F' N' B' X' T'; (try dsimp only); (try k_fold))
  have gx' := kp'.all _ _ gx
  have gdx' := kp'.all _ _ gdx
  have gnd' := dictOf_keep gnd kp'.all
  repeat' ((fail_if_success (with_reducible show wpAny _ _ (exec (Stmt.Raise _ _ _) _) _ _ _)); (fail_if_success (with_reducible show wpAny _ _ (call (Value.ref 44) _) _ _ _)); (fail_if_success (with_reducible show wpAny _ _ (call (Value.ref 81) _) _ _ _)); (fail_if_success (with_reducible show wpAny _ _ (noteFrame _ _) _ _ _)); (fail_if_success (with_reducible show wpAny _ _ (leaving _ _) _ _ _)); (first | (k_unfold; (try dsimp only)) | (k_end; wrow_close) | walk1 | (dsimp only; walk1) | (leave1; try dsimp only) | fail "no step"))
  rename Fr g' L' _ _ => F₂
  k_dflt (refine Raise44 X' (by rfl) ?_)
  repeat' ((fail_if_success (with_reducible show wpAny _ _ (exec (Stmt.Raise _ _ _) _) _ _ _)); (fail_if_success (with_reducible show wpAny _ _ (call (Value.ref 44) _) _ _ _)); (fail_if_success (with_reducible show wpAny _ _ (call (Value.ref 81) _) _ _ _)); (fail_if_success (with_reducible show wpAny _ _ (noteFrame _ _) _ _ _)); (fail_if_success (with_reducible show wpAny _ _ (leaving _ _) _ _ _)); (first | (k_unfold; (try dsimp only)) | (k_end; wrow_close) | walk1 | (dsimp only; walk1) | (leave1; try dsimp only) | fail "no step"))
  rename Fr g' L' _ _ => F₃
  k_dflt (refine' sheet_spec B' F₃ X' T' rfl ?hdp ?hu ?_; (case hdp => ktr_room); (case hu => ktr_units))
  intro e d' t' h4 tk4 F₄ k4 hne he ht htn
  refine ⟨e, t', some d', rfl, F₄.keep, he, ?_⟩
  refine leave44 B' F₃ k4.all hne htn he ht ?_
  intro h5 R5 hsm
  exact ret g' e t' _ h5 _ kp' FG' R5 hsm
end
section
variable {prog : Program} {w : World} {A A₀ : Around} {s : Shared} {K : Frag} {L a : Addr} {h₀ base : Heap} {m mg mb : PySem.Str → Option Value} {p : Program} {loose : List PySem.Str} {mean : ExcName → Option Value} {cn : PySem.Str} {cs : Scope} {ccd : Value} {cl : List (PySem.Str × Addr)}
structure EndS (g h₀ : Heap) (L : Addr) (m : PySem.Str → Option Value) (hs : Heap) (R : Result → Shared → Prop) (v : Value) (s' : Shared) : Prop where
  out : ∃ g' L' m', KtsTurn [L] g g' ∧ Fr g' L' s'.heap m' ∧ (Fr h₀ L s'.heap m → Kp [L] hs s'.heap → R (.ok (.ret v)) s')
/-- a def is entered that catches: the caller is the only frame -/
theorem enterS {R : Result → Shared → Prop} {name qual : PySem.Str} {params : Arguments} {body : List Stmt} {scope : Scope} {dV kV doc pm cdv ct oc : Value} {an od : Option Addr} {osl : Array (Option Value)} {f : Addr} {args : Args} {binds : List (PySem.Str × Value)}
    (B : Below A₀ base [] h₀) (F : Fr h₀ L s.heap m) (X₀ : K.In h₀) (T : Top p loose mean mg mb h₀) (hA : A.frames = some [envX cn cs L a ccd cl]) (hke : cs.kind = .function)
    (ho : K.lookup f = some ⟨oc, od, .func (fnOf name qual params body scope dV kV doc pm an cdv ct), osl⟩) (hcd : codeIn K cdv qual = true) (hroom : A.depth < recursionLimit)
    (hbind : BindsTo s (fnOf name qual params body scope dV kV doc pm an cdv ct) args binds) (hloc : ∀ y ∈ binds, scope.names.lookup y.1 = some .local)
    (h : ∀ g L' h₁, Kp [] s.heap g → Fr h₀ L g m → Fr g L' h₁ (fun y => binds.reverse.lookup y) → News g L' h₁ [] → Below A base [envX cn cs L a ccd cl] g → K.In g → Top p loose mean mg mb g → KtsDicts [L] g →
      wpAny (model prog w) (A.deeper (envOf qual scope L' f cdv)) (execs body (envOf qual scope L' f cdv))
        (fun fl s' => EndS g h₀ L m s.heap R (match fl with | .ret v => v | _ => .none) s')
        (fun e s' => wpAny (model prog w) (A.deeper (envOf qual scope L' f cdv)) (leaving (envOf qual scope L' f cdv) e) (fun _ s'' => R (.error e) s'') (fun e' s'' => R (.error e') s'') s')
        { s with heap := h₁, toks := s.toks + binds.length })
    (hco : scope.isCoroutine = false) (hgen : scope.isGenerator = false) (hk : scope.kind = .function)
    (hcell : ∀ x ∈ scope.names, x.2 ≠ .cell) : codeAny (model prog w) A (.call (.ref f) args) R s := by
  obtain ⟨FG, BG, st, lv⟩ := groundX (R := R) B F (News.nil (h₀ := h₀) (L := L) (h := s.heap)) hA rfl hke
  obtain ⟨oL, es, ep, hLg, hLd, hLk, hLf⟩ := FG.ns
  refine codeAny_call_def (fd := fnX name qual params body scope [] dV kV doc pm an cdv ct) (body := body) (binds := binds) hroom ((X₀.keeps F.keep) _ _ ho) rfl (T.nolimit.keeps F.keep) (codeRec_of (X₀.keeps F.keep) hcd) rfl hbind hcell hloc (fun h₁ hns hk₁ => ?_) hco hgen hk
  refine wpAny_mono (h _ s.heap.objs.size h₁ (fun b o n e => hideAll_get _ e n) FG ⟨hns, fun b o e => hk₁ b o (of_hideAll _ e), Nat.le_of_eq (hideAll_size _ _)⟩
    News.nil BG (X₀.keeps st) (T.keeps st) (fun b hb => by rw [List.mem_singleton.mp hb]; exact ⟨oL, es, ep, hLg, hLd⟩)) (fun fl s' hl => ?_) fun _ _ y => y
  obtain ⟨g', L', m', T', F', k⟩ := hl.out
  obtain ⟨sl, hs⟩ := T'.up hLg
  have nL₀ : h₀.get? L = none := kts_self F
  have kp : Kp [L] s.heap s'.heap := fun b o nb e => F'.keep b o (T'.other b o (hideAll_get _ e (fun hm => nomatch hm)) nb)
  exact k ⟨⟨_, es, ep, F'.keep _ _ hs, hLd, hLk, hLf⟩, fun b o e => kp b o (fun q => by rw [List.mem_singleton.mp q, nL₀] at e; cases e) (F.keep b o e), F.above⟩ kp
end
section
theorem refused_no {w : World} {p : Program} {loose : List PySem.Str} {mean : ExcName → Option Value} {mg mb : PySem.Str → Option Value} {dp un : Nat} {gd : Option (List Code)} {cn : PySem.Str} {cs : Scope} {a : Addr} {ccd : Value} {cl : List (PySem.Str × Addr)} {outer : List Env} {A₀ : Around} {base h₀ : Heap} {L : Addr} {m : PySem.Str → Option Value} {s : Shared}
    {Q E : Value → Shared → Prop} {x dx nd d : Addr} {tkx tn : Tok} {nn : Nat} {kvs : List (PySem.Str × Value)} {es : List TE} {name : PySem.Str}
    (B : Below A₀ base outer h₀) (F : Fr h₀ L s.heap m) (X : (hd.heap_39 w.params).In h₀) (T : Top p loose mean mg mb h₀) (hk : cs.kind = .function) (gx : s.heap.get? x = some (instObj 91 dx)) (gdx : s.heap.get? dx = some (ixDict w tkx nd nn)) (gnd : s.heap.DictOf (strKind PG w) nd kvs) (lo : (nd == sysModules) = false) (gt : TxAt w s.heap d es)
    (hv1 : valueAt kvs name = some (.ref d)) (hz : (getT es (PySem.Str.ofString "a")).length ≤ 100) (hdp : dp + 10 < recursionLimit) (hu : un + 200 < cLine)
    (ret : ∀ h' tk', Fr h₀ L h' m → Kp [] s.heap h' → Q (.bool false) { s with heap := h', toks := tk' }) :
    wpAny (model PG w) (ktrTop dp un gd cn cs L a ccd cl outer) (call (.ref 142) [.ref x, .str name tn]) Q E s := by
  w_top off; (have kf : (hd.heap_39 w.params).In h₀ → PySem.Challenge.rw_nu0047_01 = PySem.Challenge.rw_nu0047_01 := by (k_fill; exact fun _ => rfl)); clear kf
  have N : News h₀ L s.heap [] := News.nil
  refine wpAny_call ?_
  k_dflt (refine' enter ?k1 ?k2 ?k3 ?k4 ?k5 ?kA ?kF ?kK ?k6 ?k7 ?k8 ?k9 ?kB ?_ ?c2 ?c3 ?c4 ?c5; (case kA => exact rfl); (case kF => exact rfl); (case kK => assumption); (case k1 => k_asm); (case k2 => k_asm); (case k3 => k_asm); (case k4 => k_asm); (case k5 => k_asm); (case k6 => k_is); (case k7 => k_is); (case k8 => ktr_room); (case k9 => exact BindsTo.of_eq rfl); (case c5 => decide); (case kB => exact locs rfl); (case c2 => exact rfl); (case c3 => exact rfl); (case c4 => exact rfl); k_whole; intro g' L' h' kp' hL' FG' F' N' B' X' T'; (try dsimp only); (try k_fold))
  have gx' := kp'.all _ _ gx
  have gdx' := kp'.all _ _ gdx
  have gnd' := dictOf_keep gnd kp'.all
  have gt' := gt.keep kp'.all
  repeat' ((fail_if_success (with_reducible show wpAny _ _ (exec (Stmt.Raise _ _ _) _) _ _ _)); (fail_if_success (with_reducible show wpAny _ _ (call (Value.ref 44) _) _ _ _)); (fail_if_success (with_reducible show wpAny _ _ (call (Value.ref 81) _) _ _ _)); (fail_if_success (with_reducible show wpAny _ _ (noteFrame _ _) _ _ _)); (fail_if_success (with_reducible show wpAny _ _ (leaving _ _) _ _ _)); (first | (k_unfold; (try dsimp only)) | (k_end; wrow_close) | walk1 | (dsimp only; walk1) | (leave1; try dsimp only) | fail "no step"))
  rename Fr g' L' _ _ => F₂
  rename News g' L' _ _ => N₂
  k_dflt (refine' find_walk B' F₂ X' T' rfl N₂ gx' gdx' gnd' lo gt' hv1 hz ?hdp ?hu ?_; (case hdp => ktr_room); (case hu => ktr_units))
  intro r n vs h3 tk3 F₃ N₃ hne hi k3
  repeat' ((fail_if_success (with_reducible show wpAny _ _ (exec (Stmt.Raise _ _ _) _) _ _ _)); (fail_if_success (with_reducible show wpAny _ _ (call (Value.ref 44) _) _ _ _)); (fail_if_success (with_reducible show wpAny _ _ (call (Value.ref 81) _) _ _ _)); (fail_if_success (with_reducible show wpAny _ _ (noteFrame _ _) _ _ _)); (fail_if_success (with_reducible show wpAny _ _ (leaving _ _) _ _ _)); (first | (k_unfold; (try dsimp only)) | (k_end; wrow_close) | walk1 | (dsimp only; walk1) | (leave1; try dsimp only) | fail "no step"))
  exact ret _ _ (by assumption) (fun b o nb e => F₃.keep b o (kp' b o nb e))
theorem refused_yes {w : World} {p : Program} {loose : List PySem.Str} {mean : ExcName → Option Value} {mg mb : PySem.Str → Option Value} {dp un : Nat} {gd : Option (List Code)} {cn : PySem.Str} {cs : Scope} {a : Addr} {ccd : Value} {cl : List (PySem.Str × Addr)} {A₀ : Around} {base h₀ : Heap} {L : Addr} {m : PySem.Str → Option Value} {s : Shared}
    {Q E : Value → Shared → Prop} {x dx nd : Addr} {tkx tn : Tok} {nn : Nat} {kvs : List (PySem.Str × Value)} {name : PySem.Str}
    (B : Below A₀ base [] h₀) (F : Fr h₀ L s.heap m) (X : (hd.heap_39 w.params).In h₀) (T : Top p loose mean mg mb h₀) (hk : cs.kind = .function) (XB : (hd.heap_39 w.params).In base) (TB : Top p loose mean mg mb base)
    (gx : s.heap.get? x = some (instObj 91 dx)) (gdx : s.heap.get? dx = some (ixDict w tkx nd nn)) (gnd : s.heap.DictOf (strKind PG w) nd kvs) (lo : (nd == sysModules) = false)
    (hv1 : valueAt kvs name = none) (hnl : name.length ≤ 100) (hdp : dp + 10 < recursionLimit) (hu : un + 200 < cLine)
    (ret : ∀ h' tk', Fr h₀ L h' m → Kp [L] s.heap h' → Q (.bool true) { s with heap := h', toks := tk' }) :
    wpAny (model PG w) (ktrTop dp un gd cn cs L a ccd cl []) (call (.ref 142) [.ref x, .str name tn]) Q E s := by
  w_top off; (have kf : (hd.heap_39 w.params).In h₀ → PySem.Challenge.rw_nu0047_01 = PySem.Challenge.rw_nu0047_01 := by (k_fill; exact fun _ => rfl)); clear kf
  refine wpAny_call ?_
  k_dflt (refine' enterS ?k1 ?k2 ?k3 ?k5 ?kA ?kK ?k6 ?k7 ?k8 ?k9 ?kB ?_ ?c2 ?c3 ?c4 ?c5; (case kA => exact rfl); (case kK => assumption); (case k1 => k_asm); (case k2 => k_asm); (case k3 => k_asm); (case k5 => k_asm); (case k6 => k_is); (case k7 => k_is); (case k8 => ktr_room); (case k9 => exact BindsTo.of_eq rfl); (case c5 => decide); (case kB => exact locs rfl); (case c2 => exact rfl); (case c3 => exact rfl); (case c4 => exact rfl); k_whole; intro g' L' h' kp' FG' F' N' B' X' T' D'; (try dsimp only); (try k_fold))
  have gx' := kp'.all _ _ gx
  have gdx' := kp'.all _ _ gdx
  have gnd' := dictOf_keep gnd kp'.all
  repeat' ((fail_if_success (with_reducible show wpAny _ _ (exec (Stmt.Raise _ _ _) _) _ _ _)); (fail_if_success (with_reducible show wpAny _ _ (call (Value.ref 44) _) _ _ _)); (fail_if_success (with_reducible show wpAny _ _ (call (Value.ref 81) _) _ _ _)); (fail_if_success (with_reducible show wpAny _ _ (noteFrame _ _) _ _ _)); (fail_if_success (with_reducible show wpAny _ _ (leaving _ _) _ _ _)); (first | (k_unfold; (try dsimp only)) | (k_end; wrow_close) | walk1 | (dsimp only; walk1) | (leave1; try dsimp only) | fail "no step"))
  rename Fr g' L' _ _ => F₂
  k_dflt (refine' find_raise B' F₂ X' T' rfl (F₂.keep _ _ gx') (F₂.keep _ _ gdx') (dictOf_keep gnd' F₂.keep) lo hv1 hnl ?hdp ?hu ?_; (case hdp => ktr_room); (case hu => ktr_units))
  intro G e t v h3 tk3 kG F₃ R₃ hsm
  refine caught_SO0 (C := 44) (KF := hd.heap_39 w.params) R₃ F₃ B' hsm XB TB D' KtsTurn.refl (by rfl) (by rfl) ?_
  intro h4 g4 news4 T4 F4 N4 Got4 Nl4 B4 X4 TT4 D4
  repeat' ((fail_if_success (with_reducible show wpAny _ _ (exec (Stmt.Raise _ _ _) _) _ _ _)); (fail_if_success (with_reducible show wpAny _ _ (call (Value.ref 44) _) _ _ _)); (fail_if_success (with_reducible show wpAny _ _ (call (Value.ref 81) _) _ _ _)); (fail_if_success (with_reducible show wpAny _ _ (noteFrame _ _) _ _ _)); (fail_if_success (with_reducible show wpAny _ _ (leaving _ _) _ _ _)); (first | (k_unfold; (try dsimp only)) | (k_end; wrow_close) | walk1 | (dsimp only; walk1) | (leave1; try dsimp only) | fail "no step"))
  exact ⟨g4, L', _, T4, F4, fun FY kp => ret _ _ FY kp⟩
end
end
section
local macro_rules | `(tactic| walk_at "call ref") => `(tactic| (k_here; (with_reducible show wpAny _ _ (call (Value.ref 123) [Value.ref _, Value.int _ _]) _ _ _); k_dflt (refine' take_walk ?B ?F ?X ?T ?hk ?N ?U ?hx ?hy ?hyy ?ht ?ht2 ?hdp ?hu ?_; (case B => k_asm); (case F => k_asm); (case X => k_asm); (case T => k_asm); (case hk => first | assumption | exact rfl); (case N => k_asm); (case U => k_updF); (case hx => assumption); (case hy => assumption); (case hyy => assumption); (case ht => first | decide | omega); (case ht2 => first | decide | omega); (case hdp => ktr_room); (case hu => ktr_units); intro d' td' x' y' tx' ty' n' h' tk' hd0' hd1' hx' hy' hyy' F' N' kp'; (try dsimp only at N'); (try k_sweep))))
section
abbrev kvR (rs : List RowE) : List (Int × Value) := rs.map fun e => (e.k, Value.ref e.a)
/-- rows as they stand in the heap -/
structure RowsAt (w : World) (h : Heap) (r : Addr) (rs : List RowE) : Prop where
  dict : h.DictOf (intKind PG w) r (kvR rs)
  rows : ∀ e ∈ rs, IsTup h e.a #[.bool e.b, .ref e.l] ∧ h.IsList e.l e.vs.toArray ∧ StrsAre e.vs e.ts
  lo : (r == sysModules) = false
theorem RowsAt.keep {w : World} {h h' : Heap} {r : Addr} {rs : List RowE} (x : RowsAt w h r rs) (k : ∀ b o, h.get? b = some o → h'.get? b = some o) : RowsAt w h' r rs :=
  ⟨dictOf_keep x.dict k, fun e he => ⟨stays_tup k (x.rows e he).1, stays_list k (x.rows e he).2.1, (x.rows e he).2.2⟩, x.lo⟩
theorem dictOf_kp {K : Type} [DecidableEq K] {prog : Program} {w : World} {knd : KeyKind prog w K} {h h' : Heap} {d : Addr} {kvs : List (K × Value)} {W : List Addr} (hD : h.DictOf knd d kvs) (k : Kp W h h') (n : d ∉ W) : h'.DictOf knd d kvs :=
  let ⟨o, es, ep, ho, r⟩ := hD; ⟨o, es, ep, k _ _ n ho, r⟩
theorem TxAt.kp {w : World} {h h' : Heap} {d : Addr} {es : List TE} {W : List Addr} (x : TxAt w h d es) (k : Kp W h h') (nd : d ∉ W) (nl : ∀ e ∈ es, e.l ∉ W) : TxAt w h' d es :=
  ⟨dictOf_kp x.dict k nd, fun e he => ⟨k _ _ (nl e he) (x.lists e he).1, (x.lists e he).2⟩, x.lo⟩
theorem RowsAt.kp {w : World} {h h' : Heap} {r : Addr} {rs : List RowE} {W : List Addr} (x : RowsAt w h r rs) (k : Kp W h h') (nr : r ∉ W) (na : ∀ e ∈ rs, e.a ∉ W) (nl : ∀ e ∈ rs, e.l ∉ W) : RowsAt w h' r rs :=
  ⟨dictOf_kp x.dict k nr, fun e he => ⟨by obtain ⟨o, ho, q⟩ := (x.rows e he).1; exact ⟨o, k _ _ (na e he) ho, q⟩, by obtain ⟨o, ho, q⟩ := (x.rows e he).2.1; exact ⟨o, k _ _ (nl e he) ho, q⟩, (x.rows e he).2.2⟩, x.lo⟩
theorem dict_cls {K : Type} [DecidableEq K] {prog : Program} {w : World} {knd : KeyKind prog w K} {h : Heap} {d : Addr} {kvs : List (K × Value)} (hD : h.DictOf knd d kvs) : ∃ o, h.get? d = some o ∧ o.cls = .type "dict" := let ⟨o, _, _, ho, hx, _⟩ := hD; ⟨o, ho, hx.1⟩
theorem list_ne {h : Heap} {a b : Addr} {its : Array Value} {n : Nat} {o : Obj} {T : Value} (ha : h.get? a = some (listOf its n)) (hb : h.get? b = some o) (hc : o.cls = T) (n : Value.type "list" ≠ T) : a ≠ b := ne_cls ha hb (fun q => n (by rw [← hc, ← q]))
theorem strs_snoc : ∀ {vs : List Value} {ts : List PySem.Str}, StrsAre vs ts → ∀ t k, StrsAre (vs ++ [.str t k]) (ts ++ [t])
  | _, _, .nil, t, k => .cons _ _ .nil
  | _, _, .cons a b x, t, k => .cons a b (strs_snoc x t k)
theorem pack_ts {P : Prop} {g h : Heap} {L c D : Addr} {o od : Obj} {t : Addr × Obj} {rest : List (Addr × Obj)} (N : News g L h ((D, od) :: t :: (c, o) :: rest)) (e : o.data = .cell (some (.ref D)))
    (k : ∀ o, News g L h ((D, od) :: t :: (c, o) :: rest) → o.data = .cell (some (.ref D)) → P) : P := k o N e
theorem ok_snoc {ts : List PySem.Str} {t : PySem.Str} (h : ∀ t ∈ ts, PyData.strOk t = true) (ht : t ∈ [PySem.Str.ofString "a", PySem.Str.ofString "b", PySem.Str.ofString "", PySem.Str.ofString "q"]) : ∀ u ∈ ts ++ [t], PyData.strOk u = true := by
  intro u hu
  rcases List.mem_append.mp hu with hu | hu
  · exact h u hu
  · rw [List.mem_singleton.mp hu]
    simp only [List.mem_cons, List.not_mem_nil, or_false] at ht
    rcases ht with rfl | rfl | rfl | rfl <;> with_unfolding_all rfl
theorem nat4 {d : Int} (h1 : d < 4) (h0 : 0 ≤ d) : ∃ n : Nat, n < 4 ∧ n < 10 ∧ d = n := ⟨d.toNat, by omega, by omega, by omega⟩
theorem nat10 {d : Int} (h1 : d < 10) (h0 : 0 ≤ d) : ∃ n : Nat, n < 10 ∧ d = n := ⟨d.toNat, by omega, by omega⟩
theorem small10 : ∀ {n : Nat}, n < 10 → Builtin.Range.small 0 (n : Int) 1 = true
  | 0, _ | 1, _ | 2, _ | 3, _ | 4, _ | 5, _ | 6, _ | 7, _ | 8, _ | 9, _ => by decide
theorem size10 : ∀ {n : Nat}, n < 10 → Builtin.Range.rangeSize 0 (n : Int) 1 = ((n : Nat) : Int)
  | 0, _ | 1, _ | 2, _ | 3, _ | 4, _ | 5, _ | 6, _ | 7, _ | 8, _ | 9, _ => by decide
theorem all2 {m : PySem.Str → Option Value} {a b : PySem.Str} {va vb : Value} (h1 : m a = some va) (h2 : m b = some vb) : ∀ p ∈ [(a, va), (b, vb)], m p.1 = some p.2 := by
  intro p hp
  simp only [List.mem_cons, List.not_mem_nil, or_false] at hp
  rcases hp with rfl | rfl <;> assumption
theorem pack_news {P : Prop} {g h : Heap} {L l : Addr} {o : Obj} {rest : List (Addr × Obj)} (N : News g L h ((l, o) :: rest)) (hn : ∀ p ∈ rest, p.1 ≠ l) (k : ∀ l, News g L h ((l, o) :: rest) → (∀ p ∈ rest, p.1 ≠ l) → P) : P := k l N hn
theorem due_yes {rs : List RowE} {i : Nat} {r : RowE} {t : PySem.Str} (h : rs[i]? = some r) (hb : r.b = true) (ha : (r.ts.any fun x => x == t) = true) : due (rs.take (i + 1)) t = due (rs.take i) t ++ [r.k] := by
  rw [due_take h, hb]
  have : t ∈ r.ts := by obtain ⟨x, hx, e⟩ := List.any_eq_true.mp ha; rw [← eq_of_beq e]; exact hx
  simp [this]
theorem due_no {rs : List RowE} {i : Nat} {r : RowE} {t : PySem.Str} (h : rs[i]? = some r) (ha : (r.ts.any fun x => x == t) = false) : due (rs.take (i + 1)) t = due (rs.take i) t := by
  rw [due_take h]
  have : t ∉ r.ts := fun hm => by have := List.any_eq_false.mp ha t hm; simp at this
  simp [this]
theorem ne_same {w : World} {A : Around} {E : Value → Shared → Prop} {s : Shared} {a b : Addr} {xs ys : List Value} {ns : List Int} {Q : Value → Shared → Prop} (ha : s.heap.IsList a xs.toArray) (hb : s.heap.IsList b ys.toArray) (hi : IntsAre xs ns) (hj : IntsAre ys ns) (hu : A.units + 64 < cLine) (h : Q (.bool false) s) :
    wpAny (model PG w) A (compareOp .NotEq (.ref a) (.ref b)) Q E s := ke_ne_ints ha hb hi hj hu (by simpa using h)
theorem eq_same {w : World} {A : Around} {E : Value → Shared → Prop} {s : Shared} {a b : Addr} {xs ys : List Value} {ns : List Int} {Q : Value → Shared → Prop} (ha : s.heap.IsList a xs.toArray) (hb : s.heap.IsList b ys.toArray) (hi : IntsAre xs ns) (hj : IntsAre ys ns) (hu : A.units + 64 < cLine) (h : Q (.bool true) s) :
    wpAny (model PG w) A (compareOp .Eq (.ref a) (.ref b)) Q E s := ke_eq_ints ha hb hi hj hu (by simpa using h)
theorem pack_cells {P : Prop} {g h : Heap} {L c1 c2 c3 c4 : Addr} {o1 o2 o3 o4 : Obj} {v1 v2 v3 v4 : Option Value} {rest : List (Addr × Obj)} (N : News g L h ((c1, o1) :: (c2, o2) :: (c3, o3) :: (c4, o4) :: rest))
    (e1 : o1.data = .cell v1) (e2 : o2.data = .cell v2) (e3 : o3.data = .cell v3) (e4 : o4.data = .cell v4)
    (k : ∀ o1 o2 o3 o4, News g L h ((c1, o1) :: (c2, o2) :: (c3, o3) :: (c4, o4) :: rest) → o1.data = .cell v1 → o2.data = .cell v2 → o3.data = .cell v3 → o4.data = .cell v4 → P) : P := k o1 o2 o3 o4 N e1 e2 e3 e4
section
theorem one_walk {w : World} {p : Program} {loose : List PySem.Str} {mean : ExcName → Option Value} {mg mb : PySem.Str → Option Value} {dp un : Nat} {gd : Option (List Code)} {cn : PySem.Str} {cs : Scope} {a : Addr} {ccd : Value} {cl : List (PySem.Str × Addr)} {outer : List Env} {A₀ : Around} {base h₀ : Heap} {L : Addr} {m : PySem.Str → Option Value} {s : Shared}
    {Q E : Value → Shared → Prop} {news : List (Addr × Obj)} {u : Obj → List (Addr × Obj)} {src th : Addr} {x y : Int} {tx ty : Tok} {n nt : Nat} {t0 t1 t2 t3 : PySem.Str} {k0 k1 k2 k3 : Tok}
    (B : Below A₀ base outer h₀) (F : Fr h₀ L s.heap m) (X : (hd.heap_39 w.params).In h₀) (T : Top p loose mean mg mb h₀) (hk : cs.kind = .function) (N : News h₀ L s.heap news) (U : UpdF src (listOf #[.int x tx, .int y ty] n) news u) (hth : (th, listOf #[.str t0 k0, .str t1 k1, .str t2 k2, .str t3 k3] nt) ∈ news)
    (ne : src ≠ th) (hx : 0 ≤ x) (hy : 0 ≤ y) (hyy : y < 2147483647) (hdp : dp + 3 < recursionLimit) (hu : un + 50 < cLine)
    (ret : ∀ t k x' y' tx' ty' n' h' tk', t ∈ [t0, t1, t2, t3] → 0 ≤ x' → 0 ≤ y' → y' < 2147483647 → Fr h₀ L h' m → News h₀ L h' (u (listOf #[.int x' tx', .int y' ty'] n')) → Kp [src] s.heap h' → Q (.str t k) { s with heap := h', toks := tk' }) :
    wpAny (model PG w) (ktrTop dp un gd cn cs L a ccd cl outer) (call (.ref 130) [.ref src, .ref th]) Q E s :=
  one_spec B F X T hk (sub_news N (by intro p hp; rcases List.mem_cons.mp hp with rfl | hp; · exact updF_mem U
                                      · rw [List.mem_singleton.mp hp]; exact hth)) ne hx hy hyy hdp hu
    fun t k x' y' tx' ty' n' h' tk' a b c e F' kp g => ret t k x' y' tx' ty' n' h' tk' a b c e F' (updF_news U N kp g) kp
theorem right_spec {w : World} {p : Program} {loose : List PySem.Str} {mean : ExcName → Option Value} {mg mb : PySem.Str → Option Value} {dp un : Nat} {gd : Option (List Code)} {cn : PySem.Str} {cs : Scope} {a : Addr} {ccd : Value} {cl : List (PySem.Str × Addr)} {outer : List Env} {A₀ : Around} {base h₀ : Heap} {L : Addr} {m : PySem.Str → Option Value} {s : Shared}
    {Q E : Value → Shared → Prop} {x dx nd d r src : Addr} {tkx tn : Tok} {nn : Nat} {kvs : List (PySem.Str × Value)} {es : List TE} {rs : List RowE} {name : PySem.Str} {sx sy : Int} {tx ty : Tok} {ns : Nat}
    (B : Below A₀ base outer h₀) (F : Fr h₀ L s.heap m) (X : (hd.heap_39 w.params).In h₀) (T : Top p loose mean mg mb h₀) (hk : cs.kind = .function) (N : News h₀ L s.heap [(src, listOf #[.int sx tx, .int sy ty] ns)]) (hsx : 0 ≤ sx) (hsy : 0 ≤ sy) (hsyy : sy < 2147483647)
    (gx : s.heap.get? x = some (instObj 91 dx)) (gdx : s.heap.get? dx = some (ixDict w tkx nd nn)) (gnd : s.heap.DictOf (strKind PG w) nd kvs) (lo : (nd == sysModules) = false) (gt : TxAt w s.heap d es) (gr : RowsAt w s.heap r rs)
    (hv1 : valueAt kvs name = some (.ref d)) (hdue : ∀ t, getT es t = due rs t) (hrs : rs.length ≤ 9) (hrt : ∀ r ∈ rs, r.ts.length ≤ 3) (hnk : rs.Pairwise (fun a b => a.k < b.k)) (off1 : ∀ e ∈ es, src ≠ e.l) (off2 : ∀ e ∈ rs, src ≠ e.l) (hk30 : ∀ r ∈ rs, 0 ≤ r.k ∧ r.k < 30)
    (hdp : dp + 20 < recursionLimit) (hu : un + 400 < cLine)
    (ret : ∀ x' tx' y' ty' n' h' tk', 0 ≤ x' → 0 ≤ y' → y' < 2147483647 → Fr h₀ L h' m → Kp [src] s.heap h' → h'.get? src = some (listOf #[.int x' tx', .int y' ty'] n') → Q (.bool true) { s with heap := h', toks := tk' }) :
    wpAny (model PG w) (ktrTop dp un gd cn cs L a ccd cl outer) (call (.ref 147) [.ref src, .ref x, .str name tn, .ref r]) Q E s := by
  w_top off; (have kf : (hd.heap_39 w.params).In h₀ → PySem.Challenge.rw_nu0047_01 = PySem.Challenge.rw_nu0047_01 := by (k_fill; exact fun _ => rfl)); clear kf
  refine wpAny_call ?_
  k_dflt (refine' enterC ?k1 ?k2 ?k3 ?k4 ?k5 ?kA ?kF ?kK ?k6 ?k7 ?k8 ?k9 ?kB ?kD ?_ ?c2 ?c3 ?c4; (case kA => exact rfl); (case kF => exact rfl); (case kK => assumption); (case k1 => k_asm); (case k2 => k_asm); (case k3 => k_asm); (case k4 => k_asm); (case k5 => k_asm); (case k6 => k_is); (case k7 => k_is); (case k8 => ktr_room); (case k9 => exact BindsTo.of_eq rfl); (case kB => exact rfl); (case kD => decide +kernel); (case c2 => exact rfl); (case c3 => exact rfl); (case c4 => exact rfl); k_whole; intro g' L' h' tk' cells' kp' hL' FG' F' N' Y' B' X' T' l1; (try k_lt l1); k_cells Y'; (try simp only [List.cons_append, List.nil_append] at N'); (try dsimp only); (try k_fold))
  with_reducible rename (Obj.data _ = Data.cell (bindC _ _ _ (PySem.Str.ofString "source"))) => d4
  with_reducible rename (Obj.data _ = Data.cell (bindC _ _ _ (PySem.Str.ofString "rows"))) => d3
  with_reducible rename (Obj.data _ = Data.cell (bindC _ _ _ (PySem.Str.ofString "text"))) => d2
  with_reducible rename (Obj.data _ = Data.cell (bindC _ _ _ (PySem.Str.ofString "texts"))) => d1
  refine pack_cells (v1 := none) (v2 := none) (v3 := some (.ref r)) (v4 := some (.ref src)) N' d1 d2 d3 d4 ?_
  clear N' d1 d2 d3 d4
  intro oTs oT oR oS N' d1 d2 d3 d4
  have offn : ∀ b, src ≠ b → b ∉ List.map (fun q : Addr × Obj => q.1) [(src, listOf #[.int sx tx, .int sy ty] ns)] := fun b hb hm => hb (List.mem_singleton.mp hm).symm
  have kpb : ∀ b o, src ≠ b → s.heap.get? b = some o → g'.get? b = some o := fun b o n e => kp' b o (offn b n) e
  have hsrc := (N _ (List.Mem.head _)).1
  have gx' : g'.get? x = some (instObj 91 dx) := kpb _ _ (list_ne (T := .ref 91) hsrc gx rfl (by decide)) gx
  have gdx' := kpb _ _ (list_ne (T := .type "dict") hsrc gdx rfl (by decide)) gdx
  have gnd' : g'.DictOf (strKind PG w) nd kvs := by obtain ⟨o, e, q⟩ := dict_cls gnd; exact dictOf_kp gnd kp' (offn _ (list_ne hsrc e q (by decide)))
  have gt' : TxAt w g' d es := by obtain ⟨o, e, q⟩ := dict_cls gt.dict; exact gt.kp kp' (offn _ (list_ne hsrc e q (by decide))) (fun e he => offn _ (off1 e he))
  have gr' : RowsAt w g' r rs := by
    obtain ⟨o, e, q⟩ := dict_cls gr.dict
    exact gr.kp kp' (offn _ (list_ne hsrc e q (by decide))) (fun e he => by obtain ⟨o, ho, hc, _⟩ := (gr.rows e he).1; exact offn _ (list_ne hsrc ho hc (by decide))) (fun e he => offn _ (off2 e he))
  have gR := gr'.dict
  have hkp : (rs.map RowE.k).Pairwise (· < ·) := List.pairwise_map.mpr hnk
  have hkn : ((kvR rs).map (·.1)).Nodup := by rw [List.map_map]; exact hkp.imp (fun h => Int.ne_of_lt h)
  repeat' ((fail_if_success (with_reducible show wpAny _ _ (exec (Stmt.For _ _ _ _ _) _) _ _ _)); (fail_if_success (with_reducible show wpAny _ _ (pyIter (Value.ref _)) _ _ _)); (fail_if_success (with_reducible show wpAny _ _ (call (Value.ref 74) _ _) _ _ _)); (fail_if_success (with_reducible show wpAny _ _ (call (Value.ref 81) _ _) _ _ _)); (fail_if_success (with_reducible show wpAny _ _ (call (Value.ref 102) _ _) _ _ _)); (fail_if_success (with_reducible show wpAny _ _ (call (Value.ref 109) _ _) _ _ _)); (fail_if_success (with_reducible show wpAny _ _ (call (Value.ref 116) _ _) _ _ _)); (fail_if_success (with_reducible show wpAny _ _ (call (Value.ref 130) _ _) _ _ _)); (fail_if_success (with_reducible show wpAny _ _ (call (Value.ref 135) _ _) _ _ _)); (fail_if_success (with_reducible show wpAny _ _ (call (Value.ref 142) _ _) _ _ _)); (fail_if_success (with_reducible show wpAny _ _ (call (Value.ref 147) _ _) _ _ _)); (first | (k_unfold; (try dsimp only)) | (k_end; wrow_close) | walk1 | (dsimp only; walk1) | (leave1; try dsimp only) | fail "no step"))
  rename Fr g' L' _ _ => FZ
  try k_fold
  k_dflt (refine For_cellL (h₀ := g') ?_)
  repeat' ((fail_if_success (with_reducible show wpAny _ _ (pyIter (Value.ref _)) _ _ _)); (fail_if_success (with_reducible show wpAny _ _ (call (Value.ref 74) _ _) _ _ _)); (fail_if_success (with_reducible show wpAny _ _ (call (Value.ref 81) _ _) _ _ _)); (fail_if_success (with_reducible show wpAny _ _ (call (Value.ref 102) _ _) _ _ _)); (fail_if_success (with_reducible show wpAny _ _ (call (Value.ref 109) _ _) _ _ _)); (fail_if_success (with_reducible show wpAny _ _ (call (Value.ref 116) _ _) _ _ _)); (fail_if_success (with_reducible show wpAny _ _ (call (Value.ref 130) _ _) _ _ _)); (fail_if_success (with_reducible show wpAny _ _ (call (Value.ref 135) _ _) _ _ _)); (fail_if_success (with_reducible show wpAny _ _ (call (Value.ref 142) _ _) _ _ _)); (fail_if_success (with_reducible show wpAny _ _ (call (Value.ref 147) _ _) _ _ _)); (first | (k_unfold; (try dsimp only)) | (k_end; wrow_close) | walk1 | (dsimp only; walk1) | (leave1; try dsimp only) | fail "no step"))
  rename Fr g' L' _ _ => FZ
  rename News g' L' _ _ => NZ
  have hcl : src < L' := by assumption
  rename (_ < _ ∧ _ < _ ∧ _ < _ ∧ _ < _ ∧ _ < _) => lz
  refine cell_list (c := L' + 1 + 1 + 1) (news := [(L' + 1 + 1 + 1 + 1, oTs), (L' + 1 + 1, oR), (L' + 1, oS), (src, listOf #[.int sx tx, .int sy ty] ns)]) (J := fun _ m₁ news₁ => m₁ (PySem.Str.ofString "index") = some (.ref x) ∧ m₁ (PySem.Str.ofString "name") = some (.str name tn) ∧
    news₁ = [(L' + 1 + 1 + 1 + 1, oTs), (L' + 1 + 1, oR), (L' + 1, oS), (src, listOf #[.int sx tx, .int sy ty] ns)]) rfl rfl rfl rfl (isList_of (NZ _ (List.Mem.head _)).1) (NZ _ (List.Mem.head _)).2.1 FZ (sub_news NZ (by intro q hq; simp only [List.mem_cons, List.not_mem_nil, or_false] at hq; rcases hq with rfl | rfl | rfl | rfl | rfl; all_goals k_memK)) d2 ?_ ?_ ⟨rfl, rfl, rfl⟩ ?_ ?_
  · have hcl' : @LT.lt Nat _ src L' := hcl
    intro q hq
    simp only [List.mem_cons, List.not_mem_nil, or_false] at hq
    rcases hq with rfl | rfl | rfl | rfl <;> exact neN (by omega)
  · intro q hq
    simp only [List.mem_cons, List.not_mem_nil, or_false] at hq
    rcases hq with rfl | rfl | rfl | rfl | rfl
    · exact Nat.ne_of_lt lz.2.1
    · exact Nat.ne_of_lt lz.1
    · exact Nat.ne_of_lt lz.2.2.1
    · exact Nat.ne_of_lt lz.2.2.2.1
    · exact Nat.ne_of_lt lz.2.2.2.2
  · --T<
    intro i v m₁ news₁ h tk own oc₁ hv hJ hnc hdis No hdc F₁ N₁
    obtain ⟨hm1, hm2, rfl⟩ := hJ
    obtain ⟨y, ky, rfl⟩ : ∃ y k, v = .str y k := by
      have := List.mem_of_getElem? hv
      simp only [List.mem_cons, List.not_mem_nil, or_false] at this
      rcases this with rfl | rfl | rfl | rfl <;> exact ⟨_, _, rfl⟩
    have F₂ := fr_view0 _ F₁ (all2 hm1 hm2)
    clear F₁ NZ FZ hv
    have NN : News g' L' h ((L' + 1 + 1 + 1, oc₁) :: (L' + 1 + 1 + 1 + 1, oTs) :: (L' + 1 + 1, oR) :: (L' + 1, oS) :: (src, listOf #[.int sx tx, .int sy ty] ns) :: own) := fun q hq => (List.mem_append.mp (show q ∈ [(L' + 1 + 1 + 1, oc₁), (L' + 1 + 1 + 1 + 1, oTs), (L' + 1 + 1, oR), (L' + 1, oS), (src, listOf #[.int sx tx, .int sy ty] ns)] ++ own from hq)).elim (N₁ q) (No q)
    clear N₁
    repeat' ((fail_if_success (with_reducible show wpAny _ _ (pyIter (Value.ref _)) _ _ _)); (fail_if_success (with_reducible show wpAny _ _ (call (Value.ref 74) _ _) _ _ _)); (fail_if_success (with_reducible show wpAny _ _ (call (Value.ref 81) _ _) _ _ _)); (fail_if_success (with_reducible show wpAny _ _ (call (Value.ref 102) _ _) _ _ _)); (fail_if_success (with_reducible show wpAny _ _ (call (Value.ref 109) _ _) _ _ _)); (fail_if_success (with_reducible show wpAny _ _ (call (Value.ref 116) _ _) _ _ _)); (fail_if_success (with_reducible show wpAny _ _ (call (Value.ref 130) _ _) _ _ _)); (fail_if_success (with_reducible show wpAny _ _ (call (Value.ref 135) _ _) _ _ _)); (fail_if_success (with_reducible show wpAny _ _ (call (Value.ref 142) _ _) _ _ _)); (fail_if_success (with_reducible show wpAny _ _ (call (Value.ref 147) _ _) _ _ _)); (fail_if_success (with_reducible show wpAny _ _ (exec (Stmt.Assign _ (Expr.ListComp _ _ _ _) _) _) _ _ _)); (fail_if_success (with_reducible show wpAny _ _ (eval (Expr.ListComp _ _ _ _) _) _ _ _)); (fail_if_success (with_reducible show LCt.CompSrcT _ _ _ _ _ _ _ _ _ _ _ _ _ _ _)); (fail_if_success (with_reducible show LCg.CompSrc _ _ _ _ _ _ _ _ _ _ _ _ _ _)); (fail_if_success (with_reducible show wpAny _ _ (compareOp CmpOp.NotEq (Value.ref _) (Value.ref _)) _ _ _)); (fail_if_success (with_reducible show wpAny _ _ (compareOp CmpOp.Eq (Value.ref _) (Value.ref _)) _ _ _)); (first | (k_unfold; (try dsimp only)) | (k_end; wrow_close) | walk1 | (dsimp only; walk1) | (leave1; try dsimp only) | fail "no step"))
    k_dflt (refine LCt.Assign_ListComp_T (F₀ := by k_asm) (by rfl) (by with_unfolding_all rfl) (by with_unfolding_all rfl) (by decide) (by rfl) (by decide) (by rfl) (by rfl) (by rfl) ?_)
    repeat' ((fail_if_success (with_reducible show wpAny _ _ (pyIter (Value.ref _)) _ _ _)); (fail_if_success (with_reducible show wpAny _ _ (call (Value.ref 74) _ _) _ _ _)); (fail_if_success (with_reducible show wpAny _ _ (call (Value.ref 81) _ _) _ _ _)); (fail_if_success (with_reducible show wpAny _ _ (call (Value.ref 102) _ _) _ _ _)); (fail_if_success (with_reducible show wpAny _ _ (call (Value.ref 109) _ _) _ _ _)); (fail_if_success (with_reducible show wpAny _ _ (call (Value.ref 116) _ _) _ _ _)); (fail_if_success (with_reducible show wpAny _ _ (call (Value.ref 130) _ _) _ _ _)); (fail_if_success (with_reducible show wpAny _ _ (call (Value.ref 135) _ _) _ _ _)); (fail_if_success (with_reducible show wpAny _ _ (call (Value.ref 142) _ _) _ _ _)); (fail_if_success (with_reducible show wpAny _ _ (call (Value.ref 147) _ _) _ _ _)); (fail_if_success (with_reducible show wpAny _ _ (exec (Stmt.Assign _ (Expr.ListComp _ _ _ _) _) _) _ _ _)); (fail_if_success (with_reducible show wpAny _ _ (eval (Expr.ListComp _ _ _ _) _) _ _ _)); (fail_if_success (with_reducible show LCt.CompSrcT _ _ _ _ _ _ _ _ _ _ _ _ _ _ _)); (fail_if_success (with_reducible show LCg.CompSrc _ _ _ _ _ _ _ _ _ _ _ _ _ _)); (fail_if_success (with_reducible show wpAny _ _ (compareOp CmpOp.NotEq (Value.ref _) (Value.ref _)) _ _ _)); (fail_if_success (with_reducible show wpAny _ _ (compareOp CmpOp.Eq (Value.ref _) (Value.ref _)) _ _ _)); (first | (k_unfold; (try dsimp only)) | (k_end; wrow_close) | walk1 | (dsimp only; walk1) | (leave1; try dsimp only) | fail "no step"))
    rename Fr g' L' _ _ => F₂
    refine sorted_rows (ks := rs.map RowE.k) gr'.lo (dictOf_keep gr'.dict F₂.keep) (by rw [List.map_map]; rfl) hkp (by rw [List.length_map]; omega) rfl F₂ NN ?_
    intro D1 vsK k1 h1 tk1 F₃ N₃ hne3 hiK
    have hKl : vsK.length = rs.length := by rw [hiK.length, List.length_map]
    clear F₂ NN
    repeat' ((fail_if_success (with_reducible show wpAny _ _ (pyIter (Value.ref _)) _ _ _)); (fail_if_success (with_reducible show wpAny _ _ (call (Value.ref 74) _ _) _ _ _)); (fail_if_success (with_reducible show wpAny _ _ (call (Value.ref 81) _ _) _ _ _)); (fail_if_success (with_reducible show wpAny _ _ (call (Value.ref 102) _ _) _ _ _)); (fail_if_success (with_reducible show wpAny _ _ (call (Value.ref 109) _ _) _ _ _)); (fail_if_success (with_reducible show wpAny _ _ (call (Value.ref 116) _ _) _ _ _)); (fail_if_success (with_reducible show wpAny _ _ (call (Value.ref 130) _ _) _ _ _)); (fail_if_success (with_reducible show wpAny _ _ (call (Value.ref 135) _ _) _ _ _)); (fail_if_success (with_reducible show wpAny _ _ (call (Value.ref 142) _ _) _ _ _)); (fail_if_success (with_reducible show wpAny _ _ (call (Value.ref 147) _ _) _ _ _)); (fail_if_success (with_reducible show wpAny _ _ (exec (Stmt.Assign _ (Expr.ListComp _ _ _ _) _) _) _ _ _)); (fail_if_success (with_reducible show wpAny _ _ (eval (Expr.ListComp _ _ _ _) _) _ _ _)); (fail_if_success (with_reducible show LCt.CompSrcT _ _ _ _ _ _ _ _ _ _ _ _ _ _ _)); (fail_if_success (with_reducible show LCg.CompSrc _ _ _ _ _ _ _ _ _ _ _ _ _ _)); (fail_if_success (with_reducible show wpAny _ _ (compareOp CmpOp.NotEq (Value.ref _) (Value.ref _)) _ _ _)); (fail_if_success (with_reducible show wpAny _ _ (compareOp CmpOp.Eq (Value.ref _) (Value.ref _)) _ _ _)); (first | (k_unfold; (try dsimp only)) | (k_end; wrow_close) | walk1 | (dsimp only; walk1) | (leave1; try dsimp only) | fail "no step"))
    rename Fr g' L' _ _ => F₃
    k_dflt (refine LCt.CompSrcT.ledger (by rfl) F₃ N₃ (List.Mem.head _) (by show vsK.length ≤ sizeLine; rw [sizeLine_eq]; omega) ?_)
    intro gg
    refine compT_ind (J := fun i ys news => news = (D1, listOf vsK.toArray k1) :: (L' + 1 + 1 + 1, oc₁) :: (L' + 1 + 1 + 1 + 1, oTs) :: (L' + 1 + 1, oR) :: (L' + 1, oS) :: (src, listOf #[.int sx tx, .int sy ty] ns) :: own ∧ IntsAre ys (due (rs.take i) y)) ?_ ?_ _ 0 [] _ (Nat.zero_add _) ⟨rfl, by rw [List.take_zero]; exact .nil⟩
    · intro j ys news v I oI C oC D m₂ hh tkk E' hlt hJ hP hC hx F₄ N₄ off hne
      obtain ⟨rfl, hys⟩ := hJ
      have hP' : vsK[j]? = some v := by simpa using hP
      obtain ⟨kk, tkk', hkk, rfl⟩ := ints_at hiK hP'
      obtain ⟨rw, hrw, rfl⟩ : ∃ r, rs[j]? = some r ∧ r.k = kk := by rw [List.getElem?_map] at hkk; obtain ⟨r, a, b⟩ := Option.map_eq_some_iff.mp hkk; exact ⟨r, a, b⟩
      have hrm := List.mem_of_getElem? hrw
      have hva : valueAt (kvR rs) rw.k = some (.ref rw.a) := valueAt_of_get hkn (by rw [List.getElem?_map, hrw]; rfl)
      obtain ⟨tA, lA, sA⟩ := gr'.rows rw hrm
      have tA' := tA.keeps F₄.keep
      have lA' := stays_list F₄.keep lA
      clear F₃ N₃
      repeat' ((fail_if_success (with_reducible show wpAny _ _ (pyIter (Value.ref _)) _ _ _)); (fail_if_success (with_reducible show wpAny _ _ (call (Value.ref 74) _ _) _ _ _)); (fail_if_success (with_reducible show wpAny _ _ (call (Value.ref 81) _ _) _ _ _)); (fail_if_success (with_reducible show wpAny _ _ (call (Value.ref 102) _ _) _ _ _)); (fail_if_success (with_reducible show wpAny _ _ (call (Value.ref 109) _ _) _ _ _)); (fail_if_success (with_reducible show wpAny _ _ (call (Value.ref 116) _ _) _ _ _)); (fail_if_success (with_reducible show wpAny _ _ (call (Value.ref 130) _ _) _ _ _)); (fail_if_success (with_reducible show wpAny _ _ (call (Value.ref 135) _ _) _ _ _)); (fail_if_success (with_reducible show wpAny _ _ (call (Value.ref 142) _ _) _ _ _)); (fail_if_success (with_reducible show wpAny _ _ (call (Value.ref 147) _ _) _ _ _)); (fail_if_success (with_reducible show wpAny _ _ (exec (Stmt.Assign _ (Expr.ListComp _ _ _ _) _) _) _ _ _)); (fail_if_success (with_reducible show wpAny _ _ (eval (Expr.ListComp _ _ _ _) _) _ _ _)); (fail_if_success (with_reducible show LCt.CompSrcT _ _ _ _ _ _ _ _ _ _ _ _ _ _ _)); (fail_if_success (with_reducible show LCg.CompSrc _ _ _ _ _ _ _ _ _ _ _ _ _ _)); (fail_if_success (with_reducible show wpAny _ _ (compareOp CmpOp.NotEq (Value.ref _) (Value.ref _)) _ _ _)); (fail_if_success (with_reducible show wpAny _ _ (compareOp CmpOp.Eq (Value.ref _) (Value.ref _)) _ _ _)); (first | (k_unfold; (try dsimp only)) | (k_end; wrow_close) | walk1 | (dsimp only; walk1) | (leave1; try dsimp only) | fail "no step"))
      all_goals (rename Fr g' L' _ _ => F₅; rename News g' L' _ _ => N₅)
      all_goals (refine LCg.CompEnd.intro F₅ N₅ _ (fun p hp => hp) off (.inr ⟨_, List.Mem.head _, rfl, _, rfl⟩) ⟨rfl, ?_⟩)
      all_goals (first
        | (rw [due_yes hrw (by assumption) (by assumption)]; exact intsAre_snoc hys _ _)
        | (rw [due_no hrw (by assumption)]; exact hys)
        | (rw [due_skip hrw (by assumption)]; exact hys))
    · rintro ys news ⟨rfl, hys⟩
      have hys' : IntsAre ys (due rs y) := by have := hys; rw [show vsK.toArray.size = rs.length from hKl, List.take_length] at this; exact this
      clear hys
      intro D2 h2 tk2 F₄ N₄ off2
      clear F₃ N₃
      have hdl : (getT es y).length ≤ 100 := by rw [hdue y]; have := due_len rs y; omega
      have hdl2 : (due rs y).length ≤ 9 := Nat.le_trans (due_len rs y) hrs
      repeat' ((fail_if_success (with_reducible show wpAny _ _ (pyIter (Value.ref _)) _ _ _)); (fail_if_success (with_reducible show wpAny _ _ (call (Value.ref 74) _ _) _ _ _)); (fail_if_success (with_reducible show wpAny _ _ (call (Value.ref 81) _ _) _ _ _)); (fail_if_success (with_reducible show wpAny _ _ (call (Value.ref 102) _ _) _ _ _)); (fail_if_success (with_reducible show wpAny _ _ (call (Value.ref 109) _ _) _ _ _)); (fail_if_success (with_reducible show wpAny _ _ (call (Value.ref 116) _ _) _ _ _)); (fail_if_success (with_reducible show wpAny _ _ (call (Value.ref 130) _ _) _ _ _)); (fail_if_success (with_reducible show wpAny _ _ (call (Value.ref 135) _ _) _ _ _)); (fail_if_success (with_reducible show wpAny _ _ (call (Value.ref 142) _ _) _ _ _)); (fail_if_success (with_reducible show wpAny _ _ (call (Value.ref 147) _ _) _ _ _)); (fail_if_success (with_reducible show wpAny _ _ (exec (Stmt.Assign _ (Expr.ListComp _ _ _ _) _) _) _ _ _)); (fail_if_success (with_reducible show wpAny _ _ (eval (Expr.ListComp _ _ _ _) _) _ _ _)); (fail_if_success (with_reducible show LCt.CompSrcT _ _ _ _ _ _ _ _ _ _ _ _ _ _ _)); (fail_if_success (with_reducible show LCg.CompSrc _ _ _ _ _ _ _ _ _ _ _ _ _ _)); (fail_if_success (with_reducible show wpAny _ _ (compareOp CmpOp.NotEq (Value.ref _) (Value.ref _)) _ _ _)); (fail_if_success (with_reducible show wpAny _ _ (compareOp CmpOp.Eq (Value.ref _) (Value.ref _)) _ _ _)); (first | (k_unfold; (try dsimp only)) | (k_end; wrow_close) | walk1 | (dsimp only; walk1) | (leave1; try dsimp only) | fail "no step"))
      rename Fr g' L' _ _ => F₄
      k_dflt (refine' find_walk (value := y) B' F₄ X' T' rfl N₄ gx' gdx' gnd' lo gt' hv1 hdl ?hdp ?hu ?_; (case hdp => ktr_room); (case hu => ktr_units))
      intro r1 n1 vs1 h3 tk3 F₅ N₅ hne5 hi5 k5
      rw [hdue y] at hi5
      clear F₄ N₄
      repeat' ((fail_if_success (with_reducible show wpAny _ _ (pyIter (Value.ref _)) _ _ _)); (fail_if_success (with_reducible show wpAny _ _ (call (Value.ref 74) _ _) _ _ _)); (fail_if_success (with_reducible show wpAny _ _ (call (Value.ref 81) _ _) _ _ _)); (fail_if_success (with_reducible show wpAny _ _ (call (Value.ref 102) _ _) _ _ _)); (fail_if_success (with_reducible show wpAny _ _ (call (Value.ref 109) _ _) _ _ _)); (fail_if_success (with_reducible show wpAny _ _ (call (Value.ref 116) _ _) _ _ _)); (fail_if_success (with_reducible show wpAny _ _ (call (Value.ref 130) _ _) _ _ _)); (fail_if_success (with_reducible show wpAny _ _ (call (Value.ref 135) _ _) _ _ _)); (fail_if_success (with_reducible show wpAny _ _ (call (Value.ref 142) _ _) _ _ _)); (fail_if_success (with_reducible show wpAny _ _ (call (Value.ref 147) _ _) _ _ _)); (fail_if_success (with_reducible show wpAny _ _ (exec (Stmt.Assign _ (Expr.ListComp _ _ _ _) _) _) _ _ _)); (fail_if_success (with_reducible show wpAny _ _ (eval (Expr.ListComp _ _ _ _) _) _ _ _)); (fail_if_success (with_reducible show LCt.CompSrcT _ _ _ _ _ _ _ _ _ _ _ _ _ _ _)); (fail_if_success (with_reducible show LCg.CompSrc _ _ _ _ _ _ _ _ _ _ _ _ _ _)); (fail_if_success (with_reducible show wpAny _ _ (compareOp CmpOp.NotEq (Value.ref _) (Value.ref _)) _ _ _)); (fail_if_success (with_reducible show wpAny _ _ (compareOp CmpOp.Eq (Value.ref _) (Value.ref _)) _ _ _)); (first | (k_unfold; (try dsimp only)) | (k_end; wrow_close) | walk1 | (dsimp only; walk1) | (leave1; try dsimp only) | fail "no step"))
      rename Fr g' L' _ _ => F₅
      rename News g' L' _ _ => N₅
      refine ne_same (isList_of (N₅ _ (List.Mem.head _)).1) (isList_of (N₅ _ (List.Mem.tail _ (List.Mem.head _))).1) hi5 hys' (by ktr_units) ?_
      have hvl1 : vs1.length ≤ 9 := by rw [hi5.length]; exact hdl2
      repeat' ((fail_if_success (with_reducible show wpAny _ _ (pyIter (Value.ref _)) _ _ _)); (fail_if_success (with_reducible show wpAny _ _ (call (Value.ref 74) _ _) _ _ _)); (fail_if_success (with_reducible show wpAny _ _ (call (Value.ref 81) _ _) _ _ _)); (fail_if_success (with_reducible show wpAny _ _ (call (Value.ref 102) _ _) _ _ _)); (fail_if_success (with_reducible show wpAny _ _ (call (Value.ref 109) _ _) _ _ _)); (fail_if_success (with_reducible show wpAny _ _ (call (Value.ref 116) _ _) _ _ _)); (fail_if_success (with_reducible show wpAny _ _ (call (Value.ref 130) _ _) _ _ _)); (fail_if_success (with_reducible show wpAny _ _ (call (Value.ref 135) _ _) _ _ _)); (fail_if_success (with_reducible show wpAny _ _ (call (Value.ref 142) _ _) _ _ _)); (fail_if_success (with_reducible show wpAny _ _ (call (Value.ref 147) _ _) _ _ _)); (fail_if_success (with_reducible show wpAny _ _ (exec (Stmt.Assign _ (Expr.ListComp _ _ _ _) _) _) _ _ _)); (fail_if_success (with_reducible show wpAny _ _ (eval (Expr.ListComp _ _ _ _) _) _ _ _)); (fail_if_success (with_reducible show LCt.CompSrcT _ _ _ _ _ _ _ _ _ _ _ _ _ _ _)); (fail_if_success (with_reducible show LCg.CompSrc _ _ _ _ _ _ _ _ _ _ _ _ _ _)); (fail_if_success (with_reducible show wpAny _ _ (compareOp CmpOp.NotEq (Value.ref _) (Value.ref _)) _ _ _)); (fail_if_success (with_reducible show wpAny _ _ (compareOp CmpOp.Eq (Value.ref _) (Value.ref _)) _ _ _)); (first | (k_unfold; (try dsimp only)) | (k_end; wrow_close) | walk1 | (dsimp only; walk1) | (leave1; try dsimp only) | fail "no step"))
      rename Fr g' L' _ _ => F₆
      rename News g' L' _ _ => N₆
      k_dflt (refine' find_walk (value := y) B' F₆ X' T' rfl N₆ gx' gdx' gnd' lo gt' hv1 hdl ?hdp ?hu ?_; (case hdp => ktr_room); (case hu => ktr_units))
      intro r3 n3 vs3 h4 tk4 F₇ N₇ hne7 hi7 k7
      rw [hdue y] at hi7
      clear F₆ N₆
      repeat' ((fail_if_success (with_reducible show wpAny _ _ (pyIter (Value.ref _)) _ _ _)); (fail_if_success (with_reducible show wpAny _ _ (call (Value.ref 74) _ _) _ _ _)); (fail_if_success (with_reducible show wpAny _ _ (call (Value.ref 81) _ _) _ _ _)); (fail_if_success (with_reducible show wpAny _ _ (call (Value.ref 102) _ _) _ _ _)); (fail_if_success (with_reducible show wpAny _ _ (call (Value.ref 109) _ _) _ _ _)); (fail_if_success (with_reducible show wpAny _ _ (call (Value.ref 116) _ _) _ _ _)); (fail_if_success (with_reducible show wpAny _ _ (call (Value.ref 130) _ _) _ _ _)); (fail_if_success (with_reducible show wpAny _ _ (call (Value.ref 135) _ _) _ _ _)); (fail_if_success (with_reducible show wpAny _ _ (call (Value.ref 142) _ _) _ _ _)); (fail_if_success (with_reducible show wpAny _ _ (call (Value.ref 147) _ _) _ _ _)); (fail_if_success (with_reducible show wpAny _ _ (exec (Stmt.Assign _ (Expr.ListComp _ _ _ _) _) _) _ _ _)); (fail_if_success (with_reducible show wpAny _ _ (eval (Expr.ListComp _ _ _ _) _) _ _ _)); (fail_if_success (with_reducible show LCt.CompSrcT _ _ _ _ _ _ _ _ _ _ _ _ _ _ _)); (fail_if_success (with_reducible show LCg.CompSrc _ _ _ _ _ _ _ _ _ _ _ _ _ _)); (fail_if_success (with_reducible show wpAny _ _ (compareOp CmpOp.NotEq (Value.ref _) (Value.ref _)) _ _ _)); (fail_if_success (with_reducible show wpAny _ _ (compareOp CmpOp.Eq (Value.ref _) (Value.ref _)) _ _ _)); (first | (k_unfold; (try dsimp only)) | (k_end; wrow_close) | walk1 | (dsimp only; walk1) | (leave1; try dsimp only) | fail "no step"))
      rename Fr g' L' _ _ => F₇
      rename News g' L' _ _ => N₇
      refine ne_same (isList_of (N₇ _ (List.Mem.head _)).1) (isList_of (N₇ _ (List.Mem.tail _ (List.Mem.tail _ (List.Mem.head _)))).1) hi7 hys' (by ktr_units) ?_
      repeat' ((fail_if_success (with_reducible show wpAny _ _ (pyIter (Value.ref _)) _ _ _)); (fail_if_success (with_reducible show wpAny _ _ (call (Value.ref 74) _ _) _ _ _)); (fail_if_success (with_reducible show wpAny _ _ (call (Value.ref 81) _ _) _ _ _)); (fail_if_success (with_reducible show wpAny _ _ (call (Value.ref 102) _ _) _ _ _)); (fail_if_success (with_reducible show wpAny _ _ (call (Value.ref 109) _ _) _ _ _)); (fail_if_success (with_reducible show wpAny _ _ (call (Value.ref 116) _ _) _ _ _)); (fail_if_success (with_reducible show wpAny _ _ (call (Value.ref 130) _ _) _ _ _)); (fail_if_success (with_reducible show wpAny _ _ (call (Value.ref 135) _ _) _ _ _)); (fail_if_success (with_reducible show wpAny _ _ (call (Value.ref 142) _ _) _ _ _)); (fail_if_success (with_reducible show wpAny _ _ (call (Value.ref 147) _ _) _ _ _)); (fail_if_success (with_reducible show wpAny _ _ (exec (Stmt.Assign _ (Expr.ListComp _ _ _ _) _) _) _ _ _)); (fail_if_success (with_reducible show wpAny _ _ (eval (Expr.ListComp _ _ _ _) _) _ _ _)); (fail_if_success (with_reducible show LCt.CompSrcT _ _ _ _ _ _ _ _ _ _ _ _ _ _ _)); (fail_if_success (with_reducible show LCg.CompSrc _ _ _ _ _ _ _ _ _ _ _ _ _ _)); (fail_if_success (with_reducible show wpAny _ _ (compareOp CmpOp.NotEq (Value.ref _) (Value.ref _)) _ _ _)); (fail_if_success (with_reducible show wpAny _ _ (compareOp CmpOp.Eq (Value.ref _) (Value.ref _)) _ _ _)); (first | (k_unfold; (try dsimp only)) | (k_end; wrow_close) | walk1 | (dsimp only; walk1) | (leave1; try dsimp only) | fail "no step"))
      rename Fr g' L' _ _ => F₇
      rename News g' L' _ _ => N₇
      refine TurnEnd.intro F₇ (nx := (L' + 1 + 1 + 1, oc₁) :: [(L' + 1 + 1 + 1 + 1, oTs), (L' + 1 + 1, oR), (L' + 1, oS), (src, listOf #[.int sx tx, .int sy ty] ns)]) (sub_news N₇ (by intro q hq; simp only [List.mem_cons, List.not_mem_nil, or_false] at hq; rcases hq with rfl | rfl | rfl | rfl | rfl; all_goals k_memK)) (fun q hq => (N₇ q (by repeat first | exact hq | apply List.mem_cons_of_mem)).1) hdis ⟨oc₁, _, _, rfl, hdc, hnc, rfl, rfl, rfl⟩
    --T>
  · intro m₁ news₁ h tk oc₁ v₁ hJ hdc hnc F₁ N₁
    obtain ⟨hm1, hm2, rfl⟩ := hJ
    have F₂ := fr_view0 _ F₁ (all2 hm1 hm2)
    clear F₁ NZ FZ
    have NN : News g' L' h ((L' + 1 + 1 + 1, oc₁) :: (L' + 1 + 1 + 1 + 1, oTs) :: (L' + 1 + 1, oR) :: (L' + 1, oS) :: (src, listOf #[.int sx tx, .int sy ty] ns) :: []) := N₁
    clear N₁
    repeat' ((fail_if_success (with_reducible show wpAny _ _ (pyIter (Value.ref _)) _ _ _)); (fail_if_success (with_reducible show wpAny _ _ (call (Value.ref 74) _ _) _ _ _)); (fail_if_success (with_reducible show wpAny _ _ (call (Value.ref 81) _ _) _ _ _)); (fail_if_success (with_reducible show wpAny _ _ (call (Value.ref 102) _ _) _ _ _)); (fail_if_success (with_reducible show wpAny _ _ (call (Value.ref 109) _ _) _ _ _)); (fail_if_success (with_reducible show wpAny _ _ (call (Value.ref 116) _ _) _ _ _)); (fail_if_success (with_reducible show wpAny _ _ (call (Value.ref 130) _ _) _ _ _)); (fail_if_success (with_reducible show wpAny _ _ (call (Value.ref 135) _ _) _ _ _)); (fail_if_success (with_reducible show wpAny _ _ (call (Value.ref 142) _ _) _ _ _)); (fail_if_success (with_reducible show wpAny _ _ (call (Value.ref 147) _ _) _ _ _)); (fail_if_success (with_reducible show wpAny _ _ (eval (Expr.ListComp _ _ _ _) _) _ _ _)); (fail_if_success (with_reducible show LCt.CompSrcT _ _ _ _ _ _ _ _ _ _ _ _ _ _ _)); (fail_if_success (with_reducible show LCg.CompSrc _ _ _ _ _ _ _ _ _ _ _ _ _ _)); (fail_if_success (with_reducible show wpAny _ _ (compareOp CmpOp.NotEq (Value.ref _) (Value.ref _)) _ _ _)); (fail_if_success (with_reducible show wpAny _ _ (compareOp CmpOp.Eq (Value.ref _) (Value.ref _)) _ _ _)); (first | (k_unfold; (try dsimp only)) | (k_end; wrow_close) | walk1 | (dsimp only; walk1) | (leave1; try dsimp only) | fail "no step"))
    k_dflt (refine LCg.ListComp_U (F₀ := by k_asm) (by with_unfolding_all rfl) (by decide) (by rfl) (by decide) (by rfl) ?_)
    repeat' ((fail_if_success (with_reducible show wpAny _ _ (pyIter (Value.ref _)) _ _ _)); (fail_if_success (with_reducible show wpAny _ _ (call (Value.ref 74) _ _) _ _ _)); (fail_if_success (with_reducible show wpAny _ _ (call (Value.ref 81) _ _) _ _ _)); (fail_if_success (with_reducible show wpAny _ _ (call (Value.ref 102) _ _) _ _ _)); (fail_if_success (with_reducible show wpAny _ _ (call (Value.ref 109) _ _) _ _ _)); (fail_if_success (with_reducible show wpAny _ _ (call (Value.ref 116) _ _) _ _ _)); (fail_if_success (with_reducible show wpAny _ _ (call (Value.ref 130) _ _) _ _ _)); (fail_if_success (with_reducible show wpAny _ _ (call (Value.ref 135) _ _) _ _ _)); (fail_if_success (with_reducible show wpAny _ _ (call (Value.ref 142) _ _) _ _ _)); (fail_if_success (with_reducible show wpAny _ _ (call (Value.ref 147) _ _) _ _ _)); (fail_if_success (with_reducible show wpAny _ _ (eval (Expr.ListComp _ _ _ _) _) _ _ _)); (fail_if_success (with_reducible show LCt.CompSrcT _ _ _ _ _ _ _ _ _ _ _ _ _ _ _)); (fail_if_success (with_reducible show LCg.CompSrc _ _ _ _ _ _ _ _ _ _ _ _ _ _)); (fail_if_success (with_reducible show wpAny _ _ (compareOp CmpOp.NotEq (Value.ref _) (Value.ref _)) _ _ _)); (fail_if_success (with_reducible show wpAny _ _ (compareOp CmpOp.Eq (Value.ref _) (Value.ref _)) _ _ _)); (first | (k_unfold; (try dsimp only)) | (k_end; wrow_close) | walk1 | (dsimp only; walk1) | (leave1; try dsimp only) | fail "no step"))
    rename Fr g' L' _ _ => F₃
    rename News g' L' _ _ => N₃
    rename (_ < (4 : Int)) => hd1
    obtain ⟨n4, hn3, hn4, e4⟩ := nat4 hd1 (by assumption)
    subst e4
    k_dflt (refine LCg.CompSrc.range (n := n4) (by rfl) F₃ N₃ (by assumption) (small10 hn4) (size10 hn4) (by rw [sizeLine_eq]; omega) ?_)
    intro gg
    refine compU_ind (J := fun i ys news => ∃ sx' tx' sy' ty' ns' ts, (∀ t ∈ ts, PyData.strOk t = true) ∧ 0 ≤ sx' ∧ 0 ≤ sy' ∧ sy' < 2147483647 ∧ news = [(L' + 1 + 1 + 1, oc₁), (L' + 1 + 1 + 1 + 1, oTs), (L' + 1 + 1, oR), (L' + 1, oS), (src, listOf #[.int sx' tx', .int sy' ty'] ns')] ∧ StrsAre ys ts ∧ ts.length = i) ?_ ?_ _ 0 [] _ (Nat.zero_add _) ⟨_, _, _, _, _, [], (fun t ht => nomatch ht), by assumption, by assumption, by assumption, rfl, .nil, rfl⟩
    · intro j ys news v I oI C oC D m₂ hh tkk E' hlt hJ hP hC hx F₄ N₄ off hne
      obtain ⟨sx', tx', sy', ty', ns', ts, hok, h0x, h0y, hyl, rfl, hys, hln⟩ := hJ
      obtain ⟨tt, rfl⟩ := hP
      clear F₃ N₃
      repeat' ((fail_if_success (with_reducible show wpAny _ _ (pyIter (Value.ref _)) _ _ _)); (fail_if_success (with_reducible show wpAny _ _ (call (Value.ref 74) _ _) _ _ _)); (fail_if_success (with_reducible show wpAny _ _ (call (Value.ref 81) _ _) _ _ _)); (fail_if_success (with_reducible show wpAny _ _ (call (Value.ref 102) _ _) _ _ _)); (fail_if_success (with_reducible show wpAny _ _ (call (Value.ref 109) _ _) _ _ _)); (fail_if_success (with_reducible show wpAny _ _ (call (Value.ref 116) _ _) _ _ _)); (fail_if_success (with_reducible show wpAny _ _ (call (Value.ref 130) _ _) _ _ _)); (fail_if_success (with_reducible show wpAny _ _ (call (Value.ref 135) _ _) _ _ _)); (fail_if_success (with_reducible show wpAny _ _ (call (Value.ref 142) _ _) _ _ _)); (fail_if_success (with_reducible show wpAny _ _ (call (Value.ref 147) _ _) _ _ _)); (fail_if_success (with_reducible show wpAny _ _ (exec (Stmt.Assign _ (Expr.ListComp _ _ _ _) _) _) _ _ _)); (fail_if_success (with_reducible show wpAny _ _ (eval (Expr.ListComp _ _ _ _) _) _ _ _)); (fail_if_success (with_reducible show LCt.CompSrcT _ _ _ _ _ _ _ _ _ _ _ _ _ _ _)); (fail_if_success (with_reducible show LCg.CompSrc _ _ _ _ _ _ _ _ _ _ _ _ _ _)); (fail_if_success (with_reducible show wpAny _ _ (compareOp CmpOp.NotEq (Value.ref _) (Value.ref _)) _ _ _)); (fail_if_success (with_reducible show wpAny _ _ (compareOp CmpOp.Eq (Value.ref _) (Value.ref _)) _ _ _)); (first | (k_unfold; (try dsimp only)) | (k_end; wrow_close) | walk1 | (dsimp only; walk1) | (leave1; try dsimp only) | fail "no step"))
      rename Fr g' L' _ _ => F₅
      rename News g' L' _ _ => N₅
      rename (_ < _ ∧ _ < _ ∧ _ < _ ∧ _ < _ ∧ _ < _ ∧ _ < _ ∧ _ < _ ∧ _ < _) => lz
      have off' := off
      simp only [LCg.Off3, and_true] at off'
      k_dflt (refine' one_walk B' F₅ X' T' rfl N₅ (by k_updF) (List.Mem.head _) (neN (Nat.ne_of_lt lz.2.2.2.2.2.2.2)) h0x h0y hyl ?hdp ?hu ?_; (case hdp => ktr_room); (case hu => ktr_units))
      intro t k x' y' tx' ty' n' h4 tk4 ht h0x' h0y' hyl' F₆ N₆ k6
      try dsimp only at N₆
      clear F₅ N₅
      exact LCg.CompEnd.intro F₆ N₆ [(L' + 1 + 1 + 1, oc₁), (L' + 1 + 1 + 1 + 1, oTs), (L' + 1 + 1, oR), (L' + 1, oS), (src, listOf #[.int x' tx', .int y' ty'] n')] (fun p hp => List.mem_cons_of_mem _ hp) off trivial
        ⟨x', tx', y', ty', n', ts ++ [t], ok_snoc hok ht, h0x', h0y', hyl', rfl, strs_snoc hys t k, by rw [List.length_append, hln]; rfl⟩
    · rintro ys news ⟨sx', tx', sy', ty', ns', ts, hok, h0x, h0y, hyl, rfl, hys, hln⟩
      intro D2 h2 tk2 F₄ N₄ off2
      clear F₃ N₃
      have off' := off2
      simp only [LCg.Off1, and_true] at off'
      repeat' ((fail_if_success (with_reducible show wpAny _ _ (pyIter (Value.ref _)) _ _ _)); (fail_if_success (with_reducible show wpAny _ _ (call (Value.ref 74) _ _) _ _ _)); (fail_if_success (with_reducible show wpAny _ _ (call (Value.ref 81) _ _) _ _ _)); (fail_if_success (with_reducible show wpAny _ _ (call (Value.ref 102) _ _) _ _ _)); (fail_if_success (with_reducible show wpAny _ _ (call (Value.ref 109) _ _) _ _ _)); (fail_if_success (with_reducible show wpAny _ _ (call (Value.ref 116) _ _) _ _ _)); (fail_if_success (with_reducible show wpAny _ _ (call (Value.ref 130) _ _) _ _ _)); (fail_if_success (with_reducible show wpAny _ _ (call (Value.ref 135) _ _) _ _ _)); (fail_if_success (with_reducible show wpAny _ _ (call (Value.ref 142) _ _) _ _ _)); (fail_if_success (with_reducible show wpAny _ _ (call (Value.ref 147) _ _) _ _ _)); (fail_if_success (with_reducible show wpAny _ _ (exec (Stmt.Assign _ (Expr.ListComp _ _ _ _) _) _) _ _ _)); (fail_if_success (with_reducible show wpAny _ _ (eval (Expr.ListComp _ _ _ _) _) _ _ _)); (fail_if_success (with_reducible show LCt.CompSrcT _ _ _ _ _ _ _ _ _ _ _ _ _ _ _)); (fail_if_success (with_reducible show LCg.CompSrc _ _ _ _ _ _ _ _ _ _ _ _ _ _)); (fail_if_success (with_reducible show wpAny _ _ (compareOp CmpOp.NotEq (Value.ref _) (Value.ref _)) _ _ _)); (fail_if_success (with_reducible show wpAny _ _ (compareOp CmpOp.Eq (Value.ref _) (Value.ref _)) _ _ _)); (first | (k_unfold; (try dsimp only)) | (k_end; wrow_close) | walk1 | (dsimp only; walk1) | (leave1; try dsimp only) | fail "no step"))
      rename Fr g' L' _ _ => F₅
      rename News g' L' _ _ => N₅
      rename (Obj.data _ = Data.cell (some (Value.ref D2))) => d5
      refine pack_ts (c := L' + 1 + 1 + 1 + 1) (t := (L' + 1 + 1 + 1, oc₁)) N₅ d5 ?_
      clear N₅ d5
      intro oTs' N₅ d5
      k_dflt (refine Assign_comp_C (m := fun q => vw m₁ [(PySem.Str.ofString "index", .ref x), (PySem.Str.ofString "name", .str name tn)] q) (by k_asm) (by with_unfolding_all rfl) (by with_unfolding_all rfl) (by rfl) (by decide) (fun _ => by with_unfolding_all rfl) (fun _ => by with_unfolding_all rfl) (fun _ _ => by rfl) (fun _ _ => by with_unfolding_all rfl) (by with_unfolding_all rfl) (by with_unfolding_all rfl) ?_)
      repeat' ((fail_if_success (with_reducible show wpAny _ _ (pyIter (Value.ref _)) _ _ _)); (fail_if_success (with_reducible show wpAny _ _ (call (Value.ref 74) _ _) _ _ _)); (fail_if_success (with_reducible show wpAny _ _ (call (Value.ref 81) _ _) _ _ _)); (fail_if_success (with_reducible show wpAny _ _ (call (Value.ref 102) _ _) _ _ _)); (fail_if_success (with_reducible show wpAny _ _ (call (Value.ref 109) _ _) _ _ _)); (fail_if_success (with_reducible show wpAny _ _ (call (Value.ref 116) _ _) _ _ _)); (fail_if_success (with_reducible show wpAny _ _ (call (Value.ref 130) _ _) _ _ _)); (fail_if_success (with_reducible show wpAny _ _ (call (Value.ref 135) _ _) _ _ _)); (fail_if_success (with_reducible show wpAny _ _ (call (Value.ref 142) _ _) _ _ _)); (fail_if_success (with_reducible show wpAny _ _ (call (Value.ref 147) _ _) _ _ _)); (fail_if_success (with_reducible show wpAny _ _ (exec (Stmt.Assign _ (Expr.ListComp _ _ _ _) _) _) _ _ _)); (fail_if_success (with_reducible show wpAny _ _ (eval (Expr.ListComp _ _ _ _) _) _ _ _)); (fail_if_success (with_reducible show LCt.CompSrcT _ _ _ _ _ _ _ _ _ _ _ _ _ _ _)); (fail_if_success (with_reducible show LCg.CompSrc _ _ _ _ _ _ _ _ _ _ _ _ _ _)); (fail_if_success (with_reducible show wpAny _ _ (compareOp CmpOp.NotEq (Value.ref _) (Value.ref _)) _ _ _)); (fail_if_success (with_reducible show wpAny _ _ (compareOp CmpOp.Eq (Value.ref _) (Value.ref _)) _ _ _)); (first | (k_unfold; (try dsimp only)) | (k_end; wrow_close) | walk1 | (dsimp only; walk1) | (leave1; try dsimp only) | fail "no step"))
      refine sorted_rows (ks := rs.map RowE.k) gr'.lo (dictOf_keep gr'.dict F₅.keep) (by rw [List.map_map]; rfl) hkp (by rw [List.length_map]; omega) rfl F₅ N₅ ?_
      intro D1 vsK k1 h6 tk6 F₆ N₆ hne6 hiK
      have hKl : vsK.length = rs.length := by rw [hiK.length, List.length_map]
      clear F₅ N₅
      repeat' ((fail_if_success (with_reducible show wpAny _ _ (pyIter (Value.ref _)) _ _ _)); (fail_if_success (with_reducible show wpAny _ _ (call (Value.ref 74) _ _) _ _ _)); (fail_if_success (with_reducible show wpAny _ _ (call (Value.ref 81) _ _) _ _ _)); (fail_if_success (with_reducible show wpAny _ _ (call (Value.ref 102) _ _) _ _ _)); (fail_if_success (with_reducible show wpAny _ _ (call (Value.ref 109) _ _) _ _ _)); (fail_if_success (with_reducible show wpAny _ _ (call (Value.ref 116) _ _) _ _ _)); (fail_if_success (with_reducible show wpAny _ _ (call (Value.ref 130) _ _) _ _ _)); (fail_if_success (with_reducible show wpAny _ _ (call (Value.ref 135) _ _) _ _ _)); (fail_if_success (with_reducible show wpAny _ _ (call (Value.ref 142) _ _) _ _ _)); (fail_if_success (with_reducible show wpAny _ _ (call (Value.ref 147) _ _) _ _ _)); (fail_if_success (with_reducible show wpAny _ _ (exec (Stmt.Assign _ (Expr.ListComp _ _ _ _) _) _) _ _ _)); (fail_if_success (with_reducible show wpAny _ _ (eval (Expr.ListComp _ _ _ _) _) _ _ _)); (fail_if_success (with_reducible show LCt.CompSrcT _ _ _ _ _ _ _ _ _ _ _ _ _ _ _)); (fail_if_success (with_reducible show LCg.CompSrc _ _ _ _ _ _ _ _ _ _ _ _ _ _)); (fail_if_success (with_reducible show wpAny _ _ (compareOp CmpOp.NotEq (Value.ref _) (Value.ref _)) _ _ _)); (fail_if_success (with_reducible show wpAny _ _ (compareOp CmpOp.Eq (Value.ref _) (Value.ref _)) _ _ _)); (first | (k_unfold; (try dsimp only)) | (k_end; wrow_close) | walk1 | (dsimp only; walk1) | (leave1; try dsimp only) | fail "no step"))
      rename Fr g' L' _ _ => F₆
      refine ⟨D1, vsK.toArray, _, (fun i ys' news' => news' = [(D1, listOf vsK.toArray k1), (D2, LCg.lst ys), (L' + 1 + 1 + 1, oc₁), (L' + 1 + 1 + 1 + 1, oTs'), (L' + 1 + 1, oR), (L' + 1, oS), (src, listOf #[.int sx' tx', .int sy' ty'] ns')] ∧ IntsAre ys' (due2 (rs.take i) ts)), rfl, rfl, F₆, N₆, (by show vsK.length ≤ sizeLine; rw [sizeLine_eq]; omega), ⟨rfl, by rw [List.take_zero]; exact .nil⟩, fun i ys' news' hJ => hJ.1 ▸ .inr ⟨_, List.Mem.head _, rfl, _, rfl⟩, ?_⟩
      rintro s₂ ⟨gg, rfl⟩
      refine ⟨?_, ?_⟩
      · intro j ys' news v I oI C oC D c oc hh tkk E' hP hJ hoc F₇ N₇ off hne
        obtain ⟨rfl, hys'⟩ := hJ
        have hP' : vsK[j]? = some v := by simpa using hP
        obtain ⟨kk, tkk', hkk, rfl⟩ := ints_at hiK hP'
        obtain ⟨rw, hrw, rfl⟩ : ∃ r, rs[j]? = some r ∧ r.k = kk := by rw [List.getElem?_map] at hkk; obtain ⟨r, a, b⟩ := Option.map_eq_some_iff.mp hkk; exact ⟨r, a, b⟩
        have hrm := List.mem_of_getElem? hrw
        have hva : valueAt (kvR rs) rw.k = some (.ref rw.a) := valueAt_of_get hkn (by rw [List.getElem?_map, hrw]; rfl)
        obtain ⟨tA, lA, sA⟩ := gr'.rows rw hrm
        have tA' := tA.keeps F₇.keep
        have lA' := stays_list F₇.keep lA
        clear F₆ N₆
        repeat' ((fail_if_success (with_reducible show wpAny _ _ (pyIter (Value.ref _)) _ _ _)); (fail_if_success (with_reducible show wpAny _ _ (call (Value.ref 74) _ _) _ _ _)); (fail_if_success (with_reducible show wpAny _ _ (call (Value.ref 81) _ _) _ _ _)); (fail_if_success (with_reducible show wpAny _ _ (call (Value.ref 102) _ _) _ _ _)); (fail_if_success (with_reducible show wpAny _ _ (call (Value.ref 109) _ _) _ _ _)); (fail_if_success (with_reducible show wpAny _ _ (call (Value.ref 116) _ _) _ _ _)); (fail_if_success (with_reducible show wpAny _ _ (call (Value.ref 130) _ _) _ _ _)); (fail_if_success (with_reducible show wpAny _ _ (call (Value.ref 135) _ _) _ _ _)); (fail_if_success (with_reducible show wpAny _ _ (call (Value.ref 142) _ _) _ _ _)); (fail_if_success (with_reducible show wpAny _ _ (call (Value.ref 147) _ _) _ _ _)); (fail_if_success (with_reducible show wpAny _ _ (eval (Expr.ListComp _ _ _ _) _) _ _ _)); (fail_if_success (with_reducible show LCt.CompSrcT _ _ _ _ _ _ _ _ _ _ _ _ _ _ _)); (fail_if_success (with_reducible show LCg.CompSrc _ _ _ _ _ _ _ _ _ _ _ _ _ _)); (fail_if_success (with_reducible show wpAny _ _ (compareOp CmpOp.NotEq (Value.ref _) (Value.ref _)) _ _ _)); (fail_if_success (with_reducible show wpAny _ _ (compareOp CmpOp.Eq (Value.ref _) (Value.ref _)) _ _ _)); (first | (k_unfold; (try dsimp only)) | (k_end; wrow_close) | walk1 | (dsimp only; walk1) | (leave1; try dsimp only) | fail "no step"))
        · rename Fr g' L' _ _ => F₈
          rename News g' L' _ _ => N₈
          k_dflt (refine LCt.ListComp_T (F₀ := by k_asm) (by with_unfolding_all rfl) (by decide) (by rfl) (by decide) (by rfl) ?_)
          repeat' ((fail_if_success (with_reducible show wpAny _ _ (pyIter (Value.ref _)) _ _ _)); (fail_if_success (with_reducible show wpAny _ _ (call (Value.ref 74) _ _) _ _ _)); (fail_if_success (with_reducible show wpAny _ _ (call (Value.ref 81) _ _) _ _ _)); (fail_if_success (with_reducible show wpAny _ _ (call (Value.ref 102) _ _) _ _ _)); (fail_if_success (with_reducible show wpAny _ _ (call (Value.ref 109) _ _) _ _ _)); (fail_if_success (with_reducible show wpAny _ _ (call (Value.ref 116) _ _) _ _ _)); (fail_if_success (with_reducible show wpAny _ _ (call (Value.ref 130) _ _) _ _ _)); (fail_if_success (with_reducible show wpAny _ _ (call (Value.ref 135) _ _) _ _ _)); (fail_if_success (with_reducible show wpAny _ _ (call (Value.ref 142) _ _) _ _ _)); (fail_if_success (with_reducible show wpAny _ _ (call (Value.ref 147) _ _) _ _ _)); (fail_if_success (with_reducible show wpAny _ _ (exec (Stmt.Assign _ (Expr.ListComp _ _ _ _) _) _) _ _ _)); (fail_if_success (with_reducible show wpAny _ _ (eval (Expr.ListComp _ _ _ _) _) _ _ _)); (fail_if_success (with_reducible show LCt.CompSrcT _ _ _ _ _ _ _ _ _ _ _ _ _ _ _)); (fail_if_success (with_reducible show LCg.CompSrc _ _ _ _ _ _ _ _ _ _ _ _ _ _)); (fail_if_success (with_reducible show wpAny _ _ (compareOp CmpOp.NotEq (Value.ref _) (Value.ref _)) _ _ _)); (fail_if_success (with_reducible show wpAny _ _ (compareOp CmpOp.Eq (Value.ref _) (Value.ref _)) _ _ _)); (first | (k_unfold; (try dsimp only)) | (k_end; wrow_close) | walk1 | (dsimp only; walk1) | (leave1; try dsimp only) | fail "no step"))
          rename Fr g' L' _ _ => F₈
          rename News g' L' _ _ => N₈
          have hysl : ys.length < 4 := by rw [hys.length, hln]; exact hn3
          k_dflt (refine LCt.CompSrcT.ledger (by rfl) F₈ N₈ (by k_memK) (by show ys.length ≤ sizeLine; rw [sizeLine_eq]; omega) ?_)
          intro gg2
          refine compT_ind (J := fun i us news => news = (I, oI) :: (C, oC) :: (D, LCg.lst ys') :: (c, oc) :: [(D1, listOf vsK.toArray k1), (D2, LCg.lst ys), (L' + 1 + 1 + 1, oc₁), (L' + 1 + 1 + 1 + 1, oTs'), (L' + 1 + 1, oR), (L' + 1, oS), (src, listOf #[.int sx' tx', .int sy' ty'] ns')] ∧ StrsAre us ((ts.take i).filter fun t => decide (t ∈ rw.ts))) ?_ ?_ _ 0 [] _ (Nat.zero_add _) ⟨rfl, by rw [List.take_zero]; exact .nil⟩
          · intro j2 us news2 v2 I2 oI2 C2 oC2 D3 m₃ hh2 tkk2 E'' hlt2 hJ2 hP2 hC2 hx2 F₉ N₉ off9 hne9
            obtain ⟨rfl, hus⟩ := hJ2
            have hP2' : ys[j2]? = some v2 := by simpa using hP2
            obtain ⟨y2, ty2, hy2, rfl⟩ := strs_at hys hP2'
            have lA'' := stays_list F₉.keep lA
            have tA'' := tA.keeps F₉.keep
            clear F₈ N₈ tA' lA'
            repeat' ((fail_if_success (with_reducible show wpAny _ _ (pyIter (Value.ref _)) _ _ _)); (fail_if_success (with_reducible show wpAny _ _ (call (Value.ref 74) _ _) _ _ _)); (fail_if_success (with_reducible show wpAny _ _ (call (Value.ref 81) _ _) _ _ _)); (fail_if_success (with_reducible show wpAny _ _ (call (Value.ref 102) _ _) _ _ _)); (fail_if_success (with_reducible show wpAny _ _ (call (Value.ref 109) _ _) _ _ _)); (fail_if_success (with_reducible show wpAny _ _ (call (Value.ref 116) _ _) _ _ _)); (fail_if_success (with_reducible show wpAny _ _ (call (Value.ref 130) _ _) _ _ _)); (fail_if_success (with_reducible show wpAny _ _ (call (Value.ref 135) _ _) _ _ _)); (fail_if_success (with_reducible show wpAny _ _ (call (Value.ref 142) _ _) _ _ _)); (fail_if_success (with_reducible show wpAny _ _ (call (Value.ref 147) _ _) _ _ _)); (fail_if_success (with_reducible show wpAny _ _ (eval (Expr.ListComp _ _ _ _) _) _ _ _)); (fail_if_success (with_reducible show LCt.CompSrcT _ _ _ _ _ _ _ _ _ _ _ _ _ _ _)); (fail_if_success (with_reducible show LCg.CompSrc _ _ _ _ _ _ _ _ _ _ _ _ _ _)); (fail_if_success (with_reducible show wpAny _ _ (compareOp CmpOp.NotEq (Value.ref _) (Value.ref _)) _ _ _)); (fail_if_success (with_reducible show wpAny _ _ (compareOp CmpOp.Eq (Value.ref _) (Value.ref _)) _ _ _)); (first | (k_unfold; (try dsimp only)) | (k_end; wrow_close) | walk1 | (dsimp only; walk1) | (leave1; try dsimp only) | fail "no step"))
            all_goals (rename Fr g' L' _ _ => F₁₀; rename News g' L' _ _ => N₁₀)
            all_goals (refine LCg.CompEnd.intro F₁₀ N₁₀ _ (fun p hp => hp) off9 (.inr ⟨_, by k_memK, rfl, _, rfl⟩) ⟨rfl, ?_⟩)
            all_goals (first
              | (rw [filt_yes hy2 (by assumption)]; exact strs_snoc hus _ _)
              | (rw [filt_no hy2 (by assumption)]; exact hus))
          · rintro us news2 ⟨rfl, hus⟩
            intro D3 h9 tk9 F₉ N₉ off9
            clear F₈ N₈
            repeat' ((fail_if_success (with_reducible show wpAny _ _ (pyIter (Value.ref _)) _ _ _)); (fail_if_success (with_reducible show wpAny _ _ (call (Value.ref 74) _ _) _ _ _)); (fail_if_success (with_reducible show wpAny _ _ (call (Value.ref 81) _ _) _ _ _)); (fail_if_success (with_reducible show wpAny _ _ (call (Value.ref 102) _ _) _ _ _)); (fail_if_success (with_reducible show wpAny _ _ (call (Value.ref 109) _ _) _ _ _)); (fail_if_success (with_reducible show wpAny _ _ (call (Value.ref 116) _ _) _ _ _)); (fail_if_success (with_reducible show wpAny _ _ (call (Value.ref 130) _ _) _ _ _)); (fail_if_success (with_reducible show wpAny _ _ (call (Value.ref 135) _ _) _ _ _)); (fail_if_success (with_reducible show wpAny _ _ (call (Value.ref 142) _ _) _ _ _)); (fail_if_success (with_reducible show wpAny _ _ (call (Value.ref 147) _ _) _ _ _)); (fail_if_success (with_reducible show wpAny _ _ (exec (Stmt.Assign _ (Expr.ListComp _ _ _ _) _) _) _ _ _)); (fail_if_success (with_reducible show wpAny _ _ (eval (Expr.ListComp _ _ _ _) _) _ _ _)); (fail_if_success (with_reducible show LCt.CompSrcT _ _ _ _ _ _ _ _ _ _ _ _ _ _ _)); (fail_if_success (with_reducible show LCg.CompSrc _ _ _ _ _ _ _ _ _ _ _ _ _ _)); (fail_if_success (with_reducible show wpAny _ _ (compareOp CmpOp.NotEq (Value.ref _) (Value.ref _)) _ _ _)); (fail_if_success (with_reducible show wpAny _ _ (compareOp CmpOp.Eq (Value.ref _) (Value.ref _)) _ _ _)); (first | (k_unfold; (try dsimp only)) | (k_end; wrow_close) | walk1 | (dsimp only; walk1) | (leave1; try dsimp only) | fail "no step"))
            rename Fr g' L' _ _ => F₁₀
            rename News g' L' _ _ => N₁₀
            have hus' : StrsAre us (ts.filter fun t => decide (t ∈ rw.ts)) := by have := hus; rw [show ys.toArray.size = ts.length from hys.length, List.take_length] at this; exact this
            have hrb : rw.b = true := by assumption
            refine ne_strs (xs := us) (ys := []) (ms := []) (isList_of (N₁₀ _ (List.Mem.tail _ (List.Mem.head _))).1) (isList_of (N₁₀ _ (List.Mem.head _)).1) hus' .nil (fun t ht => hok t (List.mem_filter.mp ht).1) (fun t ht => nomatch ht) (by ktr_units) ?_
            cases hq : (!decide ((ts.filter fun t => decide (t ∈ rw.ts)) = []))
            all_goals (repeat' ((fail_if_success (with_reducible show wpAny _ _ (pyIter (Value.ref _)) _ _ _)); (fail_if_success (with_reducible show wpAny _ _ (call (Value.ref 74) _ _) _ _ _)); (fail_if_success (with_reducible show wpAny _ _ (call (Value.ref 81) _ _) _ _ _)); (fail_if_success (with_reducible show wpAny _ _ (call (Value.ref 102) _ _) _ _ _)); (fail_if_success (with_reducible show wpAny _ _ (call (Value.ref 109) _ _) _ _ _)); (fail_if_success (with_reducible show wpAny _ _ (call (Value.ref 116) _ _) _ _ _)); (fail_if_success (with_reducible show wpAny _ _ (call (Value.ref 130) _ _) _ _ _)); (fail_if_success (with_reducible show wpAny _ _ (call (Value.ref 135) _ _) _ _ _)); (fail_if_success (with_reducible show wpAny _ _ (call (Value.ref 142) _ _) _ _ _)); (fail_if_success (with_reducible show wpAny _ _ (call (Value.ref 147) _ _) _ _ _)); (fail_if_success (with_reducible show wpAny _ _ (eval (Expr.ListComp _ _ _ _) _) _ _ _)); (fail_if_success (with_reducible show LCt.CompSrcT _ _ _ _ _ _ _ _ _ _ _ _ _ _ _)); (fail_if_success (with_reducible show LCg.CompSrc _ _ _ _ _ _ _ _ _ _ _ _ _ _)); (fail_if_success (with_reducible show wpAny _ _ (compareOp CmpOp.NotEq (Value.ref _) (Value.ref _)) _ _ _)); (fail_if_success (with_reducible show wpAny _ _ (compareOp CmpOp.Eq (Value.ref _) (Value.ref _)) _ _ _)); (first | (k_unfold; (try dsimp only)) | (k_end; wrow_close) | walk1 | (dsimp only; walk1) | (leave1; try dsimp only) | fail "no step")))
            all_goals (rename Fr g' L' _ _ => F₁₁; rename News g' L' _ _ => N₁₁)
            all_goals (refine EndC.intro F₁₁ N₁₁ _ (fun p hp => List.mem_cons_of_mem _ (List.mem_cons_of_mem _ hp)) off ⟨rfl, ?_⟩)
            · rw [due2_no hrw hq]; exact hys'
            · rw [due2_yes hrw hrb hq]; exact intsAre_snoc hys' _ _
        · rename Fr g' L' _ _ => F₈
          rename News g' L' _ _ => N₈
          exact EndC.intro F₈ N₈ _ (fun p hp => hp) off ⟨rfl, by rw [due2_skip hrw (by assumption)]; exact hys'⟩
      · rintro ys' news' ⟨rfl, hys'⟩
        intro Dd h7 tk7 F₇ N₇ off7
        clear F₆ N₆
        repeat' ((fail_if_success (with_reducible show wpAny _ _ (pyIter (Value.ref _)) _ _ _)); (fail_if_success (with_reducible show wpAny _ _ (call (Value.ref 74) _ _) _ _ _)); (fail_if_success (with_reducible show wpAny _ _ (call (Value.ref 81) _ _) _ _ _)); (fail_if_success (with_reducible show wpAny _ _ (call (Value.ref 102) _ _) _ _ _)); (fail_if_success (with_reducible show wpAny _ _ (call (Value.ref 109) _ _) _ _ _)); (fail_if_success (with_reducible show wpAny _ _ (call (Value.ref 116) _ _) _ _ _)); (fail_if_success (with_reducible show wpAny _ _ (call (Value.ref 130) _ _) _ _ _)); (fail_if_success (with_reducible show wpAny _ _ (call (Value.ref 135) _ _) _ _ _)); (fail_if_success (with_reducible show wpAny _ _ (call (Value.ref 142) _ _) _ _ _)); (fail_if_success (with_reducible show wpAny _ _ (call (Value.ref 147) _ _) _ _ _)); (fail_if_success (with_reducible show wpAny _ _ (eval (Expr.ListComp _ _ _ _) _) _ _ _)); (fail_if_success (with_reducible show LCt.CompSrcT _ _ _ _ _ _ _ _ _ _ _ _ _ _ _)); (fail_if_success (with_reducible show LCg.CompSrc _ _ _ _ _ _ _ _ _ _ _ _ _ _)); (fail_if_success (with_reducible show wpAny _ _ (compareOp CmpOp.NotEq (Value.ref _) (Value.ref _)) _ _ _)); (fail_if_success (with_reducible show wpAny _ _ (compareOp CmpOp.Eq (Value.ref _) (Value.ref _)) _ _ _)); (first | (k_unfold; (try dsimp only)) | (k_end; wrow_close) | walk1 | (dsimp only; walk1) | (leave1; try dsimp only) | fail "no step"))
        rename Fr g' L' _ _ => F₇
        rename News g' L' _ _ => N₇
        have hys'' : IntsAre ys' (due2 rs ts) := by have := hys'; rw [show vsK.toArray.size = rs.length from hKl, List.take_length] at this; exact this
        have k7 := F₇.keep
        k_dflt (refine' found_spec B' F₇ X' T' rfl (k7 _ _ gx') (k7 _ _ gdx') (dictOf_keep gnd' k7) lo (gt'.keep k7) hv1 (fun t => by rw [hdue t]; exact Nat.le_trans (due_len rs t) hrs) (isList_of (N₇ _ (List.Mem.tail _ (List.Mem.tail _ (List.Mem.head _)))).1) hys (by omega) ?hdp ?hu ?_; (case hdp => ktr_room); (case hu => ktr_units))
        intro r9 ys9 n9 h9 tk9 F₉ k9 fr9 hr9 hi9
        have N₉ := (news_fresh F₇ N₇ k9 fr9 hr9).1
        rw [inOrder_due hdue hnk hk30] at hi9
        clear F₇ N₇
        repeat' ((fail_if_success (with_reducible show wpAny _ _ (pyIter (Value.ref _)) _ _ _)); (fail_if_success (with_reducible show wpAny _ _ (call (Value.ref 74) _ _) _ _ _)); (fail_if_success (with_reducible show wpAny _ _ (call (Value.ref 81) _ _) _ _ _)); (fail_if_success (with_reducible show wpAny _ _ (call (Value.ref 102) _ _) _ _ _)); (fail_if_success (with_reducible show wpAny _ _ (call (Value.ref 109) _ _) _ _ _)); (fail_if_success (with_reducible show wpAny _ _ (call (Value.ref 116) _ _) _ _ _)); (fail_if_success (with_reducible show wpAny _ _ (call (Value.ref 130) _ _) _ _ _)); (fail_if_success (with_reducible show wpAny _ _ (call (Value.ref 135) _ _) _ _ _)); (fail_if_success (with_reducible show wpAny _ _ (call (Value.ref 142) _ _) _ _ _)); (fail_if_success (with_reducible show wpAny _ _ (call (Value.ref 147) _ _) _ _ _)); (fail_if_success (with_reducible show wpAny _ _ (eval (Expr.ListComp _ _ _ _) _) _ _ _)); (fail_if_success (with_reducible show LCt.CompSrcT _ _ _ _ _ _ _ _ _ _ _ _ _ _ _)); (fail_if_success (with_reducible show LCg.CompSrc _ _ _ _ _ _ _ _ _ _ _ _ _ _)); (fail_if_success (with_reducible show wpAny _ _ (compareOp CmpOp.NotEq (Value.ref _) (Value.ref _)) _ _ _)); (fail_if_success (with_reducible show wpAny _ _ (compareOp CmpOp.Eq (Value.ref _) (Value.ref _)) _ _ _)); (first | (k_unfold; (try dsimp only)) | (k_end; wrow_close) | walk1 | (dsimp only; walk1) | (leave1; try dsimp only) | fail "no step"))
        rename Fr g' L' _ _ => F₉
        rename News g' L' _ _ => N₉
        refine eq_same (isList_of (N₉ _ (List.Mem.head _)).1) (isList_of (N₉ _ (List.Mem.tail _ (List.Mem.head _))).1) hi9 hys'' (by ktr_units) ?_
        repeat' ((fail_if_success (with_reducible show wpAny _ _ (pyIter (Value.ref _)) _ _ _)); (fail_if_success (with_reducible show wpAny _ _ (call (Value.ref 74) _ _) _ _ _)); (fail_if_success (with_reducible show wpAny _ _ (call (Value.ref 81) _ _) _ _ _)); (fail_if_success (with_reducible show wpAny _ _ (call (Value.ref 102) _ _) _ _ _)); (fail_if_success (with_reducible show wpAny _ _ (call (Value.ref 109) _ _) _ _ _)); (fail_if_success (with_reducible show wpAny _ _ (call (Value.ref 116) _ _) _ _ _)); (fail_if_success (with_reducible show wpAny _ _ (call (Value.ref 130) _ _) _ _ _)); (fail_if_success (with_reducible show wpAny _ _ (call (Value.ref 135) _ _) _ _ _)); (fail_if_success (with_reducible show wpAny _ _ (call (Value.ref 142) _ _) _ _ _)); (fail_if_success (with_reducible show wpAny _ _ (call (Value.ref 147) _ _) _ _ _)); (fail_if_success (with_reducible show wpAny _ _ (eval (Expr.ListComp _ _ _ _) _) _ _ _)); (fail_if_success (with_reducible show LCt.CompSrcT _ _ _ _ _ _ _ _ _ _ _ _ _ _ _)); (fail_if_success (with_reducible show LCg.CompSrc _ _ _ _ _ _ _ _ _ _ _ _ _ _)); (fail_if_success (with_reducible show wpAny _ _ (compareOp CmpOp.NotEq (Value.ref _) (Value.ref _)) _ _ _)); (fail_if_success (with_reducible show wpAny _ _ (compareOp CmpOp.Eq (Value.ref _) (Value.ref _)) _ _ _)); (first | (k_unfold; (try dsimp only)) | (k_end; wrow_close) | walk1 | (dsimp only; walk1) | (leave1; try dsimp only) | fail "no step"))
        exact ret _ _ _ _ _ _ _ h0x h0y hyl (by assumption) (fun b o nb e => F₉.keep b o (kp' b o nb e)) (News.get N₉ (by k_memK))
end
end
section
section
variable {prog : Program} {w : World} {A A₀ : Around} {s : Shared} {K : Frag} {L : Addr} {h₀ base : Heap} {m mg mb : PySem.Str → Option Value} {p : Program} {loose : List PySem.Str} {mean : ExcName → Option Value}
/-- a lambda that stands in the heap is called -/
theorem lamEnter {env : Env} {outer : List Env} {R : Result → Shared → Prop} {name qual : PySem.Str} {params : Arguments} {body : PySem.Expr} {scope : Scope} {cl : List (PySem.Str × Addr)} {pm ctv : Value} {c' : Addr} {f : Addr} {args : Args} {binds : List (PySem.Str × Value)}
    (B : Below A₀ base outer h₀) (F : Fr h₀ L s.heap m) (X₀ : K.In h₀) (T : Top p loose mean mg mb h₀) (hA : A.frames = some (env :: outer)) (hf : env.frame = some L) (hke : env.scope.kind = .function)
    (ho : s.heap.get? f = some (kla_obj name qual params body scope cl pm c' ctv)) (hcd : s.heap.CodeRec (.ref c') qual) (hroom : A.depth < recursionLimit)
    (hbind : bindArgs (kla_fn name qual params body scope cl pm (.ref c') ctv) args = pure binds) (hloc : ∀ y ∈ binds, scope.names.lookup y.1 = some .local)
    (h : ∀ g L' h₁, Kp [] s.heap g → Fr h₀ L g m → Fr g L' h₁ (fun y => binds.reverse.lookup y) → News g L' h₁ [] → Below A base (env :: outer) g → K.In g → Top p loose mean mg mb g →
      wpAny (model prog w) (A.deeper (envX qual scope L' f (.ref c') cl)) (eval body (envX qual scope L' f (.ref c') cl))
        (fun v s' => LeaveK h₀ L m g R v s')
        (fun e s' => wpAny (model prog w) (A.deeper (envX qual scope L' f (.ref c') cl)) (leaving (envX qual scope L' f (.ref c') cl) e) (fun _ s'' => R (.error e) s'') (fun e' s'' => R (.error e') s'') s')
        { s with heap := h₁, toks := s.toks + binds.length })
    (hco : scope.isCoroutine = false) (hgen : scope.isGenerator = false) (hk : scope.kind = .function)
    (hcell : ∀ x ∈ scope.names, x.2 ≠ .cell) : codeAny (model prog w) A (.call (.ref f) args) R s := by
  obtain ⟨FG, BG, st, lv⟩ := groundX (R := R) B F (News.nil (h₀ := h₀) (L := L) (h := s.heap)) hA hf hke
  refine kla_callFunE hroom ho rfl hco hgen rfl hcd ?_
  rw [hbind]
  refine wpAny_pure (wpAny_newFunctionEnv hcell hloc (fun h₁ hns hsb => ⟨((T.nolimit).keeps F.keep).fresh _ hsb, ?_⟩) hk)
  show codeAny _ _ (.expr body (envX qual scope s.heap.objs.size f (.ref c') cl)) _ _
  have hk₁ : ∀ b o, s.heap.get? b = some o → h₁.get? b = some o := fun b o e => hsb.extBut b o (Nat.ne_of_lt (Heap.lt_size e)) (Heap.get?_push_of_some _ e)
  exact kla_codeExpr (wpAny_mono (h _ s.heap.objs.size h₁ (fun b o n e => hideAll_get _ e n) FG ⟨hns, fun b o e => hk₁ b o (of_hideAll _ e), Nat.le_of_eq (hideAll_size _ _)⟩
    News.nil BG (X₀.keeps st) (T.keeps st)) (fun v s' hl => lv _ _ hl) fun _ _ y => y)
end
theorem name_free {M : Model} {A : Around} {E : Value → Shared → Prop} {s : Shared} {env : Env} {name : PySem.Str} {pos : Pos} {c : Addr} {v : Value} {Q : Value → Shared → Prop} (hk : env.scope.kind = .function) (hl : env.kindOf name = some .free)
    (hc : env.cells.lookup name = some c) (ho : ∃ o, s.heap.get? c = some o ∧ o.data = .cell (some v)) (h : Q v s) (hn : (name == ("__classdict__" : PySem.Str)) = false := by decide) (hd : (name == ("__debug__" : PySem.Str)) = false := by decide) : wpAny M A (eval (.Name name pos) env) Q E s := by
  rw [eval_Name (hd := hd)]
  exact wpAny_bind (wpAny_standAt (wpAny_loadName_free hk hl hc ho h hn))
abbrev lamParams (p0 : Pos) : Arguments := { posonlyargs := [], args := [{ arg := PySem.Str.ofString "node", annotation := none, pos := p0 }], vararg := none, kwonlyargs := [], kw_defaults := [], kwarg := none, defaults := [] }
abbrev lamScope : Scope := { kind := .function, names := [(PySem.Str.ofString "node", .local), (PySem.Str.ofString "rows", .free)], isGenerator := false, isCoroutine := false, more := [] }
abbrev lamBody (p1 p2 p3 p4 p5 : Pos) (i : Int) : PySem.Expr := .Subscript (.Subscript (.Name (PySem.Str.ofString "rows") p1) (.Name (PySem.Str.ofString "node") p2) p3) (.Constant (.int i) 0 p4) p5
theorem cell_at {h₀ h : Heap} {L cR : Addr} {m : PySem.Str → Option Value} {v : Option Value} (F : Fr h₀ L h m) (hc : ∃ o, h₀.get? cR = some o ∧ o.data = .cell v) : ∃ o, h.get? cR = some o ∧ o.data = .cell v := by obtain ⟨o, q1, q2⟩ := hc; exact ⟨o, F.keep _ _ q1, q2⟩
section
local macro_rules | `(tactic| walk_at "eval Name") => `(tactic| (k_here; k_dflt (refine name_free (name := PySem.Str.ofString "rows") (by rfl) (by rfl) (by rfl) (by assumption) ?_)))
theorem lam_ok0 {w : World} {p : Program} {loose : List PySem.Str} {mean : ExcName → Option Value} {mg mb : PySem.Str → Option Value} {W : List Addr} {f c' cR r : Addr} {g : Heap} {rs : List RowE} {qual : PySem.Str} {pm ctv : Value} {p0 p1 p2 p3 p4 p5 : Pos}
    (hf : g.get? f = some (kla_obj (PySem.Str.ofString "<lambda>") qual (lamParams p0) (lamBody p1 p2 p3 p4 p5 0) lamScope [(PySem.Str.ofString "rows", cR)] pm c' ctv)) (hcd : g.CodeRec (.ref c') qual) (hc : ∃ o, g.get? cR = some o ∧ o.data = .cell (some (.ref r)))
    (hr : RowsAt w g r rs) (hnd : (rs.map RowE.k).Nodup) (o1 : f ∉ W) (o2 : c' ∉ W) (o3 : cR ∉ W) (o4 : r ∉ W) (o5 : ∀ e ∈ rs, e.a ∉ W) (o6 : ∀ e ∈ rs, e.l ∉ W) :
    LamOk w p loose mean mg mb W f g (fun i v => ∃ r ∈ rs, r.k = i ∧ v = .bool r.b) := by
  intro dp un gd cn cs a ccd cl outer A₀ base h₀ L m s Q E i t v B F X T hk hdp hu kp hR ret
  obtain ⟨e, he, rfl, rfl⟩ := hR
  w_top off; (have kf : (hd.heap_39 w.params).In h₀ → PySem.Challenge.rw_nu0047_01 = PySem.Challenge.rw_nu0047_01 := by (k_fill; exact fun _ => rfl)); clear kf
  have hf' := kp _ _ o1 hf
  have hcd' : s.heap.CodeRec (.ref c') qual := by obtain ⟨c, oc, vs, tq, q1, q2, q3, q4⟩ := hcd; cases q1; exact ⟨_, oc, vs, tq, rfl, kp _ _ o2 q2, q3, q4⟩
  have hc' : ∃ o, s.heap.get? cR = some o ∧ o.data = .cell (some (.ref r)) := by obtain ⟨o, q1, q2⟩ := hc; exact ⟨o, kp _ _ o3 q1, q2⟩
  have hr' := hr.kp kp o4 o5 o6
  have hva : valueAt (kvR rs) e.k = some (.ref e.a) := by
    obtain ⟨j, hj⟩ := List.getElem?_of_mem he
    exact valueAt_of_get (by rw [List.map_map]; exact hnd) (by rw [List.getElem?_map, hj]; rfl)
  refine wpAny_call ?_
  k_dflt (refine' lamEnter ?k1 ?k2 ?k3 ?k5 ?kA ?kF ?kK ?k6 ?k7 ?k8 ?k9 ?kB ?_ ?c2 ?c3 ?c4 ?c5; (case kA => exact rfl); (case kF => exact rfl); (case kK => assumption); (case k1 => k_asm); (case k2 => k_asm); (case k3 => k_asm); (case k5 => k_asm); (case k6 => assumption); (case k7 => assumption); (case k8 => ktr_room); (case k9 => exact rfl); (case c5 => decide); (case kB => exact locs rfl); (case c2 => exact rfl); (case c3 => exact rfl); (case c4 => exact rfl); k_whole; intro g' L' h' kp' FG' F' N' B' X' T'; (try dsimp only); (try k_fold))
  have hr'' := hr'.keep kp'.all
  have gR := hr''.dict
  have hc'' : ∃ o, g'.get? cR = some o ∧ o.data = .cell (some (.ref r)) := by obtain ⟨o, q1, q2⟩ := hc'; exact ⟨o, kp'.all _ _ q1, q2⟩
  rename Fr g' L' _ _ => F₂
  have hc3 := cell_at F₂ hc''
  obtain ⟨tA, lA, sA⟩ := hr''.rows e he
  repeat' ((fail_if_success (with_reducible show wpAny _ _ (pyIter (Value.ref _)) _ _ _)); (fail_if_success (with_reducible show wpAny _ _ (call (Value.ref 74) _ _) _ _ _)); (fail_if_success (with_reducible show wpAny _ _ (call (Value.ref 81) _ _) _ _ _)); (fail_if_success (with_reducible show wpAny _ _ (call (Value.ref 102) _ _) _ _ _)); (fail_if_success (with_reducible show wpAny _ _ (call (Value.ref 109) _ _) _ _ _)); (fail_if_success (with_reducible show wpAny _ _ (call (Value.ref 116) _ _) _ _ _)); (fail_if_success (with_reducible show wpAny _ _ (call (Value.ref 130) _ _) _ _ _)); (fail_if_success (with_reducible show wpAny _ _ (call (Value.ref 135) _ _) _ _ _)); (fail_if_success (with_reducible show wpAny _ _ (call (Value.ref 142) _ _) _ _ _)); (fail_if_success (with_reducible show wpAny _ _ (call (Value.ref 147) _ _) _ _ _)); (first | (k_unfold; (try dsimp only)) | (k_end; wrow_close) | walk1 | (dsimp only; walk1) | (leave1; try dsimp only) | fail "no step"))
  exact ret _ _ (by assumption) (fun b o nb e => F₂.keep b o (kp' b o nb e))
theorem lam_ok1 {w : World} {p : Program} {loose : List PySem.Str} {mean : ExcName → Option Value} {mg mb : PySem.Str → Option Value} {W : List Addr} {f c' cR r : Addr} {g : Heap} {rs : List RowE} {qual : PySem.Str} {pm ctv : Value} {p0 p1 p2 p3 p4 p5 : Pos}
    (hf : g.get? f = some (kla_obj (PySem.Str.ofString "<lambda>") qual (lamParams p0) (lamBody p1 p2 p3 p4 p5 1) lamScope [(PySem.Str.ofString "rows", cR)] pm c' ctv)) (hcd : g.CodeRec (.ref c') qual) (hc : ∃ o, g.get? cR = some o ∧ o.data = .cell (some (.ref r)))
    (hr : RowsAt w g r rs) (hnd : (rs.map RowE.k).Nodup) (o1 : f ∉ W) (o2 : c' ∉ W) (o3 : cR ∉ W) (o4 : r ∉ W) (o5 : ∀ e ∈ rs, e.a ∉ W) (o6 : ∀ e ∈ rs, e.l ∉ W) :
    LamOk w p loose mean mg mb W f g (fun i v => ∃ r ∈ rs, r.k = i ∧ v = .ref r.l) := by
  intro dp un gd cn cs a ccd cl outer A₀ base h₀ L m s Q E i t v B F X T hk hdp hu kp hR ret
  obtain ⟨e, he, rfl, rfl⟩ := hR
  w_top off; (have kf : (hd.heap_39 w.params).In h₀ → PySem.Challenge.rw_nu0047_01 = PySem.Challenge.rw_nu0047_01 := by (k_fill; exact fun _ => rfl)); clear kf
  have hf' := kp _ _ o1 hf
  have hcd' : s.heap.CodeRec (.ref c') qual := by obtain ⟨c, oc, vs, tq, q1, q2, q3, q4⟩ := hcd; cases q1; exact ⟨_, oc, vs, tq, rfl, kp _ _ o2 q2, q3, q4⟩
  have hc' : ∃ o, s.heap.get? cR = some o ∧ o.data = .cell (some (.ref r)) := by obtain ⟨o, q1, q2⟩ := hc; exact ⟨o, kp _ _ o3 q1, q2⟩
  have hr' := hr.kp kp o4 o5 o6
  have hva : valueAt (kvR rs) e.k = some (.ref e.a) := by
    obtain ⟨j, hj⟩ := List.getElem?_of_mem he
    exact valueAt_of_get (by rw [List.map_map]; exact hnd) (by rw [List.getElem?_map, hj]; rfl)
  refine wpAny_call ?_
  k_dflt (refine' lamEnter ?k1 ?k2 ?k3 ?k5 ?kA ?kF ?kK ?k6 ?k7 ?k8 ?k9 ?kB ?_ ?c2 ?c3 ?c4 ?c5; (case kA => exact rfl); (case kF => exact rfl); (case kK => assumption); (case k1 => k_asm); (case k2 => k_asm); (case k3 => k_asm); (case k5 => k_asm); (case k6 => assumption); (case k7 => assumption); (case k8 => ktr_room); (case k9 => exact rfl); (case c5 => decide); (case kB => exact locs rfl); (case c2 => exact rfl); (case c3 => exact rfl); (case c4 => exact rfl); k_whole; intro g' L' h' kp' FG' F' N' B' X' T'; (try dsimp only); (try k_fold))
  have hr'' := hr'.keep kp'.all
  have gR := hr''.dict
  have hc'' : ∃ o, g'.get? cR = some o ∧ o.data = .cell (some (.ref r)) := by obtain ⟨o, q1, q2⟩ := hc'; exact ⟨o, kp'.all _ _ q1, q2⟩
  rename Fr g' L' _ _ => F₂
  have hc3 := cell_at F₂ hc''
  obtain ⟨tA, lA, sA⟩ := hr''.rows e he
  repeat' ((fail_if_success (with_reducible show wpAny _ _ (pyIter (Value.ref _)) _ _ _)); (fail_if_success (with_reducible show wpAny _ _ (call (Value.ref 74) _ _) _ _ _)); (fail_if_success (with_reducible show wpAny _ _ (call (Value.ref 81) _ _) _ _ _)); (fail_if_success (with_reducible show wpAny _ _ (call (Value.ref 102) _ _) _ _ _)); (fail_if_success (with_reducible show wpAny _ _ (call (Value.ref 109) _ _) _ _ _)); (fail_if_success (with_reducible show wpAny _ _ (call (Value.ref 116) _ _) _ _ _)); (fail_if_success (with_reducible show wpAny _ _ (call (Value.ref 130) _ _) _ _ _)); (fail_if_success (with_reducible show wpAny _ _ (call (Value.ref 135) _ _) _ _ _)); (fail_if_success (with_reducible show wpAny _ _ (call (Value.ref 142) _ _) _ _ _)); (fail_if_success (with_reducible show wpAny _ _ (call (Value.ref 147) _ _) _ _ _)); (first | (k_unfold; (try dsimp only)) | (k_end; wrow_close) | walk1 | (dsimp only; walk1) | (leave1; try dsimp only) | fail "no step"))
  exact ret _ _ (by assumption) (fun b o nb e => F₂.keep b o (kp' b o nb e))
end
end
section
abbrev lamQual : PySem.Str := PySem.Str.ofString "law.<locals>.<lambda>"
/-- the table of the law's code: empty, or with both lambdas -/
def TabOk (ps : Array Value) (tl : List (Addr × Obj)) : Prop := ps = #[] ∨ ∃ c1 c2, ps = #[rawInt 88, rawInt 0, .ref c1, rawInt 89, rawInt 0, .ref c2] ∧
  ∀ h : Heap, (∀ p ∈ tl, h.get? p.1 = some p.2) → h.CodeRec (.ref c1) lamQual ∧ h.CodeRec (.ref c2) lamQual
theorem TabOk.more {ps : Array Value} {tl tl' : List (Addr × Obj)} (x : TabOk ps tl) (s : ∀ p ∈ tl, p ∈ tl') : TabOk ps tl' := by
  rcases x with rfl | ⟨c1, c2, e, k⟩
  · exact .inl rfl
  · exact .inr ⟨c1, c2, e, fun h hp => k h fun p q => hp p (s p q)⟩
/-- the cells of law -/
def CellOnes (oR oK oI oS : Obj) : Prop := (∃ v, oR.data = .cell v) ∧ (∃ v, oK.data = .cell v) ∧ (∃ v, oI.data = .cell v) ∧ (∃ v, oS.data = .cell v)
def TlOff (L : Addr) (l : List Addr) (tl : List (Addr × Obj)) : Prop := ∀ p ∈ tl, @LT.lt Nat _ (L + 4) p.1 ∧ ∀ a ∈ l, p.1 ≠ a
def LawJ (sl L : Addr) (_ : Nat) (m₁ : PySem.Str → Option Value) (news₁ : List (Addr × Obj)) : Prop :=
  m₁ (PySem.Str.ofString "script") = some (.ref sl) ∧ ∃ oR oK oI oS ps tl, CellOnes oR oK oI oS ∧ TabOk ps tl ∧ TlOff L [] tl ∧ news₁ = (L + 1 + 1 + 1 + 1, oR) :: (L + 1 + 1 + 1, oK) :: (L + 1 + 1, oI) :: (L + 1, oS) :: (149, tabObj ps) :: tl
theorem tw_off {L c : Addr} {o : Obj} {tl own news : List (Addr × Obj)} (hoff : TlOff L [] tl) (hdis : ∀ q ∈ news, ∀ p ∈ own, q.1 ≠ p.1) (hm : (c, o) ∈ news) (hc : @LT.lt Nat _ c (L + 5)) : ∀ p ∈ tl ++ own, p.1 ≠ c := by
  intro p hp
  rcases List.mem_append.mp hp with hp | hp
  · have := (hoff p hp).1
    exact neN (by omega)
  · exact fun e => hdis _ hm p hp e.symm
theorem all1 {m : PySem.Str → Option Value} {a : PySem.Str} {va : Value} (h1 : m a = some va) : ∀ p ∈ [(a, va)], m p.1 = some p.2 := by
  intro p hp; rw [List.mem_singleton.mp hp]; exact h1
theorem all_cons {a : Addr × Obj} {l : List (Addr × Obj)} {d : Addr} (h1 : a.1 ≠ d) (h2 : ∀ p ∈ l, p.1 ≠ d) : ∀ p ∈ a :: l, p.1 ≠ d := fun p hp => by
  rcases List.mem_cons.mp hp with rfl | hp
  · exact h1
  · exact h2 p hp
def NeA (a b : Addr) : Prop := a ≠ b
theorem NeA.l {a b : Addr} (h : NeA a b) : a ≠ b := h
theorem NeA.r {a b : Addr} (h : NeA b a) : a ≠ b := fun e => h e.symm
theorem cells_ne {L : Addr} (h : @LT.lt Nat _ 149 L) : NeA (L + 1 + 1 + 1 + 1) (L + 1 + 1 + 1) ∧ NeA (L + 1 + 1 + 1 + 1) (L + 1 + 1) ∧ NeA (L + 1 + 1 + 1 + 1) (L + 1) ∧ NeA (L + 1 + 1 + 1 + 1) 149 ∧ NeA (L + 1 + 1 + 1) (L + 1 + 1) ∧ NeA (L + 1 + 1 + 1) (L + 1) ∧ NeA (L + 1 + 1 + 1) 149 ∧
    NeA (L + 1 + 1) (L + 1) ∧ NeA (L + 1 + 1) 149 ∧ NeA (L + 1) 149 := by
  refine ⟨neN (by omega), neN (by omega), neN (by omega), neN (by omega), neN (by omega), neN (by omega), neN (by omega), neN (by omega), neN (by omega), neN (by omega)⟩
theorem bound12 {n : Nat} : ∃ k : Nat, k < 10 ∧ k ≤ 2 ∧ (if (if (2 : Int) < (n : Int) then (2 : Int) else (n : Int)) > 1 then if (2 : Int) < (n : Int) then (2 : Int) else (n : Int) else 1) = ((k : Nat) : Int) := by
  by_cases h : (2 : Int) < (n : Int)
  · exact ⟨2, by omega, by omega, by simp [h]⟩
  · by_cases h1 : n = 2
    · subst h1; exact ⟨2, by omega, by omega, by simp⟩
    · exact ⟨1, by omega, by omega, by
        have : ¬ (n : Int) > 1 := by omega
        simp [h, this]⟩
theorem pack_law {P : Prop} {g h : Heap} {L c1 c2 c3 c4 : Addr} {o1 o2 o3 o4 : Obj} {v1 v2 v3 v4 : Option Value} {rest : List (Addr × Obj)} (N : News g L h ((c1, o1) :: (c2, o2) :: (c3, o3) :: (c4, o4) :: rest))
    (e1 : o1.data = .cell v1) (e2 : o2.data = .cell v2) (e3 : o3.data = .cell v3) (e4 : o4.data = .cell v4)
    (k : ∀ o1 o2 o3 o4, News g L h ((c1, o1) :: (c2, o2) :: (c3, o3) :: (c4, o4) :: rest) → CellOnes o1 o2 o3 o4 → P) : P := k o1 o2 o3 o4 N ⟨⟨_, e1⟩, ⟨_, e2⟩, ⟨_, e3⟩, ⟨_, e4⟩⟩
end
section
def NeAll (a : Addr) : List Addr → Prop
  | [] => True
  | b :: r => NeA a b ∧ NeAll a r
def NePw : List Addr → Prop
  | [] => True
  | a :: r => NeAll a r ∧ NePw r
theorem neAll_of {a : Addr} : ∀ {l : List Addr}, a ∉ l → NeAll a l
  | [], _ => trivial
  | b :: _, h => ⟨fun e => h (e ▸ List.mem_cons_self ..), neAll_of fun q => h (List.mem_cons_of_mem _ q)⟩
theorem nePw_of : ∀ {l : List Addr}, l.Nodup → NePw l
  | [], _ => trivial
  | _ :: _, h => ⟨neAll_of (List.nodup_cons.mp h).1, nePw_of (List.nodup_cons.mp h).2⟩
def AllOff (tw : List (Addr × Obj)) : List Addr → Prop
  | [] => True
  | a :: r => (∀ p ∈ tw, p.1 ≠ a) ∧ AllOff tw r
theorem allOff_of {tw : List (Addr × Obj)} : ∀ {l : List Addr}, (∀ p ∈ tw, p.1 ∉ l) → AllOff tw l
  | [], _ => trivial
  | _ :: _, h => ⟨fun p hp e => h p hp (e ▸ List.mem_cons_self ..), allOff_of fun p hp q => h p hp (List.mem_cons_of_mem _ q)⟩
theorem allLt_off {d : Addr} : ∀ {l : List (Addr × Obj)}, AllLt d l → ∀ p ∈ l, p.1 ≠ d
  | [], _, _, h => nomatch h
  | q :: _, x, p, h => by
    rcases List.mem_cons.mp h with rfl | h
    · exact Nat.ne_of_lt x.1
    · exact allLt_off x.2 p h
theorem allLt_trans {d e : Addr} (h : @LT.lt Nat _ d e) : ∀ {l : List (Addr × Obj)}, AllLt d l → AllLt e l
  | [], _ => trivial
  | _ :: _, x => ⟨Nat.lt_trans x.1 h, allLt_trans h x.2⟩
/-- one key's record: its texts, its rows -/
structure Rec where
  name : PySem.Str
  d : Addr
  es : List TE
  r : Addr
  rs : List RowE
structure RecOk (src : Addr) (R : Rec) : Prop where
  due : ∀ t, getT R.es t = due R.rs t
  len : R.rs.length ≤ 9
  ts : ∀ r ∈ R.rs, r.ts.length ≤ 3
  keys : R.rs.Pairwise (fun a b => a.k < b.k)
  k30 : ∀ r ∈ R.rs, 0 ≤ r.k ∧ r.k < 30
  off1 : ∀ e ∈ R.es, src ≠ e.l
  off2 : ∀ e ∈ R.rs, src ≠ e.l
def Stands (h : Heap) (tl : List (Addr × Obj)) : Prop := ∀ p ∈ tl, h.get? p.1 = some p.2
def Bears (w : World) (tl : List (Addr × Obj)) (recs : List Rec) : Prop := ∀ h, Stands h tl → ∀ R ∈ recs, TxAt w h R.d R.es ∧ RowsAt w h R.r R.rs
abbrev kvK (recs : List Rec) : List (PySem.Str × Value) := recs.map fun R => (R.name, Value.ref R.r)
abbrev kvN (recs : List Rec) : List (PySem.Str × Value) := recs.map fun R => (R.name, Value.ref R.d)
abbrev asL (L kn nd x dx src : Addr) : List Addr := [L + 1 + 1 + 1 + 1, L + 1 + 1 + 1, L + 1 + 1, L + 1, kn, nd, x, dx, src, 149]
abbrev ledL (w : World) (L kn nd x dx src : Addr) (tkx : Tok) (oR oK oI oS okn ond : Obj) (sx sy : Int) (tx ty : Tok) (ns : Nat) (ps : Array Value) (tl : List (Addr × Obj)) : List (Addr × Obj) :=
  (L + 1 + 1 + 1 + 1, oR) :: (L + 1 + 1 + 1, oK) :: (L + 1 + 1, oI) :: (L + 1, oS) :: (kn, okn) :: (nd, ond) :: (x, instObj 91 dx) :: (dx, ixDict w tkx nd 1) :: (src, listOf #[.int sx tx, .int sy ty] ns) :: (149, tabObj ps) :: tl
abbrev led10 (w : World) (L kn nd x dx src : Addr) (tkx : Tok) (oR oK oI oS okn ond : Obj) (sx sy : Int) (tx ty : Tok) (ns : Nat) (ps : Array Value) : List (Addr × Obj) :=
  [(L + 1 + 1 + 1 + 1, oR), (L + 1 + 1 + 1, oK), (L + 1 + 1, oI), (L + 1, oS), (kn, okn), (nd, ond), (x, instObj 91 dx), (dx, ixDict w tkx nd 1), (src, listOf #[.int sx tx, .int sy ty] ns), (149, tabObj ps)]
theorem led_mem {w : World} {L kn nd x dx src : Addr} {tkx : Tok} {oR oK oI oS okn ond : Obj} {sx sy : Int} {tx ty : Tok} {ns : Nat} {ps : Array Value} {tl : List (Addr × Obj)} {q : Addr × Obj} : q ∈ ledL w L kn nd x dx src tkx oR oK oI oS okn ond sx sy tx ty ns ps tl ↔ q ∈ led10 w L kn nd x dx src tkx oR oK oI oS okn ond sx sy tx ty ns ps ∨ q ∈ tl := List.mem_append (s := led10 w L kn nd x dx src tkx oR oK oI oS okn ond sx sy tx ty ns ps) (t := tl)
theorem led10_as {w : World} {L kn nd x dx src : Addr} {tkx : Tok} {oR oK oI oS okn ond : Obj} {sx sy : Int} {tx ty : Tok} {ns : Nat} {ps : Array Value} {q : Addr × Obj} (h : q ∈ led10 w L kn nd x dx src tkx oR oK oI oS okn ond sx sy tx ty ns ps) : q.1 ∈ asL L kn nd x dx src := List.mem_map_of_mem (f := fun p : Addr × Obj => p.1) h
theorem as_led10 {w : World} {L kn nd x dx src : Addr} {tkx : Tok} {oR oK oI oS okn ond : Obj} {sx sy : Int} {tx ty : Tok} {ns : Nat} {ps : Array Value} {a : Addr} (h : a ∈ asL L kn nd x dx src) : ∃ o, (a, o) ∈ led10 w L kn nd x dx src tkx oR oK oI oS okn ond sx sy tx ty ns ps := by
  obtain ⟨⟨b, o⟩, hb, rfl⟩ := List.mem_map.mp (show a ∈ (led10 w L kn nd x dx src tkx oR oK oI oS okn ond sx sy tx ty ns ps).map (fun p : Addr × Obj => p.1) from h)
  exact ⟨o, hb⟩
/-- what the loop over the names keeps: i keys are filled -/
def NamesJ (w : World) (sl L kn nd x dx src : Addr) (tkx : Tok) (oK oI oS : Obj) (oc : Addr → Prop) (own : List (Addr × Obj)) (names : List PySem.Str) (i : Nat) (m₁ : PySem.Str → Option Value) (news₁ : List (Addr × Obj)) : Prop :=
  m₁ (PySem.Str.ofString "script") = some (.ref sl) ∧ ∃ oR okn ond sx sy tx ty ns ps recs tc tl, (∃ v, oR.data = .cell v) ∧ TabOk ps tc ∧ (∀ p ∈ tc, p ∈ tl ∧ oc p.1) ∧ (∀ p ∈ own, p ∈ tl) ∧ okn.IsDictOf (strKind PG w) (kvK recs) ∧ ond.IsDictOf (strKind PG w) (kvN recs) ∧
    0 ≤ sx ∧ 0 ≤ sy ∧ sy < 2147483647 ∧ recs.map Rec.name = names.take i ∧ (∀ R ∈ recs, RecOk src R) ∧ Bears w tl recs ∧ (∀ p ∈ tl, p.1 ∉ asL L kn nd x dx src) ∧ news₁ = ledL w L kn nd x dx src tkx oR oK oI oS okn ond sx sy tx ty ns ps tl
def RowsBear (tr : List (Addr × Obj)) (rs : List RowE) : Prop := (∀ h, Stands h tr → ∀ e ∈ rs, IsTup h e.a #[.bool e.b, .ref e.l] ∧ h.IsList e.l e.vs.toArray ∧ StrsAre e.vs e.ts) ∧ ∀ e ∈ rs, (∃ o, (e.l, o) ∈ tr) ∧ ∃ o, (e.a, o) ∈ tr
def keysTo (i : Nat) : List Int := (List.range i).map fun j => 3 * ((j : Nat) : Int) + 1
/-- what the loop over the nodes keeps: i rows are made -/
def NodeJ (w : World) (sl L kn nd x dx src r : Addr) (tkx : Tok) (oR oK oI oS okn ond : Obj) (ps : Array Value) (tw : List (Addr × Obj)) (y : PySem.Str) (ky : Tok) (i : Nat) (m₁ : PySem.Str → Option Value) (news₁ : List (Addr × Obj)) : Prop :=
  m₁ (PySem.Str.ofString "script") = some (.ref sl) ∧ m₁ (PySem.Str.ofString "name") = some (.str y ky) ∧ ∃ orr sx sy tx ty ns rs tr, 0 ≤ sx ∧ 0 ≤ sy ∧ sy < 2147483647 ∧ orr.IsDictOf (intKind PG w) (kvR rs) ∧ rs.map RowE.k = keysTo i ∧ (∀ r ∈ rs, r.ts.length ≤ 3) ∧ RowsBear tr rs ∧
    (∀ p ∈ tr, p.1 ∉ r :: asL L kn nd x dx src) ∧ (∀ p ∈ tr, ∀ q ∈ tw, q.1 ≠ p.1) ∧ news₁ = (r, orr) :: ledL w L kn nd x dx src tkx oR oK oI oS okn ond sx sy tx ty ns ps (tr ++ tw)
theorem pack_rows {P : Prop} {w : World} {g h : Heap} {L kn nd x dx src r : Addr} {tkx : Tok} {orr oR oK oI oS okn ond : Obj} {sx sy : Int} {tx ty : Tok} {ns : Nat} {ps : Array Value} {tl : List (Addr × Obj)}
    (N : News g L h ((r, orr) :: ledL w L kn nd x dx src tkx oR oK oI oS okn ond sx sy tx ty ns ps tl)) (e : oR.data = .cell (some (.ref r))) (dr : orr.IsDictOf (intKind PG w) []) (lo : (r == sysModules) = false)
    (l1 : (@LT.lt Nat _ (L + 1 + 1 + 1 + 1) r) ∧ (@LT.lt Nat _ (L + 1 + 1 + 1) r) ∧ (@LT.lt Nat _ (L + 1 + 1) r) ∧ (@LT.lt Nat _ (L + 1) r) ∧ (@LT.lt Nat _ kn r) ∧ (@LT.lt Nat _ nd r) ∧ (@LT.lt Nat _ x r) ∧ (@LT.lt Nat _ dx r) ∧ (@LT.lt Nat _ src r) ∧ (@LT.lt Nat _ 149 r) ∧ AllLt r tl)
    (k : ∀ r orr oR, News g L h ((r, orr) :: ledL w L kn nd x dx src tkx oR oK oI oS okn ond sx sy tx ty ns ps tl) → oR.data = .cell (some (.ref r)) → orr.IsDictOf (intKind PG w) [] → (r == sysModules) = false → NeAll r (asL L kn nd x dx src) → (∀ p ∈ tl, p.1 ≠ r) → P) : P := by
  refine k r orr oR N e dr lo ⟨?_, ?_, ?_, ?_, ?_, ?_, ?_, ?_, ?_, ?_, trivial⟩ (allLt_off l1.2.2.2.2.2.2.2.2.2.2)
  · exact Nat.ne_of_gt l1.1
  · exact Nat.ne_of_gt l1.2.1
  · exact Nat.ne_of_gt l1.2.2.1
  · exact Nat.ne_of_gt l1.2.2.2.1
  · exact Nat.ne_of_gt l1.2.2.2.2.1
  · exact Nat.ne_of_gt l1.2.2.2.2.2.1
  · exact Nat.ne_of_gt l1.2.2.2.2.2.2.1
  · exact Nat.ne_of_gt l1.2.2.2.2.2.2.2.1
  · exact Nat.ne_of_gt l1.2.2.2.2.2.2.2.2.1
  · exact Nat.ne_of_gt l1.2.2.2.2.2.2.2.2.2.1
theorem not_mem_ne {a : Addr} : ∀ {l : List Addr}, NeAll a l → a ∉ l
  | [], _, h => nomatch h
  | _ :: _, x, h => by
    rcases List.mem_cons.mp h with rfl | h
    · exact x.1 rfl
    · exact not_mem_ne x.2 h
/-- a turn's tail: the ledger's own and the iterator's -/
theorem off_tw {as : List Addr} {tl own news : List (Addr × Obj)} (h : ∀ p ∈ tl, p.1 ∉ as) (ha : ∀ a ∈ as, ∃ o, (a, o) ∈ news) (hdis : ∀ q ∈ news, ∀ p ∈ own, q.1 ≠ p.1) : ∀ p ∈ tl ++ own, p.1 ∉ as := by
  intro p hp hm
  rcases List.mem_append.mp hp with hp | hp
  · exact h p hp hm
  · obtain ⟨o, ho⟩ := ha _ hm
    exact hdis _ ho p hp rfl
theorem led_has {w : World} {L kn nd x dx src : Addr} {tkx : Tok} {oR oK oI oS okn ond : Obj} {sx sy : Int} {tx ty : Tok} {ns : Nat} {ps : Array Value} {tl : List (Addr × Obj)} :
    ∀ a ∈ asL L kn nd x dx src, ∃ o, (a, o) ∈ ledL w L kn nd x dx src tkx oR oK oI oS okn ond sx sy tx ty ns ps tl := by
  intro a ha
  obtain ⟨o, h⟩ := as_led10 (w := w) (tkx := tkx) (oR := oR) (oK := oK) (oI := oI) (oS := oS) (okn := okn) (ond := ond) (sx := sx) (sy := sy) (tx := tx) (ty := ty) (ns := ns) (ps := ps) ha
  exact ⟨o, led_mem.mpr (.inl h)⟩
theorem dec_cons {a b : Addr} {l : List Addr} (h : @LT.lt Nat _ b a) (p : (b :: l).Pairwise (fun a b => @LT.lt Nat _ b a)) : (a :: b :: l).Pairwise (fun a b => @LT.lt Nat _ b a) :=
  List.pairwise_cons.mpr ⟨fun c hc => (List.mem_cons.mp hc).elim (fun e => e ▸ h) fun hc => Nat.lt_trans (List.rel_of_pairwise_cons p hc) h, p⟩
theorem nodupL {L kn nd x dx src : Addr} (hL : @LT.lt Nat _ 149 L) (q1 : NeA (L + 1 + 1 + 1 + 1) src) (q2 : NeA (L + 1 + 1 + 1) src) (q3 : NeA (L + 1 + 1) src) (q4 : NeA (L + 1) src) (q5 : NeA 149 src)
    (a1 : @LT.lt Nat _ src dx ∧ @LT.lt Nat _ (L + 1 + 1 + 1 + 1) dx) (a2 : @LT.lt Nat _ dx x) (a3 : @LT.lt Nat _ x nd) (a4 : @LT.lt Nat _ nd kn) : (asL L kn nd x dx src).Nodup := by
  have s1 : ([kn, nd, x, dx, L + 1 + 1 + 1 + 1, L + 1 + 1 + 1, L + 1 + 1, L + 1, 149] : List Addr).Pairwise (fun a b => @LT.lt Nat _ b a) :=
    dec_cons a4 (dec_cons a3 (dec_cons a2 (dec_cons a1.2 (dec_cons (Nat.lt_succ_self _) (dec_cons (Nat.lt_succ_self _) (dec_cons (Nat.lt_succ_self _) (dec_cons (Nat.lt_succ_of_lt hL) (List.pairwise_singleton _ _))))))))
  have s2 : ([kn, nd, x, dx, L + 1 + 1 + 1 + 1, L + 1 + 1 + 1, L + 1 + 1, L + 1, 149] : List Addr).Nodup := s1.imp fun h => Nat.ne_of_gt h
  have s3 : (src :: [kn, nd, x, dx, L + 1 + 1 + 1 + 1, L + 1 + 1 + 1, L + 1 + 1, L + 1, 149]).Nodup := by
    refine List.nodup_cons.mpr ⟨fun h => ?_, s2⟩
    have lx := Nat.lt_trans a1.1 a2
    have ln := Nat.lt_trans lx a3
    have lk := Nat.lt_trans ln a4
    simp only [List.mem_cons, List.not_mem_nil, or_false] at h
    rcases h with h | h | h | h | h | h | h | h | h
    · exact Nat.ne_of_lt lk h
    · exact Nat.ne_of_lt ln h
    · exact Nat.ne_of_lt lx h
    · exact Nat.ne_of_lt a1.1 h
    · exact q1 h.symm
    · exact q2 h.symm
    · exact q3 h.symm
    · exact q4 h.symm
    · exact q5 h.symm
  refine List.Perm.nodup ?_ s3
  have p1 : (src :: ([kn, nd, x, dx] ++ ([L + 1 + 1 + 1 + 1, L + 1 + 1 + 1, L + 1 + 1, L + 1] ++ [149]))).Perm ([kn, nd, x, dx] ++ src :: ([L + 1 + 1 + 1 + 1, L + 1 + 1 + 1, L + 1 + 1, L + 1] ++ [149])) := List.perm_middle.symm
  have p2 : ([kn, nd, x, dx] ++ src :: ([L + 1 + 1 + 1 + 1, L + 1 + 1 + 1, L + 1 + 1, L + 1] ++ [149])).Perm ([kn, nd, x, dx] ++ ([L + 1 + 1 + 1 + 1, L + 1 + 1 + 1, L + 1 + 1, L + 1] ++ src :: [149])) := List.Perm.append_left _ List.perm_middle.symm
  have p3 : ([kn, nd, x, dx] ++ ([L + 1 + 1 + 1 + 1, L + 1 + 1 + 1, L + 1 + 1, L + 1] ++ src :: [149])).Perm ([L + 1 + 1 + 1 + 1, L + 1 + 1 + 1, L + 1 + 1, L + 1] ++ ([kn, nd, x, dx] ++ src :: [149])) := by
    rw [← List.append_assoc, ← List.append_assoc]
    exact List.Perm.append_right _ List.perm_append_comm
  exact p1.trans (p2.trans p3)
/-- the objects of a turn's start, named -/
theorem pack_turn {P : Prop} {w : World} {g h : Heap} {L kn nd x dx src dt : Addr} {tkx : Tok} {ot oR oK oI oS okn ond : Obj} {sx sy : Int} {tx ty : Tok} {ns : Nat} {ps : Array Value} {tl : List (Addr × Obj)}
    (N : News g L h ((dt, ot) :: (kn, okn) :: (nd, ond) :: (x, instObj 91 dx) :: (dx, ixDict w tkx nd 1) :: (src, listOf #[.int sx tx, .int sy ty] ns) :: (L + 1 + 1 + 1 + 1, oR) :: (L + 1 + 1 + 1, oK) :: (L + 1 + 1, oI) :: (L + 1, oS) :: (149, tabObj ps) :: tl))
    (l1 : (@LT.lt Nat _ src dx) ∧ (@LT.lt Nat _ (L + 1 + 1 + 1 + 1) dx) ∧ (@LT.lt Nat _ (L + 1 + 1 + 1) dx) ∧ (@LT.lt Nat _ (L + 1 + 1) dx) ∧ (@LT.lt Nat _ (L + 1) dx) ∧ (@LT.lt Nat _ 149 dx) ∧ AllLt dx tl) (l2 : @LT.lt Nat _ dx x)
    (l3 : (@LT.lt Nat _ x nd) ∧ (@LT.lt Nat _ dx nd) ∧ (@LT.lt Nat _ src nd) ∧ (@LT.lt Nat _ (L + 1 + 1 + 1 + 1) nd) ∧ (@LT.lt Nat _ (L + 1 + 1 + 1) nd) ∧ (@LT.lt Nat _ (L + 1 + 1) nd) ∧ (@LT.lt Nat _ (L + 1) nd) ∧ (@LT.lt Nat _ 149 nd) ∧ AllLt nd tl)
    (l4 : (@LT.lt Nat _ nd kn) ∧ (@LT.lt Nat _ x kn) ∧ (@LT.lt Nat _ dx kn) ∧ (@LT.lt Nat _ src kn) ∧ (@LT.lt Nat _ (L + 1 + 1 + 1 + 1) kn) ∧ (@LT.lt Nat _ (L + 1 + 1 + 1) kn) ∧ (@LT.lt Nat _ (L + 1 + 1) kn) ∧ (@LT.lt Nat _ (L + 1) kn) ∧ (@LT.lt Nat _ 149 kn) ∧ AllLt kn tl)
    (hL : @LT.lt Nat _ 149 L) (q1 : NeA (L + 1 + 1 + 1 + 1) src) (q2 : NeA (L + 1 + 1 + 1) src) (q3 : NeA (L + 1 + 1) src) (q4 : NeA (L + 1) src) (q5 : NeA 149 src)
    (w1 : ∀ p ∈ tl, p.1 ≠ L + 1 + 1 + 1 + 1) (w2 : ∀ p ∈ tl, p.1 ≠ L + 1 + 1 + 1) (w3 : ∀ p ∈ tl, p.1 ≠ L + 1 + 1) (w4 : ∀ p ∈ tl, p.1 ≠ L + 1) (w5 : ∀ p ∈ tl, p.1 ≠ 149) (w6 : ∀ p ∈ tl, p.1 ≠ src)
    (dk : okn.IsDictOf (strKind PG w) []) (dn : ond.IsDictOf (strKind PG w) []) (lok : (kn == sysModules) = false) (lon : (nd == sysModules) = false)
    (cS : oS.data = .cell (some (.ref src))) (cI : oI.data = .cell (some (.ref x))) (cK : oK.data = .cell (some (.ref kn)))
    (k : ∀ kn nd x dx tkx okn ond oK oI oS, News g L h (ledL w L kn nd x dx src tkx oR oK oI oS okn ond sx sy tx ty ns ps tl) → (asL L kn nd x dx src).Nodup → (∀ p ∈ tl, p.1 ∉ asL L kn nd x dx src) → okn.IsDictOf (strKind PG w) [] → ond.IsDictOf (strKind PG w) [] →
      (kn == sysModules) = false → (nd == sysModules) = false → oS.data = .cell (some (.ref src)) → oI.data = .cell (some (.ref x)) → oK.data = .cell (some (.ref kn)) → P) : P := by
  refine k kn nd x dx tkx okn ond oK oI oS (sub_news N ?_) (nodupL hL q1 q2 q3 q4 q5 ⟨l1.1, l1.2.1⟩ l2 l3.1 l4.1) ?_ dk dn lok lon cS cI cK
  · intro p hp
    rcases List.mem_append.mp (show p ∈ [(L + 1 + 1 + 1 + 1, oR), (L + 1 + 1 + 1, oK), (L + 1 + 1, oI), (L + 1, oS)] ++ ([(kn, okn), (nd, ond), (x, instObj 91 dx), (dx, ixDict w tkx nd 1), (src, listOf #[.int sx tx, .int sy ty] ns)] ++ (149, tabObj ps) :: tl) from hp) with h | h
    · exact List.mem_cons_of_mem _ (List.mem_append_right [(kn, okn), (nd, ond), (x, instObj 91 dx), (dx, ixDict w tkx nd 1), (src, listOf #[.int sx tx, .int sy ty] ns)] (List.mem_append_left ((149, tabObj ps) :: tl) h))
    · rcases List.mem_append.mp h with h | h
      · exact List.mem_cons_of_mem _ (List.mem_append_left ([(L + 1 + 1 + 1 + 1, oR), (L + 1 + 1 + 1, oK), (L + 1 + 1, oI), (L + 1, oS)] ++ (149, tabObj ps) :: tl) h)
      · exact List.mem_cons_of_mem _ (List.mem_append_right [(kn, okn), (nd, ond), (x, instObj 91 dx), (dx, ixDict w tkx nd 1), (src, listOf #[.int sx tx, .int sy ty] ns)] (List.mem_append_right [(L + 1 + 1 + 1 + 1, oR), (L + 1 + 1 + 1, oK), (L + 1 + 1, oI), (L + 1, oS)] h))
  · intro p hp hm
    simp only [List.mem_cons, List.not_mem_nil, or_false] at hm
    rcases hm with h | h | h | h | h | h | h | h | h | h
    · exact w1 p hp h
    · exact w2 p hp h
    · exact w3 p hp h
    · exact w4 p hp h
    · exact allLt_off l4.2.2.2.2.2.2.2.2.2 p hp h
    · exact allLt_off l3.2.2.2.2.2.2.2.2 p hp h
    · exact allLt_off (allLt_trans l2 l1.2.2.2.2.2.2) p hp h
    · exact allLt_off l1.2.2.2.2.2.2 p hp h
    · exact w6 p hp h
    · exact w5 p hp h
theorem ledr_has {w : World} {L kn nd x dx src r : Addr} {tkx : Tok} {orr oR oK oI oS okn ond : Obj} {sx sy : Int} {tx ty : Tok} {ns : Nat} {ps : Array Value} {tl : List (Addr × Obj)} :
    ∀ a ∈ r :: asL L kn nd x dx src, ∃ o, (a, o) ∈ (r, orr) :: ledL w L kn nd x dx src tkx oR oK oI oS okn ond sx sy tx ty ns ps tl := by
  intro a ha
  rcases List.mem_cons.mp ha with rfl | ha
  · exact ⟨_, List.Mem.head _⟩
  · obtain ⟨o, ho⟩ := led_has (w := w) (tkx := tkx) (oR := oR) (oK := oK) (oI := oI) (oS := oS) (okn := okn) (ond := ond) (sx := sx) (sy := sy) (tx := tx) (ty := ty) (ns := ns) (ps := ps) (tl := tl) a ha
    exact ⟨o, List.Mem.tail _ ho⟩
theorem off_cons {r : Addr} {as : List Addr} {tl : List (Addr × Obj)} (h : ∀ p ∈ tl, p.1 ∉ as) (h1 : ∀ p ∈ tl, p.1 ≠ r) : ∀ p ∈ tl, p.1 ∉ r :: as := fun p hp hm => by
  rcases List.mem_cons.mp hm with e | hm
  · exact h1 p hp e
  · exact h p hp hm
theorem off_app {as : List Addr} {a b : List (Addr × Obj)} (h : ∀ p ∈ a, p.1 ∉ as) (h1 : ∀ p ∈ b, p.1 ∉ as) : ∀ p ∈ a ++ b, p.1 ∉ as := fun p hp => (List.mem_append.mp hp).elim (h p) (h1 p)
theorem item3 {n i : Nat} {v : Value} {a b c : PySem.Str} {ta tb tc : Tok} (h : ([Value.str a ta, .str b tb, .str c tc].take n)[i]? = some v) : ∃ y k, v = .str y k ∧ [a, b, c][i]? = some y ∧ i < 3 := by
  have h2 : [Value.str a ta, .str b tb, .str c tc][i]? = some v := by
    rw [List.getElem?_take] at h
    split at h
    · exact h
    · cases h
  match i, h2 with
  | 0, h2 => cases h2; exact ⟨_, _, rfl, rfl, by omega⟩
  | 1, h2 => cases h2; exact ⟨_, _, rfl, rfl, by omega⟩
  | 2, h2 => cases h2; exact ⟨_, _, rfl, rfl, by omega⟩
theorem pick3 {a b c : Value} : ∀ {n : Nat}, n < 4 → slicePick #[a, b, c] none (some (n : Int)) none = ([a, b, c].take n).toArray
  | 0, _ | 1, _ | 2, _ | 3, _ => by rw [kms_pick_eq]; rfl
end
section
theorem led_cases {w : World} {L kn nd x dx src : Addr} {tkx : Tok} {oR oK oI oS okn ond : Obj} {sx sy : Int} {tx ty : Tok} {ns : Nat} {ps : Array Value} {tl : List (Addr × Obj)} {q : Addr × Obj}
    (h : q ∈ ledL w L kn nd x dx src tkx oR oK oI oS okn ond sx sy tx ty ns ps tl) : q.1 ∈ asL L kn nd x dx src ∨ q ∈ tl := by
  exact (led_mem.mp h).imp led10_as id
theorem led_tail {w : World} {L kn nd x dx src : Addr} {tkx : Tok} {oR oK oI oS okn ond : Obj} {sx sy : Int} {tx ty : Tok} {ns : Nat} {ps : Array Value} {tl : List (Addr × Obj)} {q : Addr × Obj}
    (h : q ∈ tl) : q ∈ ledL w L kn nd x dx src tkx oR oK oI oS okn ond sx sy tx ty ns ps tl := by
  exact led_mem.mpr (.inr h)
theorem led_mono {w : World} {L kn nd x dx src : Addr} {tkx : Tok} {oR oK oI oS okn ond : Obj} {sx sy : Int} {tx ty : Tok} {ns : Nat} {ps : Array Value} {tl tl' : List (Addr × Obj)} {q : Addr × Obj}
    (h : q ∈ ledL w L kn nd x dx src tkx oR oK oI oS okn ond sx sy tx ty ns ps tl) (s : ∀ p ∈ tl, p ∈ tl') : q ∈ ledL w L kn nd x dx src tkx oR oK oI oS okn ond sx sy tx ty ns ps tl' := by
  exact led_mem.mpr ((led_mem.mp h).imp id (s q))
theorem keysTo_succ (j : Nat) : keysTo (j + 1) = keysTo j ++ [3 * (j : Int) + 1] := by simp [keysTo, List.range_succ]
theorem keysTo_lt {j : Nat} {k : Int} (h : k ∈ keysTo j) : k < 3 * (j : Int) + 1 ∧ 0 ≤ k := by
  simp only [keysTo, List.mem_map, List.mem_range] at h
  obtain ⟨a, ha, rfl⟩ := h
  omega
theorem keysTo_pw (n : Nat) : (keysTo n).Pairwise (· < ·) := by
  unfold keysTo
  rw [List.pairwise_map]
  exact List.pairwise_lt_range.imp fun h => by omega
theorem stored_newK {K : Type} [DecidableEq K] {kvs : List (K × Value)} {k : K} {v : Value} (h : ∀ kv ∈ kvs, ¬ kv.1 = k) : stored kvs k v = kvs ++ [(k, v)] := by
  unfold stored
  have h1 : kvs.any (fun kv => decide (kv.1 = k)) = false := by
    rw [List.any_eq_false]
    intro kv hkv
    simpa using h kv hkv
  rw [h1]; simp
theorem lt_notin {t r L kn nd x dx src : Addr} {tl : List (Addr × Obj)}
    (l1 : (@LT.lt Nat _ r t) ∧ (@LT.lt Nat _ (L + 1 + 1 + 1 + 1) t) ∧ (@LT.lt Nat _ (L + 1 + 1 + 1) t) ∧ (@LT.lt Nat _ (L + 1 + 1) t) ∧ (@LT.lt Nat _ (L + 1) t) ∧ (@LT.lt Nat _ kn t) ∧ (@LT.lt Nat _ nd t) ∧ (@LT.lt Nat _ x t) ∧ (@LT.lt Nat _ dx t) ∧ (@LT.lt Nat _ src t) ∧ (@LT.lt Nat _ 149 t) ∧ AllLt t tl) :
    t ∉ r :: asL L kn nd x dx src ∧ ∀ p ∈ tl, p.1 ≠ t := by
  obtain ⟨l0, l1, l2, l3, l4, l5, l6, l7, l8, l9, l10, l11⟩ := l1
  refine ⟨fun h => ?_, allLt_off l11⟩
  simp only [List.mem_cons, List.not_mem_nil, or_false] at h
  rcases h with e | e | e | e | e | e | e | e | e | e | e
  · exact Nat.ne_of_gt l0 e
  · exact Nat.ne_of_gt l1 e
  · exact Nat.ne_of_gt l2 e
  · exact Nat.ne_of_gt l3 e
  · exact Nat.ne_of_gt l4 e
  · exact Nat.ne_of_gt l5 e
  · exact Nat.ne_of_gt l6 e
  · exact Nat.ne_of_gt l7 e
  · exact Nat.ne_of_gt l8 e
  · exact Nat.ne_of_gt l9 e
  · exact Nat.ne_of_gt l10 e
theorem ne_notin {D r L kn nd x dx src : Addr} (h : NeA r D ∧ NeA (L + 1 + 1 + 1 + 1) D ∧ NeA (L + 1 + 1 + 1) D ∧ NeA (L + 1 + 1) D ∧ NeA (L + 1) D ∧ NeA kn D ∧ NeA nd D ∧ NeA x D ∧ NeA dx D ∧ NeA src D ∧ NeA 149 D) : D ∉ r :: asL L kn nd x dx src := by
  obtain ⟨l0, l1, l2, l3, l4, l5, l6, l7, l8, l9, l10⟩ := h
  intro h
  simp only [List.mem_cons, List.not_mem_nil, or_false] at h
  rcases h with e | e | e | e | e | e | e | e | e | e | e
  · exact l0 e.symm
  · exact l1 e.symm
  · exact l2 e.symm
  · exact l3 e.symm
  · exact l4 e.symm
  · exact l5 e.symm
  · exact l6 e.symm
  · exact l7 e.symm
  · exact l8 e.symm
  · exact l9 e.symm
  · exact l10 e.symm
abbrev tupBR (b : Bool) (D : Addr) : Obj := { cls := .type "tuple", data := .seq #[.bool b, .ref D] }
theorem node_end {w : World} {g h' : Heap} {L sl kn nd x dx src r t D : Addr} {tkx : Tok} {orr orr3 oR oK oI oS okn ond : Obj} {sx sy sx3 sy3 : Int} {tx ty tx3 ty3 : Tok} {ns ns3 : Nat} {ps : Array Value} {tr tw own : List (Addr × Obj)}
    {y : PySem.Str} {ky : Tok} {j : Nat} {m' : PySem.Str → Option Value} {b : Bool} {ys : List Value} {ts : List PySem.Str} {rs : List RowE} {s₁ : Shared} {tk : Nat}
    (F : Fr g L h' m') (N : News g L h' ((t, tupBR b D) :: (D, LCg.lst ys) :: (r, orr) :: ledL w L kn nd x dx src tkx oR oK oI oS okn ond sx sy tx ty ns ps ((tr ++ tw) ++ own)))
    (hm : m' (PySem.Str.ofString "script") = some (.ref sl)) (hmn : m' (PySem.Str.ofString "name") = some (.str y ky)) (hsx : 0 ≤ sx) (hsy : 0 ≤ sy) (hsyy : sy < 2147483647)
    (hd : orr.IsDictOf (intKind PG w) (stored (kvR rs) (3 * (j : Int) + 1) (.ref t))) (hks : rs.map RowE.k = keysTo j) (hts : ∀ r ∈ rs, r.ts.length ≤ 3) (hbr : RowsBear tr rs) (hys : StrsAre ys ts) (hl3 : ts.length ≤ 3)
    (offR : ∀ p ∈ tr, p.1 ∉ r :: asL L kn nd x dx src) (offW : ∀ p ∈ tr, ∀ q ∈ tw, q.1 ≠ p.1) (hdis : ∀ q ∈ (r, orr3) :: ledL w L kn nd x dx src tkx oR oK oI oS okn ond sx3 sy3 tx3 ty3 ns3 ps (tr ++ tw), ∀ p ∈ own, q.1 ≠ p.1)
    (hD : D ∉ r :: asL L kn nd x dx src) (hDo : ∀ p ∈ (tr ++ tw) ++ own, p.1 ≠ D) (ht : t ∉ r :: asL L kn nd x dx src) (hto : ∀ p ∈ (tr ++ tw) ++ own, p.1 ≠ t) :
    TurnEnd g L (NodeJ w sl L kn nd x dx src r tkx oR oK oI oS okn ond ps tw y ky (j + 1)) own s₁ { s₁ with heap := h', toks := tk } := by
  have hk : stored (kvR rs) (3 * (j : Int) + 1) (.ref t) = kvR (rs ++ [⟨3 * (j : Int) + 1, b, D, ys, ts, t⟩]) := by
    rw [stored_newK]
    · simp
    · intro kv hkv e
      obtain ⟨a, ha, rfl⟩ := List.mem_map.mp hkv
      have h1 : a.k ∈ keysTo j := by rw [← hks]; exact List.mem_map_of_mem ha
      have := (keysTo_lt h1).1
      simp only at e
      omega
  rw [hk] at hd
  refine TurnEnd.intro (nx := (r, orr) :: ledL w L kn nd x dx src tkx oR oK oI oS okn ond sx sy tx ty ns ps (((t, tupBR b D) :: (D, LCg.lst ys) :: tr) ++ tw)) F (sub_news N ?_) ?_ ?_ ⟨hm, hmn, orr, sx, sy, tx, ty, ns, rs ++ [⟨3 * (j : Int) + 1, b, D, ys, ts, t⟩], (t, tupBR b D) :: (D, LCg.lst ys) :: tr, hsx, hsy, hsyy, hd, ?_, ?_, ⟨?_, ?_⟩, ?_, ?_, rfl⟩
  · intro q hq
    rcases List.mem_cons.mp hq with rfl | hq
    · exact List.mem_cons_of_mem _ (List.mem_cons_of_mem _ (List.mem_cons_self ..))
    · rcases led_mem.mp hq with h | h
      · exact List.mem_cons_of_mem _ (List.mem_cons_of_mem _ (List.mem_cons_of_mem _ (led_mem.mpr (.inl h))))
      · rcases List.mem_cons.mp h with rfl | h
        · exact List.mem_cons_self ..
        · rcases List.mem_cons.mp h with rfl | h
          · exact List.mem_cons_of_mem _ (List.mem_cons_self ..)
          · exact List.mem_cons_of_mem _ (List.mem_cons_of_mem _ (List.mem_cons_of_mem _ (led_mem.mpr (.inr (List.mem_append_left _ h)))))
  · intro p hp
    exact (N p (List.mem_cons_of_mem _ (List.mem_cons_of_mem _ (List.mem_cons_of_mem _ (led_mem.mpr (.inr (List.mem_append_right _ hp))))))).1
  · intro q hq p hp
    have hpt : p ∈ (tr ++ tw) ++ own := List.mem_append_right _ hp
    rcases List.mem_cons.mp hq with rfl | hq
    · exact hdis (r, orr3) (List.mem_cons_self ..) p hp
    · rcases led_cases hq with ha | hq
      · obtain ⟨o, ho⟩ := led_has (w := w) (tkx := tkx) (oR := oR) (oK := oK) (oI := oI) (oS := oS) (okn := okn) (ond := ond) (sx := sx3) (sy := sy3) (tx := tx3) (ty := ty3) (ns := ns3) (ps := ps) (tl := tr ++ tw) q.1 ha
        exact hdis _ (List.mem_cons_of_mem _ ho) p hp
      · rcases List.mem_cons.mp hq with rfl | hq
        · exact fun e => hto p hpt e.symm
        · rcases List.mem_cons.mp hq with rfl | hq
          · exact fun e => hDo p hpt e.symm
          · exact hdis q (List.mem_cons_of_mem _ (led_tail hq)) p hp
  · rw [List.map_append, hks, keysTo_succ]; rfl
  · intro e he
    rcases List.mem_append.mp he with he | he
    · exact hts e he
    · rw [List.mem_singleton.mp he]; exact hl3
  · intro h st e he
    rcases List.mem_append.mp he with he | he
    · exact hbr.1 h (fun p hp => st p (List.mem_cons_of_mem _ (List.mem_cons_of_mem _ hp))) e he
    · rw [List.mem_singleton.mp he]
      exact ⟨⟨_, st _ (List.mem_cons_self ..), rfl, _, rfl⟩, ⟨_, st _ (List.mem_cons_of_mem _ (List.mem_cons_self ..)), rfl, _, rfl⟩, hys⟩
  · intro e he
    rcases List.mem_append.mp he with he | he
    · obtain ⟨⟨o1, h1⟩, ⟨o2, h2⟩⟩ := hbr.2 e he
      exact ⟨⟨o1, List.mem_cons_of_mem _ (List.mem_cons_of_mem _ h1)⟩, ⟨o2, List.mem_cons_of_mem _ (List.mem_cons_of_mem _ h2)⟩⟩
    · rw [List.mem_singleton.mp he]
      exact ⟨⟨_, List.mem_cons_of_mem _ (List.mem_cons_self ..)⟩, ⟨_, List.mem_cons_self ..⟩⟩
  · intro p hp
    rcases List.mem_cons.mp hp with rfl | hp
    · exact ht
    · rcases List.mem_cons.mp hp with rfl | hp
      · exact hD
      · exact offR p hp
  · intro p hp q hq
    have hq2 : q ∈ (tr ++ tw) ++ own := List.mem_append_left _ (List.mem_append_right _ hq)
    rcases List.mem_cons.mp hp with rfl | hp
    · exact hto q hq2
    · rcases List.mem_cons.mp hp with rfl | hp
      · exact hDo q hq2
      · exact offW p hp q hq
end
section
theorem updF_app {d : Addr} {o : Obj} {l : List (Addr × Obj)} {g : Obj → List (Addr × Obj)} (U : UpdF d o l g) : ∀ {A : List (Addr × Obj)}, (∀ p ∈ A, p.1 ≠ d) → UpdF d o (A ++ l) (fun o' => A ++ g o')
  | [], _ => U
  | p :: _, h => .tail (h p (List.mem_cons_self ..)) (updF_app U fun q hq => h q (List.mem_cons_of_mem _ hq))
/-- the entry in the middle, by the addresses being apart -/
theorem updF_mid {d : Addr} {o : Obj} {post tl : List (Addr × Obj)} : ∀ {pre : List (Addr × Obj)}, (pre.map (fun p => p.1) ++ d :: post.map (fun p => p.1)).Nodup → (∀ p ∈ tl, p.1 ≠ d) → UpdF d o (pre ++ (d, o) :: (post ++ tl)) (fun o' => pre ++ (d, o') :: (post ++ tl))
  | [], h, h2 => .head fun p hp => (List.mem_append.mp hp).elim (fun hp e => (List.nodup_cons.mp h).1 (e ▸ List.mem_map_of_mem (f := fun p : Addr × Obj => p.1) hp)) (h2 p)
  | q :: pre, h, h2 => .tail (fun e => (List.nodup_cons.mp h).1 (by show q.1 ∈ pre.map (fun p => p.1) ++ d :: post.map (fun p => p.1); rw [e]; exact List.mem_append_right _ (List.mem_cons_self ..))) (updF_mid (List.nodup_cons.mp h).2 h2)
theorem upd149 {w : World} {L kn nd x dx src : Addr} {tkx : Tok} {oR oK oI oS okn ond : Obj} {sx sy : Int} {tx ty : Tok} {ns : Nat} {ps : Array Value} {tl : List (Addr × Obj)} (nodA : (asL L kn nd x dx src).Nodup) (off : ∀ p ∈ tl, p.1 ≠ 149) :
    UpdF 149 (tabObj ps) (ledL w L kn nd x dx src tkx oR oK oI oS okn ond sx sy tx ty ns ps tl) (fun o => (L + 1 + 1 + 1 + 1, oR) :: (L + 1 + 1 + 1, oK) :: (L + 1 + 1, oI) :: (L + 1, oS) :: (kn, okn) :: (nd, ond) :: (x, instObj 91 dx) :: (dx, ixDict w tkx nd 1) :: (src, listOf #[.int sx tx, .int sy ty] ns) :: (149, o) :: tl) := by
  exact updF_mid (pre := [(L + 1 + 1 + 1 + 1, oR), (L + 1 + 1 + 1, oK), (L + 1 + 1, oI), (L + 1, oS), (kn, okn), (nd, ond), (x, instObj 91 dx), (dx, ixDict w tkx nd 1), (src, listOf #[.int sx tx, .int sy ty] ns)]) (post := []) nodA off
/-- the law's table ahead of the k-th lambda -/
def TabS (k : Nat) (ps : Array Value) (tc : List (Addr × Obj)) : Prop :=
  (∃ c1 c2, ps = #[rawInt 88, rawInt 0, .ref c1, rawInt 89, rawInt 0, .ref c2] ∧ ∀ h : Heap, (∀ p ∈ tc, h.get? p.1 = some p.2) → h.CodeRec (.ref c1) lamQual ∧ h.CodeRec (.ref c2) lamQual) ∨
  (k = 0 ∧ ps = #[]) ∨ (k = 1 ∧ ∃ c1, ps = #[rawInt 88, rawInt 0, .ref c1] ∧ ∀ h : Heap, (∀ p ∈ tc, h.get? p.1 = some p.2) → h.CodeRec (.ref c1) lamQual)
theorem TabOk.s0 {ps : Array Value} {tc : List (Addr × Obj)} (h : TabOk ps tc) : TabS 0 ps tc := by
  rcases h with h | h
  · exact .inr (.inl ⟨rfl, h⟩)
  · exact .inl h
theorem TabS.s2 {ps : Array Value} {tc : List (Addr × Obj)} (h : TabS 2 ps tc) : TabOk ps tc := by
  rcases h with h | ⟨h, _⟩ | ⟨h, _⟩
  · exact .inr h
  · cases h
  · cases h
theorem lam_step {M : Model} {A₁ : Around} {E : Value → Shared → Prop} {s : Shared} {h₀ : Heap} {L a : Addr} {m mg mb : PySem.Str → Option Value} {cn : PySem.Str} {cs : Scope} {ccd : Value} {cl : List (PySem.Str × Addr)}
    {p : Program} {loose : List PySem.Str} {mean : ExcName → Option Value} {name : PySem.Str} {params : Arguments} {body : PySem.Expr} {scope : Scope} {pos : Pos} {firstLine : Nat} {clos : List (PySem.Str × Addr)}
    {w : World} {kn nd x dx src : Addr} {tkx : Tok} {oR oK oI oS okn ond : Obj} {sx sy : Int} {tx ty : Tok} {ns : Nat} {ps : Array Value} {A tl tc : List (Addr × Obj)} {k : Nat} {Q : Value → Shared → Prop}
    (F : Fr h₀ L s.heap m) (N : News h₀ L s.heap (A ++ ledL w L kn nd x dx src tkx oR oK oI oS okn ond sx sy tx ty ns ps tl)) (T : Top p loose mean mg mb h₀) (C : CodeHd h₀ 151 149) (hcd : ccd = .ref 151)
    (hA : ∀ p ∈ A, p.1 ≠ 149) (nodA : (asL L kn nd x dx src).Nodup) (off : ∀ p ∈ tl, p.1 ≠ 149) (hT : TabS k ps tc) (hk : k = 0 ∧ pos.line = 88 ∧ pos.col = 0 ∨ k = 1 ∧ pos.line = 89 ∧ pos.col = 0)
    (hcl : closureFor scope (envX cn cs L a ccd cl) = pure clos)
    (h : ∀ f c' ctv ps' ex h' tk, Fr h₀ L h' m → News h₀ L h' ((f, kla_obj name lamQual params body scope clos ((mg "__name__").getD .none) c' ctv) :: (A ++ ledL w L kn nd x dx src tkx oR oK oI oS okn ond sx sy tx ty ns ps' (ex ++ tl))) →
      TabS (k + 1) ps' (ex ++ tc) → (∀ p ∈ ex, ∀ q ∈ A ++ ledL w L kn nd x dx src tkx oR oK oI oS okn ond sx sy tx ty ns ps tl, @LT.lt Nat _ q.1 p.1) → (∀ q ∈ A ++ ledL w L kn nd x dx src tkx oR oK oI oS okn ond sx sy tx ty ns ps (ex ++ tl), @LT.lt Nat _ q.1 f) →
      (∀ h : Heap, (∀ p ∈ ex ++ tc, h.get? p.1 = some p.2) → h.CodeRec (.ref c') lamQual) → Q (.ref f) { s with heap := h', toks := tk }) :
    wpAny M A₁ (makeFunction name lamQual params (.expr body) scope (envX cn cs L a ccd cl) [] [] [] pos firstLine) Q E s := by
  have U := updF_app (upd149 (w := w) (tkx := tkx) (oR := oR) (oK := oK) (oI := oI) (oS := oS) (okn := okn) (ond := ond) (sx := sx) (sy := sy) (tx := tx) (ty := ty) (ns := ns) (ps := ps) nodA off) hA
  have hmem : (149, tabObj ps) ∈ A ++ ledL w L kn nd x dx src tkx oR oK oI oS okn ond sx sy tx ty ns ps tl := List.mem_append_right _ (by k_memK)
  have hit : ∀ c', TriplesOk ps.toList → codeAmong pos ps.toList = some (.ref c') → TabS (k + 1) ps tc → (∀ h : Heap, (∀ p ∈ tc, h.get? p.1 = some p.2) → h.CodeRec (.ref c') lamQual) →
      wpAny M A₁ (makeFunction name lamQual params (.expr body) scope (envX cn cs L a ccd cl) [] [] [] pos firstLine) Q E s := fun c' t1 t2 t3 t4 =>
    kla_hit F N T C hcd hmem t1 t2 hcl fun f ctv h' tk F' N' l1 => h f c' ctv ps [] h' tk F' N' t3 (fun _ hp => nomatch hp) l1 t4
  have nest : TriplesOk ps.toList → codeAmong pos ps.toList = none → (∀ c' (oc : Obj) vs t, oc.data = .fields vs → vs[1]? = some (.str lamQual t) → TabS (k + 1) (ps ++ #[rawInt pos.line, rawInt pos.col, .ref c']) ((c', oc) :: tc)) →
      wpAny M A₁ (makeFunction name lamQual params (.expr body) scope (envX cn cs L a ccd cl) [] [] [] pos firstLine) Q E s := fun t1 t2 t3 =>
    kla_nest F N T C hcd U t1 t2 hcl fun f c' oc vs t ctv h' tk F' N' d1 d2 l1 l2 => by
      refine h f c' ctv (ps ++ #[rawInt pos.line, rawInt pos.col, .ref c']) [(c', oc)] h' tk F' (sub_news N' ?_) (t3 c' oc vs t d1 d2) (fun p hp q hq => by rw [List.mem_singleton.mp hp]; exact l1 q hq) ?_ fun h st => ⟨c', oc, vs, t, rfl, st (c', oc) (List.mem_cons_self ..), d1, d2⟩
      · intro q hq
        rcases List.mem_cons.mp hq with rfl | hq
        · exact List.mem_cons_self ..
        · rcases List.mem_append.mp hq with h | h
          · exact List.mem_cons_of_mem _ (List.mem_cons_of_mem _ (List.mem_append_left _ h))
          · rcases led_mem.mp h with h | h
            · exact List.mem_cons_of_mem _ (List.mem_cons_of_mem _ (List.mem_append_right _ (led_mem.mpr (.inl h))))
            · rcases List.mem_cons.mp h with rfl | h
              · exact List.mem_cons_of_mem _ (List.mem_cons_self ..)
              · exact List.mem_cons_of_mem _ (List.mem_cons_of_mem _ (List.mem_append_right _ (led_mem.mpr (.inr h))))
      · intro q hq
        rcases List.mem_append.mp hq with hq | hq
        · exact Nat.lt_trans (l1 q (List.mem_append_left _ hq)) l2
        · rcases led_cases hq with ha | hq
          · obtain ⟨o, ho⟩ := led_has (w := w) (tkx := tkx) (oR := oR) (oK := oK) (oI := oI) (oS := oS) (okn := okn) (ond := ond) (sx := sx) (sy := sy) (tx := tx) (ty := ty) (ns := ns) (ps := ps) (tl := tl) q.1 ha
            exact Nat.lt_trans (l1 (q.1, o) (List.mem_append_right _ ho)) l2
          · rcases List.mem_cons.mp hq with rfl | hq
            · exact l2
            · exact Nat.lt_trans (l1 q (List.mem_append_right _ (led_tail hq))) l2
  rcases hT with ⟨c1, c2, rfl, hc⟩ | ⟨rfl, rfl⟩ | ⟨rfl, c1, rfl, hc⟩
  · rcases hk with ⟨rfl, e1, e2⟩ | ⟨rfl, e1, e2⟩
    · exact hit c1 (by simp [TriplesOk, rawInt]) (by simp [codeAmong, rawInt, e1, e2]) (.inl ⟨c1, c2, rfl, hc⟩) fun h st => (hc h st).1
    · exact hit c2 (by simp [TriplesOk, rawInt]) (by simp [codeAmong, rawInt, e1, e2]) (.inl ⟨c1, c2, rfl, hc⟩) fun h st => (hc h st).2
  · rcases hk with ⟨_, e1, e2⟩ | ⟨e0, e1, e2⟩
    · exact nest True.intro rfl fun c' oc vs t d1 d2 => .inr (.inr ⟨rfl, c', by rw [e1, e2]; rfl, fun h st => ⟨c', oc, vs, t, rfl, st (c', oc) (List.mem_cons_self ..), d1, d2⟩⟩)
    · cases e0
  · rcases hk with ⟨e0, e1, e2⟩ | ⟨_, e1, e2⟩
    · cases e0
    · exact nest (by simp [TriplesOk, rawInt]) (by simp [codeAmong, rawInt, e1, e2]) fun c' oc vs t d1 d2 => .inl ⟨c1, c', by rw [e1, e2]; rfl, fun h st => ⟨hc h fun p hp => st p (List.mem_cons_of_mem _ hp), ⟨c', oc, vs, t, rfl, st (c', oc) (List.mem_cons_self ..), d1, d2⟩⟩⟩
end
section
theorem codeRec_ne {h : Heap} {c a : Addr} {q : PySem.Str} {o : Obj} {K : Type} [DecidableEq K] {prog : Program} {w : World} {knd : KeyKind prog w K} {kvs : List (K × Value)} (hc : h.CodeRec (.ref c) q) (ha : h.get? a = some o) (hd : o.IsDictOf knd kvs) : c ≠ a := by
  rintro rfl
  obtain ⟨c', oc, vs, t, e, g, d, _⟩ := hc
  cases e
  rw [ha] at g
  cases g
  obtain ⟨_, _, _, d', _⟩ := hd
  rw [d'] at d
  cases d
theorem updnd {w : World} {L kn nd x dx src : Addr} {tkx : Tok} {oR oK oI oS okn ond : Obj} {sx sy : Int} {tx ty : Tok} {ns : Nat} {ps : Array Value} {tl : List (Addr × Obj)} (nodA : (asL L kn nd x dx src).Nodup) (off : ∀ p ∈ tl, p.1 ≠ nd) :
    UpdF nd ond (ledL w L kn nd x dx src tkx oR oK oI oS okn ond sx sy tx ty ns ps tl) (fun o => (L + 1 + 1 + 1 + 1, oR) :: (L + 1 + 1 + 1, oK) :: (L + 1 + 1, oI) :: (L + 1, oS) :: (kn, okn) :: (nd, o) :: (x, instObj 91 dx) :: (dx, ixDict w tkx nd 1) :: (src, listOf #[.int sx tx, .int sy ty] ns) :: (149, tabObj ps) :: tl) := by
  exact updF_mid (pre := [(L + 1 + 1 + 1 + 1, oR), (L + 1 + 1 + 1, oK), (L + 1 + 1, oI), (L + 1, oS), (kn, okn)]) (post := [(x, instObj 91 dx), (dx, ixDict w tkx nd 1), (src, listOf #[.int sx tx, .int sy ty] ns), (149, tabObj ps)]) nodA off
theorem fill_turn {w : World} {p : Program} {loose : List PySem.Str} {mean : ExcName → Option Value} {mg mb : PySem.Str → Option Value} {dp un : Nat} {gd : Option (List Code)} {cn : PySem.Str} {cs : Scope} {a : Addr} {ccd : Value} {cl : List (PySem.Str × Addr)} {outer : List Env} {A₀ : Around} {base h₀ : Heap} {L : Addr} {m : PySem.Str → Option Value} {s : Shared}
    {Q E : Value → Shared → Prop} {kn nd x dx src r D1 f1 f2 c1 c2 : Addr} {tkx : Tok} {oR oK oI oS okn ond orr : Obj} {sx sy : Int} {tx ty tn : Tok} {ns k1 n : Nat} {ps : Array Value} {tr tl : List (Addr × Obj)} {recs : List Rec} {rs : List RowE} {vsK : List Value} {y : PySem.Str}
    {pm1 pm2 ctv1 ctv2 : Value} {p0 p1 p2 p3 p4 p5 q0 q1 q2 q3 q4 q5 : Pos}
    (B : Below A₀ base outer h₀) (F : Fr h₀ L s.heap m) (X : (hd.heap_39 w.params).In h₀) (T : Top p loose mean mg mb h₀) (hk : cs.kind = .function) (N : News h₀ L s.heap ((f2, kla_obj (PySem.Str.ofString "<lambda>") lamQual (lamParams q0) (lamBody q1 q2 q3 q4 q5 1) lamScope [(PySem.Str.ofString "rows", L + 1 + 1 + 1 + 1)] pm2 c2 ctv2) ::
      (f1, kla_obj (PySem.Str.ofString "<lambda>") lamQual (lamParams p0) (lamBody p1 p2 p3 p4 p5 0) lamScope [(PySem.Str.ofString "rows", L + 1 + 1 + 1 + 1)] pm1 c1 ctv1) :: (D1, listOf vsK.toArray k1) :: (r, orr) :: ledL w L kn nd x dx src tkx oR oK oI oS okn ond sx sy tx ty ns ps tl))
    (hcR : oR.data = .cell (some (.ref r))) (nodA : (asL L kn nd x dx src).Nodup) (hrA : r ∉ asL L kn nd x dx src) (lon : (nd == sysModules) = false) (lor : (r == sysModules) = false) (dn : ond.IsDictOf (strKind PG w) (kvN recs)) (dr : orr.IsDictOf (intKind PG w) (kvR rs))
    (hks : rs.map RowE.k = keysTo n) (hn : n < 10) (hts : ∀ r ∈ rs, r.ts.length ≤ 3) (hbr : RowsBear tr rs) (htr : ∀ p ∈ tr, p ∈ tl) (offT : ∀ p ∈ tl, p.1 ∉ r :: asL L kn nd x dx src)
    (hcd1 : s.heap.CodeRec (.ref c1) lamQual) (hcd2 : s.heap.CodeRec (.ref c2) lamQual) (hiK : IntsAre vsK (keysTo n)) (hv : valueAt (kvN recs) y = none) (hz : recs.length ≤ 50)
    (hD1 : D1 ∉ r :: asL L kn nd x dx src) (hf1 : f1 ∉ r :: asL L kn nd x dx src) (hf2 : f2 ∉ r :: asL L kn nd x dx src) (hdp : dp + 8 < recursionLimit) (hu : un + 200 < cLine)
    (ret : ∀ d es od ond' h' tk', Fr h₀ L h' m → Kp [nd] s.heap h' → s.heap.get? d = none → (∀ e ∈ es, s.heap.get? e.l = none) → (d :: es.map TE.l).Nodup → h'.get? nd = some ond' → h'.get? d = some od → (∀ e ∈ es, h'.get? e.l = some (listOf e.vs.toArray e.n)) →
      ond'.IsDictOf (strKind PG w) (kvN recs ++ [(y, .ref d)]) → od.IsDictOf (strKind PG w) (kvT es) → (d == sysModules) = false → (∀ e ∈ es, IntsAre e.vs e.ns) → (∀ t, getT es t = due rs t) → Q .none { s with heap := h', toks := tk' }) :
    wpAny (model PG w) (ktrTop dp un gd cn cs L a ccd cl outer) (call (.ref 102) [.ref x, .str y tn, .ref D1, .ref f1, .ref f2]) Q E s := by
  have np := nePw_of nodA
  have n0_5 : NeA (L + 1 + 1 + 1 + 1) nd := np.1.2.2.2.2.1
  have n5_6 : NeA nd x := np.2.2.2.2.2.1.1
  have n5_7 : NeA nd dx := np.2.2.2.2.2.1.2.1
  have n6_7 : NeA x dx := np.2.2.2.2.2.2.1.1
  have hst : Stands s.heap tr := fun p hp => (N p (by simp [htr p hp])).1
  have gnd := (N (nd, ond) (by k_memK)).1
  have grow := hbr.1 s.heap hst
  have gr : RowsAt w s.heap r rs := ⟨Heap.dictOf_iff.mpr ⟨orr, (N (r, orr) (by k_memK)).1, dr⟩, grow, lor⟩
  have hlen : rs.length = n := by have := congrArg List.length hks; simpa [keysTo] using this
  have hkp : (rs.map RowE.k).Nodup := by rw [hks]; exact (keysTo_pw n).imp fun h => Int.ne_of_lt h
  have offa : ∀ e ∈ rs, e.a ∉ r :: asL L kn nd x dx src ∧ e.l ∉ r :: asL L kn nd x dx src := fun e he => by
    obtain ⟨⟨o1, h1⟩, ⟨o2, h2⟩⟩ := hbr.2 e he
    exact ⟨offT _ (htr _ h2), offT _ (htr _ h1)⟩
  have mN : nd ∈ r :: asL L kn nd x dx src := by simp
  have mX : x ∈ r :: asL L kn nd x dx src := by simp
  have mD : dx ∈ r :: asL L kn nd x dx src := by simp
  have off : ∀ a ∈ r :: asL L kn nd x dx src, a ≠ D1 ∧ a ≠ f1 ∧ a ≠ f2 ∧ ∀ e ∈ rs, a ≠ e.l := fun a ha =>
    ⟨fun e => hD1 (e ▸ ha), fun e => hf1 (e ▸ ha), fun e => hf2 (e ▸ ha), fun e he q => (offa e he).2 (q ▸ ha)⟩
  have one : ∀ {a : Addr}, a ≠ nd → a ∉ [nd] := fun h hm => h (List.mem_singleton.mp hm)
  have nin : ∀ {a : Addr}, a ∉ r :: asL L kn nd x dx src → a ∉ [nd] := fun h hm => h (by rw [List.mem_singleton.mp hm]; exact mN)
  refine fill_spec (nn := 1) (tkx := tkx) (dx := dx) (nd := nd) (ond := ond) (kvs := kvN recs) (rs := rs) (vsn := vsK) B F X T hk (sub_news N ?_) ?_ lon dn hv (by rw [List.length_map]; exact hz) (by omega) hts hkp (isList_of (N (D1, _) (by k_memK)).1) (by rw [hks]; exact hiK) (fun e he => (grow e he).2)
    ⟨_, _, (N (f1, _) (by k_memK)).1, rfl⟩ ⟨_, _, (N (f2, _) (by k_memK)).1, rfl⟩ ?_ ?_ ?_ hdp hu ?_
  · intro p hp
    simp only [List.mem_cons, List.not_mem_nil, or_false] at hp
    rcases hp with rfl | rfl | rfl <;> k_memK
  · simp only [List.nodup_cons, List.mem_cons, List.not_mem_nil, or_false, not_or, not_false_eq_true, and_true, List.nodup_nil]
    exact ⟨⟨n6_7, n5_6.r⟩, n5_7.r⟩
  · intro a ha
    refine off a ?_
    simp only [List.mem_cons, List.not_mem_nil, or_false] at ha
    rcases ha with rfl | rfl | rfl
    · exact mX
    · exact mD
    · exact mN
  · exact lam_ok0 (N (f1, _) (by k_memK)).1 hcd1 ⟨oR, (N (L + 1 + 1 + 1 + 1, oR) (by k_memK)).1, hcR⟩ gr hkp (nin hf1) (one (codeRec_ne hcd1 gnd dn)) (one n0_5) (one fun e => hrA (by rw [e]; simp)) (fun e he => nin (offa e he).1) (fun e he => nin (offa e he).2)
  · exact lam_ok1 (N (f2, _) (by k_memK)).1 hcd2 ⟨oR, (N (L + 1 + 1 + 1 + 1, oR) (by k_memK)).1, hcR⟩ gr hkp (nin hf2) (one (codeRec_ne hcd2 gnd dn)) (one n0_5) (one fun e => hrA (by rw [e]; simp)) (fun e he => nin (offa e he).1) (fun e he => nin (offa e he).2)
  · intro d es ond' h' tk' F' kp hd hnd' hond' htx hes hget hnod
    obtain ⟨od, hod, hdd⟩ := Heap.dictOf_iff.mp htx.dict
    exact ret d es od ond' h' tk' F' kp hd hes hnod hnd' hod (fun e he => (htx.lists e he).1) hond' hdd htx.lo (fun e he => (htx.lists e he).2) hget
theorem fill_walk {w : World} {p : Program} {loose : List PySem.Str} {mean : ExcName → Option Value} {mg mb : PySem.Str → Option Value} {dp un : Nat} {gd : Option (List Code)} {cn : PySem.Str} {cs : Scope} {a : Addr} {ccd : Value} {cl : List (PySem.Str × Addr)} {outer : List Env} {A₀ : Around} {base h₀ : Heap} {L : Addr} {m : PySem.Str → Option Value} {s : Shared}
    {Q E : Value → Shared → Prop} {kn nd x dx src r D1 f1 f2 c1 c2 : Addr} {tkx : Tok} {oR oK oI oS okn ond orr : Obj} {sx sy : Int} {tx ty tn : Tok} {ns k1 n : Nat} {ps : Array Value} {tr tl : List (Addr × Obj)} {recs : List Rec} {rs : List RowE} {vsK : List Value} {y : PySem.Str}
    {pm1 pm2 ctv1 ctv2 : Value} {p0 p1 p2 p3 p4 p5 q0 q1 q2 q3 q4 q5 : Pos}
    (B : Below A₀ base outer h₀) (F : Fr h₀ L s.heap m) (X : (hd.heap_39 w.params).In h₀) (T : Top p loose mean mg mb h₀) (hk : cs.kind = .function) (N : News h₀ L s.heap ((f2, kla_obj (PySem.Str.ofString "<lambda>") lamQual (lamParams q0) (lamBody q1 q2 q3 q4 q5 1) lamScope [(PySem.Str.ofString "rows", L + 1 + 1 + 1 + 1)] pm2 c2 ctv2) ::
      (f1, kla_obj (PySem.Str.ofString "<lambda>") lamQual (lamParams p0) (lamBody p1 p2 p3 p4 p5 0) lamScope [(PySem.Str.ofString "rows", L + 1 + 1 + 1 + 1)] pm1 c1 ctv1) :: (D1, listOf vsK.toArray k1) :: (r, orr) :: ledL w L kn nd x dx src tkx oR oK oI oS okn ond sx sy tx ty ns ps tl))
    (hcR : oR.data = .cell (some (.ref r))) (nodA : (asL L kn nd x dx src).Nodup) (hrA : r ∉ asL L kn nd x dx src) (lon : (nd == sysModules) = false) (lor : (r == sysModules) = false) (dn : ond.IsDictOf (strKind PG w) (kvN recs)) (dr : orr.IsDictOf (intKind PG w) (kvR rs))
    (hks : rs.map RowE.k = keysTo n) (hn : n < 10) (hts : ∀ r ∈ rs, r.ts.length ≤ 3) (hbr : RowsBear tr rs) (htr : ∀ p ∈ tr, p ∈ tl) (offT : ∀ p ∈ tl, p.1 ∉ r :: asL L kn nd x dx src)
    (hcd1 : s.heap.CodeRec (.ref c1) lamQual) (hcd2 : s.heap.CodeRec (.ref c2) lamQual) (hiK : IntsAre vsK (keysTo n)) (hv : valueAt (kvN recs) y = none) (hz : recs.length ≤ 50)
    (hD1 : D1 ∉ r :: asL L kn nd x dx src) (hf1 : f1 ∉ r :: asL L kn nd x dx src) (hf2 : f2 ∉ r :: asL L kn nd x dx src) (hdp : dp + 8 < recursionLimit) (hu : un + 200 < cLine)
    (ret : ∀ d es od ond' h' tk', Fr h₀ L h' m → News h₀ L h' ((f2, kla_obj (PySem.Str.ofString "<lambda>") lamQual (lamParams q0) (lamBody q1 q2 q3 q4 q5 1) lamScope [(PySem.Str.ofString "rows", L + 1 + 1 + 1 + 1)] pm2 c2 ctv2) ::
      (f1, kla_obj (PySem.Str.ofString "<lambda>") lamQual (lamParams p0) (lamBody p1 p2 p3 p4 p5 0) lamScope [(PySem.Str.ofString "rows", L + 1 + 1 + 1 + 1)] pm1 c1 ctv1) :: (D1, listOf vsK.toArray k1) :: (r, orr) :: ledL w L kn nd x dx src tkx oR oK oI oS okn ond' sx sy tx ty ns ps (((d, od) :: es.map TE.ent) ++ tl)) → (∀ p ∈ (d, od) :: es.map TE.ent, ∀ q ∈ ((f2, kla_obj (PySem.Str.ofString "<lambda>") lamQual (lamParams q0) (lamBody q1 q2 q3 q4 q5 1) lamScope [(PySem.Str.ofString "rows", L + 1 + 1 + 1 + 1)] pm2 c2 ctv2) ::
      (f1, kla_obj (PySem.Str.ofString "<lambda>") lamQual (lamParams p0) (lamBody p1 p2 p3 p4 p5 0) lamScope [(PySem.Str.ofString "rows", L + 1 + 1 + 1 + 1)] pm1 c1 ctv1) :: (D1, listOf vsK.toArray k1) :: (r, orr) :: ledL w L kn nd x dx src tkx oR oK oI oS okn ond sx sy tx ty ns ps tl), q.1 ≠ p.1) →
      ond'.IsDictOf (strKind PG w) (kvN recs ++ [(y, .ref d)]) → od.IsDictOf (strKind PG w) (kvT es) → (d == sysModules) = false → (∀ e ∈ es, IntsAre e.vs e.ns) → (∀ t, getT es t = due rs t) → Q .none { s with heap := h', toks := tk' }) :
    wpAny (model PG w) (ktrTop dp un gd cn cs L a ccd cl outer) (call (.ref 102) [.ref x, .str y tn, .ref D1, .ref f1, .ref f2]) Q E s := by
  refine fill_turn B F X T hk N hcR nodA hrA lon lor dn dr hks hn hts hbr htr offT hcd1 hcd2 hiK hv hz hD1 hf1 hf2 hdp hu ?_
  intro d es od ond' h' tk' F' kp hd hes hnod hnd' hod hlod hond' hdd hlo hare hget
  have fr : ∀ p ∈ (d, od) :: es.map TE.ent, s.heap.get? p.1 = none ∧ h'.get? p.1 = some p.2 := by
    intro p hp
    rcases List.mem_cons.mp hp with rfl | hp
    · exact ⟨hd, hod⟩
    · obtain ⟨e, he, rfl⟩ := List.mem_map.mp hp
      exact ⟨hes e he, hlod e he⟩
  have mN : nd ∈ r :: asL L kn nd x dx src := by simp
  have hrn : r ≠ nd := fun e => hrA (by rw [e]; simp)
  have U := updF_app (A := [(f2, kla_obj (PySem.Str.ofString "<lambda>") lamQual (lamParams q0) (lamBody q1 q2 q3 q4 q5 1) lamScope [(PySem.Str.ofString "rows", L + 1 + 1 + 1 + 1)] pm2 c2 ctv2),
      (f1, kla_obj (PySem.Str.ofString "<lambda>") lamQual (lamParams p0) (lamBody p1 p2 p3 p4 p5 0) lamScope [(PySem.Str.ofString "rows", L + 1 + 1 + 1 + 1)] pm1 c1 ctv1), (D1, listOf vsK.toArray k1), (r, orr)])
    (updnd (w := w) (tkx := tkx) (oR := oR) (oK := oK) (oI := oI) (oS := oS) (okn := okn) (ond := ond) (sx := sx) (sy := sy) (tx := tx) (ty := ty) (ns := ns) (ps := ps) (tl := tl) nodA (fun p hp e => offT p hp (e ▸ mN))) (by
      intro p hp
      simp only [List.mem_cons, List.not_mem_nil, or_false] at hp
      rcases hp with rfl | rfl | rfl | rfl
      · exact fun e => hf2 (e ▸ mN)
      · exact fun e => hf1 (e ▸ mN)
      · exact fun e => hD1 (e ▸ mN)
      · exact hrn)
  have N' := updF_news U N kp hnd'
  refine ret d es od ond' h' tk' F' (fun q hq => ?_) (fun p hp q hq e => ?_) hond' hdd hlo hare hget
  · have : q ∈ ((d, od) :: es.map TE.ent) ∨ q ∈ ((f2, kla_obj (PySem.Str.ofString "<lambda>") lamQual (lamParams q0) (lamBody q1 q2 q3 q4 q5 1) lamScope [(PySem.Str.ofString "rows", L + 1 + 1 + 1 + 1)] pm2 c2 ctv2) ::
      (f1, kla_obj (PySem.Str.ofString "<lambda>") lamQual (lamParams p0) (lamBody p1 p2 p3 p4 p5 0) lamScope [(PySem.Str.ofString "rows", L + 1 + 1 + 1 + 1)] pm1 c1 ctv1) :: (D1, listOf vsK.toArray k1) :: (r, orr) :: ledL w L kn nd x dx src tkx oR oK oI oS okn ond' sx sy tx ty ns ps tl) := by
      rcases List.mem_append.mp (show q ∈ [(f2, kla_obj (PySem.Str.ofString "<lambda>") lamQual (lamParams q0) (lamBody q1 q2 q3 q4 q5 1) lamScope [(PySem.Str.ofString "rows", L + 1 + 1 + 1 + 1)] pm2 c2 ctv2), (f1, kla_obj (PySem.Str.ofString "<lambda>") lamQual (lamParams p0) (lamBody p1 p2 p3 p4 p5 0) lamScope [(PySem.Str.ofString "rows", L + 1 + 1 + 1 + 1)] pm1 c1 ctv1), (D1, listOf vsK.toArray k1), (r, orr)] ++ ledL w L kn nd x dx src tkx oR oK oI oS okn ond' sx sy tx ty ns ps (((d, od) :: es.map TE.ent) ++ tl) from hq) with h | h
      · exact .inr (List.mem_append_left (ledL w L kn nd x dx src tkx oR oK oI oS okn ond' sx sy tx ty ns ps tl) h)
      · rcases led_mem.mp h with h | h
        · exact .inr (List.mem_append_right [(f2, kla_obj (PySem.Str.ofString "<lambda>") lamQual (lamParams q0) (lamBody q1 q2 q3 q4 q5 1) lamScope [(PySem.Str.ofString "rows", L + 1 + 1 + 1 + 1)] pm2 c2 ctv2), (f1, kla_obj (PySem.Str.ofString "<lambda>") lamQual (lamParams p0) (lamBody p1 p2 p3 p4 p5 0) lamScope [(PySem.Str.ofString "rows", L + 1 + 1 + 1 + 1)] pm1 c1 ctv1), (D1, listOf vsK.toArray k1), (r, orr)] (led_mem.mpr (.inl h)))
        · rcases List.mem_append.mp h with h | h
          · exact .inl h
          · exact .inr (List.mem_append_right [(f2, kla_obj (PySem.Str.ofString "<lambda>") lamQual (lamParams q0) (lamBody q1 q2 q3 q4 q5 1) lamScope [(PySem.Str.ofString "rows", L + 1 + 1 + 1 + 1)] pm2 c2 ctv2), (f1, kla_obj (PySem.Str.ofString "<lambda>") lamQual (lamParams p0) (lamBody p1 p2 p3 p4 p5 0) lamScope [(PySem.Str.ofString "rows", L + 1 + 1 + 1 + 1)] pm1 c1 ctv1), (D1, listOf vsK.toArray k1), (r, orr)] (led_mem.mpr (.inr h)))
    rcases this with hq | hq
    · obtain ⟨f1, f2⟩ := fr q hq
      refine ⟨f2, fun e => ?_, ?_⟩
      · obtain ⟨o', _, _, e', _⟩ := F.ns
        rw [← e, f1] at e'; cases e'
      · cases e : h₀.get? q.1 with
        | none => rfl
        | some o' => have := F.keep _ _ e; rw [f1] at this; cases this
    · exact N' q hq
  · have h1 := (N q hq).1
    rw [e, (fr p hp).1] at h1
    cases h1
end
section
theorem take_next {α : Type} {l : List α} {j : Nat} {y : α} (h : l[j]? = some y) : l.take (j + 1) = l.take j ++ [y] := by rw [List.take_add_one, h]; rfl
theorem not_in_take {α : Type} {l : List α} (hn : l.Nodup) {j : Nat} {y : α} (h : l[j]? = some y) : y ∉ l.take j := by
  intro hm
  have h2 := take_next h
  have h3 : (l.take (j + 1)).Nodup := hn.sublist (List.take_sublist ..)
  rw [h2, List.nodup_append] at h3
  exact h3.2.2 y hm y (List.mem_singleton.mpr rfl) rfl
theorem valueAt_names {K : Type} [DecidableEq K] : ∀ {kvs : List (K × Value)} {y : K}, (∀ kv ∈ kvs, ¬ kv.1 = y) → valueAt kvs y = none := by
  intro kvs y h
  unfold valueAt
  have : (kvs.find? fun kv => decide (kv.1 = y)) = none := List.find?_eq_none.mpr fun kv hkv => by simpa using h kv hkv
  first
    | (rw [this]; rfl)
    | simp [this]
theorem kvN_none {recs : List Rec} {names : List PySem.Str} {j : Nat} {y : PySem.Str} (hnd : names.Nodup) (hnm : recs.map Rec.name = names.take j) (hy : names[j]? = some y) (f : Rec → Value) : ∀ kv ∈ recs.map (fun R => (R.name, f R)), ¬ kv.1 = y := by
  intro kv hkv e
  obtain ⟨R, hR, rfl⟩ := List.mem_map.mp hkv
  have : R.name ∈ recs.map Rec.name := List.mem_map_of_mem hR
  rw [hnm] at this
  exact not_in_take hnd hy (by have e' : R.name = y := e; rw [← e']; exact this)
theorem names_end {w : World} {g h' : Heap} {L sl kn nd x dx src r d f1 f2 D1 : Addr} {tkx : Tok} {o1 o2 oD orr oR oK oI oS okn ond od : Obj} {sx sy : Int} {tx ty : Tok} {ns n j : Nat} {ps : Array Value} {tr tl tc ex1 ex2 own own2 old : List (Addr × Obj)} {oc : Addr → Prop}
    {names : List PySem.Str} {y : PySem.Str} {m' : PySem.Str → Option Value} {recs : List Rec} {es : List TE} {rs : List RowE} {s₁ : Shared} {tk : Nat}
    (F : Fr g L h' m') (N : News g L h' ((f2, o2) :: (f1, o1) :: (D1, oD) :: (r, orr) :: ledL w L kn nd x dx src tkx oR oK oI oS okn ond sx sy tx ty ns ps (((d, od) :: es.map TE.ent) ++ (ex2 ++ (ex1 ++ (tr ++ (tl ++ own2)))))))
    (hm : m' (PySem.Str.ofString "script") = some (.ref sl)) (hcR : ∃ v, oR.data = .cell v) (hT : TabOk ps (ex2 ++ (ex1 ++ tc))) (htc : ∀ p ∈ tc, p ∈ tl ∧ oc p.1) (hoc1 : ∀ p ∈ ex1, oc p.1) (hoc2 : ∀ p ∈ ex2, oc p.1) (hown : ∀ p ∈ own, p ∈ tl)
    (hk : okn.IsDictOf (strKind PG w) (stored (kvK recs) y (.ref r))) (hn : ond.IsDictOf (strKind PG w) (kvN recs ++ [(y, .ref d)])) (hsx : 0 ≤ sx) (hsy : 0 ≤ sy) (hsyy : sy < 2147483647)
    (hnm : recs.map Rec.name = names.take j) (hy : names[j]? = some y) (hnd : names.Nodup) (hok : ∀ R ∈ recs, RecOk src R) (hbr : Bears w tl recs)
    (hks : rs.map RowE.k = keysTo n) (hn10 : n < 10) (hts : ∀ r ∈ rs, r.ts.length ≤ 3) (hbrr : RowsBear tr rs) (dr : orr.IsDictOf (intKind PG w) (kvR rs)) (lor : (r == sysModules) = false)
    (hdd : od.IsDictOf (strKind PG w) (kvT es)) (hlo : (d == sysModules) = false) (hare : ∀ e ∈ es, IntsAre e.vs e.ns) (hget : ∀ t, getT es t = due rs t)
    (off : ∀ p ∈ ((d, od) :: es.map TE.ent) ++ (ex2 ++ (ex1 ++ (tr ++ (tl ++ own2)))), p.1 ∉ asL L kn nd x dx src) (hrA : r ∉ asL L kn nd x dx src)
    (hold : ∀ a ∈ asL L kn nd x dx src, ∃ o, (a, o) ∈ old) (hdis : ∀ q ∈ old, ∀ p ∈ own2, q.1 ≠ p.1) (htl : ∀ p ∈ tl, p ∈ old)
    (dx1 : ∀ p ∈ (d, od) :: es.map TE.ent, ∀ q ∈ own2, q.1 ≠ p.1) (dx2 : ∀ p ∈ ex2, ∀ q ∈ own2, q.1 ≠ p.1) (dx3 : ∀ p ∈ ex1, ∀ q ∈ own2, q.1 ≠ p.1) (dx4 : ∀ p ∈ tr, ∀ q ∈ own2, q.1 ≠ p.1) (dx5 : ∀ q ∈ own2, q.1 ≠ r) :
    TurnEnd g L (NamesJ w sl L kn nd x dx src tkx oK oI oS oc own names (j + 1)) own2 s₁ { s₁ with heap := h', toks := tk } := by
  have hs : stored (kvK recs) y (.ref r) = kvK (recs ++ [⟨y, d, es, r, rs⟩]) := by
    rw [stored_newK]
    · simp
    · exact kvN_none hnd hnm hy _
  have hs2 : kvN recs ++ [(y, Value.ref d)] = kvN (recs ++ [⟨y, d, es, r, rs⟩]) := by simp
  rw [hs] at hk
  rw [hs2] at hn
  have hsrc : src ∈ asL L kn nd x dx src := by simp
  refine TurnEnd.intro (nx := ledL w L kn nd x dx src tkx oR oK oI oS okn ond sx sy tx ty ns ps (((d, od) :: es.map TE.ent) ++ (ex2 ++ (ex1 ++ ((r, orr) :: (tr ++ tl)))))) F (sub_news N ?_) ?_ ?_
    ⟨hm, oR, okn, ond, sx, sy, tx, ty, ns, ps, recs ++ [⟨y, d, es, r, rs⟩], ex2 ++ (ex1 ++ tc), ((d, od) :: es.map TE.ent) ++ (ex2 ++ (ex1 ++ ((r, orr) :: (tr ++ tl)))), hcR, hT, ?_, ?_, hk, hn, hsx, hsy, hsyy, ?_, ?_, ?_, ?_, rfl⟩
  · intro q hq
    have up : ∀ {q : Addr × Obj}, q ∈ ledL w L kn nd x dx src tkx oR oK oI oS okn ond sx sy tx ty ns ps (((d, od) :: es.map TE.ent) ++ (ex2 ++ (ex1 ++ (tr ++ (tl ++ own2))))) → q ∈ (f2, o2) :: (f1, o1) :: (D1, oD) :: (r, orr) :: ledL w L kn nd x dx src tkx oR oK oI oS okn ond sx sy tx ty ns ps (((d, od) :: es.map TE.ent) ++ (ex2 ++ (ex1 ++ (tr ++ (tl ++ own2))))) :=
      fun h => List.mem_cons_of_mem _ (List.mem_cons_of_mem _ (List.mem_cons_of_mem _ (List.mem_cons_of_mem _ h)))
    rcases led_mem.mp hq with h | h
    · exact up (led_mem.mpr (.inl h))
    · rcases List.mem_append.mp h with h | h
      · exact up (led_mem.mpr (.inr (List.mem_append_left _ h)))
      · rcases List.mem_append.mp h with h | h
        · exact up (led_mem.mpr (.inr (List.mem_append_right _ (List.mem_append_left _ h))))
        · rcases List.mem_append.mp h with h | h
          · exact up (led_mem.mpr (.inr (List.mem_append_right _ (List.mem_append_right _ (List.mem_append_left _ h)))))
          · rcases List.mem_cons.mp h with rfl | h
            · exact List.mem_cons_of_mem _ (List.mem_cons_of_mem _ (List.mem_cons_of_mem _ (List.mem_cons_self ..)))
            · refine up (led_mem.mpr (.inr (List.mem_append_right _ (List.mem_append_right _ (List.mem_append_right _ ?_)))))
              exact (List.mem_append.mp h).elim (fun h => List.mem_append_left _ h) fun h => List.mem_append_right _ (List.mem_append_left _ h)
  · intro p hp
    exact (N p (List.mem_cons_of_mem _ (List.mem_cons_of_mem _ (List.mem_cons_of_mem _ (List.mem_cons_of_mem _ (led_mem.mpr (.inr (List.mem_append_right _ (List.mem_append_right _ (List.mem_append_right _ (List.mem_append_right _ (List.mem_append_right _ hp)))))))))))).1
  · intro q hq p hp
    rcases led_cases hq with ha | hq
    · obtain ⟨o, ho⟩ := hold q.1 ha
      exact hdis (q.1, o) ho p hp
    · rcases List.mem_append.mp hq with hq | hq
      · exact fun e => dx1 q hq p hp e.symm
      · rcases List.mem_append.mp hq with hq | hq
        · exact fun e => dx2 q hq p hp e.symm
        · rcases List.mem_append.mp hq with hq | hq
          · exact fun e => dx3 q hq p hp e.symm
          · rcases List.mem_cons.mp hq with rfl | hq
            · exact fun e => dx5 p hp e.symm
            · rcases List.mem_append.mp hq with hq | hq
              · exact fun e => dx4 q hq p hp e.symm
              · exact hdis q (htl q hq) p hp
  · intro p hp
    generalize (d, od) :: es.map TE.ent = tx
    rcases List.mem_append.mp hp with hp | hp
    · exact ⟨by simp [hp], hoc2 p hp⟩
    · rcases List.mem_append.mp hp with hp | hp
      · exact ⟨by simp [hp], hoc1 p hp⟩
      · exact ⟨by simp [(htc p hp).1], (htc p hp).2⟩
  · intro p hp
    generalize (d, od) :: es.map TE.ent = tx
    simp [hown p hp]
  · rw [List.map_append, hnm, take_next hy]; rfl
  · intro R hR
    rcases List.mem_append.mp hR with hR | hR
    · exact hok R hR
    · rw [List.mem_singleton.mp hR]
      have hlen : rs.length = n := by have := congrArg List.length hks; simpa [keysTo] using this
      refine ⟨hget, by show rs.length ≤ 9; omega, hts, ?_, ?_, ?_, ?_⟩
      · have : (rs.map RowE.k).Pairwise (· < ·) := by rw [hks]; exact keysTo_pw n
        exact List.pairwise_map.mp this
      · intro e he
        have h1 : e.k ∈ keysTo n := by rw [← hks]; exact List.mem_map_of_mem he
        have := keysTo_lt h1
        omega
      · intro e he q
        have : e.ent ∈ ((d, od) :: es.map TE.ent) ++ (ex2 ++ (ex1 ++ (tr ++ (tl ++ own2)))) := List.mem_append_left _ (List.mem_cons_of_mem _ (List.mem_map_of_mem he))
        exact off _ this (by show e.l ∈ _; rw [← q]; exact hsrc)
      · intro e he q
        obtain ⟨⟨o1, h1⟩, _⟩ := hbrr.2 e he
        have : (e.l, o1) ∈ ((d, od) :: es.map TE.ent) ++ (ex2 ++ (ex1 ++ (tr ++ (tl ++ own2)))) := by
          generalize (d, od) :: es.map TE.ent = tx
          simp [h1]
        exact off _ this (by show e.l ∈ _; rw [← q]; exact hsrc)
  · intro h st R hR
    rcases List.mem_append.mp hR with hR | hR
    · refine hbr h (fun p hp => st p ?_) R hR
      generalize (d, od) :: es.map TE.ent = tx
      simp [hp]
    · rw [List.mem_singleton.mp hR]
      refine ⟨⟨Heap.dictOf_iff.mpr ⟨od, st (d, od) (List.mem_append_left _ (List.mem_cons_self ..)), hdd⟩, fun e he => ⟨st e.ent (List.mem_append_left _ (List.mem_cons_of_mem _ (List.mem_map_of_mem he))), hare e he⟩, hlo⟩,
        ⟨Heap.dictOf_iff.mpr ⟨orr, st (r, orr) ?_, dr⟩, hbrr.1 h fun p hp => st p ?_, lor⟩⟩
      · generalize (d, od) :: es.map TE.ent = tx
        simp
      · generalize (d, od) :: es.map TE.ent = tx
        simp [hp]
  · intro p hp
    rcases List.mem_append.mp hp with hp | hp
    · exact off p (List.mem_append_left _ hp)
    · have key : p ∈ ex2 ++ (ex1 ++ (tr ++ (tl ++ own2))) ∨ p = (r, orr) := by
        simp only [List.mem_cons, List.mem_append] at hp ⊢
        rcases hp with h | h | h | h | h
        all_goals (simp [h])
      rcases key with h | rfl
      · exact off p (List.mem_append_right _ h)
      · exact hrA
end
section
section
variable {w : World} {L kn nd x dx src r f D : Addr} {tkx : Tok} {oR oK oI oS okn ond : Obj} {sx sy : Int} {tx ty : Tok} {ns : Nat} {ps : Array Value} {A tl ex : List (Addr × Obj)}
theorem allr {r : Addr} {news : List (Addr × Obj)} (h1 : ∃ o, (r, o) ∈ A) (hs : ∀ q ∈ A ++ ledL w L kn nd x dx src tkx oR oK oI oS okn ond sx sy tx ty ns ps tl, q ∈ news) : ∀ a ∈ r :: asL L kn nd x dx src, ∃ o, (a, o) ∈ news := by
  intro a ha
  rcases List.mem_cons.mp ha with rfl | ha
  · obtain ⟨o, ho⟩ := h1
    exact ⟨o, hs _ (List.mem_append_left _ ho)⟩
  · obtain ⟨o, ho⟩ := led_has (w := w) (tkx := tkx) (oR := oR) (oK := oK) (oI := oI) (oS := oS) (okn := okn) (ond := ond) (sx := sx) (sy := sy) (tx := tx) (ty := ty) (ns := ns) (ps := ps) (tl := tl) a ha
    exact ⟨o, hs _ (List.mem_append_right _ ho)⟩
theorem ex_off (h1 : ∃ o, (r, o) ∈ A) (h : ∀ p ∈ ex, ∀ q ∈ A ++ ledL w L kn nd x dx src tkx oR oK oI oS okn ond sx sy tx ty ns ps tl, @LT.lt Nat _ q.1 p.1) : ∀ p ∈ ex, p.1 ∉ r :: asL L kn nd x dx src := by
  intro p hp hm
  obtain ⟨o, ho⟩ := allr h1 (fun q hq => hq) _ hm
  exact absurd (h p hp _ ho) (Nat.lt_irrefl _)
theorem f_off (h1 : ∃ o, (r, o) ∈ A) (h : ∀ q ∈ A ++ ledL w L kn nd x dx src tkx oR oK oI oS okn ond sx sy tx ty ns ps tl, @LT.lt Nat _ q.1 f) : f ∉ r :: asL L kn nd x dx src := by
  intro hm
  obtain ⟨o, ho⟩ := allr h1 (fun q hq => hq) _ hm
  exact absurd (h _ ho) (Nat.lt_irrefl _)
theorem dx_off {es : List (Addr × Obj)} (h1 : ∃ o, (r, o) ∈ A) (h : ∀ p ∈ es, ∀ q ∈ A ++ ledL w L kn nd x dx src tkx oR oK oI oS okn ond sx sy tx ty ns ps tl, q.1 ≠ p.1) : ∀ p ∈ es, p.1 ∉ r :: asL L kn nd x dx src := by
  intro p hp hm
  obtain ⟨o, ho⟩ := allr h1 (fun q hq => hq) _ hm
  exact h p hp _ ho rfl
theorem D_off {orr : Obj} (h : ∀ q ∈ (r, orr) :: ledL w L kn nd x dx src tkx oR oK oI oS okn ond sx sy tx ty ns ps tl, q.1 ≠ D) : D ∉ r :: asL L kn nd x dx src := by
  intro hm
  obtain ⟨o, ho⟩ := allr (A := [(r, orr)]) (tl := tl) ⟨orr, List.Mem.head _⟩ (fun q hq => hq) _ hm
  exact h _ ho rfl
theorem ex_oc {oc : Addr → Prop} {own : List (Addr × Obj)} (hoc : oc = fun a => @LT.lt Nat _ (L + 4) a ∧ ∀ q ∈ own, a ≠ q.1) (hown : ∀ p ∈ own, p ∈ tl)
    (h : ∀ p ∈ ex, ∀ q ∈ A ++ ledL w L kn nd x dx src tkx oR oK oI oS okn ond sx sy tx ty ns ps tl, @LT.lt Nat _ q.1 p.1) : ∀ p ∈ ex, oc p.1 := by
  intro p hp
  rw [hoc]
  refine ⟨h p hp (L + 1 + 1 + 1 + 1, oR) (List.mem_append_right _ (List.Mem.head _)), fun q hq e => ?_⟩
  have := h p hp q (List.mem_append_right _ (led_tail (hown q hq)))
  rw [e] at this
  exact absurd this (Nat.lt_irrefl _)
end
section
variable {w : World} {L kn nd x dx src : Addr} {tkx : Tok} {oR oK oI oS okn ond : Obj} {sx sy : Int} {tx ty : Tok} {ns : Nat} {ps : Array Value} {tl : List (Addr × Obj)} {a b c e q : Addr × Obj}
theorem tail2 (h : q ∈ tl) : q ∈ [a, b] ++ ledL w L kn nd x dx src tkx oR oK oI oS okn ond sx sy tx ty ns ps tl := List.mem_append_right _ (led_tail h)
theorem tail3 (h : q ∈ tl) : q ∈ [a, b, c] ++ ledL w L kn nd x dx src tkx oR oK oI oS okn ond sx sy tx ty ns ps tl := List.mem_append_right _ (led_tail h)
theorem tail4 (h : q ∈ tl) : q ∈ a :: b :: c :: e :: ledL w L kn nd x dx src tkx oR oK oI oS okn ond sx sy tx ty ns ps tl := tail3 (a := b) (b := c) (c := e) h |> List.mem_cons_of_mem _
end
theorem ne_of_off {a b : Addr} {as : List Addr} (h : a ∉ as) (hb : b ∈ as) : NeA a b := fun e => h (e ▸ hb)
theorem off_ne {b : Addr} {as : List Addr} {tl : List (Addr × Obj)} (h : ∀ p ∈ tl, p.1 ∉ as) (hb : b ∈ as) : ∀ p ∈ tl, p.1 ≠ b := fun p hp e => h p hp (e ▸ hb)
theorem hA2 {D r : Addr} {o1 o2 : Obj} (h1 : D ≠ 149) (h2 : r ≠ 149) : ∀ p ∈ [(D, o1), (r, o2)], p.1 ≠ 149 := by
  intro p hp
  simp only [List.mem_cons, List.not_mem_nil, or_false] at hp
  rcases hp with rfl | rfl
  · exact h1
  · exact h2
theorem hA3 {f D r : Addr} {o1 o2 o3 : Obj} (h0 : f ≠ 149) (h1 : D ≠ 149) (h2 : r ≠ 149) : ∀ p ∈ [(f, o3), (D, o1), (r, o2)], p.1 ≠ 149 := by
  intro p hp
  rcases List.mem_cons.mp hp with rfl | hp
  · exact h0
  · exact hA2 h1 h2 p hp
end
section
/-- what the loop over the known names keeps: all but the source -/
def RightJ (w : World) (sl L kn nd x dx src : Addr) (tkx : Tok) (oR oK oI oS okn ond : Obj) (ps : Array Value) (tl : List (Addr × Obj)) (_ : Nat) (m₁ : PySem.Str → Option Value) (news₁ : List (Addr × Obj)) : Prop :=
  m₁ (PySem.Str.ofString "script") = some (.ref sl) ∧ ∃ sx sy tx ty ns, 0 ≤ sx ∧ 0 ≤ sy ∧ sy < 2147483647 ∧ news₁ = ledL w L kn nd x dx src tkx oR oK oI oS okn ond sx sy tx ty ns ps tl
theorem right_kn {w : World} {sl L kn nd x dx src : Addr} {tkx : Tok} {oR oK oI oS okn ond : Obj} {ps : Array Value} {tl : List (Addr × Obj)} {i : Nat} {m₁ : PySem.Str → Option Value} {news₁ : List (Addr × Obj)}
    (h : RightJ w sl L kn nd x dx src tkx oR oK oI oS okn ond ps tl i m₁ news₁) : (kn, okn) ∈ news₁ := by
  obtain ⟨_, sx, sy, tx, ty, ns, _, _, _, rfl⟩ := h
  k_memK
theorem updsrc {w : World} {L kn nd x dx src : Addr} {tkx : Tok} {oR oK oI oS okn ond : Obj} {sx sy : Int} {tx ty : Tok} {ns : Nat} {ps : Array Value} {tl : List (Addr × Obj)} (nodA : (asL L kn nd x dx src).Nodup) (off : ∀ p ∈ tl, p.1 ≠ src) :
    UpdF src (listOf #[.int sx tx, .int sy ty] ns) (ledL w L kn nd x dx src tkx oR oK oI oS okn ond sx sy tx ty ns ps tl) (fun o => (L + 1 + 1 + 1 + 1, oR) :: (L + 1 + 1 + 1, oK) :: (L + 1 + 1, oI) :: (L + 1, oS) :: (kn, okn) :: (nd, ond) :: (x, instObj 91 dx) :: (dx, ixDict w tkx nd 1) :: (src, o) :: (149, tabObj ps) :: tl) := by
  exact updF_mid (pre := [(L + 1 + 1 + 1 + 1, oR), (L + 1 + 1 + 1, oK), (L + 1 + 1, oI), (L + 1, oS), (kn, okn), (nd, ond), (x, instObj 91 dx), (dx, ixDict w tkx nd 1)]) (post := [(149, tabObj ps)]) nodA off
section
variable {w : World} {L kn nd x dx src : Addr} {tkx : Tok} {oR oK oI oS okn ond : Obj} {sx sy : Int} {tx ty : Tok} {ns : Nat} {ps : Array Value} {tl : List (Addr × Obj)}
theorem led_src : (src, listOf #[.int sx tx, .int sy ty] ns) ∈ ledL w L kn nd x dx src tkx oR oK oI oS okn ond sx sy tx ty ns ps tl := by k_memK
theorem led_x : (x, instObj 91 dx) ∈ ledL w L kn nd x dx src tkx oR oK oI oS okn ond sx sy tx ty ns ps tl := by k_memK
theorem led_dx : (dx, ixDict w tkx nd 1) ∈ ledL w L kn nd x dx src tkx oR oK oI oS okn ond sx sy tx ty ns ps tl := by k_memK
theorem led_nd : (nd, ond) ∈ ledL w L kn nd x dx src tkx oR oK oI oS okn ond sx sy tx ty ns ps tl := by k_memK
theorem led_kn : (kn, okn) ∈ ledL w L kn nd x dx src tkx oR oK oI oS okn ond sx sy tx ty ns ps tl := by k_memK
theorem led_src1 : ∀ p ∈ [(src, listOf #[.int sx tx, .int sy ty] ns)], p ∈ ledL w L kn nd x dx src tkx oR oK oI oS okn ond sx sy tx ty ns ps tl := fun p hp => by rw [List.mem_singleton.mp hp]; exact led_src
theorem right_end {g h' : Heap} {sl : Addr} {sx' sy' : Int} {tx' ty' : Tok} {ns' i : Nat} {own : List (Addr × Obj)} {m' : PySem.Str → Option Value} (hm : m' (PySem.Str.ofString "script") = some (.ref sl)) (hx : 0 ≤ sx') (hy : 0 ≤ sy') (hyy : sy' < 2147483647)
    (hdis : ∀ q ∈ ledL w L kn nd x dx src tkx oR oK oI oS okn ond sx sy tx ty ns ps tl, ∀ p ∈ own, q.1 ≠ p.1) (F : Fr g L h' m')
    (N : News g L h' (ledL w L kn nd x dx src tkx oR oK oI oS okn ond sx' sy' tx' ty' ns' ps tl)) (No : News g L h' own) {s₁ : Shared} {tk : Nat} :
    TurnEnd g L (RightJ w sl L kn nd x dx src tkx oR oK oI oS okn ond ps tl (i + 1)) own s₁ { s₁ with heap := h', toks := tk } := by
  refine TurnEnd.intro F N (fun p hp => (No p hp).1) (fun q hq p hp => ?_) ⟨hm, _, _, _, _, _, hx, hy, hyy, rfl⟩
  rcases led_cases hq with ha | hq
  · obtain ⟨o, ho⟩ := led_has (w := w) (tkx := tkx) (oR := oR) (oK := oK) (oI := oI) (oS := oS) (okn := okn) (ond := ond) (sx := sx) (sy := sy) (tx := tx) (ty := ty) (ns := ns) (ps := ps) (tl := tl) q.1 ha
    exact hdis _ ho p hp
  · exact hdis _ (led_tail hq) p hp
end
theorem kvK_at {recs : List Rec} {i : Nat} {k : PySem.Str} {v : Value} (h : (kvK recs)[i]? = some (k, v)) : ∃ R, R ∈ recs ∧ k = R.name ∧ v = .ref R.r := by
  rw [List.getElem?_map] at h
  cases e : recs[i]? with
  | none => rw [e] at h; cases h
  | some R => rw [e] at h; cases h; exact ⟨R, List.mem_of_getElem? e, rfl, rfl⟩
theorem kv_value {recs : List Rec} {R : Rec} (f : Rec → Value) (hn : (recs.map Rec.name).Nodup) (hR : R ∈ recs) : valueAt (recs.map fun R => (R.name, f R)) R.name = some (f R) := by
  unfold valueAt
  induction recs with
  | nil => cases hR
  | cons a l ih =>
    rw [List.map_cons, List.nodup_cons] at hn
    rw [List.map_cons, List.find?_cons]
    by_cases e : a.name = R.name
    · have : R = a := by
        rcases List.mem_cons.mp hR with h | h
        · exact h
        · exact absurd (List.mem_map.mpr ⟨R, h, e.symm⟩) hn.1
      simp [e, this]
    · rcases List.mem_cons.mp hR with h | h
      · rw [h] at e; exact absurd rfl e
      · simp only [e, decide_false]; exact ih hn.2 h
theorem names_nodup {recs : List Rec} {names : List PySem.Str} {n : Nat} (hnd : names.Nodup) (hnm : recs.map Rec.name = names.take n) : (recs.map Rec.name).Nodup := by rw [hnm]; exact hnd.sublist (List.take_sublist ..)
end
section
theorem item4 {i : Nat} {v : Value} {a b c d : PySem.Str} {ta tb tc td : Tok} (h : #[Value.str a ta, .str b tb, .str c tc, .str d td][i]? = some v) : ∃ y k, v = .str y k ∧ y ∈ [a, b, c, d] := by
  have := List.mem_of_getElem? (l := [Value.str a ta, .str b tb, .str c tc, .str d td]) (by simpa using h)
  simp only [List.mem_cons, List.not_mem_nil, or_false] at this
  rcases this with rfl | rfl | rfl | rfl <;> exact ⟨_, _, rfl, by simp⟩
theorem head_name {P : Prop} {g h : Heap} {L : Addr} {q : Addr × Obj} {rest : List (Addr × Obj)} (_ : News g L h (q :: rest)) (k : ∀ q', q' = q → P) : P := k q rfl
theorem mem4 {α : Type} {a b c d q : α} {l : List α} (h : q ∈ l) : q ∈ a :: b :: c :: d :: l := List.mem_cons_of_mem _ (List.mem_cons_of_mem _ (List.mem_cons_of_mem _ (List.mem_cons_of_mem _ h)))
theorem law_end {w : World} {g h' : Heap} {sl L kn nd x dx src : Addr} {tkx : Tok} {oR oK oI oS okn ond : Obj} {sx sy : Int} {tx ty : Tok} {ns i : Nat} {ps : Array Value} {tc tl own : List (Addr × Obj)} {oc : Addr → Prop} {m' : PySem.Str → Option Value} {s₁ : Shared} {tk : Nat}
    (F : Fr g L h' m') (N : News g L h' (ledL w L kn nd x dx src tkx oR oK oI oS okn ond sx sy tx ty ns ps tl)) (hm : m' (PySem.Str.ofString "script") = some (.ref sl)) (cR : ∃ v, oR.data = .cell v) (cK : ∃ v, oK.data = .cell v) (cI : ∃ v, oI.data = .cell v) (cS : ∃ v, oS.data = .cell v)
    (hT : TabOk ps tc) (hoc : oc = fun a => @LT.lt Nat _ (L + 4) a ∧ ∀ q ∈ own, a ≠ q.1) (htc : ∀ p ∈ tc, p ∈ tl ∧ oc p.1) (hown : ∀ p ∈ own, p ∈ tl) (off : ∀ p ∈ tl, p.1 ∉ asL L kn nd x dx src) :
    TurnEnd g L (LawJ sl L (i + 1)) own s₁ { s₁ with heap := h', toks := tk } := by
  subst hoc
  refine TurnEnd.intro (nx := (L + 1 + 1 + 1 + 1, oR) :: (L + 1 + 1 + 1, oK) :: (L + 1 + 1, oI) :: (L + 1, oS) :: (149, tabObj ps) :: tc) F (sub_news N ?_) (fun p hp => (N p (led_tail (hown p hp))).1) ?_
    ⟨hm, oR, oK, oI, oS, ps, tc, ⟨cR, cK, cI, cS⟩, hT, fun p hp => ⟨(htc p hp).2.1, fun _ h => nomatch h⟩, rfl⟩
  · intro q hq
    rcases List.mem_append.mp (show q ∈ [(L + 1 + 1 + 1 + 1, oR), (L + 1 + 1 + 1, oK), (L + 1 + 1, oI), (L + 1, oS)] ++ (149, tabObj ps) :: tc from hq) with h | h
    · exact List.mem_append_left ([(kn, okn), (nd, ond), (x, instObj 91 dx), (dx, ixDict w tkx nd 1), (src, listOf #[.int sx tx, .int sy ty] ns)] ++ (149, tabObj ps) :: tl) h
    · rcases List.mem_cons.mp h with rfl | h
      · exact led_mem.mpr (.inl (List.mem_append_right ([(L + 1 + 1 + 1 + 1, oR), (L + 1 + 1 + 1, oK), (L + 1 + 1, oI), (L + 1, oS)] ++ [(kn, okn), (nd, ond), (x, instObj 91 dx), (dx, ixDict w tkx nd 1), (src, listOf #[.int sx tx, .int sy ty] ns)]) (List.mem_cons_self ..)))
      · exact led_mem.mpr (.inr (htc q h).1)
  · intro q hq p hp
    have hp' := off p (hown p hp)
    have key : q.1 ∈ asL L kn nd x dx src ∨ q ∈ tc := by
      simp only [List.mem_cons] at hq
      rcases hq with rfl | rfl | rfl | rfl | rfl | h
      all_goals first
        | exact .inr h
        | (refine .inl ?_; simp)
    rcases key with h | h
    · exact fun e => hp' (e ▸ h)
    · exact fun e => (htc q h).2.2 p hp e
theorem kv_none {recs : List Rec} {y : PySem.Str} (f : Rec → Value) (h : ¬ ∃ R ∈ recs, R.name = y) : valueAt (recs.map fun R => (R.name, f R)) y = none := valueAt_names fun kv hkv e => by
  obtain ⟨R, hR, rfl⟩ := List.mem_map.mp hkv
  exact h ⟨R, hR, e⟩
theorem name_len {y : PySem.Str} (h : y ∈ [PySem.Str.ofString "k", PySem.Str.ofString "m", PySem.Str.ofString "n", PySem.Str.ofString "other"]) : y.length ≤ 100 := by
  simp only [List.mem_cons, List.not_mem_nil, or_false] at h
  rcases h with rfl | rfl | rfl | rfl
  all_goals exact Nat.le_of_ble_eq_true (by with_unfolding_all rfl)
end
section
local macro_rules | `(tactic| k_ne) => `(tactic| first | exact NeA.l (by with_reducible assumption) | exact NeA.r (by with_reducible assumption) | (refine neN ?_; (try dsimp only); omega))
local macro_rules | `(tactic| k_all) => `(tactic| ((repeat (with_reducible refine' all_cons ?a ?b; (case a => first | exact NeA.l (by with_reducible assumption) | exact NeA.r (by with_reducible assumption) | (refine neN ?_; (try dsimp only); omega)))); with_reducible assumption))
theorem law_holds : PySem.Challenge.rw_nu0047_01.Holds := hd (by
  k_go0
  (first | with_reducible rename Shared => s₁ | rename Shared => s₁)
  (first | with_reducible rename World => w | rename World => w)
  (first | with_reducible rename CodeHd _ _ _ => codeHd | rename CodeHd _ _ _ => codeHd)
  (first | with_reducible rename (Heap.IsList (ghostOf _ _) _ _) => gl | rename (Heap.IsList (ghostOf _ _) _ _) => gl)
  (first | with_reducible rename IntsAre _ _ => hI | rename IntsAre _ _ => hI)
  (first | with_reducible rename Below _ _ _ _ => B₀ | rename Below _ _ _ _ => B₀)
  (first | with_reducible rename Frag.In _ (ghostOf _ _) => X₀ | rename Frag.In _ (ghostOf _ _) => X₀)
  (first | with_reducible rename Top _ _ _ _ _ (ghostOf _ _) => T₀ | rename Top _ _ _ _ _ (ghostOf _ _) => T₀)
  (first | with_reducible rename News _ _ _ _ => N₀ | rename News _ _ _ _ => N₀)
  repeat' ((fail_if_success (with_reducible show wpAny _ _ (exec (Stmt.For _ _ _ _ _) _) _ _ _)); (fail_if_success (with_reducible show wpAny _ _ (pyIter (Value.ref _)) _ _ _)); (fail_if_success (with_reducible show wpAny _ _ (call (Value.ref 74) _ _) _ _ _)); (fail_if_success (with_reducible show wpAny _ _ (call (Value.ref 81) _ _) _ _ _)); (fail_if_success (with_reducible show wpAny _ _ (call (Value.ref 102) _ _) _ _ _)); (fail_if_success (with_reducible show wpAny _ _ (call (Value.ref 109) _ _) _ _ _)); (fail_if_success (with_reducible show wpAny _ _ (call (Value.ref 116) _ _) _ _ _)); (fail_if_success (with_reducible show wpAny _ _ (call (Value.ref 130) _ _) _ _ _)); (fail_if_success (with_reducible show wpAny _ _ (call (Value.ref 135) _ _) _ _ _)); (fail_if_success (with_reducible show wpAny _ _ (call (Value.ref 142) _ _) _ _ _)); (fail_if_success (with_reducible show wpAny _ _ (call (Value.ref 147) _ _) _ _ _)); (first | (k_unfold; (try dsimp only)) | (k_end; wrow_close) | walk1 | (dsimp only; walk1) | (leave1; try dsimp only) | fail "no step"))
  (first | with_reducible rename Fr _ _ _ _ => FZ | rename Fr _ _ _ _ => FZ)
  try k_fold
  k_dflt (with_unfolding_all refine' For_invVF FZ ?k1 ?k2 ?_; (case k1 => exact rfl); (case k2 => exact rfl); k_whole)
  repeat' ((fail_if_success (with_reducible show wpAny _ _ (pyIter (Value.ref _)) _ _ _)); (fail_if_success (with_reducible show wpAny _ _ (call (Value.ref 74) _ _) _ _ _)); (fail_if_success (with_reducible show wpAny _ _ (call (Value.ref 81) _ _) _ _ _)); (fail_if_success (with_reducible show wpAny _ _ (call (Value.ref 102) _ _) _ _ _)); (fail_if_success (with_reducible show wpAny _ _ (call (Value.ref 109) _ _) _ _ _)); (fail_if_success (with_reducible show wpAny _ _ (call (Value.ref 116) _ _) _ _ _)); (fail_if_success (with_reducible show wpAny _ _ (call (Value.ref 130) _ _) _ _ _)); (fail_if_success (with_reducible show wpAny _ _ (call (Value.ref 135) _ _) _ _ _)); (fail_if_success (with_reducible show wpAny _ _ (call (Value.ref 142) _ _) _ _ _)); (fail_if_success (with_reducible show wpAny _ _ (call (Value.ref 147) _ _) _ _ _)); (first | (k_unfold; (try dsimp only)) | (k_end; wrow_close) | walk1 | (dsimp only; walk1) | (leave1; try dsimp only) | fail "no step"))
  (first | with_reducible rename Fr _ _ _ _ => FZ | rename Fr _ _ _ _ => FZ)
  (first | with_reducible rename News _ _ _ _ => NZ | rename News _ _ _ _ => NZ)
  (first | with_reducible rename IsRange _ _ _ _ _ _ _ _ => hR | rename IsRange _ _ _ _ _ _ _ _ => hR)
  refine pack_law NZ (by assumption) (by assumption) (by assumption) (by assumption) ?_
  clear NZ
  repeat (with_reducible rename (Obj.data _ = Data.cell _) => dd; clear dd)
  repeat (with_reducible rename CellsAre _ _ _ => dd; clear dd)
  repeat (with_reducible rename ReadsAllW _ _ _ _ _ _ => dd; clear dd)
  repeat (with_reducible rename ReadsAll _ _ _ _ => dd; clear dd)
  repeat (with_reducible rename Reads _ _ _ _ => dd; clear dd)
  repeat (with_reducible rename Well _ _ _ _ => dd; clear dd)
  intro oR8 oK8 oI8 oS8 NZ hcells
  obtain ⟨n, hn, hn2, eN⟩ := bound12
  rw [eN] at hR
  refine iter_range (n := n) (J := LawJ _ _) rfl hR (small10 hn) (size10 hn) FZ NZ ⟨rfl, _, _, _, _, _, [], hcells, .inl rfl, (fun p hp => nomatch hp), rfl⟩ ?_ ?_
  · intro i tk₀ m₁ news₁ h tk own hi hJ hdis No F₁ N₁
    obtain ⟨hm, oR, oK0, oI0, oS0, ps, tl, ⟨⟨vR, dR⟩, ⟨vK, dK⟩, ⟨vI, dI⟩, ⟨vS, dS⟩⟩, hT, hoff, rfl⟩ := hJ
    have F₂ := fr_view _ F₁ (all1 hm)
    obtain ⟨tw, htw⟩ : ∃ tw, tw = tl ++ own := ⟨_, rfl⟩
    have NN : News (ghostOf s₁.heap [(151, 149)]) s₁.heap.objs.size h ((s₁.heap.objs.size + 1 + 1 + 1 + 1, oR) :: (s₁.heap.objs.size + 1 + 1 + 1, oK0) :: (s₁.heap.objs.size + 1 + 1, oI0) :: (s₁.heap.objs.size + 1, oS0) :: (149, tabObj ps) :: tw) := fun q hq => by
      rw [htw] at hq
      exact (List.mem_append.mp (show q ∈ ((s₁.heap.objs.size + 1 + 1 + 1 + 1, oR) :: (s₁.heap.objs.size + 1 + 1 + 1, oK0) :: (s₁.heap.objs.size + 1 + 1, oI0) :: (s₁.heap.objs.size + 1, oS0) :: (149, tabObj ps) :: tl) ++ own from hq)).elim (N₁ q) (No q)
    obtain ⟨e1, e2, e3, e4, e5, e6, e7, e8, e9, e10⟩ := cells_ne (L := s₁.heap.objs.size) (by assumption)
    have w1 : ∀ p ∈ tw, p.1 ≠ s₁.heap.objs.size + 1 + 1 + 1 + 1 := by rw [htw]; exact tw_off hoff hdis (List.Mem.head _) (by omega)
    have w2 : ∀ p ∈ tw, p.1 ≠ s₁.heap.objs.size + 1 + 1 + 1 := by rw [htw]; exact tw_off hoff hdis (List.Mem.tail _ (List.Mem.head _)) (by omega)
    have w3 : ∀ p ∈ tw, p.1 ≠ s₁.heap.objs.size + 1 + 1 := by rw [htw]; exact tw_off hoff hdis (List.Mem.tail _ (List.Mem.tail _ (List.Mem.head _))) (by omega)
    have w4 : ∀ p ∈ tw, p.1 ≠ s₁.heap.objs.size + 1 := by rw [htw]; exact tw_off hoff hdis (List.Mem.tail _ (List.Mem.tail _ (List.Mem.tail _ (List.Mem.head _)))) (by omega)
    have w5 : ∀ p ∈ tw, p.1 ≠ 149 := by rw [htw]; exact tw_off hoff hdis (List.Mem.tail _ (List.Mem.tail _ (List.Mem.tail _ (List.Mem.tail _ (List.Mem.head _))))) (by omega)
    clear F₁ N₁ NZ FZ No
    repeat' ((fail_if_success (with_reducible show wpAny _ _ (pyIter (Value.ref _)) _ _ _)); (fail_if_success (with_reducible show wpAny _ _ (call (Value.ref 74) _ _) _ _ _)); (fail_if_success (with_reducible show wpAny _ _ (call (Value.ref 81) _ _) _ _ _)); (fail_if_success (with_reducible show wpAny _ _ (call (Value.ref 102) _ _) _ _ _)); (fail_if_success (with_reducible show wpAny _ _ (call (Value.ref 109) _ _) _ _ _)); (fail_if_success (with_reducible show wpAny _ _ (call (Value.ref 116) _ _) _ _ _)); (fail_if_success (with_reducible show wpAny _ _ (call (Value.ref 130) _ _) _ _ _)); (fail_if_success (with_reducible show wpAny _ _ (call (Value.ref 135) _ _) _ _ _)); (fail_if_success (with_reducible show wpAny _ _ (call (Value.ref 142) _ _) _ _ _)); (fail_if_success (with_reducible show wpAny _ _ (call (Value.ref 147) _ _) _ _ _)); (first | (k_unfold; (try dsimp only)) | (k_end; wrow_close) | walk1 | (dsimp only; walk1) | (leave1; try dsimp only) | fail "no step"))
    (first | with_reducible rename Fr _ _ _ _ => F₂ | rename Fr _ _ _ _ => F₂)
    (first | with_reducible rename News _ _ _ _ => N₂ | rename News _ _ _ _ => N₂)
    k_dflt (refine' pool_spec B₀ F₂ X₀ T₀ rfl (stays_list F₂.keep gl) hI (by omega) (by omega) (by omega) ?hdp ?hu ?_; (case hdp => ktr_room); (case hu => ktr_units))
    intro src sx sy tx ty ns h2 tk2 hsx hsy hsyy F₃ k3 fr3 hr3
    have N₃ := (news_fresh F₂ N₂ k3 fr3 hr3).1
    have o3 := (news_fresh F₂ N₂ k3 fr3 hr3).2
    clear F₂ N₂
    have q1 : NeA (s₁.heap.objs.size + 1 + 1 + 1 + 1) src := o3 _ (List.Mem.head _)
    have q2 : NeA (s₁.heap.objs.size + 1 + 1 + 1) src := o3 _ (List.Mem.tail _ (List.Mem.head _))
    have q3 : NeA (s₁.heap.objs.size + 1 + 1) src := o3 _ (List.Mem.tail _ (List.Mem.tail _ (List.Mem.head _)))
    have q4 : NeA (s₁.heap.objs.size + 1) src := o3 _ (List.Mem.tail _ (List.Mem.tail _ (List.Mem.tail _ (List.Mem.head _))))
    have q5 : NeA 149 src := o3 _ (List.Mem.tail _ (List.Mem.tail _ (List.Mem.tail _ (List.Mem.tail _ (List.Mem.head _)))))
    have w6 : ∀ p ∈ tw, p.1 ≠ src := fun p hp => o3 p (List.mem_cons_of_mem _ (List.mem_cons_of_mem _ (List.mem_cons_of_mem _ (List.mem_cons_of_mem _ (List.mem_cons_of_mem _ hp)))))
    clear o3 k3 fr3 hr3
    obtain ⟨oc, hoc⟩ : ∃ oc : Addr → Prop, oc = fun a => @LT.lt Nat _ (s₁.heap.objs.size + 4) a ∧ ∀ q ∈ own, a ≠ q.1 := ⟨_, rfl⟩
    have htc : ∀ p ∈ tl, p ∈ tw ∧ oc p.1 := fun p hp => ⟨by rw [htw]; exact List.mem_append_left _ hp, by rw [hoc]; exact ⟨(hoff p hp).1, hdis p (by simp [hp])⟩⟩
    have hown : ∀ p ∈ own, p ∈ tw := fun p hp => by rw [htw]; exact List.mem_append_right _ hp
    clear hdis hoff
    repeat' ((fail_if_success (with_reducible show wpAny _ _ (subscriptTail _ _ (Value.ref _) (Value.ref _)) _ _ _)); (fail_if_success (with_reducible show wpAny _ _ (exec (Stmt.For _ _ _ _ _) _) _ _ _)); (fail_if_success (with_reducible show wpAny _ _ (pyIter (Value.ref _)) _ _ _)); (fail_if_success (with_reducible show wpAny _ _ (call (Value.ref 74) _ _) _ _ _)); (fail_if_success (with_reducible show wpAny _ _ (call (Value.ref 81) _ _) _ _ _)); (fail_if_success (with_reducible show wpAny _ _ (call (Value.ref 102) _ _) _ _ _)); (fail_if_success (with_reducible show wpAny _ _ (call (Value.ref 109) _ _) _ _ _)); (fail_if_success (with_reducible show wpAny _ _ (call (Value.ref 116) _ _) _ _ _)); (fail_if_success (with_reducible show wpAny _ _ (call (Value.ref 130) _ _) _ _ _)); (fail_if_success (with_reducible show wpAny _ _ (call (Value.ref 135) _ _) _ _ _)); (fail_if_success (with_reducible show wpAny _ _ (call (Value.ref 142) _ _) _ _ _)); (fail_if_success (with_reducible show wpAny _ _ (call (Value.ref 147) _ _) _ _ _)); (fail_if_success (with_reducible show wpAny _ _ (exec (Stmt.Assign _ (Expr.ListComp _ _ _ _) _) _) _ _ _)); (fail_if_success (with_reducible show wpAny _ _ (eval (Expr.ListComp _ _ _ _) _) _ _ _)); (fail_if_success (with_reducible show LCt.CompSrcT _ _ _ _ _ _ _ _ _ _ _ _ _ _ _)); (fail_if_success (with_reducible show LCg.CompSrc _ _ _ _ _ _ _ _ _ _ _ _ _ _)); (fail_if_success (with_reducible show wpAny _ _ (compareOp CmpOp.NotEq (Value.ref _) (Value.ref _)) _ _ _)); (fail_if_success (with_reducible show wpAny _ _ (compareOp CmpOp.Eq (Value.ref _) (Value.ref _)) _ _ _)); (first | (k_unfold; (try dsimp only)) | (k_end; wrow_close) | walk1 | (dsimp only; walk1) | (leave1; try dsimp only) | fail "no step"))
    (first | with_reducible rename News _ _ _ _ => NZ | rename News _ _ _ _ => NZ)
    refine pack_turn NZ (by with_reducible assumption) (by with_reducible assumption) (by with_reducible assumption) (by with_reducible assumption) (by assumption) q1 q2 q3 q4 q5 w1 w2 w3 w4 w5 w6 (by with_reducible assumption) (by with_reducible assumption) (by with_reducible assumption) (by with_reducible assumption) (by with_reducible assumption) (by with_reducible assumption) (by with_reducible assumption) ?_
    have hcR : ∃ v, oR.data = .cell v := ⟨vR, dR⟩
    clear e1 e2 e3 e4 e5 e6 e7 e8 e9 e10 q1 q2 q3 q4 q5 w1 w2 w3 w4 w5 w6 NZ
    (repeat (with_reducible rename (_ ∧ _) => dd; clear dd)); (repeat (with_reducible rename (Obj.IsDictOf _ _ _) => dd; clear dd)); (repeat (with_reducible rename (FlatPairs _ _ _) => dd; clear dd)); (repeat (with_reducible rename (NeA _ _) => dd; clear dd)); (repeat (with_reducible rename (Obj.data _ = _) => dd; clear dd))
    intro kn nd x dx tkx okn ond oK1 oI1 oS1 NZ nodA offA dk dn lok lon cS cI cK
    have np := nePw_of nodA; simp only [NePw, NeAll, and_true] at np; obtain ⟨⟨n0_1, n0_2, n0_3, n0_4, n0_5, n0_6, n0_7, n0_8, n0_9⟩, ⟨n1_2, n1_3, n1_4, n1_5, n1_6, n1_7, n1_8, n1_9⟩, ⟨n2_3, n2_4, n2_5, n2_6, n2_7, n2_8, n2_9⟩, ⟨n3_4, n3_5, n3_6, n3_7, n3_8, n3_9⟩, ⟨n4_5, n4_6, n4_7, n4_8, n4_9⟩, ⟨n5_6, n5_7, n5_8, n5_9⟩, ⟨n6_7, n6_8, n6_9⟩, ⟨n7_8, n7_9⟩, n8_9⟩ := np
    have wo := allOff_of offA; simp only [AllOff, and_true] at wo; obtain ⟨wo0, wo1, wo2, wo3, wo4, wo5, wo6, wo7, wo8, wo9⟩ := wo
    (first | with_reducible rename Fr _ _ _ _ => FZ | rename Fr _ _ _ _ => FZ)
    k_dflt (with_unfolding_all refine' For_invVF FZ ?k1 ?k2 ?_; (case k1 => exact rfl); (case k2 => exact rfl); k_whole)
    repeat' ((fail_if_success (with_reducible show wpAny _ _ (subscriptTail _ _ (Value.ref _) (Value.ref _)) _ _ _)); (fail_if_success (with_reducible show wpAny _ _ (exec (Stmt.For _ _ _ _ _) _) _ _ _)); (fail_if_success (with_reducible show wpAny _ _ (pyIter (Value.ref _)) _ _ _)); (fail_if_success (with_reducible show wpAny _ _ (call (Value.ref 74) _ _) _ _ _)); (fail_if_success (with_reducible show wpAny _ _ (call (Value.ref 81) _ _) _ _ _)); (fail_if_success (with_reducible show wpAny _ _ (call (Value.ref 102) _ _) _ _ _)); (fail_if_success (with_reducible show wpAny _ _ (call (Value.ref 109) _ _) _ _ _)); (fail_if_success (with_reducible show wpAny _ _ (call (Value.ref 116) _ _) _ _ _)); (fail_if_success (with_reducible show wpAny _ _ (call (Value.ref 130) _ _) _ _ _)); (fail_if_success (with_reducible show wpAny _ _ (call (Value.ref 135) _ _) _ _ _)); (fail_if_success (with_reducible show wpAny _ _ (call (Value.ref 142) _ _) _ _ _)); (fail_if_success (with_reducible show wpAny _ _ (call (Value.ref 147) _ _) _ _ _)); (fail_if_success (with_reducible show wpAny _ _ (exec (Stmt.Assign _ (Expr.ListComp _ _ _ _) _) _) _ _ _)); (fail_if_success (with_reducible show wpAny _ _ (eval (Expr.ListComp _ _ _ _) _) _ _ _)); (fail_if_success (with_reducible show LCt.CompSrcT _ _ _ _ _ _ _ _ _ _ _ _ _ _ _)); (fail_if_success (with_reducible show LCg.CompSrc _ _ _ _ _ _ _ _ _ _ _ _ _ _)); (fail_if_success (with_reducible show wpAny _ _ (compareOp CmpOp.NotEq (Value.ref _) (Value.ref _)) _ _ _)); (fail_if_success (with_reducible show wpAny _ _ (compareOp CmpOp.Eq (Value.ref _) (Value.ref _)) _ _ _)); (first | (k_unfold; (try dsimp only)) | (k_end; wrow_close) | walk1 | (dsimp only; walk1) | (leave1; try dsimp only) | fail "no step"))
    rename (_ < (4 : Int)) => hd4
    obtain ⟨n4, hn3, hn4, e4⟩ := nat4 hd4 (by assumption)
    (first | with_reducible rename Fr _ _ _ _ => FZ | rename Fr _ _ _ _ => FZ)
    (first | with_reducible rename News _ _ _ _ => NZ | rename News _ _ _ _ => NZ)
    subst e4
    k_dflt (refine kba_turn (value' := PySem.Expr.Name (PySem.Str.ofString "_") ⟨0, 0, 0, 0⟩) (fun _ => rfl) ?_)
    k_dflt (refine' kmk_slice FZ NZ (isList_of (NZ _ (List.Mem.head _)).1) ?slp ?slq ?_ ?sls ?slt ?slz; (case slp => kmk_part); (case slq => kmk_part); (case sls => with_unfolding_all rfl); (case slt => exact fun _ => rfl); (case slz => exact Nat.le_of_ble_eq_true (by rfl)))
    intro D h5 F5 N5 l5
    rw [pick3 hn3] at N5
    refine iter_list (news := ledL _ _ kn nd x dx src tkx _ oK1 oI1 oS1 okn ond _ _ _ _ _ ps tw) (J := NamesJ w _ _ kn nd x dx src tkx oK1 oI1 oS1 oc own [PySem.Str.ofString "k", PySem.Str.ofString "m", PySem.Str.ofString "n"]) rfl (isList_of (N5 _ (List.Mem.head _)).1) (N5 _ (List.Mem.head _)).2.1 F5
      (sub_news N5 fun q hq => List.Mem.tail _ (List.Mem.tail _ hq)) (fun q hq => Nat.ne_of_lt (l5 q (List.Mem.tail _ hq))) ⟨by with_unfolding_all rfl, _, okn, ond, _, _, _, _, _, ps, [], tl, tw, hcR, hT, htc, hown, dk, dn, by assumption, by assumption, by assumption, rfl, (fun _ h => nomatch h), (fun _ _ _ h => nomatch h), offA, rfl⟩ ?_ ?_
    · clear FZ NZ F5 N5 l5 hT htc hown dk dn hcR offA wo0 wo1 wo2 wo3 wo4 wo5 wo6 wo7 wo8 wo9
      (repeat (with_reducible rename (_ ∧ _) => dd; clear dd))
      intro j v mj newsj hj tkj own2 hv hJ hdis2 No2 F2 N2
      obtain ⟨hm2, oR2, okn2, ond2, sx2, sy2, tx2, ty2, ns2, ps2, recs, tc2, tl2, ⟨vR2, hcR2⟩, hT2, htc2, hown2, dk2, dn2, hsx2, hsy2, hsyy2, hnm, hok, hbr, offA2, rfl⟩ := hJ
      obtain ⟨y, ky, rfl, hy, hj3⟩ := item3 hv
      have F3 : Fr (ghostOf s₁.heap [(151, 149)]) s₁.heap.objs.size hj _ := fr_view _ F2 (all1 hm2)
      clear F2
      obtain ⟨tw2, htw2⟩ : ∃ tw2, tw2 = tl2 ++ own2 := ⟨_, rfl⟩
      have offB : ∀ p ∈ tw2, p.1 ∉ asL s₁.heap.objs.size kn nd x dx src := by rw [htw2]; exact off_tw offA2 led_has hdis2
      have NN : News (ghostOf s₁.heap [(151, 149)]) s₁.heap.objs.size hj (ledL w s₁.heap.objs.size kn nd x dx src tkx oR2 oK1 oI1 oS1 okn2 ond2 sx2 sy2 tx2 ty2 ns2 ps2 tw2) := fun q hq => by
        rw [htw2] at hq
        exact (List.mem_append.mp (show q ∈ ledL w s₁.heap.objs.size kn nd x dx src tkx oR2 oK1 oI1 oS1 okn2 ond2 sx2 sy2 tx2 ty2 ns2 ps2 tl2 ++ own2 from hq)).elim (N2 q) (No2 q)
      clear N2 offA2 No2
      (have wo := allOff_of offB; simp only [AllOff, and_true] at wo; obtain ⟨wo0, wo1, wo2, wo3, wo4, wo5, wo6, wo7, wo8, wo9⟩ := wo)
      repeat' ((fail_if_success (with_reducible show wpAny _ _ (subscriptTail _ _ (Value.ref _) (Value.ref _)) _ _ _)); (fail_if_success (with_reducible show wpAny _ _ (exec (Stmt.For _ _ _ _ _) _) _ _ _)); (fail_if_success (with_reducible show wpAny _ _ (pyIter (Value.ref _)) _ _ _)); (fail_if_success (with_reducible show wpAny _ _ (call (Value.ref 74) _ _) _ _ _)); (fail_if_success (with_reducible show wpAny _ _ (call (Value.ref 81) _ _) _ _ _)); (fail_if_success (with_reducible show wpAny _ _ (call (Value.ref 102) _ _) _ _ _)); (fail_if_success (with_reducible show wpAny _ _ (call (Value.ref 109) _ _) _ _ _)); (fail_if_success (with_reducible show wpAny _ _ (call (Value.ref 116) _ _) _ _ _)); (fail_if_success (with_reducible show wpAny _ _ (call (Value.ref 130) _ _) _ _ _)); (fail_if_success (with_reducible show wpAny _ _ (call (Value.ref 135) _ _) _ _ _)); (fail_if_success (with_reducible show wpAny _ _ (call (Value.ref 142) _ _) _ _ _)); (fail_if_success (with_reducible show wpAny _ _ (call (Value.ref 147) _ _) _ _ _)); (fail_if_success (with_reducible show wpAny _ _ (exec (Stmt.Assign _ (Expr.ListComp _ _ _ _) _) _) _ _ _)); (fail_if_success (with_reducible show wpAny _ _ (eval (Expr.ListComp _ _ _ _) _) _ _ _)); (fail_if_success (with_reducible show LCt.CompSrcT _ _ _ _ _ _ _ _ _ _ _ _ _ _ _)); (fail_if_success (with_reducible show LCg.CompSrc _ _ _ _ _ _ _ _ _ _ _ _ _ _)); (fail_if_success (with_reducible show wpAny _ _ (compareOp CmpOp.NotEq (Value.ref _) (Value.ref _)) _ _ _)); (fail_if_success (with_reducible show wpAny _ _ (compareOp CmpOp.Eq (Value.ref _) (Value.ref _)) _ _ _)); (first | (k_unfold; (try dsimp only)) | (k_end; wrow_close) | walk1 | (dsimp only; walk1) | (leave1; try dsimp only) | fail "no step"))
      (first | with_reducible rename Fr _ _ _ _ => FZ | rename Fr _ _ _ _ => FZ)
      (first | with_reducible rename News _ _ _ _ => NZ | rename News _ _ _ _ => NZ)
      refine pack_rows NZ (by with_reducible assumption) (by with_reducible assumption) (by with_reducible assumption) (by with_reducible assumption) ?_
      clear NZ
      (repeat (with_reducible rename (_ ∧ _) => dd; clear dd)); (repeat (with_reducible rename (FlatPairs _ _ _) => dd; clear dd)); (repeat (with_reducible rename (Obj.IsDictOf _ _ []) => dd; clear dd))
      intro r orr oR3 NZ hcR3 dr lor neR wr
      have neRl := neR
      simp only [NeAll, and_true] at neR
      obtain ⟨r0, r1, r2, r3, r4, r5, r6, r7, r8, r9⟩ := neR
      have offC := off_cons offB wr
      k_dflt (with_unfolding_all refine' For_invVF FZ ?k1 ?k2 ?_; (case k1 => exact rfl); (case k2 => exact rfl); k_whole)
      repeat' ((fail_if_success (with_reducible show wpAny _ _ (subscriptTail _ _ (Value.ref _) (Value.ref _)) _ _ _)); (fail_if_success (with_reducible show wpAny _ _ (exec (Stmt.For _ _ _ _ _) _) _ _ _)); (fail_if_success (with_reducible show wpAny _ _ (pyIter (Value.ref _)) _ _ _)); (fail_if_success (with_reducible show wpAny _ _ (call (Value.ref 74) _ _) _ _ _)); (fail_if_success (with_reducible show wpAny _ _ (call (Value.ref 81) _ _) _ _ _)); (fail_if_success (with_reducible show wpAny _ _ (call (Value.ref 102) _ _) _ _ _)); (fail_if_success (with_reducible show wpAny _ _ (call (Value.ref 109) _ _) _ _ _)); (fail_if_success (with_reducible show wpAny _ _ (call (Value.ref 116) _ _) _ _ _)); (fail_if_success (with_reducible show wpAny _ _ (call (Value.ref 130) _ _) _ _ _)); (fail_if_success (with_reducible show wpAny _ _ (call (Value.ref 135) _ _) _ _ _)); (fail_if_success (with_reducible show wpAny _ _ (call (Value.ref 142) _ _) _ _ _)); (fail_if_success (with_reducible show wpAny _ _ (call (Value.ref 147) _ _) _ _ _)); (fail_if_success (with_reducible show wpAny _ _ (exec (Stmt.Assign _ (Expr.ListComp _ _ _ _) _) _) _ _ _)); (fail_if_success (with_reducible show wpAny _ _ (eval (Expr.ListComp _ _ _ _) _) _ _ _)); (fail_if_success (with_reducible show LCt.CompSrcT _ _ _ _ _ _ _ _ _ _ _ _ _ _ _)); (fail_if_success (with_reducible show LCg.CompSrc _ _ _ _ _ _ _ _ _ _ _ _ _ _)); (fail_if_success (with_reducible show wpAny _ _ (compareOp CmpOp.NotEq (Value.ref _) (Value.ref _)) _ _ _)); (fail_if_success (with_reducible show wpAny _ _ (compareOp CmpOp.Eq (Value.ref _) (Value.ref _)) _ _ _)); (first | (k_unfold; (try dsimp only)) | (k_end; wrow_close) | walk1 | (dsimp only; walk1) | (leave1; try dsimp only) | fail "no step"))
      rename (_ < (10 : Int)) => hd10
      obtain ⟨n10, hn10, e10⟩ := nat10 hd10 (by assumption)
      subst e10
      (first | with_reducible rename IsRange _ _ _ _ _ _ _ _ => hR | rename IsRange _ _ _ _ _ _ _ _ => hR)
      (first | with_reducible rename Fr _ _ _ _ => FZ | rename Fr _ _ _ _ => FZ)
      (first | with_reducible rename News _ _ _ _ => NZ | rename News _ _ _ _ => NZ)
      refine iter_range (n := n10) (J := NodeJ w _ _ kn nd x dx src r tkx oR3 oK1 oI1 oS1 okn2 ond2 ps2 tw2 y ky) rfl hR (small10 hn10) (size10 hn10) FZ NZ ⟨by with_unfolding_all rfl, by with_unfolding_all rfl, orr, _, _, _, _, _, [], [], by assumption, by assumption, by assumption, dr, rfl, (fun _ h => nomatch h), ⟨(fun _ _ _ h => nomatch h), fun _ h => nomatch h⟩, (fun _ h => nomatch h), (fun _ h => nomatch h), rfl⟩ ?_ ?_
      · clear FZ NZ dr hR
        (repeat (with_reducible rename (_ ∧ _) => dd; clear dd)); (repeat (with_reducible rename (FlatPairs _ _ _) => dd; clear dd)); (repeat (with_reducible rename (Obj.IsDictOf _ _ []) => dd; clear dd))
        intro j3 tk3 m3 news3 h3 tkk3 own3 hi3 hJ3 hdis3 No3 F4 N4
        obtain ⟨hm3, hm3n, orr3, sx3, sy3, tx3, ty3, ns3, rs, tr, hsx3, hsy3, hsyy3, dr3, hks, hts, hbr3, offR, offW, rfl⟩ := hJ3
        have F5 : Fr (ghostOf s₁.heap [(151, 149)]) s₁.heap.objs.size h3 _ := fr_view _ F4 (all2 hm3 hm3n)
        clear F4
        obtain ⟨tw3, htw3⟩ : ∃ tw3, tw3 = (tr ++ tw2) ++ own3 := ⟨_, rfl⟩
        have offD : ∀ p ∈ tw3, p.1 ∉ r :: asL s₁.heap.objs.size kn nd x dx src := by rw [htw3]; exact off_tw (off_app offR offC) ledr_has hdis3
        have NN : News (ghostOf s₁.heap [(151, 149)]) s₁.heap.objs.size h3 ((r, orr3) :: ledL w s₁.heap.objs.size kn nd x dx src tkx oR3 oK1 oI1 oS1 okn2 ond2 sx3 sy3 tx3 ty3 ns3 ps2 tw3) := fun q hq => by
          rw [htw3] at hq
          exact (List.mem_append.mp (show q ∈ ((r, orr3) :: ledL w s₁.heap.objs.size kn nd x dx src tkx oR3 oK1 oI1 oS1 okn2 ond2 sx3 sy3 tx3 ty3 ns3 ps2 (tr ++ tw2)) ++ own3 from hq)).elim (N4 q) (No3 q)
        clear N4 No3 wr wo0 wo1 wo2 wo3 wo4 wo5 wo6 wo7 wo8 wo9
        (have wo := allOff_of offD; simp only [AllOff, and_true] at wo; obtain ⟨wr, wo0, wo1, wo2, wo3, wo4, wo5, wo6, wo7, wo8, wo9⟩ := wo)
        repeat' ((fail_if_success (with_reducible show wpAny _ _ (subscriptTail _ _ (Value.ref _) (Value.ref _)) _ _ _)); (fail_if_success (with_reducible show wpAny _ _ (exec (Stmt.For _ _ _ _ _) _) _ _ _)); (fail_if_success (with_reducible show wpAny _ _ (pyIter (Value.ref _)) _ _ _)); (fail_if_success (with_reducible show wpAny _ _ (call (Value.ref 74) _ _) _ _ _)); (fail_if_success (with_reducible show wpAny _ _ (call (Value.ref 81) _ _) _ _ _)); (fail_if_success (with_reducible show wpAny _ _ (call (Value.ref 102) _ _) _ _ _)); (fail_if_success (with_reducible show wpAny _ _ (call (Value.ref 109) _ _) _ _ _)); (fail_if_success (with_reducible show wpAny _ _ (call (Value.ref 116) _ _) _ _ _)); (fail_if_success (with_reducible show wpAny _ _ (call (Value.ref 130) _ _) _ _ _)); (fail_if_success (with_reducible show wpAny _ _ (call (Value.ref 135) _ _) _ _ _)); (fail_if_success (with_reducible show wpAny _ _ (call (Value.ref 142) _ _) _ _ _)); (fail_if_success (with_reducible show wpAny _ _ (call (Value.ref 147) _ _) _ _ _)); (fail_if_success (with_reducible show wpAny _ _ (exec (Stmt.Assign _ (Expr.ListComp _ _ _ _) _) _) _ _ _)); (fail_if_success (with_reducible show wpAny _ _ (eval (Expr.ListComp _ _ _ _) _) _ _ _)); (fail_if_success (with_reducible show LCt.CompSrcT _ _ _ _ _ _ _ _ _ _ _ _ _ _ _)); (fail_if_success (with_reducible show LCg.CompSrc _ _ _ _ _ _ _ _ _ _ _ _ _ _)); (fail_if_success (with_reducible show wpAny _ _ (compareOp CmpOp.NotEq (Value.ref _) (Value.ref _)) _ _ _)); (fail_if_success (with_reducible show wpAny _ _ (compareOp CmpOp.Eq (Value.ref _) (Value.ref _)) _ _ _)); (first | (k_unfold; (try dsimp only)) | (k_end; wrow_close) | walk1 | (dsimp only; walk1) | (leave1; try dsimp only) | fail "no step"))
        k_dflt (refine LCg.Assign_ListComp_U (F₀ := by k_asm) (by rfl) (by with_unfolding_all rfl) (by with_unfolding_all rfl) (by decide) (by rfl) (by decide) (by rfl) (by rfl) (by rfl) ?_)
        repeat' ((fail_if_success (with_reducible show wpAny _ _ (subscriptTail _ _ (Value.ref _) (Value.ref _)) _ _ _)); (fail_if_success (with_reducible show wpAny _ _ (exec (Stmt.For _ _ _ _ _) _) _ _ _)); (fail_if_success (with_reducible show wpAny _ _ (pyIter (Value.ref _)) _ _ _)); (fail_if_success (with_reducible show wpAny _ _ (call (Value.ref 74) _ _) _ _ _)); (fail_if_success (with_reducible show wpAny _ _ (call (Value.ref 81) _ _) _ _ _)); (fail_if_success (with_reducible show wpAny _ _ (call (Value.ref 102) _ _) _ _ _)); (fail_if_success (with_reducible show wpAny _ _ (call (Value.ref 109) _ _) _ _ _)); (fail_if_success (with_reducible show wpAny _ _ (call (Value.ref 116) _ _) _ _ _)); (fail_if_success (with_reducible show wpAny _ _ (call (Value.ref 130) _ _) _ _ _)); (fail_if_success (with_reducible show wpAny _ _ (call (Value.ref 135) _ _) _ _ _)); (fail_if_success (with_reducible show wpAny _ _ (call (Value.ref 142) _ _) _ _ _)); (fail_if_success (with_reducible show wpAny _ _ (call (Value.ref 147) _ _) _ _ _)); (fail_if_success (with_reducible show wpAny _ _ (exec (Stmt.Assign _ (Expr.ListComp _ _ _ _) _) _) _ _ _)); (fail_if_success (with_reducible show wpAny _ _ (eval (Expr.ListComp _ _ _ _) _) _ _ _)); (fail_if_success (with_reducible show LCt.CompSrcT _ _ _ _ _ _ _ _ _ _ _ _ _ _ _)); (fail_if_success (with_reducible show LCg.CompSrc _ _ _ _ _ _ _ _ _ _ _ _ _ _)); (fail_if_success (with_reducible show wpAny _ _ (compareOp CmpOp.NotEq (Value.ref _) (Value.ref _)) _ _ _)); (fail_if_success (with_reducible show wpAny _ _ (compareOp CmpOp.Eq (Value.ref _) (Value.ref _)) _ _ _)); (first | (k_unfold; (try dsimp only)) | (k_end; wrow_close) | walk1 | (dsimp only; walk1) | (leave1; try dsimp only) | fail "no step"))
        rename (_ < (4 : Int)) => hd4
        obtain ⟨n5, hn3, hn4, e4⟩ := nat4 hd4 (by assumption)
        subst e4
        (first | with_reducible rename Fr _ _ _ _ => F6 | rename Fr _ _ _ _ => F6)
        (first | with_reducible rename News _ _ _ _ => N6 | rename News _ _ _ _ => N6)
        k_dflt (refine LCg.CompSrc.range (n := n5) (by rfl) F6 N6 (by assumption) (small10 hn4) (size10 hn4) (by rw [sizeLine_eq]; omega) ?_)
        intro gg
        refine compU_ind (J := fun i ys news => ∃ sx4 sy4 tx4 ty4 ns4 ts, 0 ≤ sx4 ∧ 0 ≤ sy4 ∧ sy4 < 2147483647 ∧ news = (r, orr3) :: ledL w s₁.heap.objs.size kn nd x dx src tkx oR3 oK1 oI1 oS1 okn2 ond2 sx4 sy4 tx4 ty4 ns4 ps2 tw3 ∧ StrsAre ys ts ∧ ts.length = i) ?_ ?_ _ 0 [] _ (Nat.zero_add _) ⟨_, _, _, _, _, [], by assumption, by assumption, by assumption, rfl, .nil, rfl⟩
        · intro j5 ys news5 v5 I5 oI5 C5 oC5 D5 m5 h5 tkk5 E5 hlt5 hJ5 hP5 hC5 hx5 F7 N7 off5 hne5
          obtain ⟨sx4, sy4, tx4, ty4, ns4, ts, hsx4, hsy4, hsyy4, rfl, hys, hln⟩ := hJ5
          obtain ⟨tt5, rfl⟩ := hP5
          clear F6 N6
          repeat' ((fail_if_success (with_reducible show wpAny _ _ (subscriptTail _ _ (Value.ref _) (Value.ref _)) _ _ _)); (fail_if_success (with_reducible show wpAny _ _ (exec (Stmt.For _ _ _ _ _) _) _ _ _)); (fail_if_success (with_reducible show wpAny _ _ (pyIter (Value.ref _)) _ _ _)); (fail_if_success (with_reducible show wpAny _ _ (call (Value.ref 74) _ _) _ _ _)); (fail_if_success (with_reducible show wpAny _ _ (call (Value.ref 81) _ _) _ _ _)); (fail_if_success (with_reducible show wpAny _ _ (call (Value.ref 102) _ _) _ _ _)); (fail_if_success (with_reducible show wpAny _ _ (call (Value.ref 109) _ _) _ _ _)); (fail_if_success (with_reducible show wpAny _ _ (call (Value.ref 116) _ _) _ _ _)); (fail_if_success (with_reducible show wpAny _ _ (call (Value.ref 130) _ _) _ _ _)); (fail_if_success (with_reducible show wpAny _ _ (call (Value.ref 135) _ _) _ _ _)); (fail_if_success (with_reducible show wpAny _ _ (call (Value.ref 142) _ _) _ _ _)); (fail_if_success (with_reducible show wpAny _ _ (call (Value.ref 147) _ _) _ _ _)); (fail_if_success (with_reducible show wpAny _ _ (exec (Stmt.Assign _ (Expr.ListComp _ _ _ _) _) _) _ _ _)); (fail_if_success (with_reducible show wpAny _ _ (eval (Expr.ListComp _ _ _ _) _) _ _ _)); (fail_if_success (with_reducible show LCt.CompSrcT _ _ _ _ _ _ _ _ _ _ _ _ _ _ _)); (fail_if_success (with_reducible show LCg.CompSrc _ _ _ _ _ _ _ _ _ _ _ _ _ _)); (fail_if_success (with_reducible show wpAny _ _ (compareOp CmpOp.NotEq (Value.ref _) (Value.ref _)) _ _ _)); (fail_if_success (with_reducible show wpAny _ _ (compareOp CmpOp.Eq (Value.ref _) (Value.ref _)) _ _ _)); (first | (k_unfold; (try dsimp only)) | (k_end; wrow_close) | walk1 | (dsimp only; walk1) | (leave1; try dsimp only) | fail "no step"))
          (first | with_reducible rename Fr _ _ _ _ => F8 | rename Fr _ _ _ _ => F8)
          (first | with_reducible rename News _ _ _ _ => N8 | rename News _ _ _ _ => N8)
          obtain ⟨z1, z2, z3⟩ := off5.mem (src, listOf #[.int sx4 tx4, .int sy4 ty4] ns4) (by k_memK)
          have z1' : NeA src I5 := z1
          have z2' : NeA src C5 := z2
          have z3' : NeA src D5 := z3
          clear z1 z2 z3
          k_dflt (refine' one_walk B₀ F8 X₀ T₀ rfl N8 (by k_updF) (List.Mem.head _) (neN (by omega)) hsx4 hsy4 hsyy4 ?hdp ?hu ?_; (case hdp => ktr_room); (case hu => ktr_units))
          intro t5 k5 x5 y5 tx5 ty5 n5' h6 tk6 ht5 hsx5 hsy5 hsyy5 F9 N9 k9
          try dsimp only at N9
          clear F8 N8
          exact LCg.CompEnd.intro F9 N9 ((r, orr3) :: ledL w s₁.heap.objs.size kn nd x dx src tkx oR3 oK1 oI1 oS1 okn2 ond2 x5 y5 tx5 ty5 n5' ps2 tw3) (fun p hp => List.mem_cons_of_mem _ hp) off5 trivial
            ⟨x5, y5, tx5, ty5, n5', ts ++ [t5], hsx5, hsy5, hsyy5, rfl, strs_snoc hys t5 k5, by rw [List.length_append, hln]; rfl⟩
        · rintro ys news5 ⟨sx4, sy4, tx4, ty4, ns4, ts, hsx4, hsy4, hsyy4, rfl, hys, hln⟩
          intro D5 h6 tk6 F7 N7 off5
          clear F6 N6
          have hrl : (kvR rs).length ≤ 100 := by have := congrArg List.length hks; simp only [List.length_map, keysTo, List.length_range] at this ⊢; omega
          have off5' : ∀ p ∈ tw3, p.1 ≠ D5 := off1_all off5.2.2.2.2.2.2.2.2.2.2.2
          obtain ⟨z0, z1, z2, z3, z4, z5, z6, z7, z8, z9, z10⟩ : NeA r D5 ∧ NeA (s₁.heap.objs.size + 1 + 1 + 1 + 1) D5 ∧ NeA (s₁.heap.objs.size + 1 + 1 + 1) D5 ∧ NeA (s₁.heap.objs.size + 1 + 1) D5 ∧ NeA (s₁.heap.objs.size + 1) D5 ∧ NeA kn D5 ∧ NeA nd D5 ∧ NeA x D5 ∧ NeA dx D5 ∧ NeA src D5 ∧ NeA 149 D5 :=
            ⟨off5.1, off5.2.1, off5.2.2.1, off5.2.2.2.1, off5.2.2.2.2.1, off5.2.2.2.2.2.1, off5.2.2.2.2.2.2.1, off5.2.2.2.2.2.2.2.1, off5.2.2.2.2.2.2.2.2.1, off5.2.2.2.2.2.2.2.2.2.1, off5.2.2.2.2.2.2.2.2.2.2.1⟩
          have hDn := ne_notin ⟨z0, z1, z2, z3, z4, z5, z6, z7, z8, z9, z10⟩
          repeat' ((fail_if_success (with_reducible show wpAny _ _ (subscriptTail _ _ (Value.ref _) (Value.ref _)) _ _ _)); (fail_if_success (with_reducible show wpAny _ _ (exec (Stmt.For _ _ _ _ _) _) _ _ _)); (fail_if_success (with_reducible show wpAny _ _ (pyIter (Value.ref _)) _ _ _)); (fail_if_success (with_reducible show wpAny _ _ (call (Value.ref 74) _ _) _ _ _)); (fail_if_success (with_reducible show wpAny _ _ (call (Value.ref 81) _ _) _ _ _)); (fail_if_success (with_reducible show wpAny _ _ (call (Value.ref 102) _ _) _ _ _)); (fail_if_success (with_reducible show wpAny _ _ (call (Value.ref 109) _ _) _ _ _)); (fail_if_success (with_reducible show wpAny _ _ (call (Value.ref 116) _ _) _ _ _)); (fail_if_success (with_reducible show wpAny _ _ (call (Value.ref 130) _ _) _ _ _)); (fail_if_success (with_reducible show wpAny _ _ (call (Value.ref 135) _ _) _ _ _)); (fail_if_success (with_reducible show wpAny _ _ (call (Value.ref 142) _ _) _ _ _)); (fail_if_success (with_reducible show wpAny _ _ (call (Value.ref 147) _ _) _ _ _)); (fail_if_success (with_reducible show wpAny _ _ (exec (Stmt.Assign _ (Expr.ListComp _ _ _ _) _) _) _ _ _)); (fail_if_success (with_reducible show wpAny _ _ (eval (Expr.ListComp _ _ _ _) _) _ _ _)); (fail_if_success (with_reducible show LCt.CompSrcT _ _ _ _ _ _ _ _ _ _ _ _ _ _ _)); (fail_if_success (with_reducible show LCg.CompSrc _ _ _ _ _ _ _ _ _ _ _ _ _ _)); (fail_if_success (with_reducible show wpAny _ _ (compareOp CmpOp.NotEq (Value.ref _) (Value.ref _)) _ _ _)); (fail_if_success (with_reducible show wpAny _ _ (compareOp CmpOp.Eq (Value.ref _) (Value.ref _)) _ _ _)); (first | (k_unfold; (try dsimp only)) | (k_end; wrow_close) | walk1 | (dsimp only; walk1) | (leave1; try dsimp only) | fail "no step"))
          (first | with_reducible rename Fr _ _ _ _ => F8 | rename Fr _ _ _ _ => F8)
          (first | with_reducible rename News _ _ _ _ => N8 | rename News _ _ _ _ => N8)
          with_reducible rename (Obj.IsDictOf _ _ (stored _ _ _)) => hd8
          with_reducible rename (_ ∧ _) => lt8
          have htn := lt_notin lt8.2
          rw [htw3] at N8 htn off5'
          exact node_end F8 N8 (by with_unfolding_all rfl) (by with_unfolding_all rfl) (by assumption) (by assumption) (by assumption) hd8 hks hts hbr3 hys (by omega) offR offW hdis3 hDn off5' htn.1 htn.2
      · clear FZ NZ dr hR
        (repeat (with_reducible rename (_ ∧ _) => dd; clear dd)); (repeat (with_reducible rename (FlatPairs _ _ _) => dd; clear dd)); (repeat (with_reducible rename (Obj.IsDictOf _ _ []) => dd; clear dd))
        intro m3 news3 h3 tk3 hJ3 F4 N4
        obtain ⟨hm3, hm3n, orr3, sx3, sy3, tx3, ty3, ns3, rs, tr, hsx3, hsy3, hsyy3, dr3, hks, hts, hbr3, offR, offW, rfl⟩ := hJ3
        have F5 : Fr (ghostOf s₁.heap [(151, 149)]) s₁.heap.objs.size h3 _ := fr_view0 _ F4 (all2 hm3 hm3n)
        clear F4
        obtain ⟨tw3, htw3⟩ : ∃ tw3, tw3 = tr ++ tw2 := ⟨_, rfl⟩
        rw [← htw3] at N4
        have offD : ∀ p ∈ tw3, p.1 ∉ r :: asL s₁.heap.objs.size kn nd x dx src := by rw [htw3]; exact off_app offR offC
        clear wr wo0 wo1 wo2 wo3 wo4 wo5 wo6 wo7 wo8 wo9
        (have wo := allOff_of offD; simp only [AllOff, and_true] at wo; obtain ⟨wr, wo0, wo1, wo2, wo3, wo4, wo5, wo6, wo7, wo8, wo9⟩ := wo)
        have hkp : (keysTo n10).Pairwise (· < ·) := keysTo_pw n10
        have hkl : rs.length = n10 := by have := congrArg List.length hks; simpa [keysTo] using this
        replace N4 : News (ghostOf s₁.heap [(151, 149)]) s₁.heap.objs.size h3 _ := N4
        repeat' ((fail_if_success (with_reducible show wpAny _ _ (call (Value.builtin "sorted") _) _ _ _)); (fail_if_success (with_reducible show wpAny _ _ (eval (Expr.Lambda _ _ _ _) _) _ _ _)); (fail_if_success (with_reducible show wpAny _ _ (subscriptTail _ _ (Value.ref _) (Value.ref _)) _ _ _)); (fail_if_success (with_reducible show wpAny _ _ (exec (Stmt.For _ _ _ _ _) _) _ _ _)); (fail_if_success (with_reducible show wpAny _ _ (pyIter (Value.ref _)) _ _ _)); (fail_if_success (with_reducible show wpAny _ _ (call (Value.ref 74) _ _) _ _ _)); (fail_if_success (with_reducible show wpAny _ _ (call (Value.ref 81) _ _) _ _ _)); (fail_if_success (with_reducible show wpAny _ _ (call (Value.ref 102) _ _) _ _ _)); (fail_if_success (with_reducible show wpAny _ _ (call (Value.ref 109) _ _) _ _ _)); (fail_if_success (with_reducible show wpAny _ _ (call (Value.ref 116) _ _) _ _ _)); (fail_if_success (with_reducible show wpAny _ _ (call (Value.ref 130) _ _) _ _ _)); (fail_if_success (with_reducible show wpAny _ _ (call (Value.ref 135) _ _) _ _ _)); (fail_if_success (with_reducible show wpAny _ _ (call (Value.ref 142) _ _) _ _ _)); (fail_if_success (with_reducible show wpAny _ _ (call (Value.ref 147) _ _) _ _ _)); (fail_if_success (with_reducible show wpAny _ _ (exec (Stmt.Assign _ (Expr.ListComp _ _ _ _) _) _) _ _ _)); (fail_if_success (with_reducible show wpAny _ _ (eval (Expr.ListComp _ _ _ _) _) _ _ _)); (fail_if_success (with_reducible show LCt.CompSrcT _ _ _ _ _ _ _ _ _ _ _ _ _ _ _)); (fail_if_success (with_reducible show LCg.CompSrc _ _ _ _ _ _ _ _ _ _ _ _ _ _)); (fail_if_success (with_reducible show wpAny _ _ (compareOp CmpOp.NotEq (Value.ref _) (Value.ref _)) _ _ _)); (fail_if_success (with_reducible show wpAny _ _ (compareOp CmpOp.Eq (Value.ref _) (Value.ref _)) _ _ _)); (first | (k_unfold; (try dsimp only)) | (k_end; wrow_close) | walk1 | (dsimp only; walk1) | (leave1; try dsimp only) | fail "no step"))
        refine sorted_rows (ks := keysTo n10) lor (Heap.dictOf_iff.mpr ⟨orr3, (N4 _ (List.Mem.head _)).1, dr3⟩) (by rw [List.map_map]; exact hks) hkp (by rw [List.length_map]; omega) rfl F5 N4 ?_
        intro D1 vsK k1 h4 tk4 F6 N6 hne6 hiK
        clear F5 N4
        repeat' ((fail_if_success (with_reducible show wpAny _ _ (call (Value.builtin "sorted") _) _ _ _)); (fail_if_success (with_reducible show wpAny _ _ (eval (Expr.Lambda _ _ _ _) _) _ _ _)); (fail_if_success (with_reducible show wpAny _ _ (subscriptTail _ _ (Value.ref _) (Value.ref _)) _ _ _)); (fail_if_success (with_reducible show wpAny _ _ (exec (Stmt.For _ _ _ _ _) _) _ _ _)); (fail_if_success (with_reducible show wpAny _ _ (pyIter (Value.ref _)) _ _ _)); (fail_if_success (with_reducible show wpAny _ _ (call (Value.ref 74) _ _) _ _ _)); (fail_if_success (with_reducible show wpAny _ _ (call (Value.ref 81) _ _) _ _ _)); (fail_if_success (with_reducible show wpAny _ _ (call (Value.ref 102) _ _) _ _ _)); (fail_if_success (with_reducible show wpAny _ _ (call (Value.ref 109) _ _) _ _ _)); (fail_if_success (with_reducible show wpAny _ _ (call (Value.ref 116) _ _) _ _ _)); (fail_if_success (with_reducible show wpAny _ _ (call (Value.ref 130) _ _) _ _ _)); (fail_if_success (with_reducible show wpAny _ _ (call (Value.ref 135) _ _) _ _ _)); (fail_if_success (with_reducible show wpAny _ _ (call (Value.ref 142) _ _) _ _ _)); (fail_if_success (with_reducible show wpAny _ _ (call (Value.ref 147) _ _) _ _ _)); (fail_if_success (with_reducible show wpAny _ _ (exec (Stmt.Assign _ (Expr.ListComp _ _ _ _) _) _) _ _ _)); (fail_if_success (with_reducible show wpAny _ _ (eval (Expr.ListComp _ _ _ _) _) _ _ _)); (fail_if_success (with_reducible show LCt.CompSrcT _ _ _ _ _ _ _ _ _ _ _ _ _ _ _)); (fail_if_success (with_reducible show LCg.CompSrc _ _ _ _ _ _ _ _ _ _ _ _ _ _)); (fail_if_success (with_reducible show wpAny _ _ (compareOp CmpOp.NotEq (Value.ref _) (Value.ref _)) _ _ _)); (fail_if_success (with_reducible show wpAny _ _ (compareOp CmpOp.Eq (Value.ref _) (Value.ref _)) _ _ _)); (first | (k_unfold; (try dsimp only)) | (k_end; wrow_close) | walk1 | (dsimp only; walk1) | (leave1; try dsimp only) | fail "no step"))
        k_dflt (refine' kla_eval ?d0 ?_; (case d0 => exact rfl))
        have hD1 := D_off hne6
        k_dflt (refine lam_step (A := [(D1, listOf vsK.toArray k1), (r, orr3)]) (tc := tc2) F6 N6 T₀ codeHd rfl (hA2 (ne_of_off hD1 (by simp)) r9) nodA wo9 hT2.s0 (.inl ⟨rfl, rfl, rfl⟩) rfl ?_)
        intro f1 c1 ctv1 ps3 ex1 h5 tk5 F7 N7 hT3 hex1 hf1 hcd1
        obtain ⟨tw4, htw4⟩ : ∃ tw4, tw4 = ex1 ++ tw3 := ⟨_, rfl⟩
        rw [← htw4] at N7 hf1
        have hx1 := ex_off (r := r) ⟨orr3, List.Mem.tail _ (List.Mem.head _)⟩ hex1
        have hf1n := f_off (r := r) ⟨orr3, List.Mem.tail _ (List.Mem.head _)⟩ hf1
        have offE : ∀ p ∈ tw4, p.1 ∉ r :: asL s₁.heap.objs.size kn nd x dx src := by rw [htw4]; exact off_app hx1 offD
        dsimp only [List.cons_append, List.nil_append] at N7
        clear F6 N6 wr wo0 wo1 wo2 wo3 wo4 wo5 wo6 wo7 wo8 wo9
        repeat' ((fail_if_success (with_reducible show wpAny _ _ (call (Value.builtin "sorted") _) _ _ _)); (fail_if_success (with_reducible show wpAny _ _ (eval (Expr.Lambda _ _ _ _) _) _ _ _)); (fail_if_success (with_reducible show wpAny _ _ (subscriptTail _ _ (Value.ref _) (Value.ref _)) _ _ _)); (fail_if_success (with_reducible show wpAny _ _ (exec (Stmt.For _ _ _ _ _) _) _ _ _)); (fail_if_success (with_reducible show wpAny _ _ (pyIter (Value.ref _)) _ _ _)); (fail_if_success (with_reducible show wpAny _ _ (call (Value.ref 74) _ _) _ _ _)); (fail_if_success (with_reducible show wpAny _ _ (call (Value.ref 81) _ _) _ _ _)); (fail_if_success (with_reducible show wpAny _ _ (call (Value.ref 102) _ _) _ _ _)); (fail_if_success (with_reducible show wpAny _ _ (call (Value.ref 109) _ _) _ _ _)); (fail_if_success (with_reducible show wpAny _ _ (call (Value.ref 116) _ _) _ _ _)); (fail_if_success (with_reducible show wpAny _ _ (call (Value.ref 130) _ _) _ _ _)); (fail_if_success (with_reducible show wpAny _ _ (call (Value.ref 135) _ _) _ _ _)); (fail_if_success (with_reducible show wpAny _ _ (call (Value.ref 142) _ _) _ _ _)); (fail_if_success (with_reducible show wpAny _ _ (call (Value.ref 147) _ _) _ _ _)); (fail_if_success (with_reducible show wpAny _ _ (exec (Stmt.Assign _ (Expr.ListComp _ _ _ _) _) _) _ _ _)); (fail_if_success (with_reducible show wpAny _ _ (eval (Expr.ListComp _ _ _ _) _) _ _ _)); (fail_if_success (with_reducible show LCt.CompSrcT _ _ _ _ _ _ _ _ _ _ _ _ _ _ _)); (fail_if_success (with_reducible show LCg.CompSrc _ _ _ _ _ _ _ _ _ _ _ _ _ _)); (fail_if_success (with_reducible show wpAny _ _ (compareOp CmpOp.NotEq (Value.ref _) (Value.ref _)) _ _ _)); (fail_if_success (with_reducible show wpAny _ _ (compareOp CmpOp.Eq (Value.ref _) (Value.ref _)) _ _ _)); (first | (k_unfold; (try dsimp only)) | (k_end; wrow_close) | walk1 | (dsimp only; walk1) | (leave1; try dsimp only) | fail "no step"))
        k_dflt (refine' kla_eval ?d0 ?_; (case d0 => exact rfl))
        k_dflt (refine lam_step (A := [(f1, _), (D1, listOf vsK.toArray k1), (r, orr3)]) (tc := ex1 ++ tc2) F7 N7 T₀ codeHd rfl (hA3 (ne_of_off hf1n (by simp)) (ne_of_off hD1 (by simp)) r9) nodA (off_ne offE (by simp)) hT3 (.inr ⟨rfl, rfl, rfl⟩) rfl ?_)
        intro f2 c2 ctv2 ps4 ex2 h6 tk6 F8 N8 hT4 hex2 hf2 hcd2
        obtain ⟨tw5, htw5⟩ : ∃ tw5, tw5 = ex2 ++ tw4 := ⟨_, rfl⟩
        rw [← htw5] at N8 hf2
        have hx2 := ex_off (r := r) ⟨orr3, List.Mem.tail _ (List.Mem.tail _ (List.Mem.head _))⟩ hex2
        have hf2n := f_off (r := r) ⟨orr3, List.Mem.tail _ (List.Mem.tail _ (List.Mem.head _))⟩ hf2
        have offG : ∀ p ∈ tw5, p.1 ∉ r :: asL s₁.heap.objs.size kn nd x dx src := by rw [htw5]; exact off_app hx2 offE
        dsimp only [List.cons_append, List.nil_append] at N8
        clear F7 N7
        repeat' ((fail_if_success (with_reducible show wpAny _ _ (call (Value.builtin "sorted") _) _ _ _)); (fail_if_success (with_reducible show wpAny _ _ (eval (Expr.Lambda _ _ _ _) _) _ _ _)); (fail_if_success (with_reducible show wpAny _ _ (subscriptTail _ _ (Value.ref _) (Value.ref _)) _ _ _)); (fail_if_success (with_reducible show wpAny _ _ (exec (Stmt.For _ _ _ _ _) _) _ _ _)); (fail_if_success (with_reducible show wpAny _ _ (pyIter (Value.ref _)) _ _ _)); (fail_if_success (with_reducible show wpAny _ _ (call (Value.ref 74) _ _) _ _ _)); (fail_if_success (with_reducible show wpAny _ _ (call (Value.ref 81) _ _) _ _ _)); (fail_if_success (with_reducible show wpAny _ _ (call (Value.ref 102) _ _) _ _ _)); (fail_if_success (with_reducible show wpAny _ _ (call (Value.ref 109) _ _) _ _ _)); (fail_if_success (with_reducible show wpAny _ _ (call (Value.ref 116) _ _) _ _ _)); (fail_if_success (with_reducible show wpAny _ _ (call (Value.ref 130) _ _) _ _ _)); (fail_if_success (with_reducible show wpAny _ _ (call (Value.ref 135) _ _) _ _ _)); (fail_if_success (with_reducible show wpAny _ _ (call (Value.ref 142) _ _) _ _ _)); (fail_if_success (with_reducible show wpAny _ _ (call (Value.ref 147) _ _) _ _ _)); (fail_if_success (with_reducible show wpAny _ _ (exec (Stmt.Assign _ (Expr.ListComp _ _ _ _) _) _) _ _ _)); (fail_if_success (with_reducible show wpAny _ _ (eval (Expr.ListComp _ _ _ _) _) _ _ _)); (fail_if_success (with_reducible show LCt.CompSrcT _ _ _ _ _ _ _ _ _ _ _ _ _ _ _)); (fail_if_success (with_reducible show LCg.CompSrc _ _ _ _ _ _ _ _ _ _ _ _ _ _)); (fail_if_success (with_reducible show wpAny _ _ (compareOp CmpOp.NotEq (Value.ref _) (Value.ref _)) _ _ _)); (fail_if_success (with_reducible show wpAny _ _ (compareOp CmpOp.Eq (Value.ref _) (Value.ref _)) _ _ _)); (first | (k_unfold; (try dsimp only)) | (k_end; wrow_close) | walk1 | (dsimp only; walk1) | (leave1; try dsimp only) | fail "no step"))
        (first | with_reducible rename Fr _ _ _ _ => F9 | rename Fr _ _ _ _ => F9)
        (first | with_reducible rename News _ _ _ _ => N9 | rename News _ _ _ _ => N9)
        have htr5 : ∀ p ∈ tr, p ∈ tw5 := fun p hp => by rw [htw5, htw4, htw3]; simp [hp]
        have htl5 : ∀ p ∈ tl2, p ∈ tw5 := fun p hp => by rw [htw5, htw4, htw3, htw2]; simp [hp]
        have hst5 : ∀ p ∈ tw5, h6.get? p.1 = some p.2 := fun p hp => (N9 p (by simp [hp])).1
        have hcA := hcd1 h6 (fun p hp => hst5 p (by
          rcases List.mem_append.mp hp with hp | hp
          · rw [htw5, htw4]; simp [hp]
          · exact htl5 p (htc2 p hp).1))
        have hcB := hcd2 h6 (fun p hp => hst5 p (by
          rcases List.mem_append.mp hp with hp | hp
          · rw [htw5]; simp [hp]
          · rcases List.mem_append.mp hp with hp | hp
            · rw [htw5, htw4]; simp [hp]
            · exact htl5 p (htc2 p hp).1))
        have hndn : ([PySem.Str.ofString "k", PySem.Str.ofString "m", PySem.Str.ofString "n"] : List PySem.Str).Nodup := by decide +kernel
        have hlr : recs.length ≤ 3 := by have := congrArg List.length hnm; simp at this; omega
        k_dflt (refine' fill_walk (tr := tr) (tl := tw5) (recs := recs) (rs := rs) (n := n10) B₀ F9 X₀ T₀ rfl N9 hcR3 nodA (not_mem_ne neRl) lon lor dn2 dr3 hks hn10 hts hbr3 htr5 offG hcA hcB hiK (valueAt_names (kvN_none hndn hnm hy _)) (by omega) hD1 hf1n hf2n ?hdp ?hu ?_; (case hdp => ktr_room); (case hu => ktr_units))
        intro d es od ond' h7 tk7 F10 N10 hfr hond' hdd hlo hare hget
        clear F9 N9
        have hx6 := dx_off (r := r) (A := [(f2, _), (f1, _), (D1, _), (r, orr3)]) ⟨orr3, List.Mem.tail _ (List.Mem.tail _ (List.Mem.tail _ (List.Mem.head _)))⟩ hfr
        obtain ⟨tw6, htw6⟩ : ∃ tw6, tw6 = ((d, od) :: es.map Mine.TE.ent) ++ tw5 := ⟨_, rfl⟩
        rw [← htw6] at N10
        have offH : ∀ p ∈ tw6, p.1 ∉ r :: asL s₁.heap.objs.size kn nd x dx src := by rw [htw6]; exact off_app hx6 offG
        have kk1 : NeA f2 kn := ne_of_off hf2n (by simp)
        have kk2 : NeA f1 kn := ne_of_off hf1n (by simp)
        have kk3 : NeA D1 kn := ne_of_off hD1 (by simp)
        have kk4 := off_ne (b := kn) offH (by simp)
        have kkl : (kvK recs).length ≤ 3 := by rw [List.length_map]; exact hlr
        repeat' ((fail_if_success (with_reducible show wpAny _ _ (subscriptTail _ _ (Value.ref _) (Value.ref _)) _ _ _)); (fail_if_success (with_reducible show wpAny _ _ (exec (Stmt.For _ _ _ _ _) _) _ _ _)); (fail_if_success (with_reducible show wpAny _ _ (pyIter (Value.ref _)) _ _ _)); (fail_if_success (with_reducible show wpAny _ _ (call (Value.ref 74) _ _) _ _ _)); (fail_if_success (with_reducible show wpAny _ _ (call (Value.ref 81) _ _) _ _ _)); (fail_if_success (with_reducible show wpAny _ _ (call (Value.ref 102) _ _) _ _ _)); (fail_if_success (with_reducible show wpAny _ _ (call (Value.ref 109) _ _) _ _ _)); (fail_if_success (with_reducible show wpAny _ _ (call (Value.ref 116) _ _) _ _ _)); (fail_if_success (with_reducible show wpAny _ _ (call (Value.ref 130) _ _) _ _ _)); (fail_if_success (with_reducible show wpAny _ _ (call (Value.ref 135) _ _) _ _ _)); (fail_if_success (with_reducible show wpAny _ _ (call (Value.ref 142) _ _) _ _ _)); (fail_if_success (with_reducible show wpAny _ _ (call (Value.ref 147) _ _) _ _ _)); (fail_if_success (with_reducible show wpAny _ _ (exec (Stmt.Assign _ (Expr.ListComp _ _ _ _) _) _) _ _ _)); (fail_if_success (with_reducible show wpAny _ _ (eval (Expr.ListComp _ _ _ _) _) _ _ _)); (fail_if_success (with_reducible show LCt.CompSrcT _ _ _ _ _ _ _ _ _ _ _ _ _ _ _)); (fail_if_success (with_reducible show LCg.CompSrc _ _ _ _ _ _ _ _ _ _ _ _ _ _)); (fail_if_success (with_reducible show wpAny _ _ (compareOp CmpOp.NotEq (Value.ref _) (Value.ref _)) _ _ _)); (fail_if_success (with_reducible show wpAny _ _ (compareOp CmpOp.Eq (Value.ref _) (Value.ref _)) _ _ _)); (first | (k_unfold; (try dsimp only)) | (k_end; wrow_close) | walk1 | (dsimp only; walk1) | (leave1; try dsimp only) | fail "no step"))
        (first | with_reducible rename Fr _ _ _ _ => F11 | rename Fr _ _ _ _ => F11)
        (first | with_reducible rename News _ _ _ _ => N11 | rename News _ _ _ _ => N11)
        with_reducible rename (Obj.IsDictOf _ _ (stored _ _ _)) => hdk11
        have i3 : ∀ p ∈ tl2 ++ own2, p ∈ tw3 := fun p hp => by rw [htw3, htw2]; exact List.mem_append_right _ hp
        have i4 : ∀ p ∈ tl2 ++ own2, p ∈ tw4 := fun p hp => by rw [htw4]; exact List.mem_append_right _ (i3 p hp)
        have i5 : ∀ p ∈ tl2 ++ own2, p ∈ tw5 := fun p hp => by rw [htw5]; exact List.mem_append_right _ (i4 p hp)
        have ho1 := ex_oc hoc (fun p hp => i3 p (List.mem_append_left _ (hown2 p hp))) hex1
        have ho2 := ex_oc hoc (fun p hp => i4 p (List.mem_append_left _ (hown2 p hp))) hex2
        have d1 : ∀ p ∈ (d, od) :: es.map Mine.TE.ent, ∀ q ∈ own2, q.1 ≠ p.1 := fun p hp q hq => hfr p hp q (tail4 (i5 q (List.mem_append_right _ hq)))
        have d2 : ∀ p ∈ ex2, ∀ q ∈ own2, q.1 ≠ p.1 := fun p hp q hq => Nat.ne_of_lt (hex2 p hp q (tail3 (i4 q (List.mem_append_right _ hq))))
        have d3 : ∀ p ∈ ex1, ∀ q ∈ own2, q.1 ≠ p.1 := fun p hp q hq => Nat.ne_of_lt (hex1 p hp q (tail2 (i3 q (List.mem_append_right _ hq))))
        have d4 : ∀ p ∈ tr, ∀ q ∈ own2, q.1 ≠ p.1 := fun p hp q hq => offW p hp q (by rw [htw2]; exact List.mem_append_right _ hq)
        have d5 : ∀ q ∈ own2, q.1 ≠ r := fun q hq => off_ne offD (List.Mem.head _) q (i3 q (List.mem_append_right _ hq))
        rw [htw6, htw5, htw4, htw3, htw2] at N11 offH
        exact names_end F11 N11 (by with_unfolding_all rfl) ⟨_, hcR3⟩ hT4.s2 htc2 ho1 ho2 hown2 hdk11 hond' (by assumption) (by assumption) (by assumption) hnm hy hndn hok hbr hks hn10 hts hbr3 dr3 lor hdd hlo hare hget (fun p hp hm => offH p hp (List.mem_cons_of_mem _ hm)) (not_mem_ne neRl) led_has hdis2 (fun p hp => led_tail hp) d1 d2 d3 d4 d5
    · clear FZ NZ F5 N5 l5 hT htc hown dk dn hcR offA wo0 wo1 wo2 wo3 wo4 wo5 wo6 wo7 wo8 wo9
      (repeat (with_reducible rename (_ ∧ _) => dd; clear dd))
      intro m2 news2 h2 tk2 hJ F2 N2
      obtain ⟨hm2, oR2, okn2, ond2, sx2, sy2, tx2, ty2, ns2, ps2, recs, tc2, tl2, ⟨vR2, hcR2⟩, hT2, htc2, hown2, dk2, dn2, hsx2, hsy2, hsyy2, hnm, hok, hbr, offB, rfl⟩ := hJ
      have FZ : Fr (ghostOf s₁.heap [(151, 149)]) s₁.heap.objs.size h2 _ := fr_view0 _ F2 (all1 hm2)
      clear F2
      (have wo := allOff_of offB; simp only [AllOff, and_true] at wo; obtain ⟨wo0, wo1, wo2, wo3, wo4, wo5, wo6, wo7, wo8, wo9⟩ := wo)
      have hndn : ([PySem.Str.ofString "k", PySem.Str.ofString "m", PySem.Str.ofString "n"] : List PySem.Str).Nodup := by decide +kernel
      have hlr : recs.length ≤ 3 := by have := congrArg List.length hnm; simp at this; omega
      have hrn := names_nodup hndn hnm
      dsimp only
      repeat' ((fail_if_success (with_reducible show wpAny _ _ (subscriptTail _ _ (Value.ref _) (Value.ref _)) _ _ _)); (fail_if_success (with_reducible show wpAny _ _ (exec (Stmt.For _ _ _ _ _) _) _ _ _)); (fail_if_success (with_reducible show wpAny _ _ (pyIter (Value.ref _)) _ _ _)); (fail_if_success (with_reducible show wpAny _ _ (call (Value.ref 74) _ _) _ _ _)); (fail_if_success (with_reducible show wpAny _ _ (call (Value.ref 81) _ _) _ _ _)); (fail_if_success (with_reducible show wpAny _ _ (call (Value.ref 102) _ _) _ _ _)); (fail_if_success (with_reducible show wpAny _ _ (call (Value.ref 109) _ _) _ _ _)); (fail_if_success (with_reducible show wpAny _ _ (call (Value.ref 116) _ _) _ _ _)); (fail_if_success (with_reducible show wpAny _ _ (call (Value.ref 130) _ _) _ _ _)); (fail_if_success (with_reducible show wpAny _ _ (call (Value.ref 135) _ _) _ _ _)); (fail_if_success (with_reducible show wpAny _ _ (call (Value.ref 142) _ _) _ _ _)); (fail_if_success (with_reducible show wpAny _ _ (call (Value.ref 147) _ _) _ _ _)); (fail_if_success (with_reducible show wpAny _ _ (exec (Stmt.Assign _ (Expr.ListComp _ _ _ _) _) _) _ _ _)); (fail_if_success (with_reducible show wpAny _ _ (eval (Expr.ListComp _ _ _ _) _) _ _ _)); (fail_if_success (with_reducible show LCt.CompSrcT _ _ _ _ _ _ _ _ _ _ _ _ _ _ _)); (fail_if_success (with_reducible show LCg.CompSrc _ _ _ _ _ _ _ _ _ _ _ _ _ _)); (fail_if_success (with_reducible show wpAny _ _ (compareOp CmpOp.NotEq (Value.ref _) (Value.ref _)) _ _ _)); (fail_if_success (with_reducible show wpAny _ _ (compareOp CmpOp.Eq (Value.ref _) (Value.ref _)) _ _ _)); (first | (k_unfold; (try dsimp only)) | (k_end; wrow_close) | walk1 | (dsimp only; walk1) | (leave1; try dsimp only) | fail "no step"))
      k_dflt (with_unfolding_all refine' For_invVF FZ ?k1 ?k2 ?_; (case k1 => exact rfl); (case k2 => exact rfl); k_whole)
      repeat' ((fail_if_success (with_reducible show wpAny _ _ (subscriptTail _ _ (Value.ref _) (Value.ref _)) _ _ _)); (fail_if_success (with_reducible show wpAny _ _ (exec (Stmt.For _ _ _ _ _) _) _ _ _)); (fail_if_success (with_reducible show wpAny _ _ (pyIter (Value.ref _)) _ _ _)); (fail_if_success (with_reducible show wpAny _ _ (call (Value.ref 74) _ _) _ _ _)); (fail_if_success (with_reducible show wpAny _ _ (call (Value.ref 81) _ _) _ _ _)); (fail_if_success (with_reducible show wpAny _ _ (call (Value.ref 102) _ _) _ _ _)); (fail_if_success (with_reducible show wpAny _ _ (call (Value.ref 109) _ _) _ _ _)); (fail_if_success (with_reducible show wpAny _ _ (call (Value.ref 116) _ _) _ _ _)); (fail_if_success (with_reducible show wpAny _ _ (call (Value.ref 130) _ _) _ _ _)); (fail_if_success (with_reducible show wpAny _ _ (call (Value.ref 135) _ _) _ _ _)); (fail_if_success (with_reducible show wpAny _ _ (call (Value.ref 142) _ _) _ _ _)); (fail_if_success (with_reducible show wpAny _ _ (call (Value.ref 147) _ _) _ _ _)); (fail_if_success (with_reducible show wpAny _ _ (exec (Stmt.Assign _ (Expr.ListComp _ _ _ _) _) _) _ _ _)); (fail_if_success (with_reducible show wpAny _ _ (eval (Expr.ListComp _ _ _ _) _) _ _ _)); (fail_if_success (with_reducible show LCt.CompSrcT _ _ _ _ _ _ _ _ _ _ _ _ _ _ _)); (fail_if_success (with_reducible show LCg.CompSrc _ _ _ _ _ _ _ _ _ _ _ _ _ _)); (fail_if_success (with_reducible show wpAny _ _ (compareOp CmpOp.NotEq (Value.ref _) (Value.ref _)) _ _ _)); (fail_if_success (with_reducible show wpAny _ _ (compareOp CmpOp.Eq (Value.ref _) (Value.ref _)) _ _ _)); (first | (k_unfold; (try dsimp only)) | (k_end; wrow_close) | walk1 | (dsimp only; walk1) | (leave1; try dsimp only) | fail "no step"))
      (first | with_reducible rename Fr _ _ _ _ => FZ | rename Fr _ _ _ _ => FZ)
      (first | with_reducible rename News _ _ _ _ => NZ | rename News _ _ _ _ => NZ)
      refine iter_dict (knd := strKind PG w) (d := kn) (od := okn2) (kvs := kvK recs) (news := ledL w _ kn nd x dx src tkx oR2 oK1 oI1 oS1 okn2 ond2 sx2 sy2 tx2 ty2 ns2 ps2 tl2) (J := RightJ w _ _ kn nd x dx src tkx oR2 oK1 oI1 oS1 okn2 ond2 ps2 tl2) rfl lok dk2 (fun _ _ _ hJ => right_kn hJ) FZ NZ ⟨by with_unfolding_all rfl, _, _, _, _, _, hsx2, hsy2, hsyy2, rfl⟩ ?_ ?_
      · clear FZ NZ
        intro j3 v3 m3 news3 h3 tk3 own3 k3 y3 hk3 hv3 hJ3 hdis3 No3 F3 N3
        obtain ⟨hm3, sx3, sy3, tx3, ty3, ns3, hsx3, hsy3, hsyy3, rfl⟩ := hJ3
        obtain ⟨R, hR, rfl, rfl⟩ := kvK_at hk3
        obtain ⟨t3, rfl⟩ := Value.isStrOf_shape hv3
        have F4 : Fr (ghostOf s₁.heap [(151, 149)]) s₁.heap.objs.size h3 _ := fr_view _ F3 (all1 hm3)
        clear F3
        have hvk := kv_value (fun R => Value.ref R.r) hrn hR
        have hvn := kv_value (fun R => Value.ref R.d) hrn hR
        repeat' ((fail_if_success (with_reducible show wpAny _ _ (subscriptTail _ _ (Value.ref _) (Value.ref _)) _ _ _)); (fail_if_success (with_reducible show wpAny _ _ (exec (Stmt.For _ _ _ _ _) _) _ _ _)); (fail_if_success (with_reducible show wpAny _ _ (pyIter (Value.ref _)) _ _ _)); (fail_if_success (with_reducible show wpAny _ _ (call (Value.ref 74) _ _) _ _ _)); (fail_if_success (with_reducible show wpAny _ _ (call (Value.ref 81) _ _) _ _ _)); (fail_if_success (with_reducible show wpAny _ _ (call (Value.ref 102) _ _) _ _ _)); (fail_if_success (with_reducible show wpAny _ _ (call (Value.ref 109) _ _) _ _ _)); (fail_if_success (with_reducible show wpAny _ _ (call (Value.ref 116) _ _) _ _ _)); (fail_if_success (with_reducible show wpAny _ _ (call (Value.ref 130) _ _) _ _ _)); (fail_if_success (with_reducible show wpAny _ _ (call (Value.ref 135) _ _) _ _ _)); (fail_if_success (with_reducible show wpAny _ _ (call (Value.ref 142) _ _) _ _ _)); (fail_if_success (with_reducible show wpAny _ _ (call (Value.ref 147) _ _) _ _ _)); (fail_if_success (with_reducible show wpAny _ _ (exec (Stmt.Assign _ (Expr.ListComp _ _ _ _) _) _) _ _ _)); (fail_if_success (with_reducible show wpAny _ _ (eval (Expr.ListComp _ _ _ _) _) _ _ _)); (fail_if_success (with_reducible show LCt.CompSrcT _ _ _ _ _ _ _ _ _ _ _ _ _ _ _)); (fail_if_success (with_reducible show LCg.CompSrc _ _ _ _ _ _ _ _ _ _ _ _ _ _)); (fail_if_success (with_reducible show wpAny _ _ (compareOp CmpOp.NotEq (Value.ref _) (Value.ref _)) _ _ _)); (fail_if_success (with_reducible show wpAny _ _ (compareOp CmpOp.Eq (Value.ref _) (Value.ref _)) _ _ _)); (first | (k_unfold; (try dsimp only)) | (k_end; wrow_close) | walk1 | (dsimp only; walk1) | (leave1; try dsimp only) | fail "no step"))
        have hok1 := hok R hR
        have N4 : News (ghostOf s₁.heap [(151, 149)]) s₁.heap.objs.size h3 (ledL w s₁.heap.objs.size kn nd x dx src tkx oR2 oK1 oI1 oS1 okn2 ond2 sx3 sy3 tx3 ty3 ns3 ps2 tl2) := N3
        have No4 : News (ghostOf s₁.heap [(151, 149)]) s₁.heap.objs.size h3 own3 := No3
        clear N3 No3
        obtain ⟨gt, gr⟩ := hbr h3 (fun p hp => (N4 p (led_tail hp)).1) R hR
        k_dflt (refine' right_spec B₀ F4 X₀ T₀ rfl (sub_news N4 (led_src1)) hsx3 hsy3 hsyy3 (N4 _ led_x).1 (N4 _ led_dx).1 (Heap.dictOf_iff.mpr ⟨ond2, (N4 _ led_nd).1, dn2⟩) lon gt gr hvn hok1.due hok1.len hok1.ts hok1.keys hok1.off1 hok1.off2 hok1.k30 ?hdp ?hu ?_; (case hdp => ktr_room); (case hu => ktr_units))
        intro x5 tx5 y5 ty5 n5 h5 tk5 hx5 hy5 hyy5 F5 kp5 g5
        have N5 := updF_news (updsrc nodA wo8) N4 kp5 g5
        have No5 := kp5.news No4 (fun p hp hm => hdis3 _ led_src p hp (List.mem_singleton.mp hm).symm)
        repeat' ((fail_if_success (with_reducible show wpAny _ _ (subscriptTail _ _ (Value.ref _) (Value.ref _)) _ _ _)); (fail_if_success (with_reducible show wpAny _ _ (exec (Stmt.For _ _ _ _ _) _) _ _ _)); (fail_if_success (with_reducible show wpAny _ _ (pyIter (Value.ref _)) _ _ _)); (fail_if_success (with_reducible show wpAny _ _ (call (Value.ref 74) _ _) _ _ _)); (fail_if_success (with_reducible show wpAny _ _ (call (Value.ref 81) _ _) _ _ _)); (fail_if_success (with_reducible show wpAny _ _ (call (Value.ref 102) _ _) _ _ _)); (fail_if_success (with_reducible show wpAny _ _ (call (Value.ref 109) _ _) _ _ _)); (fail_if_success (with_reducible show wpAny _ _ (call (Value.ref 116) _ _) _ _ _)); (fail_if_success (with_reducible show wpAny _ _ (call (Value.ref 130) _ _) _ _ _)); (fail_if_success (with_reducible show wpAny _ _ (call (Value.ref 135) _ _) _ _ _)); (fail_if_success (with_reducible show wpAny _ _ (call (Value.ref 142) _ _) _ _ _)); (fail_if_success (with_reducible show wpAny _ _ (call (Value.ref 147) _ _) _ _ _)); (fail_if_success (with_reducible show wpAny _ _ (exec (Stmt.Assign _ (Expr.ListComp _ _ _ _) _) _) _ _ _)); (fail_if_success (with_reducible show wpAny _ _ (eval (Expr.ListComp _ _ _ _) _) _ _ _)); (fail_if_success (with_reducible show LCt.CompSrcT _ _ _ _ _ _ _ _ _ _ _ _ _ _ _)); (fail_if_success (with_reducible show LCg.CompSrc _ _ _ _ _ _ _ _ _ _ _ _ _ _)); (fail_if_success (with_reducible show wpAny _ _ (compareOp CmpOp.NotEq (Value.ref _) (Value.ref _)) _ _ _)); (fail_if_success (with_reducible show wpAny _ _ (compareOp CmpOp.Eq (Value.ref _) (Value.ref _)) _ _ _)); (first | (k_unfold; (try dsimp only)) | (k_end; wrow_close) | walk1 | (dsimp only; walk1) | (leave1; try dsimp only) | fail "no step"))
        exact right_end (by with_unfolding_all rfl) hx5 hy5 hyy5 hdis3 F5 N5 No5
      · clear FZ NZ
        intro m3 news3 h3 tk3 hJ3 F3 N3
        obtain ⟨hm3, sx3, sy3, tx3, ty3, ns3, hsx3, hsy3, hsyy3, rfl⟩ := hJ3
        have FZ : Fr (ghostOf s₁.heap [(151, 149)]) s₁.heap.objs.size h3 _ := fr_view0 _ F3 (all1 hm3)
        clear F3
        dsimp only
        have N4 : News (ghostOf s₁.heap [(151, 149)]) s₁.heap.objs.size h3 (ledL w s₁.heap.objs.size kn nd x dx src tkx oR2 oK1 oI1 oS1 okn2 ond2 sx3 sy3 tx3 ty3 ns3 ps2 tl2) := N3
        clear N3
        repeat' ((fail_if_success (with_reducible show wpAny _ _ (subscriptTail _ _ (Value.ref _) (Value.ref _)) _ _ _)); (fail_if_success (with_reducible show wpAny _ _ (exec (Stmt.For _ _ _ _ _) _) _ _ _)); (fail_if_success (with_reducible show wpAny _ _ (pyIter (Value.ref _)) _ _ _)); (fail_if_success (with_reducible show wpAny _ _ (call (Value.ref 74) _ _) _ _ _)); (fail_if_success (with_reducible show wpAny _ _ (call (Value.ref 81) _ _) _ _ _)); (fail_if_success (with_reducible show wpAny _ _ (call (Value.ref 102) _ _) _ _ _)); (fail_if_success (with_reducible show wpAny _ _ (call (Value.ref 109) _ _) _ _ _)); (fail_if_success (with_reducible show wpAny _ _ (call (Value.ref 116) _ _) _ _ _)); (fail_if_success (with_reducible show wpAny _ _ (call (Value.ref 130) _ _) _ _ _)); (fail_if_success (with_reducible show wpAny _ _ (call (Value.ref 135) _ _) _ _ _)); (fail_if_success (with_reducible show wpAny _ _ (call (Value.ref 142) _ _) _ _ _)); (fail_if_success (with_reducible show wpAny _ _ (call (Value.ref 147) _ _) _ _ _)); (fail_if_success (with_reducible show wpAny _ _ (exec (Stmt.Assign _ (Expr.ListComp _ _ _ _) _) _) _ _ _)); (fail_if_success (with_reducible show wpAny _ _ (eval (Expr.ListComp _ _ _ _) _) _ _ _)); (fail_if_success (with_reducible show LCt.CompSrcT _ _ _ _ _ _ _ _ _ _ _ _ _ _ _)); (fail_if_success (with_reducible show LCg.CompSrc _ _ _ _ _ _ _ _ _ _ _ _ _ _)); (fail_if_success (with_reducible show wpAny _ _ (compareOp CmpOp.NotEq (Value.ref _) (Value.ref _)) _ _ _)); (fail_if_success (with_reducible show wpAny _ _ (compareOp CmpOp.Eq (Value.ref _) (Value.ref _)) _ _ _)); (first | (k_unfold; (try dsimp only)) | (k_end; wrow_close) | walk1 | (dsimp only; walk1) | (leave1; try dsimp only) | fail "no step"))
        k_dflt (refine LCt.ListComp_T (F₀ := by k_asm) (by with_unfolding_all rfl) (by decide) (by rfl) (by decide) (by rfl) ?_)
        repeat' ((fail_if_success (with_reducible show wpAny _ _ (subscriptTail _ _ (Value.ref _) (Value.ref _)) _ _ _)); (fail_if_success (with_reducible show wpAny _ _ (exec (Stmt.For _ _ _ _ _) _) _ _ _)); (fail_if_success (with_reducible show wpAny _ _ (pyIter (Value.ref _)) _ _ _)); (fail_if_success (with_reducible show wpAny _ _ (call (Value.ref 74) _ _) _ _ _)); (fail_if_success (with_reducible show wpAny _ _ (call (Value.ref 81) _ _) _ _ _)); (fail_if_success (with_reducible show wpAny _ _ (call (Value.ref 102) _ _) _ _ _)); (fail_if_success (with_reducible show wpAny _ _ (call (Value.ref 109) _ _) _ _ _)); (fail_if_success (with_reducible show wpAny _ _ (call (Value.ref 116) _ _) _ _ _)); (fail_if_success (with_reducible show wpAny _ _ (call (Value.ref 130) _ _) _ _ _)); (fail_if_success (with_reducible show wpAny _ _ (call (Value.ref 135) _ _) _ _ _)); (fail_if_success (with_reducible show wpAny _ _ (call (Value.ref 142) _ _) _ _ _)); (fail_if_success (with_reducible show wpAny _ _ (call (Value.ref 147) _ _) _ _ _)); (fail_if_success (with_reducible show wpAny _ _ (exec (Stmt.Assign _ (Expr.ListComp _ _ _ _) _) _) _ _ _)); (fail_if_success (with_reducible show wpAny _ _ (eval (Expr.ListComp _ _ _ _) _) _ _ _)); (fail_if_success (with_reducible show LCt.CompSrcT _ _ _ _ _ _ _ _ _ _ _ _ _ _ _)); (fail_if_success (with_reducible show LCg.CompSrc _ _ _ _ _ _ _ _ _ _ _ _ _ _)); (fail_if_success (with_reducible show wpAny _ _ (compareOp CmpOp.NotEq (Value.ref _) (Value.ref _)) _ _ _)); (fail_if_success (with_reducible show wpAny _ _ (compareOp CmpOp.Eq (Value.ref _) (Value.ref _)) _ _ _)); (first | (k_unfold; (try dsimp only)) | (k_end; wrow_close) | walk1 | (dsimp only; walk1) | (leave1; try dsimp only) | fail "no step"))
        (first | with_reducible rename Fr _ _ _ _ => FZ | rename Fr _ _ _ _ => FZ)
        (first | with_reducible rename News _ _ _ _ => NZ | rename News _ _ _ _ => NZ)
        refine head_name NZ ?_
        intro q0 e0
        k_dflt (refine LCt.CompSrcT.ledger (by rfl) FZ NZ (List.Mem.head _) (Nat.le_of_ble_eq_true (by rfl)) ?_)
        intro gg
        refine compT_ind (J := fun i ys news => news = q0 :: ledL w s₁.heap.objs.size kn nd x dx src tkx oR2 oK1 oI1 oS1 okn2 ond2 sx3 sy3 tx3 ty3 ns3 ps2 tl2 ∧ ys = []) ?_ ?_ _ 0 [] _ (Nat.zero_add _) ⟨by rw [e0], rfl⟩
        · intro j ys news v I oI C oC D m₂ hh tkk E' hlt hJ hP hC hx F5 N5 off5 hne5
          obtain ⟨rfl, rfl⟩ := hJ
          subst e0
          obtain ⟨y, ky, rfl, hy⟩ := item4 hP
          clear FZ NZ
          repeat' ((fail_if_success (with_reducible show wpAny _ _ (subscriptTail _ _ (Value.ref _) (Value.ref _)) _ _ _)); (fail_if_success (with_reducible show wpAny _ _ (exec (Stmt.For _ _ _ _ _) _) _ _ _)); (fail_if_success (with_reducible show wpAny _ _ (pyIter (Value.ref _)) _ _ _)); (fail_if_success (with_reducible show wpAny _ _ (call (Value.ref 74) _ _) _ _ _)); (fail_if_success (with_reducible show wpAny _ _ (call (Value.ref 81) _ _) _ _ _)); (fail_if_success (with_reducible show wpAny _ _ (call (Value.ref 102) _ _) _ _ _)); (fail_if_success (with_reducible show wpAny _ _ (call (Value.ref 109) _ _) _ _ _)); (fail_if_success (with_reducible show wpAny _ _ (call (Value.ref 116) _ _) _ _ _)); (fail_if_success (with_reducible show wpAny _ _ (call (Value.ref 130) _ _) _ _ _)); (fail_if_success (with_reducible show wpAny _ _ (call (Value.ref 135) _ _) _ _ _)); (fail_if_success (with_reducible show wpAny _ _ (call (Value.ref 142) _ _) _ _ _)); (fail_if_success (with_reducible show wpAny _ _ (call (Value.ref 147) _ _) _ _ _)); (fail_if_success (with_reducible show wpAny _ _ (exec (Stmt.Assign _ (Expr.ListComp _ _ _ _) _) _) _ _ _)); (fail_if_success (with_reducible show wpAny _ _ (eval (Expr.ListComp _ _ _ _) _) _ _ _)); (fail_if_success (with_reducible show LCt.CompSrcT _ _ _ _ _ _ _ _ _ _ _ _ _ _ _)); (fail_if_success (with_reducible show LCg.CompSrc _ _ _ _ _ _ _ _ _ _ _ _ _ _)); (fail_if_success (with_reducible show wpAny _ _ (compareOp CmpOp.NotEq (Value.ref _) (Value.ref _)) _ _ _)); (fail_if_success (with_reducible show wpAny _ _ (compareOp CmpOp.Eq (Value.ref _) (Value.ref _)) _ _ _)); (first | (k_unfold; (try dsimp only)) | (k_end; wrow_close) | walk1 | (dsimp only; walk1) | (leave1; try dsimp only) | fail "no step"))
          (first | with_reducible rename Fr _ _ _ _ => F6 | rename Fr _ _ _ _ => F6)
          (first | with_reducible rename News _ _ _ _ => N6 | rename News _ _ _ _ => N6)
          have gx6 := (N6 _ (mem4 led_x)).1
          have gdx6 := (N6 _ (mem4 led_dx)).1
          have gnd6 := Heap.dictOf_iff.mpr ⟨ond2, (N6 _ (mem4 led_nd)).1, dn2⟩
          by_cases hkn : ∃ R ∈ recs, R.name = y
          · obtain ⟨R, hR, rfl⟩ := hkn
            have hok1 := hok R hR
            have hvk := kv_value (fun R => Value.ref R.r) hrn hR
            have hvn := kv_value (fun R => Value.ref R.d) hrn hR
            obtain ⟨gt, gr⟩ := hbr hh (fun p hp => (N6 p (mem4 (led_tail hp))).1) R hR
            k_dflt (refine' refused_no B₀ F6 X₀ T₀ rfl gx6 gdx6 gnd6 lon gt hvn (by rw [hok1.due]; exact Nat.le_trans (due_len _ _) (Nat.le_trans hok1.len (by decide))) ?hdp ?hu ?_; (case hdp => ktr_room); (case hu => ktr_units))
            intro h7 tk7 F7 kp7
            have N7 := kp7.news N6 (fun _ _ hm => nomatch hm)
            clear F6 N6
            repeat' ((fail_if_success (with_reducible show wpAny _ _ (subscriptTail _ _ (Value.ref _) (Value.ref _)) _ _ _)); (fail_if_success (with_reducible show wpAny _ _ (exec (Stmt.For _ _ _ _ _) _) _ _ _)); (fail_if_success (with_reducible show wpAny _ _ (pyIter (Value.ref _)) _ _ _)); (fail_if_success (with_reducible show wpAny _ _ (call (Value.ref 74) _ _) _ _ _)); (fail_if_success (with_reducible show wpAny _ _ (call (Value.ref 81) _ _) _ _ _)); (fail_if_success (with_reducible show wpAny _ _ (call (Value.ref 102) _ _) _ _ _)); (fail_if_success (with_reducible show wpAny _ _ (call (Value.ref 109) _ _) _ _ _)); (fail_if_success (with_reducible show wpAny _ _ (call (Value.ref 116) _ _) _ _ _)); (fail_if_success (with_reducible show wpAny _ _ (call (Value.ref 130) _ _) _ _ _)); (fail_if_success (with_reducible show wpAny _ _ (call (Value.ref 135) _ _) _ _ _)); (fail_if_success (with_reducible show wpAny _ _ (call (Value.ref 142) _ _) _ _ _)); (fail_if_success (with_reducible show wpAny _ _ (call (Value.ref 147) _ _) _ _ _)); (fail_if_success (with_reducible show wpAny _ _ (exec (Stmt.Assign _ (Expr.ListComp _ _ _ _) _) _) _ _ _)); (fail_if_success (with_reducible show wpAny _ _ (eval (Expr.ListComp _ _ _ _) _) _ _ _)); (fail_if_success (with_reducible show LCt.CompSrcT _ _ _ _ _ _ _ _ _ _ _ _ _ _ _)); (fail_if_success (with_reducible show LCg.CompSrc _ _ _ _ _ _ _ _ _ _ _ _ _ _)); (fail_if_success (with_reducible show wpAny _ _ (compareOp CmpOp.NotEq (Value.ref _) (Value.ref _)) _ _ _)); (fail_if_success (with_reducible show wpAny _ _ (compareOp CmpOp.Eq (Value.ref _) (Value.ref _)) _ _ _)); (first | (k_unfold; (try dsimp only)) | (k_end; wrow_close) | walk1 | (dsimp only; walk1) | (leave1; try dsimp only) | fail "no step"))
            exact LCg.CompEnd.intro F7 N7 _ (fun p hp => hp) off5 (.inr ⟨_, List.Mem.head _, rfl, _, rfl⟩) ⟨rfl, rfl⟩
          · have hvk := kv_none (fun R => Value.ref R.r) hkn
            have hvn := kv_none (fun R => Value.ref R.d) hkn
            k_dflt (refine' refused_yes B₀ F6 X₀ T₀ rfl X₀ T₀ gx6 gdx6 gnd6 lon hvn (name_len hy) ?hdp ?hu ?_; (case hdp => ktr_room); (case hu => ktr_units))
            intro h7 tk7 F7 kp7
            have N7 := kp7.news N6 (fun p hp hm => (N6 p hp).2.1 (List.mem_singleton.mp hm))
            clear F6 N6
            repeat' ((fail_if_success (with_reducible show wpAny _ _ (subscriptTail _ _ (Value.ref _) (Value.ref _)) _ _ _)); (fail_if_success (with_reducible show wpAny _ _ (exec (Stmt.For _ _ _ _ _) _) _ _ _)); (fail_if_success (with_reducible show wpAny _ _ (pyIter (Value.ref _)) _ _ _)); (fail_if_success (with_reducible show wpAny _ _ (call (Value.ref 74) _ _) _ _ _)); (fail_if_success (with_reducible show wpAny _ _ (call (Value.ref 81) _ _) _ _ _)); (fail_if_success (with_reducible show wpAny _ _ (call (Value.ref 102) _ _) _ _ _)); (fail_if_success (with_reducible show wpAny _ _ (call (Value.ref 109) _ _) _ _ _)); (fail_if_success (with_reducible show wpAny _ _ (call (Value.ref 116) _ _) _ _ _)); (fail_if_success (with_reducible show wpAny _ _ (call (Value.ref 130) _ _) _ _ _)); (fail_if_success (with_reducible show wpAny _ _ (call (Value.ref 135) _ _) _ _ _)); (fail_if_success (with_reducible show wpAny _ _ (call (Value.ref 142) _ _) _ _ _)); (fail_if_success (with_reducible show wpAny _ _ (call (Value.ref 147) _ _) _ _ _)); (fail_if_success (with_reducible show wpAny _ _ (exec (Stmt.Assign _ (Expr.ListComp _ _ _ _) _) _) _ _ _)); (fail_if_success (with_reducible show wpAny _ _ (eval (Expr.ListComp _ _ _ _) _) _ _ _)); (fail_if_success (with_reducible show LCt.CompSrcT _ _ _ _ _ _ _ _ _ _ _ _ _ _ _)); (fail_if_success (with_reducible show LCg.CompSrc _ _ _ _ _ _ _ _ _ _ _ _ _ _)); (fail_if_success (with_reducible show wpAny _ _ (compareOp CmpOp.NotEq (Value.ref _) (Value.ref _)) _ _ _)); (fail_if_success (with_reducible show wpAny _ _ (compareOp CmpOp.Eq (Value.ref _) (Value.ref _)) _ _ _)); (first | (k_unfold; (try dsimp only)) | (k_end; wrow_close) | walk1 | (dsimp only; walk1) | (leave1; try dsimp only) | fail "no step"))
            exact LCg.CompEnd.intro F7 N7 _ (fun p hp => hp) off5 (.inr ⟨_, List.Mem.head _, rfl, _, rfl⟩) ⟨rfl, rfl⟩
        · rintro ys news ⟨rfl, rfl⟩
          subst e0
          intro D5 h6 tk6 F7 N7 off6
          clear FZ NZ
          repeat' ((fail_if_success (with_reducible show wpAny _ _ (subscriptTail _ _ (Value.ref _) (Value.ref _)) _ _ _)); (fail_if_success (with_reducible show wpAny _ _ (exec (Stmt.For _ _ _ _ _) _) _ _ _)); (fail_if_success (with_reducible show wpAny _ _ (pyIter (Value.ref _)) _ _ _)); (fail_if_success (with_reducible show wpAny _ _ (call (Value.ref 74) _ _) _ _ _)); (fail_if_success (with_reducible show wpAny _ _ (call (Value.ref 81) _ _) _ _ _)); (fail_if_success (with_reducible show wpAny _ _ (call (Value.ref 102) _ _) _ _ _)); (fail_if_success (with_reducible show wpAny _ _ (call (Value.ref 109) _ _) _ _ _)); (fail_if_success (with_reducible show wpAny _ _ (call (Value.ref 116) _ _) _ _ _)); (fail_if_success (with_reducible show wpAny _ _ (call (Value.ref 130) _ _) _ _ _)); (fail_if_success (with_reducible show wpAny _ _ (call (Value.ref 135) _ _) _ _ _)); (fail_if_success (with_reducible show wpAny _ _ (call (Value.ref 142) _ _) _ _ _)); (fail_if_success (with_reducible show wpAny _ _ (call (Value.ref 147) _ _) _ _ _)); (fail_if_success (with_reducible show wpAny _ _ (exec (Stmt.Assign _ (Expr.ListComp _ _ _ _) _) _) _ _ _)); (fail_if_success (with_reducible show wpAny _ _ (eval (Expr.ListComp _ _ _ _) _) _ _ _)); (fail_if_success (with_reducible show LCt.CompSrcT _ _ _ _ _ _ _ _ _ _ _ _ _ _ _)); (fail_if_success (with_reducible show LCg.CompSrc _ _ _ _ _ _ _ _ _ _ _ _ _ _)); (fail_if_success (with_reducible show wpAny _ _ (compareOp CmpOp.NotEq (Value.ref _) (Value.ref _)) _ _ _)); (fail_if_success (with_reducible show wpAny _ _ (compareOp CmpOp.Eq (Value.ref _) (Value.ref _)) _ _ _)); (first | (k_unfold; (try dsimp only)) | (k_end; wrow_close) | walk1 | (dsimp only; walk1) | (leave1; try dsimp only) | fail "no step"))
          (first | with_reducible rename Fr _ _ _ _ => F8 | rename Fr _ _ _ _ => F8)
          (first | with_reducible rename News _ _ _ _ => N8 | rename News _ _ _ _ => N8)
          k_dflt (refine ne_same (isList_of (N8 _ (List.Mem.tail _ (List.Mem.head _))).1) (isList_of (N8 _ (List.Mem.head _)).1) .nil .nil (by ktr_units) ?_)
          repeat' ((fail_if_success (with_reducible show wpAny _ _ (subscriptTail _ _ (Value.ref _) (Value.ref _)) _ _ _)); (fail_if_success (with_reducible show wpAny _ _ (exec (Stmt.For _ _ _ _ _) _) _ _ _)); (fail_if_success (with_reducible show wpAny _ _ (pyIter (Value.ref _)) _ _ _)); (fail_if_success (with_reducible show wpAny _ _ (call (Value.ref 74) _ _) _ _ _)); (fail_if_success (with_reducible show wpAny _ _ (call (Value.ref 81) _ _) _ _ _)); (fail_if_success (with_reducible show wpAny _ _ (call (Value.ref 102) _ _) _ _ _)); (fail_if_success (with_reducible show wpAny _ _ (call (Value.ref 109) _ _) _ _ _)); (fail_if_success (with_reducible show wpAny _ _ (call (Value.ref 116) _ _) _ _ _)); (fail_if_success (with_reducible show wpAny _ _ (call (Value.ref 130) _ _) _ _ _)); (fail_if_success (with_reducible show wpAny _ _ (call (Value.ref 135) _ _) _ _ _)); (fail_if_success (with_reducible show wpAny _ _ (call (Value.ref 142) _ _) _ _ _)); (fail_if_success (with_reducible show wpAny _ _ (call (Value.ref 147) _ _) _ _ _)); (fail_if_success (with_reducible show wpAny _ _ (exec (Stmt.Assign _ (Expr.ListComp _ _ _ _) _) _) _ _ _)); (fail_if_success (with_reducible show wpAny _ _ (eval (Expr.ListComp _ _ _ _) _) _ _ _)); (fail_if_success (with_reducible show LCt.CompSrcT _ _ _ _ _ _ _ _ _ _ _ _ _ _ _)); (fail_if_success (with_reducible show LCg.CompSrc _ _ _ _ _ _ _ _ _ _ _ _ _ _)); (fail_if_success (with_reducible show wpAny _ _ (compareOp CmpOp.NotEq (Value.ref _) (Value.ref _)) _ _ _)); (fail_if_success (with_reducible show wpAny _ _ (compareOp CmpOp.Eq (Value.ref _) (Value.ref _)) _ _ _)); (first | (k_unfold; (try dsimp only)) | (k_end; wrow_close) | walk1 | (dsimp only; walk1) | (leave1; try dsimp only) | fail "no step"))
          exact law_end F8 (sub_news N8 (fun q hq => List.mem_cons_of_mem _ (List.mem_cons_of_mem _ (List.mem_cons_of_mem _ hq)))) (by with_unfolding_all rfl) ⟨_, hcR2⟩ ⟨_, cK⟩ ⟨_, cI⟩ ⟨_, cS⟩ hT2 hoc htc2 hown2 offB
  · clear FZ NZ hR
    intro m₁ news₁ h tk hJ F₁ N₁
    obtain ⟨hm, oR, oK0, oI0, oS0, ps, tl, ⟨⟨vR, dR⟩, ⟨vK, dK⟩, ⟨vI, dI⟩, ⟨vS, dS⟩⟩, hT, hoff, rfl⟩ := hJ
    dsimp only
    have F₂ : Fr (ghostOf s₁.heap [(151, 149)]) s₁.heap.objs.size h _ := fr_view0 _ F₁ (all1 hm)
    clear F₁
    repeat' ((fail_if_success (with_reducible show wpAny _ _ (subscriptTail _ _ (Value.ref _) (Value.ref _)) _ _ _)); (fail_if_success (with_reducible show wpAny _ _ (exec (Stmt.For _ _ _ _ _) _) _ _ _)); (fail_if_success (with_reducible show wpAny _ _ (pyIter (Value.ref _)) _ _ _)); (fail_if_success (with_reducible show wpAny _ _ (call (Value.ref 74) _ _) _ _ _)); (fail_if_success (with_reducible show wpAny _ _ (call (Value.ref 81) _ _) _ _ _)); (fail_if_success (with_reducible show wpAny _ _ (call (Value.ref 102) _ _) _ _ _)); (fail_if_success (with_reducible show wpAny _ _ (call (Value.ref 109) _ _) _ _ _)); (fail_if_success (with_reducible show wpAny _ _ (call (Value.ref 116) _ _) _ _ _)); (fail_if_success (with_reducible show wpAny _ _ (call (Value.ref 130) _ _) _ _ _)); (fail_if_success (with_reducible show wpAny _ _ (call (Value.ref 135) _ _) _ _ _)); (fail_if_success (with_reducible show wpAny _ _ (call (Value.ref 142) _ _) _ _ _)); (fail_if_success (with_reducible show wpAny _ _ (call (Value.ref 147) _ _) _ _ _)); (fail_if_success (with_reducible show wpAny _ _ (exec (Stmt.Assign _ (Expr.ListComp _ _ _ _) _) _) _ _ _)); (fail_if_success (with_reducible show wpAny _ _ (eval (Expr.ListComp _ _ _ _) _) _ _ _)); (fail_if_success (with_reducible show LCt.CompSrcT _ _ _ _ _ _ _ _ _ _ _ _ _ _ _)); (fail_if_success (with_reducible show LCg.CompSrc _ _ _ _ _ _ _ _ _ _ _ _ _ _)); (fail_if_success (with_reducible show wpAny _ _ (compareOp CmpOp.NotEq (Value.ref _) (Value.ref _)) _ _ _)); (fail_if_success (with_reducible show wpAny _ _ (compareOp CmpOp.Eq (Value.ref _) (Value.ref _)) _ _ _)); (first | (k_unfold; (try dsimp only)) | (k_end; wrow_close) | walk1 | (dsimp only; walk1) | (leave1; try dsimp only) | fail "no step")))
end
end
end
end
end
end Mine
theorem PySem.Challenge.cw_nu0047_01_holds : PySem.Challenge.rw_nu0047_01.Holds := by
  exact Mine.law_holds
