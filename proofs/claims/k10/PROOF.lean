import PyProof.Rows.All
import HandS.ForMost
import HandS.ForExc
import HandS.TupAny
import KE.DataEq
import KE.DataIsa
import HandS.Strs
import KE.DataCmp
import KE.DataAny
import HandS.Wide
import PyProof.ReprRoads
import HandS.Zip
import KE.DataFind
import KE.KIndexOf
import PyProof.SeqIndex
import KE.SortData
import HandS.DictComp
import KE.KDictPairs
import HandS.Style
import PySem.Challenge.RW_afterhand_k10_rules_known_by_hand
set_option Elab.async false
set_option linter.all false
set_option autoImplicit false
set_option maxRecDepth 100000
set_option maxHeartbeats 4000000
set_option exponentiation.threshold 2000
/-! AH0: promises of defs that also know that nothing is being shown (no repr under way) -/
namespace AH
open PySem PySem.Spec PyProof.Rows L2
abbrev St := L2.St
/-- a def keeps its promise wherever no repr is under way -/
structure FnG (P : Program) (w : World) (K : PySem.W.Frag) (mg : Str → Option Value)
    (base : Heap) (CX : CXT) (k : Nat) (f : Addr) (fd : FuncData) (ps : List Str) (sp : Sp) : Prop where
  len : ∀ vs H Q E, sp vs H Q E → vs.length = ps.length
  run : ∀ (A : Around) (outer : List Env) (s : Shared) (H : Hp) (args : Args)
    (us : List Value) (vs : List V) (Q : VK) (E : XK), Room k A → A.guards = some [] →
    Env0 P w K mg base A outer s H → BindsTo s fd args (ps.zip us) → Vals vs us →
    sp vs H Q E → codeAny (model P w) A (.call (.ref f) args) (CR CX outer P w H s Q E) s
section
variable {P : Program} {w : World} {K : PySem.W.Frag} {mg : Str → Option Value} {base : Heap} {CX : CXT}
theorem FnG.mono {j k : Nat} {f : Addr} {fd : FuncData} {ps : List Str} {sp : Sp}
    (F : FnG P w K mg base CX j f fd ps sp) (h : j ≤ k) : FnG P w K mg base CX k f fd ps sp where
  len := F.len
  run := fun A outer s H args us vs Q E r => F.run A outer s H args us vs Q E (r.mono h)
/-- a def of the text, by its body -/
theorem fnG_of {x qual : Str} {st : Stmt} {f : Addr} {fd : FuncData} {N ps : List Str} {k : Nat} {sp : Sp}
    (F : Fun K x qual st f fd) (S : FnScope N ps (defScope st))
    (len : ∀ vs H Q E, sp vs H Q E → vs.length = ps.length)
    (hbody : ∀ (cdv : Value) (A : Around) (outer : List Env) (s : Shared) (H : Hp) (vs : List V) (Q : VK) (E : XK),
      Room k (A.deeper (envOfC qual (defScope st) s.heap.objs.size f cdv)) → A.guards = some [] → sp vs H Q E →
      ∃ t, PSs (cxOf CX P w K mg base N qual (defScope st) f cdv A outer s H E) (defBody st) t ∧
        t { nx := fun _ H' => Q .non H', rt := Q } (start N vs) H) :
    FnG P w K mg base CX (k + 1) f fd ps sp := by
  obtain ⟨oc, od, kV, doc, pm, an, cdv, ct, osl, rfl, lk, hcd⟩ := F.ex
  refine ⟨len, ?_⟩
  intro A outer s H args us vs Q E room gs e0 bind rel hsp
  have hlen := len _ _ _ _ hsp
  have inK : K.In s.heap := e0.mod.kin.keeps fun b o e => (e0.bs b o e).1
  have noLim : s.heap.NoLimit := e0.mod.nolimit.keeps fun b o e => (e0.bs b o e).1
  have kinds : ∀ y ∈ ps.zip us, (defScope st).names.lookup y.1 = some .local ∨
      ((defScope st).names.lookup y.1 = some .cell ∧
        ((cellsFrom (s.heap.objs.size + 1) (defScope st).names []).lookup y.1).isSome = true) := by
    rintro ⟨n, v⟩ hy
    rcases S.par n (List.of_mem_zip hy).1 with z | z
    · exact .inl z
    · exact .inr ⟨z, PySem.W.cellsFrom_some _ _ _ (.inl z)⟩
  refine codeAny_call_function room.depth (inK _ _ lk) rfl S.co S.gen rfl
    (PySem.W.codeRec_of inK hcd) (bind _ _ _ _ ?_)
  refine wpAny_newFunctionEnv_cells S.kind kinds fun env he s1 x => ?_
  subst he
  refine ⟨noLim.keeps x.toInCall.keep, codeAny_func ?_⟩
  obtain ⟨t, ht, hq⟩ := hbody cdv A outer s H vs Q E (room.deeper _) gs hsp
  have J0 := inv_start (CX := CX) (E := E) (A := A) S room.hd e0 hlen rel x
  refine wpAny_mono (ht.run [] s1 (start N vs) H _ J0 hq) ?_ fun e s' z => z
  intro fl s' z
  cases fl with
  | ret u =>
    obtain ⟨v, σ', H', J, rv, q⟩ := z
    exact ⟨v, H', J.os, J.bare, J.base, J.hok, rv, q⟩
  | next =>
    obtain ⟨σ', H', J, q⟩ := z
    exact ⟨V.non, H', J.os, J.bare, J.base, J.hok, rfl, q⟩
  | brk => obtain ⟨_, _, _, q⟩ := z; exact q.elim
  | cont => obtain ⟨_, _, _, q⟩ := z; exact q.elim
end
section
variable {X : Cx} {CX : CXT} {k : Nat} {f : Addr} {fd : FuncData} {ps : List Str} {sp : Sp} {E : St → XK}
theorem run_fnG {pins : List (Addr × Obj)} {σ : St} {H : Hp} {s : Shared} {Q : VK} {us : List Value} {vs : List V}
    (F : FnG X.prog X.w X.K X.mg X.base CX k f fd ps sp) (hr : Room k X.A) (hgs : X.A.guards = some [])
    (hb : Binds X.K fd ps []) (hx : PassesAt CX X σ (E σ)) (I : Inv X pins σ H s) (r : Vals vs us)
    (h : sp vs H Q (E σ)) : wpAny (model X.prog X.w) X.A (call (.ref f) us) (EP X pins σ Q) X.xe s := by
  have hl : us.length = ps.length := r.length.symm.trans (F.len _ _ _ _ h)
  have hb' := hb s us I.kIn (by rw [List.append_nil]; exact hl)
  rw [List.append_nil] at hb'
  refine wpAny_call (codeAny_mono (F.run X.A X.stack s H ⟨us, []⟩ us vs Q (E σ) hr hgs I.env0 hb' r h) ?_)
  intro res s' z
  cases res with
  | error e => exact hx pins H s e s' I z
  | ok fl =>
    cases fl with
    | ret u => exact I.after z
    | next => exact z.elim
    | brk => exact z.elim
    | cont => exact z.elim
/-- f(e, ..) -/
theorem pe_callG {x : Str} {p pos : Pos} {e : Expr} {es : List Expr} {t : TA}
    (F : FnG X.prog X.w X.K X.mg X.base CX k f fd ps sp) (hr : Room k X.A) (hgs : X.A.guards = some []) (hg : Gl X x)
    (hm : X.mg x = some (.ref f)) (hk : PySem.W.keepIn X.K (.ref f) = true) (hb : Binds X.K fd ps [])
    (hx : ∀ σ, PassesAt CX X σ (E σ)) (ha : PA X (e :: es) t) (hdb : (x == ("__debug__" : Str)) = false := by decide)
    (he : starEach (e :: es) X.env = (false, eval e X.env) :: starEach es X.env := by rfl)
    (hpl : (backTo pos (starEach es X.env)).any (·.1) = false := by rfl) :
    PE X (.Call (.Name x p) (e :: es) [] pos) (fun σ H Q => t σ H fun vs H1 => sp vs H1 Q (E σ)) := by
  refine ⟨fun pins s σ H Q I h => ?_⟩
  refine wpAny_Call_Name_kw (ld_glob I hg hm ?_ hdb)
  refine PySem.W.callWith_K (h₀ := X.base) I.ok.mod.kin hk ?_ he hpl
  refine thn (ha.run pos pins s σ H _ I h) ?_
  rintro us s1 ⟨vs, H1, I1, r, q⟩
  exact ⟨I1.kIn, run_fnG F hr hgs hb (hx σ) I1 r q⟩
end

/-- a list that may be read as it stands: tracked, locked, or one of the top's -/
def LsR (K : PySem.W.Frag) (H : Hp) (a : Addr) (vs : List V) : Prop :=
  Rd H a (.lst vs) ∨ ∃ (its : List Value) (n : Nat), Vals vs its ∧ its.length ≤ sizeLine ∧
    K.lookup a = some { cls := .type "list", data := .seq its.toArray n }
theorem LsR.sq {K : PySem.W.Frag} {H : Hp} {a : Addr} {vs : List V} (h : LsR K H a vs) : SqL K H a vs := by
  rcases h with h | ⟨its, n, r, z, e⟩
  · exact .inl h
  · exact .inr ⟨_, its.toArray, n, e, rfl, rfl, rfl, by rw [List.size_toArray]; exact z, by simpa using r⟩
theorem LsR.at {X : Cx} {pins : List (Addr × Obj)} {σ : St} {H : Hp} {s : Shared} {a : Addr} {vs : List V}
    (I : Inv X pins σ H s) (h : LsR X.K H a vs) : ∃ (its : List Value) (n : Nat), Vals vs its ∧
      its.length ≤ sizeLine ∧ s.heap.get? a = some { cls := .type "list", data := .seq its.toArray n } := by
  rcases h with h | ⟨its, n, r, z, e⟩
  · obtain ⟨z, its, n, r, e⟩ := h.ok I.hok
    exact ⟨its, n, r, by rw [← r.length]; exact z, e⟩
  · exact ⟨its, n, r, z, I.kIn a _ e⟩

/-! ### tuples: known to the object, so that their methods are found -/
abbrev tupO (us : List Value) : Obj := { cls := .type "tuple", data := .seq us.toArray }
def TpR (K : PySem.W.Frag) (H : Hp) (a : Addr) (vs : List V) : Prop :=
  ∃ us : List Value, Vals vs us ∧ us.length ≤ sizeLine ∧ (H a = some (.frz (tupO us) (.tup vs)) ∨
    ∃ n, K.lookup a = some { cls := .type "tuple", data := .seq us.toArray n })
theorem TpR.sq {K : PySem.W.Frag} {H : Hp} {a : Addr} {vs : List V} (h : TpR K H a vs) : SqT K H a vs := by
  obtain ⟨us, r, z, h | ⟨n, h⟩⟩ := h
  · exact .inl (.inr ⟨_, h⟩)
  · exact .inr ⟨_, us.toArray, n, h, rfl, rfl, by rw [List.size_toArray]; exact z, by simpa using r⟩
theorem TpR.at {X : Cx} {pins : List (Addr × Obj)} {σ : St} {H : Hp} {s : Shared} {a : Addr} {vs : List V}
    (I : Inv X pins σ H s) (h : TpR X.K H a vs) : ∃ (us : List Value) (n : Nat), Vals vs us ∧ us.length ≤ sizeLine ∧
      s.heap.get? a = some { cls := .type "tuple", data := .seq us.toArray n } := by
  obtain ⟨us, r, z, h | ⟨n, h⟩⟩ := h
  · obtain ⟨e, _⟩ := I.hok a _ h
    exact ⟨us, _, r, z, e⟩
  · exact ⟨us, n, r, z, I.kIn a _ h⟩
theorem newT {X : Cx} {pins : List (Addr × Obj)} {σ : St} {H : Hp} {s : Shared} {xs : List V} {us : List Value}
    (I : Inv X pins σ H s) (r : Vals xs us) (z : xs.length ≤ sizeLine) :
    Inv X pins σ (upd H s.heap.objs.size (.frz (tupO us) (.tup xs))) { s with heap := s.heap.push (tupO us) } := by
  refine I.laid (t' := s.toks) (fun b o e => Heap.get?_push_of_some _ e) (Nat.le_refl _) ?_
  exact ⟨Heap.get?_push_size _ rfl, z, us, r, IsTup.new _ _⟩
/-- (a, b, ..) -/
def tTupX (t : TA) : TE := fun σ H Q => t σ H fun xs H1 => xs.length ≤ sizeLine ∧
  ∀ p us, H1 p = none → Vals xs us → Q (.ref p) (upd H1 p (.frz (tupO us) (.tup xs)))
theorem pe_tupX {X : Cx} {es : List Expr} {t : TA} {k} {pos : Pos} (h : PA X es t) : PE X (.Tuple es k pos) (tTupX t) := by
  refine ⟨fun pins s σ H Q I hq => wpAny_Tuple_spliced (thn (h.run pos pins s σ H _ I hq) ?_)⟩
  rintro us s1 ⟨xs, H1, I1, r, z, q⟩
  exact ⟨by rw [← r.length]; exact z, .ref _, _, newT I1 r z, rfl, q _ us (I1.hok.fresh (Nat.le_refl _)) r⟩
/-- tuple(l), tuple(t) -/
theorem call_tupleX {X : Cx} : CallR X (.type "tuple") (fun xs H Q => ∃ p ys, xs = [.ref p] ∧
    ((SqL X.K H p ys ∧ ∀ l us, H l = none → Vals ys us → Q (.ref l) (upd H l (.frz (tupO us) (.tup ys)))) ∨
      (SqT X.K H p ys ∧ Q (.ref p) H))) := by
  rintro pins s σ H xs us Q I r ⟨p, ys, rfl, h⟩
  obtain ⟨u, rfl, rx⟩ := vals1 r
  cases rx
  rcases h with ⟨hq, q⟩ | ⟨hq, q⟩
  · obtain ⟨its, rv, pl, hz⟩ := I.list hq
    have hl := rv.length
    refine call_tuple_list pl.isList (fun h' kp => ?_) (by rw [List.size_toArray]; omega)
    have J := I.kept (h' := h') (t' := s.toks) kp
    exact ⟨.ref _, _, newT J rv hz, rfl, q _ its (J.hok.fresh (Nat.le_refl _)) rv⟩
  · obtain ⟨its, rv, pl, hz⟩ := I.tuple hq
    exact call_tuple_same pl ⟨.ref p, H, I, rfl, q⟩
/-- t + u -/
theorem op_catX' {X : Cx} : OpR X (binaryOp .Add) (fun x y H Q => ∃ a b xs ys, x = .ref a ∧ y = .ref b ∧
    SqT X.K H a xs ∧ SqT X.K H b ys ∧ xs.length + ys.length ≤ sizeLine ∧ (xs = [] → Q (.ref b) H) ∧
    (xs ≠ [] → ys = [] → Q (.ref a) H) ∧ (xs ≠ [] → ys ≠ [] → ∀ p us, H p = none → Vals (xs ++ ys) us →
      Q (.ref p) (upd H p (.frz (tupO us) (.tup (xs ++ ys)))))) := by
  rintro pins s σ H x y v u Q I rx ry ⟨a, b, xs, ys, rfl, rfl, ha, hb, hz, q0, q1, q2⟩
  cases rx
  cases ry
  obtain ⟨its, r1, p1, _⟩ := I.tuple ha
  obtain ⟨its2, r2, p2, _⟩ := I.tuple hb
  by_cases hx : xs = []
  · subst hx
    cases r1
    exact cat_tup0 p1 p2 ⟨.ref b, H, I, rfl, q0 rfl⟩
  · refine HT.cat_tup p1 p2 (fun z => hx (r1.nil_iff.mp z)) (fun z => ⟨.ref a, H, I, rfl, q1 hx (r2.nil_iff.mp z)⟩) ?_
      (by rw [← r1.length, ← r2.length]; exact hz)
    intro z
    exact ⟨.ref _, _, newT I (r1.append r2) (by rw [List.length_append]; exact hz), rfl,
      q2 hx (fun w => z (r2.nil_iff.mpr w)) _ _ (I.hok.fresh (Nat.le_refl _)) (r1.append r2)⟩
/-- t[lo:hi] -/
theorem sl_tupX {X : Cx} : SlR X (fun x lo hi H Q => ∃ a xs, x = .ref a ∧ SqT X.K H a xs ∧
    (HT.sIx xs.length 0 lo = 0 ∧ HT.sIx xs.length xs.length hi = xs.length → Q (.ref a) H) ∧
    (¬ (HT.sIx xs.length 0 lo = 0 ∧ HT.sIx xs.length xs.length hi = xs.length) → ∀ p us, H p = none →
      Vals (cutV xs lo hi) us → Q (.ref p) (upd H p (.frz (tupO us) (.tup (cutV xs lo hi)))))) := by
  rintro pins s σ H x v vl vu lo hi sl Q I rx hs pl pu ⟨a, xs, rfl, hx, q1, q2⟩
  cases rx
  obtain ⟨its, r, ht, hz⟩ := I.tuple hx
  have hlen : its.toArray.size = xs.length := by rw [List.size_toArray]; exact r.length.symm
  refine ⟨"tuple", _, PyProof.Rows.slot_tuple_getitem.lookup, ht.typeIs, ?_⟩
  by_cases hw : HT.sIx xs.length 0 lo = 0 ∧ HT.sIx xs.length xs.length hi = xs.length
  · exact getItem_tuple_whole ht hs pl pu (by rw [hlen]; exact hw) ⟨.ref a, H, I, rfl, q1 hw⟩
  · refine HT.getItem_tuple_cut ht hs pl pu (by rw [hlen]; exact hw) ?_ (by rw [hlen]; exact hz)
    rw [hlen]
    have rv := (r.drop (HT.sIx xs.length 0 lo)).take (HT.sIx xs.length xs.length hi - HT.sIx xs.length 0 lo)
    exact ⟨.ref _, _, newT I rv (Nat.le_trans (cutV_length xs lo hi) hz), rfl,
      q2 hw _ _ (I.hok.fresh (Nat.le_refl _)) rv⟩

/-! ### the end of a law -/
/-- nothing but the script, locked -/
def Lone (a : Addr) (ob : Obj) (ns : List Int) : Hp := fun b => if b = a then some (.frz ob (.lst (ns.map V.int))) else none
theorem law_endN {P : Program} {w : World} {K : PySem.W.Frag} {mg mb : Str → Option Value} {k : Nat} {fa a : Addr}
    {fd : FuncData} {x : Str} {sp : Sp} {s₁ : Shared} {vs : List Value} {ns : List Int}
    (inK : K.In s₁.heap) (hns : s₁.heap.Ns mainGlobals mg) (hb : s₁.heap.Ns builtinsNs mb)
    (hbb : ∀ x : Str, x ≠ "__name__" → mb x = bootBuiltins x) (hlim : s₁.heap.NoLimit) (hg : s₁.gens = #[])
    (ha : s₁.heap.get? a = some { cls := .type "list", data := .seq vs.toArray }) (hka : K.lookup a = none)
    (hi : IntsAre vs ns) (hl : ns.length ≤ sizeLine) (hr : Room k callerA)
    (F : ∀ base : Heap, K.In base → base.Ns mainGlobals mg → FnG P w K mg base CX0 k fa fd [x] sp)
    (hbind : ∀ (s : Shared) (u : Value), BindsTo s fd ⟨[u], []⟩ [(x, u)])
    (hsp : ∀ H : Hp, LsR K H a (ns.map V.int) → sp [.ref a] H (fun v _ => v = .bl true) fun _ _ _ => False) :
    codeAny (model P w) callerA (.call (.ref fa) ⟨[.ref a], []⟩)
      (fun r s' => r = .ok (.ret (.bool true)) ∧ OldK s₁.heap s'.heap ∧ s'.os = s₁.os ∧ AllBare s'.gens) s₁ := by
  have rel := vals_ints hi
  generalize hH : Lone a { cls := .type "list", data := .seq vs.toArray } ns = H
  have Ha : H a = some (.frz { cls := .type "list", data := .seq vs.toArray } (.lst (ns.map V.int))) := by
    subst hH; exact if_pos rfl
  have Hn : ∀ b, b ≠ a → H b = none := fun b h => by subst hH; exact if_neg h
  have ok : HOk P w H s₁.heap := fun b u z => by
    by_cases e : b = a
    · subst e
      rw [Ha] at z; cases z
      exact ⟨ha, by rw [List.length_map]; exact hl, vs, _, rel, ha⟩
    · rw [Hn b e] at z; cases z
  have dicts : ∀ {b : Addr} {o : Obj} {es : Array DictEntry} {ep : Nat},
      s₁.heap.get? b = some o → o.data = .dict es ep → H b = none := by
    intro b o es ep e d
    by_cases q : b = a
    · subst q
      rw [ha] at e; cases e
      cases d
    · exact Hn b q
  have nsK : ∀ {b : Addr} {m : Str → Option Value}, s₁.heap.Ns b m → (hidT s₁.heap H).Ns b m := by
    rintro b m ⟨o, es, ep, e, d, r⟩
    exact ⟨o, es, ep, hidT_get e (dicts e d), d, r⟩
  have inB : K.In (hidT s₁.heap H) := fun b o e => hidT_get (inK b o e) (Hn b fun z => by
    rw [z, hka] at e; cases e)
  have md : Mod K mg (hidT s₁.heap H) := ⟨inB, nsK hns, ⟨mb, nsK hb, hbb⟩, by
    obtain ⟨mc, h1, h2⟩ := hlim
    exact ⟨mc, nsK h1, h2⟩⟩
  have none0 : ∀ b : Addr, b ∉ ([] : List Addr) := fun b z => nomatch z
  have e0 : Env0 P w K mg (hidT s₁.heap H) callerA [] s₁ H :=
    ⟨rfl, md, fun b o e => of_hidT e, Nat.le_of_eq (hidT_size _ _), trivial, fun b z => absurd z (none0 b), ok, .of_eq hg⟩
  have go := (F _ inB (nsK hns)).run callerA [] s₁ H ⟨[.ref a], []⟩ [.ref a] [.ref a] _ _ hr rfl e0
    (hbind s₁ (.ref a)) (.cons rfl .nil) (hsp H (.inl (.inr ⟨_, Ha⟩)))
  refine codeAny_mono go ?_
  intro r s' z
  cases r with
  | error e => exact z.elim
  | ok fl =>
    cases fl with
    | next => exact z.elim
    | brk => exact z.elim
    | cont => exact z.elim
    | ret u =>
      obtain ⟨v, H', os, bare, un, ok', r', q⟩ := z
      have q' : v = .bl true := q
      subst q'
      obtain rfl : u = Value.bool true := r'
      refine ⟨rfl, OldK.of_keep ?_, os, bare⟩
      intro b o e
      by_cases hb : b = a
      · subst hb
        obtain ⟨e1, _⟩ := ok b _ Ha
        obtain ⟨e2, _⟩ := ok' b _ (un.frzs b _ _ Ha)
        rw [e] at e1; cases e1
        exact e2
      · exact un.keep b o e (Hn b hb) (none0 b) (none0 b)
theorem law_endK {P : Program} {w : World} {K : PySem.W.Frag} {mg mb : Str → Option Value} {k : Nat} {fa a : Addr}
    {fd : FuncData} {x : Str} {sp : Sp} {s₁ : Shared} {vs : List Value} {ns : List Int}
    (inK : K.In s₁.heap) (hns : s₁.heap.Ns mainGlobals mg) (hb : s₁.heap.Ns builtinsNs mb)
    (hbb : ∀ x : Str, x ≠ "__name__" → mb x = bootBuiltins x) (hlim : s₁.heap.NoLimit) (hg : s₁.gens = #[])
    (ha : s₁.heap.get? a = some { cls := .type "list", data := .seq vs.toArray }) (hka : K.lookup a ≠ none)
    (hi : IntsAre vs ns) (hl : ns.length ≤ sizeLine) (hr : Room k callerA)
    (F : ∀ base : Heap, K.In base → base.Ns mainGlobals mg → FnG P w K mg base CX0 k fa fd [x] sp)
    (hbind : ∀ (s : Shared) (u : Value), BindsTo s fd ⟨[u], []⟩ [(x, u)])
    (hsp : ∀ H : Hp, LsR K H a (ns.map V.int) → sp [.ref a] H (fun v _ => v = .bl true) fun _ _ _ => False) :
    codeAny (model P w) callerA (.call (.ref fa) ⟨[.ref a], []⟩)
      (fun r s' => r = .ok (.ret (.bool true)) ∧ OldK s₁.heap s'.heap ∧ s'.os = s₁.os ∧ AllBare s'.gens) s₁ := by
  have rel := vals_ints hi
  have Ka : K.lookup a = some { cls := .type "list", data := .seq vs.toArray } := by
    cases q : K.lookup a with
    | none => exact absurd q hka
    | some o =>
      have := inK a o q
      rw [ha] at this
      exact this.symm
  generalize hH : (fun _ => none : Hp) = H
  have Hn : ∀ b, H b = none := fun b => by subst hH; rfl
  have ok : HOk P w H s₁.heap := fun b u z => by rw [Hn b] at z; cases z
  have nsK : ∀ {b : Addr} {m : Str → Option Value}, s₁.heap.Ns b m → (hidT s₁.heap H).Ns b m := by
    rintro b m ⟨o, es, ep, e, d, r⟩
    exact ⟨o, es, ep, hidT_get e (Hn b), d, r⟩
  have inB : K.In (hidT s₁.heap H) := fun b o e => hidT_get (inK b o e) (Hn b)
  have md : Mod K mg (hidT s₁.heap H) := ⟨inB, nsK hns, ⟨mb, nsK hb, hbb⟩, by
    obtain ⟨mc, h1, h2⟩ := hlim
    exact ⟨mc, nsK h1, h2⟩⟩
  have none0 : ∀ b : Addr, b ∉ ([] : List Addr) := fun b z => nomatch z
  have e0 : Env0 P w K mg (hidT s₁.heap H) callerA [] s₁ H :=
    ⟨rfl, md, fun b o e => of_hidT e, Nat.le_of_eq (hidT_size _ _), trivial, fun b z => absurd z (none0 b), ok, .of_eq hg⟩
  have ls : LsR K H a (ns.map V.int) := .inr ⟨vs, _, rel, by rw [← rel.length, List.length_map]; exact hl, Ka⟩
  have go := (F _ inB (nsK hns)).run callerA [] s₁ H ⟨[.ref a], []⟩ [.ref a] [.ref a] _ _ hr rfl e0
    (hbind s₁ (.ref a)) (.cons rfl .nil) (hsp H ls)
  refine codeAny_mono go ?_
  intro r s' z
  cases r with
  | error e => exact z.elim
  | ok fl =>
    cases fl with
    | next => exact z.elim
    | brk => exact z.elim
    | cont => exact z.elim
    | ret u =>
      obtain ⟨v, H', os, bare, un, ok', r', q⟩ := z
      have q' : v = .bl true := q
      subst q'
      obtain rfl : u = Value.bool true := r'
      exact ⟨rfl, OldK.of_keep fun b o e => un.keep b o e (Hn b) (none0 b) (none0 b), os, bare⟩
/-- what the head leaves to be shown, from the promise of the law's def -/
theorem walkG {l : PySem.W.OpenLaw} {n k : Nat} {q : Program} {loose : List Str} {XP : (Str → Option Value) → Heap → Prop}
    {YP : World → Heap → Prop} {d : DefRec} {K : Params → PySem.W.Frag} {sp : PySem.W.Frag → Sp} {x : Str}
    (hn : l.most = some n) (hn2 : n ≤ sizeLine) (hdf : d.params.defaults = []) (hr : Room k callerA)
    (hY : ∀ (w : World) (h : Heap), YP w h → (K w.params).In h)
    (F : ∀ (w : World) (mg : Str → Option Value) (fa : Addr) (h : Heap), (K w.params).In h → h.Ns mainGlobals mg →
      mg d.name = some (.ref fa) → ∃ fd : FuncData, (∀ (s : Shared) (u : Value), BindsTo s fd ⟨[u], []⟩ [(x, u)]) ∧
        ∀ base : Heap, (K w.params).In base → base.Ns mainGlobals mg →
          FnG l.prog w (K w.params) mg base CX0 k fa fd [x] (sp (K w.params)))
    (hsp : ∀ (K : PySem.W.Frag) (H : Hp) (a : Addr) (ns : List Int), ns.length ≤ n → LsR K H a (ns.map V.int) →
      sp K [.ref a] H (fun v _ => v = .bl true) fun _ _ _ => False) :
    PySem.W.WalkO q loose XP YP l.row.toRowW d [] (fun f vs => PySem.call f vs) := by
  refine Att.attach_call hn hdf ?_
  intro w s₀ s₁ mg mb fa o pm cd doc a vs ns G Y ho hd hcd hmg hobj hints hlen hg
  have inK := hY w _ Y
  obtain ⟨fd, hb, hF⟩ := F w mg fa _ inK G.T.g hmg
  have hz := Nat.le_trans hlen hn2
  have hs := fun H hS => hsp (K w.params) H a ns hlen hS
  by_cases e : (K w.params).lookup a = none
  · exact law_endN inK G.T.g G.T.b G.T.builtins G.T.nolimit hg hobj e hints hz hr hF hb hs
  · exact law_endK inK G.T.g G.T.b G.T.builtins G.T.nolimit hg hobj e hints hz hr hF hb hs
end AH

/-! AH1: values of data over the abstract heap, the slots of a def as data, readings of pure code -/
namespace AH
open PySem PySem.Spec PyProof.Rows L2

abbrev D := PyData
abbrev Fg := PySem.W.Frag

mutual
inductive Rep (K : Fg) (H : Hp) : V → D → Prop
  | none : Rep K H .non .none
  | bool (b : Bool) : Rep K H (.bl b) (.bool b)
  | int (i : Int) : Rep K H (.int i) (.int i)
  | str (x : Str) : Rep K H (.str x) (.str x)
  | list {a : Addr} {vs : List V} {ds : List D} : LsR K H a vs → RepL K H vs ds → Rep K H (.ref a) (.list ds)
  | tuple {a : Addr} {vs : List V} {ds : List D} : TpR K H a vs → RepL K H vs ds → Rep K H (.ref a) (.tuple ds)
  | dict {a : Addr} : H a = some (.dK []) → Rep K H (.ref a) (.dict [])
inductive RepL (K : Fg) (H : Hp) : List V → List D → Prop
  | nil : RepL K H [] []
  | cons {v : V} {vs : List V} {d : D} {ds : List D} : Rep K H v d → RepL K H vs ds → RepL K H (v :: vs) (d :: ds)
end

/-- everything that is tracked is as it was -/
abbrev Sub (H H' : Hp) : Prop := ∀ a o, H a = some o → H' a = some o

theorem SqL.mono {K : Fg} {H H' : Hp} {a : Addr} {xs : List V} (s : Sub H H') (h : SqL K H a xs) : SqL K H' a xs := by
  rcases h with (h | ⟨o, h⟩) | h
  · exact .inl (.inl (s _ _ h))
  · exact .inl (.inr ⟨o, s _ _ h⟩)
  · exact .inr h
theorem SqT.mono {K : Fg} {H H' : Hp} {a : Addr} {xs : List V} (s : Sub H H') (h : SqT K H a xs) : SqT K H' a xs := by
  rcases h with (h | ⟨o, h⟩) | h
  · exact .inl (.inl (s _ _ h))
  · exact .inl (.inr ⟨o, s _ _ h⟩)
  · exact .inr h
theorem Rd.mono {H H' : Hp} {a : Addr} {u : HO} (s : Sub H H') (h : Rd H a u) : Rd H' a u := by
  rcases h with h | ⟨o, h⟩
  · exact .inl (s _ _ h)
  · exact .inr ⟨o, s _ _ h⟩
theorem TpR.mono {K : Fg} {H H' : Hp} {a : Addr} {vs : List V} (s : Sub H H') (h : TpR K H a vs) : TpR K H' a vs := by
  obtain ⟨us, r, z, h | h⟩ := h
  · exact ⟨us, r, z, .inl (s _ _ h)⟩
  · exact ⟨us, r, z, .inr h⟩
theorem LsR.mono {K : Fg} {H H' : Hp} {a : Addr} {vs : List V} (s : Sub H H') (h : LsR K H a vs) : LsR K H' a vs := by
  rcases h with h | h
  · exact .inl (AH.Rd.mono s h)
  · exact .inr h
mutual
theorem Rep.mono {K : Fg} {H H' : Hp} (s : Sub H H') : ∀ {v : V} {d : D}, Rep K H v d → Rep K H' v d
  | _, _, .none => .none
  | _, _, .bool b => .bool b
  | _, _, .int i => .int i
  | _, _, .str x => .str x
  | _, _, .list h r => .list (AH.LsR.mono s h) (RepL.mono s r)
  | _, _, .tuple h r => .tuple (AH.TpR.mono s h) (RepL.mono s r)
  | _, _, .dict h => .dict (s _ _ h)
theorem RepL.mono {K : Fg} {H H' : Hp} (s : Sub H H') : ∀ {vs : List V} {ds : List D}, RepL K H vs ds → RepL K H' vs ds
  | _, _, .nil => .nil
  | _, _, .cons h r => .cons (Rep.mono s h) (RepL.mono s r)
end
theorem RepL.length {K : Fg} {H : Hp} : ∀ {vs : List V} {ds : List D}, RepL K H vs ds → vs.length = ds.length
  | _, _, .nil => rfl
  | _, _, .cons _ r => by rw [List.length_cons, List.length_cons, RepL.length r]
theorem RepL.append {K : Fg} {H : Hp} : ∀ {vs : List V} {ds : List D} {ws : List V} {es : List D}, RepL K H vs ds → RepL K H ws es → RepL K H (vs ++ ws) (ds ++ es)
  | _, _, _, _, .nil, s => s
  | _, _, _, _, .cons h r, s => .cons h (RepL.append r s)
theorem RepL.get {K : Fg} {H : Hp} : ∀ {vs : List V} {ds : List D} {i : Nat} {d : D}, RepL K H vs ds → ds[i]? = some d → ∃ v, vs[i]? = some v ∧ Rep K H v d
  | _, _, _, _, .nil, h => by simp at h
  | _, _, 0, _, .cons h r, e => by simp at e; subst e; exact ⟨_, rfl, h⟩
  | _, _, i + 1, _, .cons h r, e => by
    obtain ⟨v, h1, h2⟩ := RepL.get (i := i) r (by simpa using e)
    exact ⟨v, by simpa using h1, h2⟩
theorem RepL.getV {K : Fg} {H : Hp} : ∀ {vs : List V} {ds : List D} {i : Nat} {v : V}, RepL K H vs ds → vs[i]? = some v → ∃ d, ds[i]? = some d ∧ Rep K H v d
  | _, _, _, _, .nil, h => by simp at h
  | _, _, 0, _, .cons h r, e => by simp at e; subst e; exact ⟨_, rfl, h⟩
  | _, _, i + 1, _, .cons h r, e => by
    obtain ⟨v, h1, h2⟩ := RepL.getV (i := i) r (by simpa using e)
    exact ⟨v, by simpa using h1, h2⟩
theorem RepL.take {K : Fg} {H : Hp} : ∀ {vs : List V} {ds : List D} (n : Nat), RepL K H vs ds → RepL K H (vs.take n) (ds.take n)
  | _, _, 0, _ => .nil
  | _, _, _ + 1, .nil => .nil
  | _, _, n + 1, .cons h r => .cons h (RepL.take n r)
theorem RepL.drop {K : Fg} {H : Hp} : ∀ {vs : List V} {ds : List D} (n : Nat), RepL K H vs ds → RepL K H (vs.drop n) (ds.drop n)
  | _, _, 0, r => r
  | _, _, _ + 1, .nil => .nil
  | _, _, n + 1, .cons h r => RepL.drop n r
theorem RepL.set {K : Fg} {H : Hp} {v : V} {d : D} (q : Rep K H v d) : ∀ {vs : List V} {ds : List D} (n : Nat), RepL K H vs ds → RepL K H (vs.set n v) (ds.set n d)
  | _, _, _, .nil => .nil
  | _, _, 0, .cons h r => .cons q r
  | _, _, n + 1, .cons h r => .cons h (RepL.set q n r)

/-! ### what is represented is read -/
section
variable {X : Cx} {pins : List (Addr × Obj)} {σ : St} {H : Hp} {s : Shared}
theorem empty_dK {P : Program} {w : World} {h : Heap} {a : Addr} (ok : ObjOk P w H h a (.dK [])) : ∃ (o : Obj) (n : Nat), h.get? a = some o ∧ o.cls = .type "dict" ∧ o.data = .dict #[] n := by
  obtain ⟨_, _, vs, kv, hd⟩ := ok
  cases kv
  obtain ⟨o, es, ep, e, ex, d, _, el, _⟩ := hd
  refine ⟨o, ep, e, ex.1, ?_⟩
  rw [d]
  have : es = #[] := by
    cases q : es.toList with
    | nil => simpa using q
    | cons a b => rw [q] at el; cases el
  rw [this]
mutual
theorem Rep.reads (I : Inv X pins σ H s) : ∀ {v : V} {d : D} {u : Value}, Rep X.K H v d → RelV v u → ∃ as, Reads s.heap u d as
  | _, _, _, .none, r => by cases r; exact ⟨_, .none⟩
  | _, _, _, .bool b, r => by cases r; exact ⟨_, .bool b⟩
  | _, _, _, .int i, r => by obtain ⟨t, rfl⟩ := r; exact ⟨_, .int i t⟩
  | _, _, _, .str x, r => by obtain ⟨t, rfl⟩ := r; exact ⟨_, .str x t⟩
  | _, _, _, .list h q, r => by
    cases r
    obtain ⟨its, n, rv, _, e⟩ := h.at I
    obtain ⟨as, ra⟩ := RepL.reads I q rv
    exact ⟨_, .list (vs := its.toArray) (n := n) e rfl rfl (by simpa using ra)⟩
  | _, _, _, .tuple h q, r => by
    cases r
    obtain ⟨its, n, rv, _, e⟩ := h.at I
    obtain ⟨as, ra⟩ := RepL.reads I q rv
    exact ⟨_, .tuple (vs := its.toArray) (n := n) e rfl rfl (by simpa using ra)⟩
  | _, _, _, .dict h, r => by
    cases r
    obtain ⟨o, n, e, c, d⟩ := empty_dK (I.hok _ _ h)
    exact ⟨_, .dict (es := #[]) (n := n) (kvs := []) e c d .nil .nil⟩
theorem RepL.reads (I : Inv X pins σ H s) : ∀ {vs : List V} {ds : List D} {us : List Value}, RepL X.K H vs ds → Vals vs us → ∃ as, ReadsAll s.heap us ds as
  | _, _, _, .nil, r => by cases r; exact ⟨_, .nil⟩
  | _, _, _, .cons h q, r => by
    cases r with
    | cons r1 r2 =>
      obtain ⟨as, ha⟩ := Rep.reads I h r1
      obtain ⟨bs, hb⟩ := RepL.reads I q r2
      exact ⟨_, .cons ha hb⟩
end
end

/-! ### the slots of a def as data -/
inductive Slot where
  | none
  /-- data that is never changed -/
  | val (d : D)
  /-- a list of this def's own -/
  | own (ds : List D)
  /-- a list that the caller handed on, to be changed -/
  | ref (ds : List D)
abbrev Ev := List Slot

inductive Res (α : Type) where
  | ok (a : α) (ρ : Ev)
  | exc (c : Str) (d : D) (ρ : Ev)
  | bad
def Res.bind {α β : Type} (r : Res α) (g : α → Ev → Res β) : Res β :=
  match r with
  | .ok a ρ => g a ρ
  | .exc c d ρ => .exc c d ρ
  | .bad => .bad
def lift {α : Type} (o : Option α) (ρ : Ev) : Res α :=
  match o with
  | some a => .ok a ρ
  | Option.none => .bad

/-- what a slot holds: O the lists that may be changed, R the caller's -/
def SlR (K : Fg) (H Hd : Hp) (O : List Addr) (R : Nat → Option Addr) (i : Nat) : Slot → Option V → Prop
  | .none, _ => True
  | .val d, o => ∃ v, o = some v ∧ Rep K Hd v d
  | .own ds, o => ∃ a vs, o = some (.ref a) ∧ a ∈ O ∧ Hd a = Option.none ∧ H a = some (.lst vs) ∧ RepL K Hd vs ds
  | .ref ds, o => ∃ a vs, o = some (.ref a) ∧ a ∈ O ∧ Hd a = Option.none ∧ H a = some (.lst vs) ∧ RepL K Hd vs ds ∧ R i = some a
def Held (ρ : Ev) (i : Nat) : Prop := ∃ ds, ρ[i]? = some (.own ds) ∨ ρ[i]? = some (.ref ds)
structure StR (K : Fg) (σ : St) (H Hd : Hp) (O : List Addr) (R : Nat → Option Addr) (ρ : Ev) : Prop where
  sub : Sub Hd H
  len : σ.length = ρ.length
  sl : ∀ i x, ρ[i]? = some x → ∃ o, σ[i]? = some o ∧ SlR K H Hd O R i x o
  inj : ∀ i j a, Held ρ i → Held ρ j → σ[i]? = some (some (.ref a)) → σ[j]? = some (some (.ref a)) → i = j
  dom : ∀ a ∈ O, ∃ o, H a = some o
/-- what a piece of code may do to the heap: O may be changed, the data Hd grows by what is new -/
structure Grow (O : List Addr) (H Hd H' Hd' : Hp) : Prop where
  sub : Sub Hd Hd'
  new : ∀ a o, Hd' a = some o → Hd a = some o ∨ H a = Option.none ∨ a ∈ O
  keep : ∀ a o, H a = some o → a ∉ O → H' a = some o
  dom : ∀ a o, H a = some o → ∃ o', H' a = some o'
theorem Grow.refl {O : List Addr} {H Hd : Hp} : Grow O H Hd H Hd := ⟨fun _ _ h => h, fun _ _ h => .inl h, fun _ _ h _ => h, fun _ o h => ⟨o, h⟩⟩
theorem Grow.trans {O O1 : List Addr} {H Hd H1 Hd1 H2 Hd2 : Hp} (a : Grow O H Hd H1 Hd1) (b : Grow O1 H1 Hd1 H2 Hd2) (ho : ∀ x ∈ O1, x ∈ O ∨ H x = Option.none) : Grow O H Hd H2 Hd2 where
  sub := fun c o h => b.sub c o (a.sub c o h)
  new := fun c o h => by
    rcases b.new c o h with h | h | h
    · exact a.new c o h
    · refine .inr (.inl ?_)
      cases q : H c with
      | none => rfl
      | some x =>
        obtain ⟨o', e⟩ := a.dom c x q
        rw [h] at e; cases e
    · rcases ho c h with h | h
      · exact .inr (.inr h)
      · exact .inr (.inl h)
  keep := fun c o h hc => b.keep c o (a.keep c o h hc) fun hm => by
    rcases ho c hm with q | q
    · exact hc q
    · rw [h] at q; cases q
  dom := fun c o h => by
    obtain ⟨o', e⟩ := a.dom c o h
    exact b.dom c o' e
theorem Grow.trans1 {O : List Addr} {H Hd H1 Hd1 H2 Hd2 : Hp} (a : Grow O H Hd H1 Hd1) (b : Grow O H1 Hd1 H2 Hd2) : Grow O H Hd H2 Hd2 := a.trans b fun _ h => .inl h

/-- an error of the program's own: its class by its name, its value -/
def ExcR (K : Fg) (mg : Str → Option Value) (Hd : Hp) (cls : Value) (dd : Option Addr) (c : Str) (d : D) : Prop := mg c = some cls ∧ ∃ a v, dd = some a ∧ Hd a = some (.xd [("value", v)]) ∧ Rep K Hd v d

/-- what is wanted behind a piece of code whose outcome is r -/
def Post (X : Cx) (W : WX) {α β : Type} (rel : Hp → Hp → β → α → Prop) (σ : St) (H Hd : Hp) (O : List Addr) (R : Nat → Option Addr) (r : Res α) (Q : β → Hp → Prop) : Prop :=
  match r with
  | .ok d ρ => ∀ v H' Hd', Grow O H Hd H' Hd' → StR X.K σ H' Hd' O R ρ → rel H' Hd' v d → Q v H'
  | .exc c d ρ => ∀ cls dd H' Hd', Grow O H Hd H' Hd' → StR X.K σ H' Hd' O R ρ → ExcR X.K X.mg Hd' cls dd c d → W cls dd σ H'
  | .bad => False
/-- the reading of code f -/
def Tr (X : Cx) (W : WX) {α β : Type} (rel : Hp → Hp → β → α → Prop) (f : Ev → Res α) : St → Hp → (β → Hp → Prop) → Prop :=
  fun σ H Q => ∃ ρ Hd O R, StR X.K σ H Hd O R ρ ∧ Post X W rel σ H Hd O R (f ρ) Q

section
variable {X : Cx} {W : WX} {α β γ δ : Type} {rel : Hp → Hp → β → α → Prop} {rel1 : Hp → Hp → δ → γ → Prop} {σ : St} {H Hd H1 Hd1 : Hp} {O : List Addr} {R : Nat → Option Addr}
theorem Post.from {r : Res α} {Q : β → Hp → Prop} (p : Post X W rel σ H Hd O R r Q) (g : Grow O H Hd H1 Hd1) : Post X W rel σ H1 Hd1 O R r Q := by
  cases r with
  | ok d ρ => exact fun v H' Hd' g' st q => p v H' Hd' (g.trans1 g') st q
  | exc c d ρ => exact fun cls dd H' Hd' g' st q => p cls dd H' Hd' (g.trans1 g') st q
  | bad => exact p
/-- one piece, then the rest -/
theorem Post.bind {r : Res γ} {g : γ → Ev → Res α} {Q : β → Hp → Prop} (p : Post X W rel σ H Hd O R (r.bind g) Q) :
    Post X W rel1 σ H Hd O R r fun v H1 => ∃ d Hd1 ρ1, Grow O H Hd H1 Hd1 ∧ StR X.K σ H1 Hd1 O R ρ1 ∧ rel1 H1 Hd1 v d ∧ Post X W rel σ H1 Hd1 O R (g d ρ1) Q := by
  cases r with
  | ok d ρ => exact fun v H' Hd' g' st q => ⟨d, Hd', ρ, g', st, q, Post.from p g'⟩
  | exc c d ρ => exact p
  | bad => exact p
theorem Post.imp {r : Res α} {Q Q' : β → Hp → Prop} (p : Post X W rel σ H Hd O R r Q) (h : ∀ v H, Q v H → Q' v H) : Post X W rel σ H Hd O R r Q' := by
  cases r with
  | ok d ρ => exact fun v H' Hd' g' st q => h _ _ (p v H' Hd' g' st q)
  | exc c d ρ => exact p
  | bad => exact p
theorem Post.here {d : α} {ρ : Ev} {v : β} {Q : β → Hp → Prop} (p : Post X W rel σ H Hd O R (.ok d ρ) Q) (st : StR X.K σ H Hd O R ρ) (q : rel H Hd v d) : Q v H := p v H Hd Grow.refl st q
theorem StR.grow {ρ : Ev} (st : StR X.K σ H Hd O R ρ) {p : Addr} {o : HO} (hp : H p = none) : StR X.K σ (upd H p o) (upd Hd p o) O R ρ where
  sub := fun a x h => by
    by_cases e : a = p
    · subst e; rw [upd_same] at h ⊢; exact h
    · rw [upd_ne e] at h ⊢; exact st.sub a x h
  len := st.len
  sl := fun i x h => by
    obtain ⟨w, e, q⟩ := st.sl i x h
    have sd : Sub Hd (upd Hd p o) := fun a x h => by
      rw [upd_ne (ne_of_none (st.sub a x h) hp)]; exact h
    refine ⟨w, e, ?_⟩
    cases x with
    | none => trivial
    | val d => obtain ⟨v, e1, e2⟩ := q; exact ⟨v, e1, e2.mono sd⟩
    | own ds =>
      obtain ⟨a, vs, e1, e2, e3, e4, e5⟩ := q
      have na := ne_of_none e4 hp
      exact ⟨a, vs, e1, e2, by rw [upd_ne na]; exact e3, by rw [upd_ne na]; exact e4, e5.mono sd⟩
    | ref ds =>
      obtain ⟨a, vs, e1, e2, e3, e4, e5, e6⟩ := q
      have na := ne_of_none e4 hp
      exact ⟨a, vs, e1, e2, by rw [upd_ne na]; exact e3, by rw [upd_ne na]; exact e4, e5.mono sd, e6⟩
  inj := st.inj
  dom := fun a ha => by
    obtain ⟨x, e⟩ := st.dom a ha
    exact ⟨x, by rw [upd_ne (ne_of_none e hp)]; exact e⟩
theorem Grow.laid (s : Sub Hd H) {p : Addr} {o : HO} (hp : H p = none) : Grow O H Hd (upd H p o) (upd Hd p o) where
  sub := fun a x h => by rw [upd_ne (ne_of_none (s a x h) hp)]; exact h
  new := fun a x h => by
    by_cases e : a = p
    · subst e; exact .inr (.inl hp)
    · rw [upd_ne e] at h; exact .inl h
  keep := fun a x h _ => by rw [upd_ne (ne_of_none h hp)]; exact h
  dom := fun a x h => ⟨x, by rw [upd_ne (ne_of_none h hp)]; exact h⟩
/-- a new object that is data -/
theorem Post.laid {d : α} {ρ : Ev} {v : β} {Q : β → Hp → Prop} {p : Addr} {o : HO} (q : Post X W rel σ H Hd O R (.ok d ρ) Q) (st : StR X.K σ H Hd O R ρ) (hp : H p = none) (r : rel (upd H p o) (upd Hd p o) v d) : Q v (upd H p o) :=
  q v (upd H p o) (upd Hd p o) (Grow.laid st.sub hp) (st.grow hp) r
end

/-! ### expressions -/
def RepX (X : Cx) : Hp → Hp → V → D → Prop := fun _ Hd v d => Rep X.K Hd v d
/-- data, or a list of one's own that is looked at -/
def RepB (K : Fg) (H Hd : Hp) (v : V) (d : D) : Prop := Rep K Hd v d ∨ ∃ a vs ds, v = .ref a ∧ d = .list ds ∧ H a = some (.lst vs) ∧ RepL K Hd vs ds
def RepBX (X : Cx) : Hp → Hp → V → D → Prop := fun H Hd v d => RepB X.K H Hd v d
theorem RepB.rep {K : Fg} {H Hd : Hp} {v : V} {d : D} (s : Sub Hd H) (r : RepB K H Hd v d) : Rep K H v d := by
  rcases r with r | ⟨a, vs, ds, rfl, rfl, h, r⟩
  · exact r.mono s
  · exact .list (.inl (.inl h)) (r.mono s)
abbrev tE (X : Cx) (W : WX) (f : Ev → Res D) : TE := Tr X W (RepX X) f
abbrev tT (X : Cx) (W : WX) (f : Ev → Res Bool) : TT := Tr X W (fun _ _ b c => b = c) f
abbrev tB' (X : Cx) (W : WX) (f : Ev → Res D) : TE := Tr X W (RepBX X) f
abbrev tL (X : Cx) (W : WX) (f : Ev → Res (List D)) : TA := Tr X W (fun _ Hd vs ds => RepL X.K Hd vs ds) f
def RE (X : Cx) (W : WX) (e : Expr) (f : Ev → Res D) : Prop := PE X e (tE X W f)
def RB (X : Cx) (W : WX) (e : Expr) (f : Ev → Res D) : Prop := PE X e (tB' X W f)
def RT (X : Cx) (W : WX) (e : Expr) (f : Ev → Res Bool) : Prop := PT X e (tT X W f)
def RW (X : Cx) (W : WX) (e : Expr) (f : Ev → Res Bool) : Prop := PW X e (tT X W f)
structure RL (X : Cx) (W : WX) (es : List Expr) (f : Ev → Res (List D)) : Prop where
  pa : PA X es (tL X W f)
  len : ∀ ρ xs ρ1, f ρ = .ok xs ρ1 → xs.length = es.length

theorem PE.conv {X : Cx} {e : Expr} {t t' : TE} (h : PE X e t) (c : ∀ σ H Q, t' σ H Q → t σ H Q) : PE X e t' := ⟨fun pins s σ H Q I q => h.run pins s σ H Q I (c σ H Q q)⟩
theorem PT.conv {X : Cx} {e : Expr} {t t' : TT} (h : PT X e t) (c : ∀ σ H Q, t' σ H Q → t σ H Q) : PT X e t' := ⟨fun pins s σ H Q I q => h.run pins s σ H Q I (c σ H Q q)⟩
theorem PW.conv {X : Cx} {e : Expr} {t t' : TT} (h : PW X e t) (c : ∀ σ H Q, t' σ H Q → t σ H Q) : PW X e t' := ⟨fun w pins s σ H Q I q => h.run w pins s σ H Q I (c σ H Q q)⟩
theorem PA.conv {X : Cx} {es : List Expr} {t t' : TA} (h : PA X es t) (c : ∀ σ H Q, t' σ H Q → t σ H Q) : PA X es t' := ⟨fun pos pins s σ H Q I q => h.run pos pins s σ H Q I (c σ H Q q)⟩

theorem RE.b {X : Cx} {W : WX} {e : Expr} {f : Ev → Res D} (h : RE X W e f) : RB X W e f := PE.conv h fun σ H Q ⟨ρ, Hd, O, R, st, p⟩ => ⟨ρ, Hd, O, R, st, by
  revert p
  cases f ρ with
  | ok d ρ' => exact fun p v H' Hd' g st r => p v H' Hd' g st (.inl r)
  | exc c d ρ' => exact fun p => p
  | bad => exact fun p => p⟩
def eVar (i : Nat) : Ev → Res D := fun ρ => match ρ[i]? with | some (.val d) => .ok d ρ | _ => .bad
def eK (d : D) : Ev → Res D := fun ρ => .ok d ρ
def eBin (op : D → D → Option D) (f g : Ev → Res D) : Ev → Res D := fun ρ => (f ρ).bind fun x ρ1 => (g ρ1).bind fun y ρ2 => lift (op x y) ρ2
def eUn (op : D → Option D) (f : Ev → Res D) : Ev → Res D := fun ρ => (f ρ).bind fun x ρ1 => lift (op x) ρ1
section
variable {X : Cx} {W : WX} {a b c : Expr} {f g h : Ev → Res D} {pos : Pos}
theorem re_var (i : Nat) {x : Str} {pos : Pos} (hN : X.N[i]? = some x := by rfl) (hv : Vis X.env.scope x := by first | exact Or.inl rfl | exact Or.inr (Or.inl rfl) | exact Or.inr (Or.inr rfl)) (hd : (x == ("__debug__" : Str)) = false := by decide)
    (hcd : (x == ("__classdict__" : Str)) = false := by decide) : RE X W (.Name x pos) (eVar i) :=
  PE.conv (pe_var hN hv hd hcd) fun σ H Q ⟨ρ, Hd, O, R, st, p⟩ => by
    unfold eVar at p
    cases q : ρ[i]? with
    | none => rw [q] at p; exact p.elim
    | some x =>
      rw [q] at p
      cases x with
      | val d =>
        obtain ⟨o, e, v, e2, r⟩ := st.sl i _ q
        subst e2
        exact ⟨v, e, Post.here p st r⟩
      | none => exact p.elim
      | own _ => exact p.elim
      | ref _ => exact p.elim
theorem re_c {v : V} {d : D} (hp : PE X a (tC v)) (r : ∀ H, Rep X.K H v d) : RE X W a (eK d) :=
  PE.conv hp fun σ H Q ⟨ρ, Hd, O, R, st, p⟩ => Post.here p st (r Hd)
theorem re_int {i : Int} {j pos} : RE X W (.Constant (.int i) j pos) (eK (.int i)) := re_c pe_int fun _ => .int i
theorem re_bl {i : Bool} {j pos} : RE X W (.Constant (.bool i) j pos) (eK (.bool i)) := re_c pe_bl fun _ => .bool i
theorem re_non {j pos} : RE X W (.Constant .none j pos) (eK .none) := re_c pe_non fun _ => .none
theorem re_str {i : Str} {j pos} : RE X W (.Constant (.str i) j pos) (eK (.str i)) := re_c pe_str fun _ => .str i
theorem re_glob {x : Str} {v : V} {u : Value} {d : D} {pos : Pos} (hg : Gl X x) (hm : X.mg x = some u) (r : RelV v u) (q : ∀ H, Rep X.K H v d) (hd : (x == ("__debug__" : Str)) = false := by decide) : RE X W (.Name x pos) (eK d) := re_c (pe_glob hg hm r hd) q

/-- an operation by values, on data: its answer z is data again, new or old -/
def OpD (X : Cx) (F : Value → Value → Sem Value) (op : D → D → Option D) : Prop :=
  ∃ r : R2, OpR X F r ∧ ∀ (W : WX) (x y z : D) (σ : St) (H Hd : Hp) (O : List Addr) (R : Nat → Option Addr) (ρ : Ev) (v u : V) (Q : VK), op x y = some z → StR X.K σ H Hd O R ρ → Rep X.K Hd v x → RepB X.K H Hd u y → Post X W (RepX X) σ H Hd O R (.ok z ρ) Q → r v u H Q
theorem re_tOp {F : Value → Value → Sem Value} {op : D → D → Option D} {r : R2}
    (hr : ∀ (W : WX) (x y z : D) (σ : St) (H Hd : Hp) (O : List Addr) (R : Nat → Option Addr) (ρ : Ev) (v u : V) (Q : VK), op x y = some z → StR X.K σ H Hd O R ρ → Rep X.K Hd v x → RepB X.K H Hd u y → Post X W (RepX X) σ H Hd O R (.ok z ρ) Q → r v u H Q)
    (σ : St) (H : Hp) (Q : VK) (t : tE X W (eBin op f g) σ H Q) : tOp r (tE X W f) (tB' X W g) σ H Q := by
  obtain ⟨ρ, Hd, O, R, st, p⟩ := t
  refine ⟨ρ, Hd, O, R, st, (Post.bind (rel1 := RepX X) p).imp ?_⟩
  rintro v H1 ⟨x, Hd1, ρ1, g1, st1, rx, p1⟩
  refine ⟨ρ1, Hd1, O, R, st1, (Post.bind (rel1 := RepBX X) p1).imp ?_⟩
  rintro u H2 ⟨y, Hd2, ρ2, g2, st2, ry, p2⟩
  cases q : op x y with
  | none => rw [q] at p2; exact p2.elim
  | some z =>
    rw [q] at p2
    exact hr W x y z σ H2 Hd2 O R ρ2 v u Q q st2 (rx.mono g2.sub) ry p2
theorem re_op {o : Operator} {op : D → D → Option D} (ho : OpD X (binaryOp o) op) (ha : RE X W a f) (hb : RB X W b g) : RE X W (.BinOp a o b pos) (eBin op f g) := by
  obtain ⟨r, h1, h2⟩ := ho
  exact PE.conv (pe_op h1 ha hb) (re_tOp (F := binaryOp o) h2)
theorem re_cmp {o : CmpOp} {op : D → D → Option D} (ho : OpD X (compareOp o) op) (ha : RE X W a f) (hb : RB X W b g) (hm : behindInMarks o b = false) : RE X W (.Compare a [o] [b] pos) (eBin op f g) := by
  obtain ⟨r, h1, h2⟩ := ho
  exact PE.conv (pe_cmpR h1 ha hb hm) (re_tOp (F := compareOp o) h2)

/-! ### tests -/
def toB : D → Option Bool
  | .bool b => some b
  | _ => Option.none
def cV (f : Ev → Res D) : Ev → Res Bool := fun ρ => (f ρ).bind fun x ρ1 => lift (toB x) ρ1
theorem cV_tB {σ : St} {H : Hp} {Q : Bool → Hp → Prop} (t : tT X W (cV f) σ H Q) : tE X W f σ H fun x H1 => ∃ c, x = .bl c ∧ Q c H1 := by
  obtain ⟨ρ, Hd, O, R, st, p⟩ := t
  refine ⟨ρ, Hd, O, R, st, (Post.bind (rel1 := RepX X) p).imp ?_⟩
  rintro v H1 ⟨x, Hd1, ρ1, g1, st1, rx, p1⟩
  cases rx with
  | bool b => exact ⟨b, rfl, Post.here p1 st1 rfl⟩
  | none => exact p1.elim
  | int _ => exact p1.elim
  | str _ => exact p1.elim
  | list _ _ => exact p1.elim
  | tuple _ _ => exact p1.elim
  | dict _ => exact p1.elim
theorem rt_val (ha : RE X W a f) (he : ∀ whole, isTrue a X.env whole = (do let v ← whole; standAt a.pos; holding [v] (truthy v)) := by intro _; rfl) : RT X W a (cV f) :=
  PT.conv (pt_val ha he) fun _ _ _ t => cV_tB t
theorem rt_cmp {o : CmpOp} {op : D → D → Option D} (ho : OpD X (compareOp o) op) (ha : RE X W a f) (hb : RB X W b g) (hm : behindInMarks o b = false) : RT X W (.Compare a [o] [b] pos) (cV (eBin op f g)) := by
  obtain ⟨r, h1, h2⟩ := ho
  refine PT.conv (pt_cmpR h1 ha hb hm) fun σ H Q t => ?_
  exact re_tOp (F := compareOp o) h2 σ H _ (cV_tB t)
end
end AH

/-! AH2: and, or, not, choices, displays, subscripts, slices, calls -/
namespace AH
open PySem PySem.Spec PyProof.Rows L2

section
variable {X : Cx} {W : WX} {a b c : Expr} {f g h : Ev → Res D} {pos : Pos} {p q : Ev → Res Bool} {rest : List Expr}
/-! ### tests -/
def cAnd (p q : Ev → Res Bool) : Ev → Res Bool := fun ρ => (p ρ).bind fun b ρ1 => if b = true then q ρ1 else .ok false ρ1
def cOr (p q : Ev → Res Bool) : Ev → Res Bool := fun ρ => (p ρ).bind fun b ρ1 => if b = true then .ok true ρ1 else q ρ1
def cNot (p : Ev → Res Bool) : Ev → Res Bool := fun ρ => (p ρ).bind fun b ρ1 => .ok (!b) ρ1
theorem rw_and1 (ha : RT X W a p) : RW X W (.BoolOp .And [a] pos) p := pw_and1 ha
theorem rw_or1 (ha : RT X W a p) : RW X W (.BoolOp .Or [a] pos) p := pw_or1 ha
theorem rw_and (ha : RT X W a p) (hb : RW X W (.BoolOp .And (b :: rest) pos) q) : RW X W (.BoolOp .And (a :: b :: rest) pos) (cAnd p q) :=
  PW.conv (pw_and ha hb) fun σ H Q ⟨ρ, Hd, O, R, st, t⟩ => ⟨ρ, Hd, O, R, st, (Post.bind (rel1 := fun _ _ b c => b = c) t).imp (by
    rintro v H1 ⟨x, Hd1, ρ1, g1, st1, rfl, p1⟩
    cases v with
    | true => rw [if_pos rfl] at p1 ⊢; exact ⟨ρ1, Hd1, O, R, st1, p1⟩
    | false => rw [if_neg (by decide)] at p1 ⊢; exact Post.here p1 st1 rfl)⟩
theorem rw_or (ha : RT X W a p) (hb : RW X W (.BoolOp .Or (b :: rest) pos) q) : RW X W (.BoolOp .Or (a :: b :: rest) pos) (cOr p q) :=
  PW.conv (pw_or ha hb) fun σ H Q ⟨ρ, Hd, O, R, st, t⟩ => ⟨ρ, Hd, O, R, st, (Post.bind (rel1 := fun _ _ b c => b = c) t).imp (by
    rintro v H1 ⟨x, Hd1, ρ1, g1, st1, rfl, p1⟩
    cases v with
    | true => rw [if_pos rfl] at p1 ⊢; exact Post.here p1 st1 rfl
    | false => rw [if_neg (by decide)] at p1 ⊢; exact ⟨ρ1, Hd1, O, R, st1, p1⟩)⟩
theorem rt_w (h : RW X W a p) : RT X W a p := PW.pt h
theorem rt_not (ha : RT X W a p) : RT X W (.UnaryOp .Not a pos) (cNot p) :=
  PT.conv (pt_not ha) fun σ H Q ⟨ρ, Hd, O, R, st, t⟩ => ⟨ρ, Hd, O, R, st, (Post.bind (rel1 := fun _ _ b c => b = c) t).imp (by
    rintro v H1 ⟨x, Hd1, ρ1, g1, st1, rfl, p1⟩
    exact Post.here p1 st1 rfl)⟩
/-! ### the same as values -/
def eAnd (f g : Ev → Res D) : Ev → Res D := fun ρ => (f ρ).bind fun x ρ1 => match x with | .bool true => g ρ1 | .bool false => .ok (.bool false) ρ1 | _ => .bad
def eOr (f g : Ev → Res D) : Ev → Res D := fun ρ => (f ρ).bind fun x ρ1 => match x with | .bool true => .ok (.bool true) ρ1 | .bool false => g ρ1 | _ => .bad
def notD : D → Option D
  | .bool b => some (.bool !b)
  | _ => none
theorem re_one {op} (h : RE X W a f) : RE X W (.BoolOp op [a] pos) f := pe_one h
theorem re_and (ha : RE X W a f) (hb : RE X W (.BoolOp .And (b :: rest) pos) g) : RE X W (.BoolOp .And (a :: b :: rest) pos) (eAnd f g) :=
  PE.conv (pe_and ha hb) fun σ H Q ⟨ρ, Hd, O, R, st, t⟩ => ⟨ρ, Hd, O, R, st, (Post.bind (rel1 := RepX X) t).imp (by
    rintro v H1 ⟨x, Hd1, ρ1, g1, st1, rx, p1⟩
    cases rx with
    | bool b =>
      cases b with
      | true => exact ⟨true, rfl, by rw [if_pos rfl]; exact ⟨ρ1, Hd1, O, R, st1, p1⟩⟩
      | false => exact ⟨false, rfl, by rw [if_neg (by decide)]; exact Post.here p1 st1 (.bool false)⟩
    | _ => exact p1.elim)⟩
theorem re_or (ha : RE X W a f) (hb : RE X W (.BoolOp .Or (b :: rest) pos) g) : RE X W (.BoolOp .Or (a :: b :: rest) pos) (eOr f g) :=
  PE.conv (pe_or ha hb) fun σ H Q ⟨ρ, Hd, O, R, st, t⟩ => ⟨ρ, Hd, O, R, st, (Post.bind (rel1 := RepX X) t).imp (by
    rintro v H1 ⟨x, Hd1, ρ1, g1, st1, rx, p1⟩
    cases rx with
    | bool b =>
      cases b with
      | true => exact ⟨true, rfl, by rw [if_pos rfl]; exact Post.here p1 st1 (.bool true)⟩
      | false => exact ⟨false, rfl, by rw [if_neg (by decide)]; exact ⟨ρ1, Hd1, O, R, st1, p1⟩⟩
    | _ => exact p1.elim)⟩
theorem re_not (ha : RE X W a f) : RE X W (.UnaryOp .Not a pos) (eUn notD f) :=
  PE.conv (pe_not ha) fun σ H Q ⟨ρ, Hd, O, R, st, t⟩ => ⟨ρ, Hd, O, R, st, (Post.bind (rel1 := RepX X) t).imp (by
    rintro v H1 ⟨x, Hd1, ρ1, g1, st1, rx, p1⟩
    cases rx with
    | bool b => exact ⟨b, rfl, Post.here p1 st1 (.bool !b)⟩
    | _ => exact p1.elim)⟩
def eIf (p : Ev → Res Bool) (f g : Ev → Res D) : Ev → Res D := fun ρ => (p ρ).bind fun b ρ1 => if b = true then f ρ1 else g ρ1
theorem re_if (hc : RT X W c p) (ha : RE X W a f) (hb : RE X W b g) : RE X W (.IfExp c a b pos) (eIf p f g) :=
  PE.conv (pe_ifExp hc ha hb) fun σ H Q ⟨ρ, Hd, O, R, st, t⟩ => ⟨ρ, Hd, O, R, st, (Post.bind (rel1 := fun _ _ b c => b = c) t).imp (by
    rintro v H1 ⟨x, Hd1, ρ1, g1, st1, rfl, p1⟩
    cases v with
    | true => rw [if_pos rfl] at p1 ⊢; exact ⟨ρ1, Hd1, O, R, st1, p1⟩
    | false => rw [if_neg (by decide)] at p1 ⊢; exact ⟨ρ1, Hd1, O, R, st1, p1⟩)⟩
/-! ### is None -/
def isNoneD : D → Bool
  | .none => true
  | _ => false
theorem isNone_rep {K : Fg} {H : Hp} {v : V} {d : D} (r : Rep K H v d) : decide (v = .non) = isNoneD d := by
  cases r <;> rfl
theorem re_isN {j pos'} (ha : RE X W a f) : RE X W (.Compare a [.Is] [.Constant .none j pos'] pos) (eUn (fun x => some (.bool (isNoneD x))) f) :=
  PE.conv (pe_cmp (pc_isN ha) rfl) fun σ H Q ⟨ρ, Hd, O, R, st, t⟩ => ⟨ρ, Hd, O, R, st, (Post.bind (rel1 := RepX X) t).imp (by
    rintro v H1 ⟨x, Hd1, ρ1, g1, st1, rx, p1⟩
    exact Post.here p1 st1 (by rw [isNone_rep rx]; exact .bool _))⟩
theorem re_notN {j pos'} (ha : RE X W a f) : RE X W (.Compare a [.IsNot] [.Constant .none j pos'] pos) (eUn (fun x => some (.bool (!isNoneD x))) f) :=
  PE.conv (pe_cmp (pc_notN ha) rfl) fun σ H Q ⟨ρ, Hd, O, R, st, t⟩ => ⟨ρ, Hd, O, R, st, (Post.bind (rel1 := RepX X) t).imp (by
    rintro v H1 ⟨x, Hd1, ρ1, g1, st1, rx, p1⟩
    exact Post.here p1 st1 (by rw [isNone_rep rx]; exact .bool _))⟩
theorem rt_isN {j pos'} (ha : RE X W a f) : RT X W (.Compare a [.Is] [.Constant .none j pos'] pos) (cV (eUn (fun x => some (.bool (isNoneD x))) f)) :=
  PT.conv (pt_cmp (pc_isN ha) rfl) fun σ H Q t => by
    obtain ⟨ρ, Hd, O, R, st, t⟩ := cV_tB t
    exact ⟨ρ, Hd, O, R, st, (Post.bind (rel1 := RepX X) t).imp (by
      rintro v H1 ⟨x, Hd1, ρ1, g1, st1, rx, p1⟩
      exact Post.here p1 st1 (by rw [isNone_rep rx]; exact .bool _))⟩
theorem rt_notN {j pos'} (ha : RE X W a f) : RT X W (.Compare a [.IsNot] [.Constant .none j pos'] pos) (cV (eUn (fun x => some (.bool (!isNoneD x))) f)) :=
  PT.conv (pt_cmp (pc_notN ha) rfl) fun σ H Q t => by
    obtain ⟨ρ, Hd, O, R, st, t⟩ := cV_tB t
    exact ⟨ρ, Hd, O, R, st, (Post.bind (rel1 := RepX X) t).imp (by
      rintro v H1 ⟨x, Hd1, ρ1, g1, st1, rx, p1⟩
      exact Post.here p1 st1 (by rw [isNone_rep rx]; exact .bool _))⟩

/-! ### argument lists, displays -/
def lNil : Ev → Res (List D) := fun ρ => .ok [] ρ
def lCons (f : Ev → Res D) (g : Ev → Res (List D)) : Ev → Res (List D) := fun ρ => (f ρ).bind fun x ρ1 => (g ρ1).bind fun xs ρ2 => .ok (x :: xs) ρ2
variable {es : List Expr} {l : Ev → Res (List D)}
theorem rl_nil : RL X W [] lNil := ⟨PA.conv pa_nil fun σ H Q ⟨ρ, Hd, O, R, st, t⟩ => Post.here t st .nil, fun ρ xs ρ1 h => by cases h; rfl⟩
theorem rl_cons (ha : RE X W a f) (hr : RL X W es l) (hs : starEach (a :: es) X.env = (false, eval a X.env) :: starEach es X.env := by rfl) : RL X W (a :: es) (lCons f l) :=
  ⟨PA.conv (pa_cons ha hr.pa hs) fun σ H Q ⟨ρ, Hd, O, R, st, t⟩ => ⟨ρ, Hd, O, R, st, (Post.bind (rel1 := RepX X) t).imp (by
    rintro v H1 ⟨x, Hd1, ρ1, g1, st1, rx, p1⟩
    refine ⟨ρ1, Hd1, O, R, st1, (Post.bind (rel1 := fun _ Hd vs ds => RepL X.K Hd vs ds) p1).imp ?_⟩
    rintro u H2 ⟨y, Hd2, ρ2, g2, st2, ry, p2⟩
    exact Post.here p2 st2 (.cons (rx.mono g2.sub) ry))⟩, fun ρ xs ρ1 h => by
    unfold lCons at h
    cases q : f ρ with
    | ok x ρ2 =>
      rw [q] at h
      dsimp only [Res.bind] at h
      cases q2 : l ρ2 with
      | ok ys ρ3 =>
        rw [q2] at h
        cases h
        rw [List.length_cons, List.length_cons, hr.len _ _ _ q2]
      | exc c d ρ3 => rw [q2] at h; cases h
      | bad => rw [q2] at h; cases h
    | exc c d ρ2 => rw [q] at h; cases h
    | bad => rw [q] at h; cases h⟩
/-- lists and texts that are made stay below this -/
def lid : Nat := 1000000
theorem lid_line : lid < sizeLine := by decide
def mkTup (xs : List D) : Option D := if xs.length ≤ lid then some (.tuple xs) else none
def mkLst (xs : List D) : Option D := if xs.length ≤ lid then some (.list xs) else none
def eTup (l : Ev → Res (List D)) : Ev → Res D := fun ρ => (l ρ).bind fun xs ρ1 => lift (mkTup xs) ρ1
def eLst (l : Ev → Res (List D)) : Ev → Res D := fun ρ => (l ρ).bind fun xs ρ1 => lift (mkLst xs) ρ1
theorem re_tup {k} (h : RL X W es l) : RE X W (.Tuple es k pos) (eTup l) :=
  PE.conv (pe_tupX h.pa) fun σ H Q ⟨ρ, Hd, O, R, st, t⟩ => ⟨ρ, Hd, O, R, st, (Post.bind (rel1 := fun _ Hd vs ds => RepL X.K Hd vs ds) t).imp (by
    rintro v H1 ⟨x, Hd1, ρ1, g1, st1, rx, p1⟩
    unfold mkTup at p1
    by_cases hl : x.length ≤ lid
    · rw [if_pos hl] at p1
      refine ⟨by rw [rx.length]; exact Nat.le_trans hl (Nat.le_of_lt lid_line), fun p us hp rv => Post.laid p1 st1 hp ?_⟩
      exact .tuple ⟨us, rv, by rw [← rv.length, rx.length]; exact Nat.le_trans hl (Nat.le_of_lt lid_line), .inl upd_same⟩ (rx.mono (Grow.laid (O := O) st1.sub hp).sub)
    · rw [if_neg hl] at p1; exact p1.elim)⟩
theorem re_lst (h : RL X W es l) : RE X W (.List es pos) (eLst l) :=
  PE.conv (pe_lst h.pa) fun σ H Q ⟨ρ, Hd, O, R, st, t⟩ => ⟨ρ, Hd, O, R, st, (Post.bind (rel1 := fun _ Hd vs ds => RepL X.K Hd vs ds) t).imp (by
    rintro v H1 ⟨x, Hd1, ρ1, g1, st1, rx, p1⟩
    unfold mkLst at p1
    by_cases hl : x.length ≤ lid
    · rw [if_pos hl] at p1
      refine ⟨by rw [rx.length]; exact Nat.le_trans hl (Nat.le_of_lt lid_line), fun p hp => Post.laid p1 st1 hp ?_⟩
      exact .list (.inl (.inl upd_same)) (rx.mono (Grow.laid (O := O) st1.sub hp).sub)
    · rw [if_neg hl] at p1; exact p1.elim)⟩

/-! ### calls of built-ins, by values -/
/-- one argument, data or a list of one's own -/
def Call1 (X : Cx) (F : Value) (op : D → Option D) : Prop :=
  ∃ r, CallR X F r ∧ ∀ (W : WX) (x z : D) (σ : St) (H Hd : Hp) (O : List Addr) (R : Nat → Option Addr) (ρ : Ev) (v : V) (Q : VK), op x = some z → StR X.K σ H Hd O R ρ → RepB X.K H Hd v x → Post X W (RepX X) σ H Hd O R (.ok z ρ) Q → r [v] H Q
theorem tA1 {r : List V → Hp → VK → Prop} {op : D → Option D}
    (hr : ∀ (W : WX) (x z : D) (σ : St) (H Hd : Hp) (O : List Addr) (R : Nat → Option Addr) (ρ : Ev) (v : V) (Q : VK), op x = some z → StR X.K σ H Hd O R ρ → RepB X.K H Hd v x → Post X W (RepX X) σ H Hd O R (.ok z ρ) Q → r [v] H Q)
    (σ : St) (H : Hp) (Q : VK) (t : tE X W (eUn op f) σ H Q) : (tCons (tB' X W f) tNil) σ H fun vs H1 => r vs H1 Q := by
  obtain ⟨ρ, Hd, O, R, st, t⟩ := t
  refine ⟨ρ, Hd, O, R, st, (Post.bind (rel1 := RepBX X) t).imp ?_⟩
  rintro v H1 ⟨x, Hd1, ρ1, g1, st1, rx, p1⟩
  cases q : op x with
  | none => rw [q] at p1; exact p1.elim
  | some z => rw [q] at p1; exact hr W x z σ H1 Hd1 O R ρ1 v Q q st1 rx p1
theorem re_callB {id : String} {x : Str} {pn : Pos} {op : D → Option D} (hc : Call1 X (.builtin id) op) (hg : Gl X x) (hm : X.mg x = none) (hv : bootBuiltins x = some (.builtin id)) (ha : RB X W a f)
    (hn : x ≠ "__name__" := by decide) (hdb : (x == ("__debug__" : Str)) = false := by decide) (hs : starEach [a] X.env = (false, eval a X.env) :: starEach [] X.env := by rfl) : RE X W (.Call (.Name x pn) [a] [] pos) (eUn op f) := by
  obtain ⟨r, h1, h2⟩ := hc
  exact PE.conv (pe_callB h1 hg hm hv (pa_cons ha pa_nil hs) hn hdb hs) (tA1 h2)
theorem re_callT {T : String} {x : Str} {pn : Pos} {op : D → Option D} (hc : Call1 X (.type T) op) (hg : Gl X x) (hm : X.mg x = none) (hv : bootBuiltins x = some (.type T)) (ha : RB X W a f)
    (hn : x ≠ "__name__" := by decide) (hdb : (x == ("__debug__" : Str)) = false := by decide) (hs : starEach [a] X.env = (false, eval a X.env) :: starEach [] X.env := by rfl) : RE X W (.Call (.Name x pn) [a] [] pos) (eUn op f) := by
  obtain ⟨r, h1, h2⟩ := hc
  exact PE.conv (pe_callTy h1 hg hm hv (pa_cons ha pa_nil hs) hn hdb hs) (tA1 h2)
end
end AH

/-! AH3: what the operators and built-ins do to data -/
namespace AH
open PySem PySem.Spec PyProof.Rows L2
section
variable {X : Cx}
/-- an operation whose answer is a plain value -/
theorem opD_of {F : Value → Value → Sem Value} {op : D → D → Option D} {r : R2} (h1 : OpR X F r)
    (h2 : ∀ (x y z : D) (H : Hp) (v u : V) (Q : VK), op x y = some z → Rep X.K H v x → Rep X.K H u y → (∀ k, (∀ H', Rep X.K H' k z) → Q k H) → r v u H Q) : OpD X F op :=
  ⟨r, h1, fun W x y z σ H Hd O R ρ v u Q e st rx ry p => h2 x y z H v u Q e (rx.mono st.sub) (ry.rep st.sub) fun k hk => Post.here p st (hk Hd)⟩
/-! ### == and its like -/
def okEq (x y : D) : Bool := x.plain && y.plain && decide (min x.depth y.depth ≤ 60)
def eqD (x y : D) : Option D := if okEq x y then some (.bool (PyData.eqv x y)) else none
def neD (x y : D) : Option D := if okEq x y then some (.bool (!PyData.eqv x y)) else none
theorem okEq_of {x y : D} (h : okEq x y = true) : x.plain = true ∧ y.plain = true ∧ min x.depth y.depth ≤ 60 := by
  unfold okEq at h
  simp only [Bool.and_eq_true, decide_eq_true_eq] at h
  exact ⟨h.1.1, h.1.2, h.2⟩
theorem op_eqD (hu : X.A.units + 100 < cLine) : OpD X (compareOp .Eq) eqD := by
  refine opD_of (r := fun x y H Q => ∃ dx dy, Rep X.K H x dx ∧ Rep X.K H y dy ∧ okEq dx dy = true ∧ Q (.bl (PyData.eqv dx dy)) H) ?_ ?_
  · rintro pins s σ H x y v u Q I rx ry ⟨dx, dy, hx, hy, ok, q⟩
    obtain ⟨as, ra⟩ := hx.reads I rx
    obtain ⟨bs, rb⟩ := hy.reads I ry
    obtain ⟨p1, p2, p3⟩ := okEq_of ok
    exact PySem.SeqAt.eq_plain ra rb p1 p2 (by omega) ⟨.bl _, H, I, rfl, q⟩
  · intro x y z H v u Q e rx ry q
    unfold eqD at e
    split at e
    · rename_i h
      cases e
      exact ⟨x, y, rx, ry, h, q _ fun _ => .bool _⟩
    · cases e
theorem op_neD (hu : X.A.units + 100 < cLine) : OpD X (compareOp .NotEq) neD := by
  refine opD_of (r := fun x y H Q => ∃ dx dy, Rep X.K H x dx ∧ Rep X.K H y dy ∧ okEq dx dy = true ∧ Q (.bl (!PyData.eqv dx dy)) H) ?_ ?_
  · rintro pins s σ H x y v u Q I rx ry ⟨dx, dy, hx, hy, ok, q⟩
    obtain ⟨as, ra⟩ := hx.reads I rx
    obtain ⟨bs, rb⟩ := hy.reads I ry
    obtain ⟨p1, p2, p3⟩ := okEq_of ok
    exact PySem.SeqAt.ne_plain ra rb p1 p2 (by omega) ⟨.bl _, H, I, rfl, q⟩
  · intro x y z H v u Q e rx ry q
    unfold neD at e
    split at e
    · rename_i h
      cases e
      exact ⟨x, y, rx, ry, h, q _ fun _ => .bool _⟩
    · cases e
/-! ### in -/
def okIn (ys : List D) (x : D) : Bool := PyData.plainAll ys && x.plain && decide (min (PyData.depthAll ys) x.depth ≤ 60)
theorem okIn_of {ys : List D} {x : D} (h : okIn ys x = true) : PyData.plainAll ys = true ∧ x.plain = true ∧ min (PyData.depthAll ys) x.depth ≤ 60 := by
  unfold okIn at h
  simp only [Bool.and_eq_true, decide_eq_true_eq] at h
  exact ⟨h.1.1, h.1.2, h.2⟩
def hasD (ys : List D) (x : D) : Bool := ys.any fun y => PyData.eqv y x
def inB : D → D → Option Bool
  | x, .list ys => if okIn ys x then some (hasD ys x) else none
  | x, .tuple ys => if okIn ys x then some (hasD ys x) else none
  | .str c, .str z => match c.cps.toList with | [n] => some (decide (n ∈ z.cps.toList)) | _ => none
  | _, _ => none
def inD (x y : D) : Option D := (inB x y).map .bool
def ninD (x y : D) : Option D := (inB x y).map fun b => .bool !b
theorem str_one {c : Str} {n : Nat} (h : c.cps.toList = [n]) : c = ⟨#[n]⟩ := by
  cases c with
  | mk a =>
    have : a = #[n] := by apply Array.toList_inj.mp; exact h
    rw [this]
theorem op_inB (hu : X.A.units + 100 < cLine) : OpR X (compareOp .In) (fun x y H Q => ∃ dx dy b, Rep X.K H x dx ∧ Rep X.K H y dy ∧ inB dx dy = some b ∧ Q (.bl b) H) := by
  rintro pins s σ H x y v u Q I rx ry ⟨dx, dy, b, hx, hy, e, q⟩
  cases dy with
  | list ys =>
    obtain ⟨as, ra⟩ := hx.reads I rx
    obtain ⟨bs, rb⟩ := hy.reads I ry
    by_cases h : okIn ys dx = true
    · simp only [inB, h, if_true] at e
      cases e
      obtain ⟨p1, p2, p3⟩ := okIn_of h
      exact PySem.SeqAt.in_list_data rb ra p1 p2 (by omega) ⟨.bl _, H, I, rfl, q⟩
    · simp only [inB, h, if_false] at e
      cases e
  | tuple ys =>
    obtain ⟨as, ra⟩ := hx.reads I rx
    obtain ⟨bs, rb⟩ := hy.reads I ry
    by_cases h : okIn ys dx = true
    · simp only [inB, h, if_true] at e
      cases e
      obtain ⟨p1, p2, p3⟩ := okIn_of h
      exact PySem.SeqAt.in_tuple_data rb ra p1 p2 (by omega) ⟨.bl _, H, I, rfl, q⟩
    · simp only [inB, h, if_false] at e
      cases e
  | str z =>
    cases hx with
    | str c =>
      cases hy
      simp only [inB] at e
      split at e
      · rename_i n hn
        cases e
        rw [str_one hn] at rx
        exact op_in_sign pins s σ H _ _ v u Q I rx ry ⟨n, z, rfl, rfl, q⟩
      · cases e
    | _ => cases e
  | _ => cases hx <;> cases e
theorem op_ninB (hu : X.A.units + 100 < cLine) : OpR X (compareOp .NotIn) (fun x y H Q => ∃ dx ys, Rep X.K H x dx ∧ (Rep X.K H y (.list ys) ∨ Rep X.K H y (.tuple ys)) ∧ okIn ys dx = true ∧ Q (.bl (!hasD ys dx)) H) := by
  rintro pins s σ H x y v u Q I rx ry ⟨dx, ys, hx, hy, ok, q⟩
  obtain ⟨as, ra⟩ := hx.reads I rx
  obtain ⟨p1, p2, p3⟩ := okIn_of ok
  rcases hy with hy | hy
  · obtain ⟨bs, rb⟩ := hy.reads I ry
    exact PySem.SeqAt.notIn_list_data rb ra p1 p2 (by omega) ⟨.bl _, H, I, rfl, q⟩
  · obtain ⟨bs, rb⟩ := hy.reads I ry
    exact PySem.SeqAt.notIn_tuple_data rb ra p1 p2 (by omega) ⟨.bl _, H, I, rfl, q⟩
theorem op_inD (hu : X.A.units + 100 < cLine) : OpD X (compareOp .In) inD := by
  refine opD_of (op_inB hu) fun x y z H v u Q e rx ry q => ?_
  unfold inD at e
  cases h : inB x y with
  | none => rw [h] at e; cases e
  | some b => rw [h] at e; cases e; exact ⟨x, y, b, rx, ry, h, q _ fun _ => .bool _⟩
theorem op_ninD (hu : X.A.units + 100 < cLine) : OpD X (compareOp .NotIn) (fun x y => match y with | .str _ => none | _ => ninD x y) := by
  refine opD_of (op_ninB hu) fun x y z H v u Q e rx ry q => ?_
  cases y with
  | list ys =>
    simp only [ninD, inB] at e
    by_cases h : okIn ys x = true
    · rw [if_pos h] at e; cases e; exact ⟨x, ys, rx, .inl ry, h, q _ fun _ => .bool _⟩
    · rw [if_neg h] at e; cases e
  | tuple ys =>
    simp only [ninD, inB] at e
    by_cases h : okIn ys x = true
    · rw [if_pos h] at e; cases e; exact ⟨x, ys, rx, .inr ry, h, q _ fun _ => .bool _⟩
    · rw [if_neg h] at e; cases e
  | str _ => cases e
  | _ => cases x <;> cases e
/-! ### order -/
def okLt (x y : D) : Bool := PySem.W.alike x y && !isNoneD x && decide (min x.depth y.depth ≤ 60)
theorem okLt_of {x y : D} (h : okLt x y = true) : PySem.W.alike x y = true ∧ x ≠ .none ∧ min x.depth y.depth ≤ 60 := by
  unfold okLt at h
  simp only [Bool.and_eq_true, decide_eq_true_eq] at h
  refine ⟨h.1.1, ?_, h.2⟩
  intro e
  subst e
  exact absurd h.1.2 (by decide)
def ltB : D → D → Option Bool
  | .int i, .int j => some (decide (i < j))
  | x, y => if okLt x y then some (PySem.W.dataLt x y) else none
def ltD (x y : D) : Option D := (ltB x y).map .bool
def gtD (x y : D) : Option D := (ltB y x).map .bool
def leD (x y : D) : Option D := match x, y with | .int i, .int j => some (.bool (decide (i ≤ j))) | x, y => if okLt x y then some (.bool (!PySem.W.dataLt y x)) else none
def geD (x y : D) : Option D := match x, y with | .int i, .int j => some (.bool (decide (j ≤ i))) | x, y => if okLt x y then some (.bool (!PySem.W.dataLt x y)) else none
theorem ltB_cases {x y : D} {b : Bool} (h : ltB x y = some b) : (∃ i j, x = .int i ∧ y = .int j ∧ b = decide (i < j)) ∨ (okLt x y = true ∧ b = PySem.W.dataLt x y) := by
  unfold ltB at h
  split at h
  · cases h; exact .inl ⟨_, _, rfl, rfl, rfl⟩
  · split at h
    · rename_i q; cases h; exact .inr ⟨q, rfl⟩
    · cases h
theorem op_ltD (hu : X.A.units + 100 < cLine) : OpD X (compareOp .Lt) ltD := by
  refine opD_of (r := fun x y H Q => ∃ dx dy b, Rep X.K H x dx ∧ Rep X.K H y dy ∧ ltB dx dy = some b ∧ Q (.bl b) H) ?_ ?_
  · rintro pins s σ H x y v u Q I rx ry ⟨dx, dy, b, hx, hy, e, q⟩
    rcases ltB_cases e with ⟨i, j, rfl, rfl, rfl⟩ | ⟨ok, rfl⟩
    · cases hx; cases hy
      obtain ⟨t, rfl⟩ := rx
      obtain ⟨t', rfl⟩ := ry
      exact lt_int ⟨.bl _, H, I, rfl, q⟩
    · obtain ⟨as, ra⟩ := hx.reads I rx
      obtain ⟨bs, rb⟩ := hy.reads I ry
      obtain ⟨p1, p2, p3⟩ := okLt_of ok
      exact PySem.W.lt_data ra rb p1 p2 (by omega) ⟨.bl _, H, I, rfl, q⟩
  · intro x y z H v u Q e rx ry q
    unfold ltD at e
    cases h : ltB x y with
    | none => rw [h] at e; cases e
    | some b => rw [h] at e; cases e; exact ⟨x, y, b, rx, ry, h, q _ fun _ => .bool _⟩
theorem op_gtI : OpD X (compareOp .Gt) (fun x y => match x, y with | .int i, .int j => some (.bool (decide (j < i))) | _, _ => none) := by
  refine opD_of (r := fun x y H Q => ∃ i j, x = .int i ∧ y = .int j ∧ Q (.bl (decide (j < i))) H) ?_ ?_
  · rintro pins s σ H x y v u Q I rx ry ⟨i, j, rfl, rfl, q⟩
    obtain ⟨t, rfl⟩ := rx
    obtain ⟨t', rfl⟩ := ry
    exact gt_int ⟨.bl _, H, I, rfl, q⟩
  · intro x y z H v u Q e rx ry q
    split at e
    · cases e; cases rx; cases ry; exact ⟨_, _, rfl, rfl, q _ fun _ => .bool _⟩
    · cases e
theorem op_leI : OpD X (compareOp .LtE) (fun x y => match x, y with | .int i, .int j => some (.bool (decide (i ≤ j))) | _, _ => none) := by
  refine opD_of (r := fun x y H Q => ∃ i j, x = .int i ∧ y = .int j ∧ Q (.bl (decide (i ≤ j))) H) ?_ ?_
  · rintro pins s σ H x y v u Q I rx ry ⟨i, j, rfl, rfl, q⟩
    obtain ⟨t, rfl⟩ := rx
    obtain ⟨t', rfl⟩ := ry
    exact le_int ⟨.bl _, H, I, rfl, q⟩
  · intro x y z H v u Q e rx ry q
    split at e
    · cases e; cases rx; cases ry; exact ⟨_, _, rfl, rfl, q _ fun _ => .bool _⟩
    · cases e
theorem op_geI : OpD X (compareOp .GtE) (fun x y => match x, y with | .int i, .int j => some (.bool (decide (j ≤ i))) | _, _ => none) := by
  refine opD_of (r := fun x y H Q => ∃ i j, x = .int i ∧ y = .int j ∧ Q (.bl (decide (j ≤ i))) H) ?_ ?_
  · rintro pins s σ H x y v u Q I rx ry ⟨i, j, rfl, rfl, q⟩
    obtain ⟨t, rfl⟩ := rx
    obtain ⟨t', rfl⟩ := ry
    exact ge_int ⟨.bl _, H, I, rfl, q⟩
  · intro x y z H v u Q e rx ry q
    split at e
    · cases e; cases rx; cases ry; exact ⟨_, _, rfl, rfl, q _ fun _ => .bool _⟩
    · cases e
end
end AH

/-! AH4: arithmetic, +, built-ins of one argument -/
namespace AH
open PySem PySem.Spec PyProof.Rows L2
section
variable {X : Cx}
def alt {α : Type} (a b : Option α) : Option α := match a with | some x => some x | none => b
theorem alt_cases {α : Type} {a b : Option α} {z : α} (h : alt a b = some z) : a = some z ∨ b = some z := by
  unfold alt at h
  split at h
  · exact .inl h
  · exact .inr h
theorem OpD.or {F : Value → Value → Sem Value} {o1 o2 : D → D → Option D} (h1 : OpD X F o1) (h2 : OpD X F o2) : OpD X F (fun x y => alt (o1 x y) (o2 x y)) := by
  obtain ⟨r1, a1, b1⟩ := h1
  obtain ⟨r2, a2, b2⟩ := h2
  refine ⟨fun x y H Q => r1 x y H Q ∨ r2 x y H Q, ?_, ?_⟩
  · rintro pins s σ H x y v u Q I rx ry (q | q)
    · exact a1 pins s σ H x y v u Q I rx ry q
    · exact a2 pins s σ H x y v u Q I rx ry q
  · intro W x y z σ H Hd O R ρ v u Q e st rx ry p
    rcases alt_cases e with e | e
    · exact .inl (b1 W x y z σ H Hd O R ρ v u Q e st rx ry p)
    · exact .inr (b2 W x y z σ H Hd O R ρ v u Q e st rx ry p)
theorem Call1.or {F : Value} {o1 o2 : D → Option D} (h1 : Call1 X F o1) (h2 : Call1 X F o2) : Call1 X F (fun x => alt (o1 x) (o2 x)) := by
  obtain ⟨r1, a1, b1⟩ := h1
  obtain ⟨r2, a2, b2⟩ := h2
  refine ⟨fun x H Q => r1 x H Q ∨ r2 x H Q, ?_, ?_⟩
  · rintro pins s σ H xs us Q I rx (q | q)
    · exact a1 pins s σ H xs us Q I rx q
    · exact a2 pins s σ H xs us Q I rx q
  · intro W x z σ H Hd O R ρ v Q e st rx p
    rcases alt_cases e with e | e
    · exact .inl (b1 W x z σ H Hd O R ρ v Q e st rx p)
    · exact .inr (b2 W x z σ H Hd O R ρ v Q e st rx p)
/-! ### ints -/
def onInts (c : Int → Int → Bool) (g : Int → Int → D) : D → D → Option D
  | .int i, .int j => if c i j then some (g i j) else none
  | _, _ => none
theorem opI_D {F : Value → Value → Sem Value} {c : Int → Int → Bool} {g : Int → Int → D} {C : Int → Int → Prop} {gv : Int → Int → V} (h : OpR X F (rI C gv)) (hc : ∀ i j, c i j = true → C i j) (hg : ∀ i j H, Rep X.K H (gv i j) (g i j)) : OpD X F (onInts c g) :=
  opD_of h fun x y z H v u Q e rx ry q => by
    unfold onInts at e
    split at e
    · split at e
      · rename_i i j k
        cases e; cases rx; cases ry
        exact ⟨_, _, rfl, rfl, hc _ _ k, q _ (hg _ _)⟩
      · cases e
    · cases e
theorem rI_of {F : Value → Value → Sem Value} {gv : Int → Int → V} (h : OpR X F (rI0 gv)) : OpR X F (rI (fun _ _ => True) gv) := by
  rintro pins s σ H x y v u Q I rx ry ⟨i, j, e1, e2, _, q⟩
  exact h pins s σ H x y v u Q I rx ry ⟨i, j, e1, e2, q⟩
def addI : D → D → Option D := onInts (fun _ _ => true) fun i j => .int (i + j)
def subI : D → D → Option D := onInts (fun _ _ => true) fun i j => .int (i - j)
def mulI : D → D → Option D := onInts (fun i j => decide (i.natAbs.log2 + j.natAbs.log2 < 1000000)) fun i j => .int (i * j)
def modI : D → D → Option D := onInts (fun _ j => decide (0 < j)) fun i j => .int (i % j)
def fdivI : D → D → Option D := onInts (fun _ j => decide (0 < j) && decide (j.natAbs.log2 < 9000)) fun i j => .int (i / j)
def powI : D → D → Option D := onInts (fun i j => decide (0 ≤ j) && decide ((Builtin.Int.intBits i : Int) * j ≤ 2 ^ 27)) fun i j => .int (i ^ j.toNat)
def gtI : D → D → Option D := onInts (fun _ _ => true) fun i j => .bool (decide (j < i))
def leI : D → D → Option D := onInts (fun _ _ => true) fun i j => .bool (decide (i ≤ j))
def geI : D → D → Option D := onInts (fun _ _ => true) fun i j => .bool (decide (j ≤ i))
theorem op_addI : OpD X (binaryOp .Add) addI := opI_D (rI_of op_add) (fun _ _ _ => trivial) fun _ _ _ => .int _
theorem op_subI : OpD X (binaryOp .Sub) subI := opI_D (rI_of op_sub) (fun _ _ _ => trivial) fun _ _ _ => .int _
theorem op_mulI : OpD X (binaryOp .Mult) mulI := opI_D op_mulW (fun i j h => by simp only [decide_eq_true_eq] at h; exact h) fun _ _ _ => .int _
theorem op_modI : OpD X (binaryOp .Mod) modI := opI_D op_mod (fun i j h => of_decide_eq_true h) fun _ _ _ => .int _
theorem op_fdivI : OpD X (binaryOp .FloorDiv) fdivI := opI_D op_fdivW (fun i j h => by simp only [Bool.and_eq_true, decide_eq_true_eq] at h; exact h) fun _ _ _ => .int _
theorem op_powX : OpR X (binaryOp .Pow) (rI (fun i j => 0 ≤ j ∧ (Builtin.Int.intBits i : Int) * j ≤ 2 ^ 27) fun i j => .int (i ^ j.toNat)) := by
  rintro pins s σ H x y v u Q I rx ry ⟨i, j, rfl, rfl, ⟨h1, h2⟩, q⟩
  obtain ⟨t, rfl⟩ := rx
  obtain ⟨t', rfl⟩ := ry
  exact pow_int h1 h2 ⟨.int _, H, I.tok _, ⟨_, rfl⟩, q⟩
theorem op_powI : OpD X (binaryOp .Pow) powI := opI_D op_powX (fun i j h => by simp only [Bool.and_eq_true, decide_eq_true_eq] at h; exact h) fun _ _ _ => .int _
theorem cmpI {o : CmpOp} {p : Int → Int → Bool} (h : ∀ (i j : Int) (t u : Tok) (Q : Value → Shared → Prop) (s : Shared), Q (.bool (p i j)) s → wpAny (model X.prog X.w) X.A (compareOp o (.int i t) (.int j u)) Q X.xe s) : OpR X (compareOp o) (rI (fun _ _ => True) fun i j => .bl (p i j)) := by
  rintro pins s σ H x y v u Q I rx ry ⟨i, j, rfl, rfl, _, q⟩
  obtain ⟨t, rfl⟩ := rx
  obtain ⟨t', rfl⟩ := ry
  exact h i j t t' _ s ⟨.bl _, H, I, rfl, q⟩
theorem op_gtN : OpD X (compareOp .Gt) gtI := opI_D (cmpI fun _ _ _ _ _ _ h => gt_int h) (fun _ _ _ => trivial) fun _ _ _ => .bool _
theorem op_leN : OpD X (compareOp .LtE) leI := opI_D (cmpI fun _ _ _ _ _ _ h => le_int h) (fun _ _ _ => trivial) fun _ _ _ => .bool _
theorem op_geN : OpD X (compareOp .GtE) geI := opI_D (cmpI fun _ _ _ _ _ _ h => ge_int h) (fun _ _ _ => trivial) fun _ _ _ => .bool _
/-! ### + of texts, tuples, lists -/
def addS : D → D → Option D
  | .str x, .str y => if x.length + y.length ≤ lid then some (.str (x ++ y)) else none
  | _, _ => none
def addT : D → D → Option D
  | .tuple xs, .tuple ys => if xs.length + ys.length ≤ lid then some (.tuple (xs ++ ys)) else none
  | _, _ => none
def addL : D → D → Option D
  | .list xs, .list ys => if xs.length + ys.length ≤ lid then some (.list (xs ++ ys)) else none
  | _, _ => none
theorem op_addS : OpD X (binaryOp .Add) addS :=
  opD_of op_add_str fun x y z H v u Q e rx ry q => by
    unfold addS at e
    split at e
    · split at e
      · rename_i h
        cases e; cases rx; cases ry
        exact ⟨_, _, rfl, rfl, by have := lid_line; omega, q _ fun _ => .str _⟩
      · cases e
    · cases e
theorem op_addT : OpD X (binaryOp .Add) addT := by
  refine ⟨_, op_catX', fun W x y z σ H Hd O R ρ v u Q e st rx ry p => ?_⟩
  unfold addT at e
  split at e
  · rename_i xs ys
    split at e
    · rename_i hz
      cases e
      cases rx with
      | tuple h1 r1 =>
        rename_i a vs
        rcases ry with ry | ⟨_, _, _, _, e, _⟩
        · cases ry with
          | tuple h2 r2 =>
            rename_i b ws
            have l1 := r1.length
            have l2 := r2.length
            refine ⟨a, b, vs, ws, rfl, rfl, (TpR.mono st.sub h1).sq, (TpR.mono st.sub h2).sq, by have := lid_line; omega, fun e => ?_, fun _ e => ?_, fun _ _ k us hk rv => ?_⟩
            · subst e
              have : xs = [] := List.eq_nil_of_length_eq_zero l1.symm
              subst this
              exact Post.here p st (.tuple h2 r2)
            · subst e
              have : ys = [] := List.eq_nil_of_length_eq_zero l2.symm
              subst this
              exact Post.here p st (by rw [List.append_nil]; exact .tuple h1 r1)
            · have sd := (Grow.laid (O := O) (o := .frz (tupO us) (.tup (vs ++ ws))) st.sub hk).sub
              exact Post.laid p st hk (.tuple ⟨us, rv, by have := lid_line; rw [← rv.length, List.length_append]; omega, .inl upd_same⟩ ((r1.mono sd).append (r2.mono sd)))
        · cases e
    · cases e
  · cases e
theorem RepB.list {K : Fg} {H Hd : Hp} {v : V} {ds : List D} (s : Sub Hd H) (r : RepB K H Hd v (.list ds)) : ∃ a vs, v = .ref a ∧ LsR K H a vs ∧ RepL K Hd vs ds := by
  rcases r with r | ⟨a, vs, es, rfl, e, h, r⟩
  · cases r with
    | list h r => exact ⟨_, _, rfl, LsR.mono s h, r⟩
  · cases e
    exact ⟨a, vs, rfl, .inl (.inl h), r⟩
theorem op_catX : OpR X (binaryOp .Add) (fun x y H Q => ∃ l b xs zs, x = .ref l ∧ y = .ref b ∧ LsR X.K H l xs ∧ LsR X.K H b zs ∧ xs.length + zs.length ≤ sizeLine ∧ ∀ p, H p = none → Q (.ref p) (upd H p (.lst (xs ++ zs)))) := by
  rintro pins s σ H x y v u Q I rx ry ⟨l, b, xs, zs, rfl, rfl, h1, h2, hz, q⟩
  cases rx
  cases ry
  obtain ⟨its, n, r, z, e⟩ := h1.at I
  obtain ⟨its2, n2, r2, z2, e2⟩ := h2.at I
  have l1 := r.length
  have l2 := r2.length
  refine PySem.P.add_list e e2 ?_ (by rw [List.size_toArray, List.size_toArray]; omega)
  have ea : its.toArray ++ its2.toArray = (its ++ its2).toArray := by simp
  rw [ea]
  exact ⟨.ref _, _, I.lnew (t' := s.toks) (r.append r2) (by rw [List.length_append]; omega), rfl, q _ I.fresh⟩
theorem op_addL : OpD X (binaryOp .Add) addL := by
  refine ⟨_, op_catX, fun W x y z σ H Hd O R ρ v u Q e st rx ry p => ?_⟩
  unfold addL at e
  split at e
  · split at e
    · rename_i hz
      cases e
      obtain ⟨a, vs, rfl, h1, r1⟩ := RepB.list st.sub (.inl rx)
      obtain ⟨b, ws, rfl, h2, r2⟩ := RepB.list st.sub ry
      have l1 := r1.length
      have l2 := r2.length
      refine ⟨a, b, vs, ws, rfl, rfl, h1, h2, by have := lid_line; omega, fun k hk => ?_⟩
      have sd := (Grow.laid (O := O) (o := .lst (vs ++ ws)) st.sub hk).sub
      exact Post.laid p st hk (.list (.inl (.inl upd_same)) ((r1.mono sd).append (r2.mono sd)))
    · cases e
  · cases e
def addD : D → D → Option D := fun x y => alt (addI x y) (alt (addS x y) (alt (addT x y) (addL x y)))
theorem op_addD : OpD X (binaryOp .Add) addD := op_addI.or (op_addS.or (op_addT.or op_addL))

/-! ### built-ins of one argument -/
theorem call1_of {F : Value} {op : D → Option D} {r : List V → Hp → VK → Prop} (h1 : CallR X F r)
    (h2 : ∀ (x z : D) (H : Hp) (v : V) (Q : VK), op x = some z → Rep X.K H v x → (∀ k, (∀ H', Rep X.K H' k z) → Q k H) → r [v] H Q) : Call1 X F op :=
  ⟨r, h1, fun W x z σ H Hd O R ρ v Q e st rx p => h2 x z H v Q e (rx.rep st.sub) fun k hk => Post.here p st (hk Hd)⟩
def lenD : D → Option D
  | .str z => if z.length ≤ lid then some (.int z.length) else none
  | .list xs => some (.int xs.length)
  | .tuple xs => some (.int xs.length)
  | _ => none
theorem call_lenD1 : Call1 X (.builtin "len") lenD := by
  refine call1_of (r := fun xs H Q => (∃ p ys, xs = [.ref p] ∧ (SqL X.K H p ys ∨ SqT X.K H p ys) ∧ Q (.int ys.length) H) ∨ (∃ z, xs = [.str z] ∧ z.length ≤ sizeLine ∧ Q (.int z.length) H)) ?_ ?_
  · rintro pins s σ H xs us Q I rx (q | q)
    · exact call_len_seq pins s σ H xs us Q I rx q
    · exact call_len_str pins s σ H xs us Q I rx q
  · intro x z H v Q e rx q
    cases rx with
    | str y =>
      unfold lenD at e
      dsimp only at e
      split at e
      · rename_i h
        cases e
        exact .inr ⟨y, rfl, by have := lid_line; omega, q _ fun _ => .int _⟩
      · cases e
    | list h r =>
      cases e
      exact .inl ⟨_, _, rfl, .inl h.sq, by rw [r.length]; exact q _ fun _ => .int _⟩
    | tuple h r =>
      cases e
      exact .inl ⟨_, _, rfl, .inr h.sq, by rw [r.length]; exact q _ fun _ => .int _⟩
    | _ => cases e
def allBools : List D → Option (List Bool)
  | [] => some []
  | .bool b :: r => (allBools r).map (b :: ·)
  | _ => none
def allD : D → Option D
  | .list xs => (allBools xs).map fun bs => .bool (bs.all id)
  | _ => none
def anyD : D → Option D
  | .list xs => (allBools xs).map fun bs => .bool (bs.any id)
  | _ => none
theorem allBools_rep {K : Fg} {H : Hp} : ∀ {xs : List D} {vs : List V} {bs : List Bool}, allBools xs = some bs → RepL K H vs xs → vs = bs.map V.bl
  | [], _, _, e, r => by cases e; cases r; rfl
  | .bool b :: xs, _, bs, e, r => by
    cases r with
    | cons h t =>
      cases h
      unfold allBools at e
      cases q : allBools xs with
      | none => rw [q] at e; cases e
      | some cs => rw [q] at e; cases e; rw [allBools_rep q t]; rfl
  | .none :: _, _, _, e, _ => by cases e
  | .int _ :: _, _, _, e, _ => by cases e
  | .str _ :: _, _, _, e, _ => by cases e
  | .list _ :: _, _, _, e, _ => by cases e
  | .tuple _ :: _, _, _, e, _ => by cases e
  | .dict _ :: _, _, _, e, _ => by cases e
theorem call_allD (hc : X.calm = true) : Call1 X (.builtin "all") allD :=
  call1_of (cr_all hc) fun x z H v Q e rx q => by
    cases rx with
    | list h r =>
      unfold allD at e
      dsimp only at e
      rename_i xs
      cases k : allBools xs with
      | none => rw [k] at e; cases e
      | some bs => rw [k] at e; cases e; exact ⟨_, bs, rfl, by rw [← allBools_rep k r]; exact h.sq, q _ fun _ => .bool _⟩
    | _ => cases e
theorem call_anyD (hc : X.calm = true) : Call1 X (.builtin "any") anyD :=
  call1_of (cr_any hc) fun x z H v Q e rx q => by
    cases rx with
    | list h r =>
      unfold anyD at e
      dsimp only at e
      rename_i xs
      cases k : allBools xs with
      | none => rw [k] at e; cases e
      | some bs => rw [k] at e; cases e; exact ⟨_, bs, rfl, by rw [← allBools_rep k r]; exact h.sq, q _ fun _ => .bool _⟩
    | _ => cases e
def intD : D → Option D
  | .int i => some (.int i)
  | .bool k => some (.int (if k then 1 else 0))
  | _ => none
def absD : D → Option D
  | .int i => some (.int (if i < 0 then -i else i))
  | _ => none
theorem call_intD : Call1 X (.type "int") intD :=
  call1_of call_int1 fun x z H v Q e rx q => by
    cases rx with
    | int i => cases e; exact .inl ⟨_, rfl, q _ fun _ => .int _⟩
    | bool k => cases e; exact .inr ⟨_, rfl, q _ fun _ => .int _⟩
    | _ => cases e
theorem call_absD : Call1 X (.builtin "abs") absD :=
  call1_of call_abs fun x z H v Q e rx q => by
    cases rx with
    | int i => cases e; exact ⟨_, rfl, q _ fun _ => .int _⟩
    | _ => cases e
def tupleD : D → Option D
  | .list xs => if xs.length ≤ lid then some (.tuple xs) else none
  | .tuple xs => some (.tuple xs)
  | _ => none
theorem call_tupleD : Call1 X (.type "tuple") tupleD := by
  refine ⟨_, call_tupleX, fun W x z σ H Hd O R ρ v Q e st rx p => ?_⟩
  cases x with
  | list xs =>
    obtain ⟨a, vs, rfl, h, r⟩ := RepB.list st.sub rx
    unfold tupleD at e
    dsimp only at e
    split at e
    · rename_i hl
      cases e
      refine ⟨a, vs, rfl, .inl ⟨h.sq, fun k us hk rv => ?_⟩⟩
      exact Post.laid p st hk (.tuple ⟨us, rv, by have := lid_line; rw [← rv.length, r.length]; omega, .inl upd_same⟩ (r.mono (Grow.laid (O := O) (o := .frz (tupO us) (.tup vs)) st.sub hk).sub))
    · cases e
  | tuple xs =>
    cases e
    rcases rx with rx | ⟨_, _, _, _, e, _⟩
    · cases rx with
      | tuple h r => exact ⟨_, _, rfl, .inr ⟨(TpR.mono st.sub h).sq, Post.here p st (.tuple h r)⟩⟩
    · cases e
  | _ => cases e
def listD : D → Option D
  | .list xs => if xs.length ≤ lid then some (.list xs) else none
  | .tuple xs => if xs.length ≤ lid then some (.list xs) else none
  | _ => none
theorem call_listD1 : Call1 X (.type "list") listD := by
  refine ⟨_, call_list_of, fun W x z σ H Hd O R ρ v Q e st rx p => ?_⟩
  cases x with
  | list xs =>
    obtain ⟨a, vs, rfl, h, r⟩ := RepB.list st.sub rx
    unfold listD at e
    dsimp only at e
    split at e
    · cases e
      refine ⟨a, vs, rfl, .inl h.sq, fun k hk => ?_⟩
      exact Post.laid p st hk (.list (.inl (.inl upd_same)) (r.mono (Grow.laid (O := O) (o := .lst vs) st.sub hk).sub))
    · cases e
  | tuple xs =>
    unfold listD at e
    dsimp only at e
    split at e
    · cases e
      rcases rx with rx | ⟨_, _, _, _, e, _⟩
      · cases rx with
        | tuple h r => exact ⟨_, _, rfl, .inr (TpR.mono st.sub h).sq, fun k hk => Post.laid p st hk (.list (.inl (.inl upd_same)) (r.mono (Grow.laid (O := O) (o := .lst _) st.sub hk).sub))⟩
      · cases e
    · cases e
  | _ => cases e
def allInts : List D → Option (List Int)
  | [] => some []
  | .int b :: r => (allInts r).map (b :: ·)
  | _ => none
theorem allInts_rep {K : Fg} {H : Hp} : ∀ {xs : List D} {vs : List V} {bs : List Int}, allInts xs = some bs → RepL K H vs xs → vs = bs.map V.int
  | [], _, _, e, r => by cases e; cases r; rfl
  | .int b :: xs, _, bs, e, r => by
    cases r with
    | cons h t =>
      cases h
      unfold allInts at e
      cases q : allInts xs with
      | none => rw [q] at e; cases e
      | some cs => rw [q] at e; cases e; rw [allInts_rep q t]; rfl
  | .none :: _, _, _, e, _ => by cases e
  | .bool _ :: _, _, _, e, _ => by cases e
  | .str _ :: _, _, _, e, _ => by cases e
  | .list _ :: _, _, _, e, _ => by cases e
  | .tuple _ :: _, _, _, e, _ => by cases e
  | .dict _ :: _, _, _, e, _ => by cases e
def sumD : D → Option D
  | .list xs => (allInts xs).map fun ns => .int ns.sum
  | _ => none
theorem call_sumD (hc : X.calm = true) : Call1 X (.builtin "sum") sumD :=
  call1_of (cr_sum hc) fun x z H v Q e rx q => by
    cases rx with
    | list h r =>
      unfold sumD at e
      dsimp only at e
      rename_i xs
      cases k : allInts xs with
      | none => rw [k] at e; cases e
      | some ns => rw [k] at e; cases e; exact ⟨_, ns, rfl, by rw [← allInts_rep k r]; exact h.sq, q _ fun _ => .int _⟩
    | _ => cases e
/-! ### repr -/
def okShow (d : D) : Bool := d.showable && !d.hasDict && decide (d.depth ≤ 60) && decide (d.shown.length ≤ lid)
def reprD (d : D) : Option D := if okShow d then some (.str d.shown) else none
theorem okShow_of {d : D} (h : okShow d = true) : d.showable = true ∧ d.hasDict = false ∧ d.depth ≤ 60 ∧ d.shown.length ≤ lid := by
  unfold okShow at h
  simp only [Bool.and_eq_true, decide_eq_true_eq, Bool.not_eq_true'] at h
  exact ⟨h.1.1.1, h.1.1.2, h.1.2, h.2⟩
theorem call_reprX (hu : X.A.units + 100 < cLine) (hg : X.A.guards = some []) : CallR X (.builtin "repr") (fun xs H Q => ∃ v d, xs = [v] ∧ Rep X.K H v d ∧ okShow d = true ∧ Q (.str d.shown) H) := by
  rintro pins s σ H xs us Q I rx ⟨v, d, rfl, r, ok, q⟩
  obtain ⟨h1, h2, h3, h4⟩ := okShow_of ok
  have hz : d.shown.length ≤ sizeLine := by have := lid_line; omega
  cases rx with
  | cons r1 r2 =>
    cases r2
    have seqs : ∀ {a : Addr} {u : Value}, RelV (.ref a) u → Rep X.K H (.ref a) d → wpAny (model X.prog X.w) X.A (call (.builtin "repr") [u]) (EP X pins σ Q) X.xe s := by
      intro a u ru rr
      obtain ⟨as, ra⟩ := rr.reads I ru
      cases ru
      exact repr_of_reads' ra h1 (fun z => by rw [h2] at z; cases z) hg (by omega) (fun _ _ e => e) (fun h' u tk hk => ⟨.str _, H, I.kept hk, ⟨_, rfl⟩, q⟩) hz
    cases r with
    | none => cases r1; exact PySem.P.repr_of_none ⟨.str _, H, I.tok _, ⟨_, rfl⟩, q⟩
    | bool b => cases r1; exact PySem.P.repr_of_bool ⟨.str _, H, I.tok _, ⟨_, rfl⟩, q⟩
    | int i =>
      obtain ⟨t, rfl⟩ := r1
      exact PySem.P.repr_of_int (by simpa [PyData.showable] using h1) ⟨.str _, H, I.tok _, ⟨_, rfl⟩, q⟩
    | str x =>
      obtain ⟨t, rfl⟩ := r1
      exact PySem.P.repr_of_str ⟨.str _, H, I.tok _, ⟨_, rfl⟩, q⟩ hz
    | list h r => exact seqs r1 (.list h r)
    | tuple h r => exact seqs r1 (.tuple h r)
    | dict h => exact seqs r1 (.dict h)
theorem call_reprD (hu : X.A.units + 100 < cLine) (hg : X.A.guards = some []) : Call1 X (.builtin "repr") reprD :=
  call1_of (call_reprX hu hg) fun x z H v Q e rx q => by
    unfold reprD at e
    split at e
    · rename_i ok
      cases e
      exact ⟨v, x, rfl, rx, ok, q _ fun _ => .str _⟩
    · cases e
end
end AH

/-! AH5: statements, defs and their calls -/
namespace AH
open PySem PySem.Spec PyProof.Rows L2

/-! ### statements -/
inductive Fl where
  | nx | rt (d : D) | bk | ct
  /-- a list of one's own that is handed back -/
  | rf (ds : List D)
def PostS (X : Cx) (W : WX) (R : Nat → Option Addr) (H Hd : Hp) (O : List Addr) (r : Res Fl) (E : Ends) : Prop :=
  match r with
  | .ok .nx ρ => ∀ σ' H' Hd' O', Grow O H Hd H' Hd' → (∀ a ∈ O', a ∈ O ∨ H a = none) → StR X.K σ' H' Hd' O' R ρ → E.nx σ' H'
  | .ok .bk ρ => ∀ σ' H' Hd' O', Grow O H Hd H' Hd' → (∀ a ∈ O', a ∈ O ∨ H a = none) → StR X.K σ' H' Hd' O' R ρ → E.bk σ' H'
  | .ok .ct ρ => ∀ σ' H' Hd' O', Grow O H Hd H' Hd' → (∀ a ∈ O', a ∈ O ∨ H a = none) → StR X.K σ' H' Hd' O' R ρ → E.ct σ' H'
  | .ok (.rt d) ρ => ∀ v σ' H' Hd' O', Grow O H Hd H' Hd' → (∀ a ∈ O', a ∈ O ∨ H a = none) → StR X.K σ' H' Hd' O' R ρ → Rep X.K Hd' v d → E.rt v H'
  | .ok (.rf ds) ρ => ∀ σ' H' Hd' O' p vs, Grow O H Hd H' Hd' → (∀ a ∈ O', a ∈ O ∨ H a = none) → StR X.K σ' H' Hd' O' R ρ → H p = none → H' p = some (.lst vs) → Hd' p = none → RepL X.K Hd' vs ds → E.rt (.ref p) H'
  | .exc c d ρ => ∀ cls dd σ' H' Hd' O', Grow O H Hd H' Hd' → (∀ a ∈ O', a ∈ O ∨ H a = none) → StR X.K σ' H' Hd' O' R ρ → ExcR X.K X.mg Hd' cls dd c d → W cls dd σ' H'
  | .bad => False
def tS (X : Cx) (W : WX) (f : Ev → Res Fl) : TS := fun E σ H => ∃ ρ Hd O R, StR X.K σ H Hd O R ρ ∧ PostS X W R H Hd O (f ρ) E
def RS (X : Cx) (W : WX) (st : Stmt) (f : Ev → Res Fl) : Prop := PS X st (tS X W f)
def RSs (X : Cx) (W : WX) (sts : List Stmt) (f : Ev → Res Fl) : Prop := PSs X sts (tS X W f)
theorem PS.conv {X : Cx} {st : Stmt} {t t' : TS} (h : PS X st t) (c : ∀ E σ H, t' E σ H → t E σ H) : PS X st t' := ⟨fun pins s σ H E I q => h.run pins s σ H E I (c E σ H q)⟩
theorem PSs.conv {X : Cx} {st : List Stmt} {t t' : TS} (h : PSs X st t) (c : ∀ E σ H, t' E σ H → t E σ H) : PSs X st t' := ⟨fun pins s σ H E I q => h.run pins s σ H E I (c E σ H q)⟩

section
variable {X : Cx} {W : WX} {R : Nat → Option Addr} {H Hd H1 Hd1 : Hp} {O O1 : List Addr} {E : Ends}
theorem Grow.free (g : Grow O H Hd H1 Hd1) {a : Addr} (h : H1 a = none) : H a = none := by
  cases q : H a with
  | none => rfl
  | some o =>
    obtain ⟨o', e⟩ := g.dom a o q
    rw [h] at e; cases e
theorem PostS.from {r : Res Fl} (p : PostS X W R H Hd O r E) (g : Grow O H Hd H1 Hd1) (ho : ∀ a ∈ O1, a ∈ O ∨ H a = none) : PostS X W R H1 Hd1 O1 r E := by
  have hh : ∀ {O' : List Addr}, (∀ a ∈ O', a ∈ O1 ∨ H1 a = none) → ∀ a ∈ O', a ∈ O ∨ H a = none := fun {O'} h a ha => by
    rcases h a ha with h | h
    · exact ho a h
    · refine .inr ?_
      cases q : H a with
      | none => rfl
      | some o =>
        obtain ⟨o', e⟩ := g.dom a o q
        rw [h] at e; cases e
  cases r with
  | ok fl ρ =>
    cases fl with
    | nx => exact fun σ' H' Hd' O' g' h' st => p σ' H' Hd' O' (g.trans g' ho) (hh h') st
    | bk => exact fun σ' H' Hd' O' g' h' st => p σ' H' Hd' O' (g.trans g' ho) (hh h') st
    | ct => exact fun σ' H' Hd' O' g' h' st => p σ' H' Hd' O' (g.trans g' ho) (hh h') st
    | rt d => exact fun v σ' H' Hd' O' g' h' st => p v σ' H' Hd' O' (g.trans g' ho) (hh h') st
    | rf ds => exact fun σ' H' Hd' O' q vs g' h' st hn => p σ' H' Hd' O' q vs (g.trans g' ho) (hh h') st (g.free hn)
  | exc c d ρ => exact fun cls dd σ' H' Hd' O' g' h' st => p cls dd σ' H' Hd' O' (g.trans g' ho) (hh h') st
  | bad => exact p
/-- an expression, then the rest of a statement -/
def sBind {α : Type} (r : Res α) (g : α → Ev → Res Fl) : Res Fl :=
  match r with
  | .ok a ρ => g a ρ
  | .exc c d ρ => .exc c d ρ
  | .bad => .bad
theorem PostS.bind {α β : Type} {rel : Hp → Hp → β → α → Prop} {σ : St} {r : Res α} {g : α → Ev → Res Fl} (p : PostS X W R H Hd O (sBind r g) E) :
    Post X W rel σ H Hd O R r fun v H1 => ∃ d Hd1 ρ1, Grow O H Hd H1 Hd1 ∧ StR X.K σ H1 Hd1 O R ρ1 ∧ rel H1 Hd1 v d ∧ PostS X W R H1 Hd1 O (g d ρ1) E := by
  cases r with
  | ok d ρ => exact fun v H' Hd' g' st q => ⟨d, Hd', ρ, g', st, q, PostS.from p g' fun _ h => .inl h⟩
  | exc c d ρ => exact fun cls dd H' Hd' g' st q => p cls dd σ H' Hd' O g' (fun _ h => .inl h) st q
  | bad => exact p

/-! ### blocks -/
def sNil : Ev → Res Fl := fun ρ => .ok .nx ρ
def sSeq (f g : Ev → Res Fl) : Ev → Res Fl := fun ρ => match f ρ with | .ok .nx ρ1 => g ρ1 | r => r
theorem rs_nil : RSs X W [] sNil := PSs.conv pss_nil fun E σ H ⟨ρ, Hd, O, R, st, p⟩ => p σ H Hd O Grow.refl (fun _ h => .inl h) st
theorem rs_cons {st : Stmt} {rest : List Stmt} {f g : Ev → Res Fl} (h1 : RS X W st f) (h2 : RSs X W rest g) : RSs X W (st :: rest) (sSeq f g) :=
  PSs.conv (pss_cons h1 h2) fun E σ H ⟨ρ, Hd, O, R, st, p⟩ => ⟨ρ, Hd, O, R, st, by
    unfold sSeq at p
    revert p
    cases f ρ with
    | ok fl ρ' =>
      cases fl with
      | nx => exact fun p σ' H' Hd' O' g' h' st' => ⟨ρ', Hd', O', R, st', PostS.from p g' h'⟩
      | bk => exact fun p => p
      | ct => exact fun p => p
      | rt d => exact fun p => p
      | rf ds => exact fun p => p
    | exc c d ρ' => exact fun p => p
    | bad => exact fun p => p⟩
theorem rs_one {st : Stmt} {f : Ev → Res Fl} (h1 : RS X W st f) : RSs X W [st] f := pss_one h1
theorem rs_pass {pos : Pos} : RS X W (.Pass pos) sNil := PS.conv ps_pass fun E σ H ⟨ρ, Hd, O, R, st, p⟩ => p σ H Hd O Grow.refl (fun _ h => .inl h) st
def sBad : Ev → Res Fl := fun _ => .bad
theorem rs_never {st : Stmt} : RS X W st sBad := PS.conv ps_never fun E σ H ⟨ρ, Hd, O, R, st, p⟩ => p
def sBrk : Ev → Res Fl := fun ρ => .ok .bk ρ
def sCnt : Ev → Res Fl := fun ρ => .ok .ct ρ
theorem rs_break {pos : Pos} : RS X W (.Break pos) sBrk := PS.conv ps_break fun E σ H ⟨ρ, Hd, O, R, st, p⟩ => p σ H Hd O Grow.refl (fun _ h => .inl h) st
theorem rs_continue {pos : Pos} : RS X W (.Continue pos) sCnt := PS.conv ps_continue fun E σ H ⟨ρ, Hd, O, R, st, p⟩ => p σ H Hd O Grow.refl (fun _ h => .inl h) st
/-! ### return, if, an expression alone -/
def sRet (f : Ev → Res D) : Ev → Res Fl := fun ρ => sBind (f ρ) fun d ρ1 => .ok (.rt d) ρ1
theorem rs_ret {e : Expr} {f : Ev → Res D} {pos : Pos} (h : RE X W e f) : RS X W (.Return (some e) pos) (sRet f) :=
  PS.conv (ps_ret h) fun E σ H ⟨ρ, Hd, O, R, st, p⟩ => ⟨ρ, Hd, O, R, st, (PostS.bind (rel := RepX X) p).imp (by
    rintro v H1 ⟨d, Hd1, ρ1, g1, st1, r, p1⟩
    exact p1 v σ H1 Hd1 O Grow.refl (fun _ h => .inl h) st1 r)⟩
def sRetN : Ev → Res Fl := fun ρ => .ok (.rt .none) ρ
theorem rs_retN {pos : Pos} : RS X W (.Return none pos) sRetN :=
  PS.conv ps_retN fun E σ H ⟨ρ, Hd, O, R, st, p⟩ => p .non σ H Hd O Grow.refl (fun _ h => .inl h) st .none
def sIf (c : Ev → Res Bool) (f g : Ev → Res Fl) : Ev → Res Fl := fun ρ => sBind (c ρ) fun b ρ1 => if b = true then f ρ1 else g ρ1
theorem rs_if {c : Expr} {a b : List Stmt} {p : Ev → Res Bool} {f g : Ev → Res Fl} {pos : Pos} (hc : RT X W c p) (ha : RSs X W a f) (hb : RSs X W b g) : RS X W (.If c a b pos) (sIf p f g) :=
  PS.conv (ps_if hc ha hb) fun E σ H ⟨ρ, Hd, O, R, st, p⟩ => ⟨ρ, Hd, O, R, st, (PostS.bind (rel := fun _ _ b c => b = c) p).imp (by
    rintro v H1 ⟨d, Hd1, ρ1, g1, st1, rfl, p1⟩
    cases v with
    | true => rw [if_pos rfl] at p1 ⊢; exact ⟨ρ1, Hd1, O, R, st1, p1⟩
    | false => rw [if_neg (by decide)] at p1 ⊢; exact ⟨ρ1, Hd1, O, R, st1, p1⟩)⟩
def sExpr (f : Ev → Res D) : Ev → Res Fl := fun ρ => sBind (f ρ) fun d ρ1 => .ok .nx ρ1
theorem rs_expr {e : Expr} {f : Ev → Res D} {pos : Pos} (h : RE X W e f) (hs : swapsWith e none pos.line X.env = pure false := by rfl) : RS X W (.Expr e pos) (sExpr f) :=
  PS.conv (ps_expr h hs) fun E σ H ⟨ρ, Hd, O, R, st, p⟩ => ⟨ρ, Hd, O, R, st, (PostS.bind (rel := RepX X) p).imp (by
    rintro v H1 ⟨d, Hd1, ρ1, g1, st1, r, p1⟩
    exact p1 σ H1 Hd1 O Grow.refl (fun _ h => .inl h) st1)⟩

/-! ### assignments -/
/-- storing data in a slot that holds no list of the caller's -/
def putV (i : Nat) (d : D) (ρ : Ev) : Option Ev :=
  match ρ[i]? with
  | some (.ref _) => none
  | some _ => some (ρ.set i (.val d))
  | none => none
theorem putV_ok' {K : Fg} {R : Nat → Option Addr} {H Hd : Hp} {O : List Addr} {σ : St} {ρ ρ' : Ev} {i : Nat} {d : D} {v : V} (st : StR K σ H Hd O R ρ) (h : putV i d ρ = some ρ') (r : Rep K Hd v d) : StR K (σ.set i (some v)) H Hd O R ρ' := by
  unfold putV at h
  have hx : ∃ x, ρ[i]? = some x ∧ ρ' = ρ.set i (.val d) := by
    split at h
    · cases h
    · rename_i x _ hx
      cases h
      exact ⟨x, hx, rfl⟩
    · cases h
  obtain ⟨x, hi, rfl⟩ := hx
  have li : i < ρ.length := by
    rcases Nat.lt_or_ge i ρ.length with h | h
    · exact h
    · rw [List.getElem?_eq_none h] at hi; cases hi
  have ls : i < σ.length := by rw [st.len]; exact li
  have held : ∀ j, Held (ρ.set i (.val d)) j → j ≠ i ∧ Held ρ j := fun j ⟨ds, hj⟩ => by
    by_cases e : i = j
    · subst e
      rw [List.getElem?_set_self li] at hj
      rcases hj with hj | hj <;> cases hj
    · rw [List.getElem?_set_ne e] at hj
      exact ⟨fun z => e z.symm, ds, hj⟩
  refine ⟨st.sub, by rw [List.length_set, List.length_set]; exact st.len, fun j y hj => ?_, fun j k a hj hk e1 e2 => ?_, st.dom⟩
  · by_cases e : i = j
    · subst e
      rw [List.getElem?_set_self li] at hj
      cases hj
      exact ⟨some v, by rw [List.getElem?_set_self ls], v, rfl, r⟩
    · rw [List.getElem?_set_ne e] at hj ⊢
      exact st.sl j y hj
  · obtain ⟨n1, h1⟩ := held j hj
    obtain ⟨n2, h2⟩ := held k hk
    rw [List.getElem?_set_ne (fun z => n1 z.symm)] at e1
    rw [List.getElem?_set_ne (fun z => n2 z.symm)] at e2
    exact st.inj j k a h1 h2 e1 e2
/-- patterns of targets -/
inductive Pat where
  | v (i : Nat)
  | t (ps : List Nat)
def putAll : List Nat → List D → Ev → Option Ev
  | [], [], ρ => some ρ
  | i :: is, d :: ds, ρ => (putV i d ρ).bind (putAll is ds)
  | _, _, _ => none
def bindP : Pat → D → Ev → Option Ev
  | .v i, d, ρ => putV i d ρ
  | .t is, .tuple ds, ρ => putAll is ds ρ
  | .t is, .list ds, ρ => putAll is ds ρ
  | _, _, _ => none
theorem wipe_get (σ : St) : ∀ (vs : List Nat) (j : Nat), (wipe σ vs)[j]? = if j ∈ vs then (σ[j]?).map (fun _ => none) else σ[j]?
  | [], j => by simp [wipe]
  | v :: vs, j => by
    unfold wipe
    by_cases e : v = j
    · subst e
      rw [List.getElem?_set]
      simp only [if_true, wipe_length, List.mem_cons, true_or]
      by_cases h : v < σ.length
      · rw [if_pos h, List.getElem?_eq_getElem h]; rfl
      · rw [if_neg h, List.getElem?_eq_none (by omega)]; rfl
    · rw [List.getElem?_set_ne e, wipe_get σ vs j]
      have : (j ∈ v :: vs) ↔ j ∈ vs := by simp [Ne.symm e]
      by_cases h : j ∈ vs
      · rw [if_pos h, if_pos (this.mpr h)]
      · rw [if_neg h, if_neg (fun z => h (this.mp z))]
theorem wipe_set (σ : St) (vs : List Nat) (i : Nat) (o : Option V) (h : i ∈ vs) : wipe (σ.set i o) vs = wipe σ vs := by
  apply List.ext_getElem?
  intro j
  rw [wipe_get, wipe_get]
  by_cases e : i = j
  · subst e
    rw [if_pos h, if_pos h, List.getElem?_set]
    simp only [if_true]
    by_cases q : i < σ.length
    · rw [if_pos q, List.getElem?_eq_getElem q]; rfl
    · rw [if_neg q, List.getElem?_eq_none (by omega)]
  · rw [List.getElem?_set_ne e]
/-- the names that a pattern stores -/
def Pat.has : Pat → Nat → Prop
  | .v j, i => i = j
  | .t js, i => i ∈ js
def gAll : List Nat → TGs
  | [] => gNil
  | i :: is => gCons (gName i) (gAll is)
def gPat (K : Fg) : Pat → TG
  | .v i => gName i
  | .t is => fun v σ H Q => gTup K is.length (gAll is) v σ H Q ∨ gLst K is.length (gAll is) v σ H Q
theorem gAll_ok {K : Fg} : ∀ {is : List Nat} {vl : List V} {ds : List D} {σ : St} {H Hd : Hp} {O : List Addr} {R : Nat → Option Addr} {ρ ρ' : Ev} {Q : St → Hp → Prop}, StR K σ H Hd O R ρ → RepL K Hd vl ds → putAll is ds ρ = some ρ' →
    (∀ σ', StR K σ' H Hd O R ρ' → (∀ vs : List Nat, (∀ i ∈ is, i ∈ vs) → wipe σ' vs = wipe σ vs) → Q σ' H) → gAll is vl σ H Q
  | [], _, _, σ, _, _, _, _, _, _, _, st, r, h, q => by
    cases r with
    | nil => cases h; exact ⟨rfl, q σ st fun _ _ => rfl⟩
    | cons _ _ => cases h
  | i :: is, _, _, σ, H, Hd, O, R, ρ, ρ', Q, st, r, h, q => by
    cases r with
    | nil => cases h
    | cons h1 r =>
      rename_i v vl d ds
      unfold putAll at h
      cases k : putV i d ρ with
      | none => rw [k] at h; cases h
      | some ρ1 =>
        rw [k] at h
        refine ⟨v, vl, rfl, gAll_ok (is := is) (putV_ok' st k h1) r h fun σ' st' hw => q σ' st' fun vs hv => ?_⟩
        rw [hw vs fun j hj => hv j (List.mem_cons_of_mem _ hj), wipe_set _ _ _ _ (hv i List.mem_cons_self)]
theorem putAll_len : ∀ {is : List Nat} {ds : List D} {ρ ρ' : Ev}, putAll is ds ρ = some ρ' → ds.length = is.length
  | [], ds, _, _, h => by cases ds with | nil => rfl | cons _ _ => cases h
  | i :: is, ds, ρ, _, h => by
    cases ds with
    | nil => cases h
    | cons d ds =>
      unfold putAll at h
      cases k : putV i d ρ with
      | none => rw [k] at h; cases h
      | some ρ1 => rw [k] at h; rw [List.length_cons, List.length_cons, putAll_len h]
theorem gPat_ok {K : Fg} {p : Pat} {v : V} {d : D} {σ : St} {H Hd : Hp} {O : List Addr} {R : Nat → Option Addr} {ρ ρ' : Ev} {Q : St → Hp → Prop} (st : StR K σ H Hd O R ρ) (r : Rep K Hd v d) (h : bindP p d ρ = some ρ')
    (q : ∀ σ', StR K σ' H Hd O R ρ' → (∀ vs : List Nat, (∀ i, p.has i → i ∈ vs) → wipe σ' vs = wipe σ vs) → Q σ' H) : gPat K p v σ H Q := by
  cases p with
  | v i => exact q _ (putV_ok' st h r) fun vs hv => wipe_set _ _ _ _ (hv i rfl)
  | t is =>
    cases r with
    | tuple hs rl => exact .inl ⟨_, _, rfl, (TpR.mono st.sub hs).sq, by rw [rl.length]; exact putAll_len h, gAll_ok st rl h q⟩
    | list hs rl => exact .inr ⟨_, _, rfl, (LsR.mono st.sub hs).sq, by rw [rl.length]; exact putAll_len h, gAll_ok st rl h q⟩
    | _ => cases h
/-- a target -/
def RG (X : Cx) (tg : Expr) (p : Pat) : Prop := PG X tg (gPat X.K p)
def RGs (X : Cx) (tgs : List Expr) (is : List Nat) : Prop := PGs X tgs (gAll is)
theorem rg_v {i : Nat} {x : Str} {pos : Pos} (hN : X.N.Nodup) (hi : X.N[i]? = some x) (hx : Loc X.env.scope x) (hf : X.fn x = true ∨ X.env.scope.names.lookup x = some .local := by first | exact .inl rfl | exact .inr rfl | assumption) : RG X (.Name x pos) (.v i) := pg_name hN hi hx hf
theorem rgs_nil : RGs X [] [] := pgs_nil
theorem rgs_cons {i : Nat} {is : List Nat} {x : Str} {pos : Pos} {es : List Expr} (hN : X.N.Nodup) (hi : X.N[i]? = some x) (hx : Loc X.env.scope x) (h2 : RGs X es is)
    (hf : X.fn x = true ∨ X.env.scope.names.lookup x = some .local := by first | exact .inl rfl | exact .inr rfl | assumption) (hs : (assignEach (.Name x pos :: es) X.env).map (·.2) = assign (.Name x pos) X.env :: (assignEach es X.env).map (·.2) := by rfl) : RGs X (.Name x pos :: es) (i :: is) :=
  pgs_cons (pg_name hN hi hx hf) h2 hs
theorem rg_t {es : List Expr} {k : Nat} {is : List Nat} {pos : Pos} (hc : X.calm = true) (h : RGs X es is) (hn : (assignEach es X.env).length = is.length := by rfl) (hst : (assignEach es X.env).findIdx? (·.1) = none := by rfl) : RG X (.Tuple es k pos) (.t is) :=
  ⟨fun pins s σ H v u Q I r q => by
    rcases q with q | q
    · exact (pg_tup hc h hn hst).run pins s σ H v u Q I r q
    · exact (pg_lst hc h hn hst).run pins s σ H v u Q I r q⟩
def sSet (p : Pat) (f : Ev → Res D) : Ev → Res Fl := fun ρ => sBind (f ρ) fun d ρ1 => match bindP p d ρ1 with | some ρ2 => .ok .nx ρ2 | none => .bad
theorem rs_asg {tg e : Expr} {p : Pat} {f : Ev → Res D} {pos : Pos} (he : RE X W e f) (hg : RG X tg p) (hs : swapsWithSole [tg] e pos.line X.env = pure false := by rfl) (hw : swappedStores [tg] e X.env = pure none := by rfl)
    (h1 : (assignEach [tg] X.env).map (·.2) = [assign tg X.env] := by rfl) : RS X W (.Assign [tg] e pos) (sSet p f) := by
  refine PS.conv (ps_asg he hg hs hw h1) fun E σ H ⟨ρ, Hd, O, R, st, p⟩ => ⟨ρ, Hd, O, R, st, (PostS.bind (rel := RepX X) p).imp ?_⟩
  rintro v H1 ⟨d, Hd1, ρ1, g1, st1, r, p1⟩
  split at p1
  · rename_i ρ2 e2
    exact gPat_ok st1 r e2 fun σ' st' _ => p1 σ' H1 Hd1 O Grow.refl (fun _ h => .inl h) st'
  · exact p1.elim
theorem rs_set {i : Nat} {x : Str} {e : Expr} {f : Ev → Res D} {pos pos' : Pos} (hN : X.N.Nodup) (hi : X.N[i]? = some x) (hx : Loc X.env.scope x) (he : RE X W e f) (hs : swapsWith e (some (.Name x pos')) pos.line X.env = pure false := by rfl) (hf : X.fn x = true ∨ X.env.scope.names.lookup x = some .local := by first | exact .inl rfl | exact .inr rfl | assumption) :
    RS X W (.Assign [.Name x pos'] e pos) (sSet (.v i) f) :=
  PS.conv (ps_set hN hi hx he hs hf) fun E σ H ⟨ρ, Hd, O, R, st, p⟩ => ⟨ρ, Hd, O, R, st, (PostS.bind (rel := RepX X) p).imp (by
    rintro v H1 ⟨d, Hd1, ρ1, g1, st1, r, p1⟩
    split at p1
    · rename_i ρ2 e2
      exact p1 _ H1 Hd1 O Grow.refl (fun _ h => .inl h) (putV_ok' st1 e2 r)
    · exact p1.elim)⟩
end
end AH

/-! AH6: lists of one's own, defs and their calls, subscripts, slices -/
namespace AH
open PySem PySem.Spec PyProof.Rows L2
section
variable {X : Cx} {W : WX} {R : Nat → Option Addr} {H Hd H1 Hd1 : Hp} {O O1 : List Addr} {σ : St}

/-! ### fresh lists -/
/-- a list that was not there at H -/
def RelF (K : Fg) (H H' Hd' : Hp) (v : V) (ds : List D) : Prop := ∃ p vs, v = .ref p ∧ H p = none ∧ H' p = some (.lst vs) ∧ Hd' p = none ∧ RepL K Hd' vs ds
def tF (X : Cx) (W : WX) (f : Ev → Res (List D)) : TE := fun σ H Q => ∃ ρ Hd O R, StR X.K σ H Hd O R ρ ∧ Post X W (RelF X.K H) σ H Hd O R (f ρ) Q
def RF (X : Cx) (W : WX) (e : Expr) (f : Ev → Res (List D)) : Prop := PE X e (tF X W f)
/-- the heap grows by a list that is not data -/
theorem StR.grow1 {K : Fg} {R : Nat → Option Addr} {H Hd : Hp} {O : List Addr} {σ : St} {ρ : Ev} (st : StR K σ H Hd O R ρ) {p : Addr} {o : HO} (hp : H p = none) : StR K σ (upd H p o) Hd O R ρ where
  sub := fun a x h => by rw [upd_ne (ne_of_none (st.sub a x h) hp)]; exact st.sub a x h
  len := st.len
  sl := fun i x h => by
    obtain ⟨w, e, q⟩ := st.sl i x h
    refine ⟨w, e, ?_⟩
    cases x with
    | none => trivial
    | val d => exact q
    | own ds =>
      obtain ⟨a, vs, e1, e2, e3, e4, e5⟩ := q
      exact ⟨a, vs, e1, e2, e3, by rw [upd_ne (ne_of_none e4 hp)]; exact e4, e5⟩
    | ref ds =>
      obtain ⟨a, vs, e1, e2, e3, e4, e5, e6⟩ := q
      exact ⟨a, vs, e1, e2, e3, by rw [upd_ne (ne_of_none e4 hp)]; exact e4, e5, e6⟩
  inj := st.inj
  dom := fun a ha => by
    obtain ⟨x, e⟩ := st.dom a ha
    exact ⟨x, by rw [upd_ne (ne_of_none e hp)]; exact e⟩
theorem Grow.laid1 {p : Addr} {o : HO} (hp : H p = none) : Grow O H Hd (upd H p o) Hd where
  sub := fun _ _ h => h
  new := fun _ _ h => .inl h
  keep := fun a x h _ => by rw [upd_ne (ne_of_none h hp)]; exact h
  dom := fun a x h => ⟨x, by rw [upd_ne (ne_of_none h hp)]; exact h⟩
def okLen (xs : List D) : Option (List D) := if xs.length ≤ lid then some xs else none
def fLst (l : Ev → Res (List D)) : Ev → Res (List D) := fun ρ => (l ρ).bind fun xs ρ1 => lift (okLen xs) ρ1
theorem rf_lst {es : List Expr} {l : Ev → Res (List D)} {pos : Pos} (h : RL X W es l) : RF X W (.List es pos) (fLst l) :=
  PE.conv (pe_lst h.pa) fun σ H Q ⟨ρ, Hd, O, R, st, t⟩ => ⟨ρ, Hd, O, R, st, (Post.bind (rel1 := fun _ Hd vs ds => RepL X.K Hd vs ds) t).imp (by
    rintro v H1 ⟨x, Hd1, ρ1, g1, st1, rx, p1⟩
    unfold okLen at p1
    by_cases hl : x.length ≤ lid
    · rw [if_pos hl] at p1
      refine ⟨by rw [rx.length]; exact Nat.le_trans hl (Nat.le_of_lt lid_line), fun p hp => p1 _ _ Hd1 (Grow.laid1 hp) (st1.grow1 hp) ?_⟩
      have hd : Hd1 p = none := by
        cases q : Hd1 p with
        | none => rfl
        | some o => rw [st1.sub p o q] at hp; cases hp
      exact ⟨p, v, rfl, g1.free hp, upd_same, hd, rx⟩
    · rw [if_neg hl] at p1; exact p1.elim)⟩
/-- x = a fresh list -/
def putO (i : Nat) (ds : List D) (ρ : Ev) : Option Ev :=
  match ρ[i]? with
  | some (.ref _) => none
  | some _ => some (ρ.set i (.own ds))
  | none => none
theorem putO_ok {ρ ρ' : Ev} {i : Nat} {ds : List D} {p : Addr} {vs : List V} (st : StR X.K σ H Hd O R ρ) (h : putO i ds ρ = some ρ') (h1 : H p = some (.lst vs)) (h2 : Hd p = none) (hp : p ∉ O) (r : RepL X.K Hd vs ds) :
    StR X.K (σ.set i (some (.ref p))) H Hd (p :: O) R ρ' := by
  have hx : ∃ x, ρ[i]? = some x ∧ ρ' = ρ.set i (.own ds) := by
    unfold putO at h
    split at h
    · cases h
    · rename_i x _ hx
      cases h
      exact ⟨x, hx, rfl⟩
    · cases h
  obtain ⟨x, hi, rfl⟩ := hx
  have li : i < ρ.length := by
    rcases Nat.lt_or_ge i ρ.length with h | h
    · exact h
    · rw [List.getElem?_eq_none h] at hi; cases hi
  have ls : i < σ.length := by rw [st.len]; exact li
  have other : ∀ j, j ≠ i → Held (ρ.set i (.own ds)) j → Held ρ j := fun j e ⟨es, hj⟩ => by
    rw [List.getElem?_set_ne (Ne.symm e)] at hj
    exact ⟨es, hj⟩
  have isO : ∀ j a, Held ρ j → σ[j]? = some (some (.ref a)) → a ∈ O := fun j a ⟨es, hj⟩ e => by
    rcases hj with hj | hj
    · obtain ⟨o, e1, b, _, e2, e3, _⟩ := st.sl j _ hj
      rw [e] at e1; cases e1; cases e2; exact e3
    · obtain ⟨o, e1, b, _, e2, e3, _⟩ := st.sl j _ hj
      rw [e] at e1; cases e1; cases e2; exact e3
  refine ⟨st.sub, by rw [List.length_set, List.length_set]; exact st.len, fun j y hj => ?_, fun j k a hj hk e1 e2 => ?_, fun a ha => ?_⟩
  · by_cases e : i = j
    · subst e
      rw [List.getElem?_set_self li] at hj
      cases hj
      exact ⟨_, by rw [List.getElem?_set_self ls], p, vs, rfl, List.mem_cons_self, h2, h1, r⟩
    · rw [List.getElem?_set_ne e] at hj ⊢
      obtain ⟨w, e1, q⟩ := st.sl j y hj
      refine ⟨w, e1, ?_⟩
      cases y with
      | none => trivial
      | val d => exact q
      | own es =>
        obtain ⟨a, vs, e1, e2, e3⟩ := q
        exact ⟨a, vs, e1, List.mem_cons_of_mem _ e2, e3⟩
      | ref es =>
        obtain ⟨a, vs, e1, e2, e3⟩ := q
        exact ⟨a, vs, e1, List.mem_cons_of_mem _ e2, e3⟩
  · by_cases ej : j = i
    · by_cases ek : k = i
      · rw [ej, ek]
      · subst ej
        rw [List.getElem?_set_self ls] at e1
        rw [List.getElem?_set_ne (Ne.symm ek)] at e2
        cases e1
        exact absurd (isO k p (other k ek hk) e2) hp
    · by_cases ek : k = i
      · subst ek
        rw [List.getElem?_set_self ls] at e2
        rw [List.getElem?_set_ne (Ne.symm ej)] at e1
        cases e2
        exact absurd (isO j p (other j ej hj) e1) hp
      · rw [List.getElem?_set_ne (Ne.symm ej)] at e1
        rw [List.getElem?_set_ne (Ne.symm ek)] at e2
        exact st.inj j k a (other j ej hj) (other k ek hk) e1 e2
  · rcases List.mem_cons.mp ha with rfl | ha
    · exact ⟨_, h1⟩
    · exact st.dom a ha
def sOwn (i : Nat) (f : Ev → Res (List D)) : Ev → Res Fl := fun ρ => sBind (f ρ) fun ds ρ1 => match putO i ds ρ1 with | some ρ2 => .ok .nx ρ2 | none => .bad
theorem ownStep {i : Nat} {f : Ev → Res (List D)} {E : Ends} {σ : St} {H : Hp} (t : tS X W (sOwn i f) E σ H) : tF X W f σ H fun v H1 => gName i v σ H1 E.nx := by
  obtain ⟨ρ, Hd, O, R, st, p⟩ := t
  refine ⟨ρ, Hd, O, R, st, ?_⟩
  unfold sOwn at p
  revert p
  cases f ρ with
  | ok ds ρ1 =>
    rintro p v H1 Hd1 g1 st1 ⟨a, vs, rfl, h0, h1, h2, r⟩
    dsimp only [sBind] at p
    split at p
    · rename_i ρ2 e2
      have hp : a ∉ O := fun ha => by
        obtain ⟨o, e⟩ := st.dom a ha
        rw [h0] at e; cases e
      refine p _ H1 Hd1 (a :: O) g1 (fun b hb => ?_) (putO_ok st1 e2 h1 h2 hp r)
      rcases List.mem_cons.mp hb with rfl | hb
      · exact .inr h0
      · exact .inl hb
    · exact p.elim
  | exc c d ρ' => exact fun p cls dd H' Hd' g' st q => p cls dd σ H' Hd' O g' (fun _ h => .inl h) st q
  | bad => exact fun p => p
theorem rs_own {i : Nat} {x : Str} {e : Expr} {f : Ev → Res (List D)} {pos pos' : Pos} (hN : X.N.Nodup) (hi : X.N[i]? = some x) (hx : Loc X.env.scope x) (he : RF X W e f) (hs : swapsWith e (some (.Name x pos')) pos.line X.env = pure false := by rfl) (hf : X.fn x = true ∨ X.env.scope.names.lookup x = some .local := by first | exact .inl rfl | exact .inr rfl | assumption) :
    RS X W (.Assign [.Name x pos'] e pos) (sOwn i f) :=
  PS.conv (ps_set hN hi hx he hs hf) fun E σ H t => ownStep t
/-- return of a fresh list -/
def sRetF (f : Ev → Res (List D)) : Ev → Res Fl := fun ρ => sBind (f ρ) fun ds ρ1 => .ok (.rf ds) ρ1
theorem rs_retF {e : Expr} {f : Ev → Res (List D)} {pos : Pos} (h : RF X W e f) : RS X W (.Return (some e) pos) (sRetF f) :=
  PS.conv (ps_ret h) fun E σ H ⟨ρ, Hd, O, R, st, p⟩ => ⟨ρ, Hd, O, R, st, by
    unfold sRetF at p
    revert p
    cases f ρ with
    | ok ds ρ1 =>
      rintro p v H1 Hd1 g1 st1 ⟨a, vs, rfl, h0, h1, h2, r⟩
      exact p σ H1 Hd1 O a vs g1 (fun _ h => .inl h) st1 h0 h1 h2 r
    | exc c d ρ' => exact fun p cls dd H' Hd' g' st q => p cls dd σ H' Hd' O g' (fun _ h => .inl h) st q
    | bad => exact fun p => p⟩

/-! ### looking at a list of one's own -/
def heldOf : Option Slot → Option (List D)
  | some (.own ds) => some ds
  | some (.ref ds) => some ds
  | _ => none
theorem held_at {ρ : Ev} {i : Nat} {ds : List D} (st : StR X.K σ H Hd O R ρ) (h : heldOf ρ[i]? = some ds) : ∃ a vs, σ[i]? = some (some (.ref a)) ∧ a ∈ O ∧ Hd a = none ∧ H a = some (.lst vs) ∧ RepL X.K Hd vs ds ∧ Held ρ i := by
  cases q : ρ[i]? with
  | none => rw [q] at h; cases h
  | some x =>
    rw [q] at h
    cases x with
    | own es =>
      cases h
      obtain ⟨o, e, a, vs, rfl, e2, e3, e4, e5⟩ := st.sl i _ q
      exact ⟨a, vs, e, e2, e3, e4, e5, _, .inl q⟩
    | ref es =>
      cases h
      obtain ⟨o, e, a, vs, rfl, e2, e3, e4, e5, _⟩ := st.sl i _ q
      exact ⟨a, vs, e, e2, e3, e4, e5, _, .inr q⟩
    | none => cases h
    | val d => cases h
def eOwn (i : Nat) : Ev → Res D := fun ρ => lift ((heldOf ρ[i]?).map .list) ρ
theorem rb_own (i : Nat) {x : Str} {pos : Pos} (hN : X.N[i]? = some x := by rfl) (hv : Vis X.env.scope x := by first | exact Or.inl rfl | exact Or.inr (Or.inl rfl) | exact Or.inr (Or.inr rfl)) (hd : (x == ("__debug__" : Str)) = false := by decide)
    (hcd : (x == ("__classdict__" : Str)) = false := by decide) : RB X W (.Name x pos) (eOwn i) :=
  PE.conv (pe_var hN hv hd hcd) fun σ H Q ⟨ρ, Hd, O, R, st, p⟩ => by
    unfold eOwn at p
    cases q : heldOf ρ[i]? with
    | none => rw [q] at p; exact p.elim
    | some ds =>
      rw [q] at p
      obtain ⟨a, vs, e, e2, e3, e4, e5, _⟩ := held_at st q
      exact ⟨.ref a, e, Post.here p st (.inr ⟨a, vs, ds, rfl, rfl, e4, e5⟩)⟩
/-! ### subscripts -/
def ixD : D → D → Option D
  | .list xs, .int i => atI xs i
  | .tuple xs, .int i => atI xs i
  | .str z, .int i => if z.length ≤ lid then (atI z.cps.toList i).map fun c => .str ⟨#[c]⟩ else none
  | _, _ => none
theorem atI_rep {K : Fg} {H : Hp} {vs : List V} {ds : List D} {i : Int} {d : D} (r : RepL K H vs ds) (h : atI ds i = some d) : ∃ v, atI vs i = some v ∧ Rep K H v d := by
  unfold atI at h ⊢
  rw [r.length]
  cases q : ixN ds.length i with
  | none => rw [q] at h; cases h
  | some j => rw [q] at h; exact r.get h
theorem ix_of {x y z : D} {v u : V} {ρ : Ev} {Q : VK} (e : ixD x y = some z) (st : StR X.K σ H Hd O R ρ) (rx : RepB X.K H Hd v x) (ry : Rep X.K Hd u y) (p : Post X W (RepX X) σ H Hd O R (.ok z ρ) Q) : rIx X.K v u H Q := by
  cases y with
  | int i =>
    cases ry
    cases x with
    | list xs =>
      obtain ⟨a, vs, rfl, h, r⟩ := RepB.list st.sub rx
      obtain ⟨w, e1, e2⟩ := atI_rep r e
      exact .inl ⟨a, vs, i, w, rfl, rfl, h.sq, e1, Post.here p st e2⟩
    | tuple xs =>
      rcases rx with rx | ⟨_, _, _, _, e, _⟩
      · cases rx with
        | tuple h r =>
          obtain ⟨w, e1, e2⟩ := atI_rep r e
          exact .inr (.inl ⟨_, _, i, w, rfl, rfl, (TpR.mono st.sub h).sq, e1, Post.here p st e2⟩)
      · cases e
    | str s =>
      rcases rx with rx | ⟨_, _, _, _, e, _⟩
      · cases rx
        unfold ixD at e
        dsimp only at e
        split at e
        · rename_i hl
          cases q : atI s.cps.toList i with
          | none => rw [q] at e; cases e
          | some c =>
            rw [q] at e
            cases e
            exact .inr (.inr ⟨s, i, c, rfl, rfl, by have := lid_line; omega, q, Post.here p st (.str _)⟩)
        · cases e
      · cases e
    | _ => cases e
  | _ => cases x <;> cases e
theorem re_ix {a b : Expr} {f g : Ev → Res D} {pos : Pos} (ha : RE X W a f) (hb : RE X W b g) (hs : PlainIx b) : RE X W (.Subscript a b pos) (eBin ixD f g) :=
  PE.conv (pe_ix ix_seq ha hb hs) fun σ H Q ⟨ρ, Hd, O, R, st, p⟩ => ⟨ρ, Hd, O, R, st, (Post.bind (rel1 := RepX X) p).imp (by
    rintro v H1 ⟨x, Hd1, ρ1, g1, st1, rx, p1⟩
    refine ⟨ρ1, Hd1, O, R, st1, (Post.bind (rel1 := RepX X) p1).imp ?_⟩
    rintro u H2 ⟨y, Hd2, ρ2, g2, st2, ry, p2⟩
    cases q : ixD x y with
    | none => rw [q] at p2; exact p2.elim
    | some z => rw [q] at p2; exact ix_of q st2 (.inl (rx.mono g2.sub)) ry p2)⟩
/-- a list of one's own, the index reckoned first -/
def eIxO (i : Nat) (g : Ev → Res D) : Ev → Res D := fun ρ => match heldOf ρ[i]? with
  | some _ => (g ρ).bind fun y ρ1 => (match heldOf ρ1[i]? with | some ds => lift (ixD (.list ds) y) ρ1 | none => .bad)
  | none => .bad
theorem re_ixO (i : Nat) {x : Str} {b : Expr} {g : Ev → Res D} {pos pos' : Pos} (hb : RE X W b g) (hs : PlainIx b) (hN : X.N[i]? = some x := by rfl) (hv : Vis X.env.scope x := by first | exact Or.inl rfl | exact Or.inr (Or.inl rfl) | exact Or.inr (Or.inr rfl)) (hd : (x == ("__debug__" : Str)) = false := by decide)
    (hcd : (x == ("__classdict__" : Str)) = false := by decide) : RE X W (.Subscript (.Name x pos') b pos) (eIxO i g) :=
  PE.conv (pe_ix ix_seq (pe_var hN hv hd hcd) hb hs) fun σ H Q ⟨ρ, Hd, O, R, st, p⟩ => by
    unfold eIxO at p
    cases q0 : heldOf ρ[i]? with
    | none => rw [q0] at p; exact p.elim
    | some ds0 =>
      rw [q0] at p
      obtain ⟨a0, vs0, e0, _⟩ := held_at st q0
      refine ⟨.ref a0, e0, ρ, Hd, O, R, st, (Post.bind (rel1 := RepX X) p).imp ?_⟩
      rintro u H1 ⟨y, Hd1, ρ1, g1, st1, ry, p1⟩
      split at p1
      · rename_i ds hds
        obtain ⟨a, vs, e, e2, e3, e4, e5, _⟩ := held_at st1 hds
        rw [e0] at e
        cases e
        cases q : ixD (.list ds) y with
        | none => rw [q] at p1; exact p1.elim
        | some z => rw [q] at p1; exact ix_of q st1 (.inr ⟨a0, vs, ds, rfl, rfl, e4, e5⟩) ry p1
      · exact p1.elim
/-! ### changing a list of one's own -/
def setHeld (i : Nat) (ds : List D) (ρ : Ev) : Ev :=
  match ρ[i]? with
  | some (.own _) => ρ.set i (.own ds)
  | some (.ref _) => ρ.set i (.ref ds)
  | _ => ρ
theorem StR.write {ρ : Ev} {i : Nat} {ds es : List D} {a : Addr} {ws : List V} (st : StR X.K σ H Hd O R ρ) (h : heldOf ρ[i]? = some ds) (ha : σ[i]? = some (some (.ref a))) (r : RepL X.K Hd ws es) :
    StR X.K σ (upd H a (.lst ws)) Hd O R (setHeld i es ρ) ∧ Grow O H Hd (upd H a (.lst ws)) Hd := by
  obtain ⟨a', vs, e1, e2, e3, e4, e5, hh⟩ := held_at st h
  rw [ha] at e1
  cases e1
  have li : i < ρ.length := by
    rcases Nat.lt_or_ge i ρ.length with k | k
    · exact k
    · rw [List.getElem?_eq_none k] at h; cases h
  have hkind : (∃ es', ρ[i]? = some (.own es') ∧ setHeld i es ρ = ρ.set i (.own es)) ∨ (∃ es', ρ[i]? = some (.ref es') ∧ setHeld i es ρ = ρ.set i (.ref es)) := by
    unfold setHeld
    cases q : ρ[i]? with
    | none => rw [q] at h; cases h
    | some x =>
      cases x with
      | own es' => exact .inl ⟨es', rfl, rfl⟩
      | ref es' => exact .inr ⟨es', rfl, rfl⟩
      | none => rw [q] at h; cases h
      | val d => rw [q] at h; cases h
  have slots : ∀ (y : Slot), (y = .own es ∨ y = .ref es) → (∀ es', y = .ref es' → R i = some a) → StR X.K σ (upd H a (.lst ws)) Hd O R (ρ.set i y) := by
    intro y hy hR
    have held : ∀ j, Held (ρ.set i y) j → Held ρ j := fun j ⟨ds', hj⟩ => by
      by_cases e : i = j
      · subst e; exact hh
      · rw [List.getElem?_set_ne e] at hj; exact ⟨ds', hj⟩
    have apart : ∀ j b, j ≠ i → Held ρ j → σ[j]? = some (some (.ref b)) → b ≠ a := fun j b hj hh' e z => by
      subst z
      exact hj (st.inj j i b hh' hh e ha)
    refine ⟨fun b o hb => ?_, by rw [List.length_set]; exact st.len, fun j z hj => ?_, fun j k b hj hk => st.inj j k b (held j hj) (held k hk), fun b hb => ?_⟩
    · have : b ≠ a := fun z => by rw [z, e3] at hb; cases hb
      rw [upd_ne this]; exact st.sub b o hb
    · by_cases e : i = j
      · subst e
        rw [List.getElem?_set_self li] at hj
        cases hj
        refine ⟨_, ha, ?_⟩
        rcases hy with rfl | rfl
        · exact ⟨a, ws, rfl, e2, e3, upd_same, r⟩
        · exact ⟨a, ws, rfl, e2, e3, upd_same, r, hR _ rfl⟩
      · rw [List.getElem?_set_ne e] at hj
        obtain ⟨w, e6, q⟩ := st.sl j z hj
        refine ⟨w, e6, ?_⟩
        cases z with
        | none => trivial
        | val d => exact q
        | own es' =>
          obtain ⟨b, vs', rfl, q2, q3, q4, q5⟩ := q
          exact ⟨b, vs', rfl, q2, q3, by rw [upd_ne (apart j b (Ne.symm e) ⟨_, .inl hj⟩ e6)]; exact q4, q5⟩
        | ref es' =>
          obtain ⟨b, vs', rfl, q2, q3, q4, q5, q6⟩ := q
          exact ⟨b, vs', rfl, q2, q3, by rw [upd_ne (apart j b (Ne.symm e) ⟨_, .inr hj⟩ e6)]; exact q4, q5, q6⟩
    · by_cases z : b = a
      · subst z; exact ⟨_, upd_same⟩
      · obtain ⟨o, e⟩ := st.dom b hb
        exact ⟨o, by rw [upd_ne z]; exact e⟩
  refine ⟨?_, fun _ _ h => h, fun _ _ h => .inl h, fun b o hb hn => ?_, fun b o hb => ?_⟩
  · rcases hkind with ⟨es', q, e⟩ | ⟨es', q, e⟩
    · rw [e]; exact slots _ (.inl rfl) fun _ z => by cases z
    · rw [e]
      refine slots _ (.inr rfl) fun _ _ => ?_
      obtain ⟨o, e6, b, vs', rfl, q2, q3, q4, q5, q6⟩ := st.sl i _ q
      rw [ha] at e6; cases e6; exact q6
  · rw [upd_ne (fun z => hn (by rw [z]; exact e2))]; exact hb
  · by_cases z : b = a
    · subst z; exact ⟨_, upd_same⟩
    · exact ⟨o, by rw [upd_ne z]; exact hb⟩
/-- x.append(e) -/
def eAppend (i : Nat) (f : Ev → Res D) : Ev → Res D := fun ρ => match heldOf ρ[i]? with
  | some _ => (f ρ).bind fun d ρ1 => (match heldOf ρ1[i]? with | some ds => if ds.length < lid then .ok .none (setHeld i (ds ++ [d]) ρ1) else .bad | none => .bad)
  | none => .bad
theorem re_append (i : Nat) {x : Str} {e : Expr} {f : Ev → Res D} {apos pos' cpos : Pos} (he : RE X W e f) (hN : X.N[i]? = some x := by rfl) (hv : Vis X.env.scope x := by first | exact Or.inl rfl | exact Or.inr (Or.inl rfl) | exact Or.inr (Or.inr rfl)) (hd : (x == ("__debug__" : Str)) = false := by decide)
    (hcd : (x == ("__classdict__" : Str)) = false := by decide)
    (hbase : attributeBase (.Name x pos') "append" X.env (eval (.Name x pos') X.env) = eval (.Name x pos') X.env := by rfl)
    (hfew : ((backTo cpos (starEach [e] X.env)).all (fun x => !x.1) && (backToKw cpos (keywordEach [] X.env)).all (fun x => x.1.isSome) && decide (([e] : List Expr).length + ([] : List Keyword).length + (if ([] : List Keyword).isEmpty then 0 else 1) < 30)) = true := by rfl)
    (hline : (apos.endLine == cpos.line) = true := by rfl) (hs : starEach [e] X.env = (false, eval e X.env) :: starEach [] X.env := by rfl) :
    RE X W (.Call (.Attribute (.Name x pos') "append" apos) [e] [] cpos) (eAppend i f) :=
  PE.conv (pe_bm PySem.F.plainAttrs_list PySem.F.slot_list_append PySem.F.type_list_append mt_append (pe_var hN hv hd hcd) (pa_cons he pa_nil hs) hbase hfew hline hs rfl) fun σ H Q ⟨ρ, Hd, O, R, st, p⟩ => by
    unfold eAppend at p
    cases q0 : heldOf ρ[i]? with
    | none => rw [q0] at p; exact p.elim
    | some ds0 =>
      rw [q0] at p
      obtain ⟨a0, vs0, e0, _, _, h0, _⟩ := held_at st q0
      refine ⟨.ref a0, e0, .inl ⟨rfl, _, SqL.of h0⟩, ρ, Hd, O, R, st, (Post.bind (rel1 := RepX X) p).imp ?_⟩
      rintro u H1 ⟨d, Hd1, ρ1, g1, st1, ry, p1⟩
      split at p1
      · rename_i ds hds
        split at p1
        · rename_i hl
          obtain ⟨a, vs, e, e2, e3, e4, e5, _⟩ := held_at st1 hds
          rw [e0] at e
          cases e
          obtain ⟨st2, g2⟩ := st1.write (es := ds ++ [d]) (ws := vs ++ [u]) hds e0 (e5.append (.cons ry .nil))
          refine ⟨a0, vs, u, rfl, rfl, e4, by have := lid_line; rw [e5.length]; omega, p1 .non _ Hd1 g2 st2 .none⟩
        · exact p1.elim
      · exact p1.elim
/-- x[i] = e -/
def sSetIx (i : Nat) (f g : Ev → Res D) : Ev → Res Fl := fun ρ => sBind (f ρ) fun d ρ1 => (match heldOf ρ1[i]? with
  | some _ => sBind (g ρ1) fun y ρ2 => (match heldOf ρ2[i]?, y with
    | some ds, .int k => (match ixN ds.length k with | some j => .ok .nx (setHeld i (ds.set j d) ρ2) | none => .bad)
    | _, _ => .bad)
  | none => .bad)
theorem rs_setIx (i : Nat) {x : Str} {e b : Expr} {f g : Ev → Res D} {pos pos' pos2 : Pos} (he : RE X W e f) (hb : RE X W b g) (hN : X.N[i]? = some x := by rfl) (hv : Vis X.env.scope x := by first | exact Or.inl rfl | exact Or.inr (Or.inl rfl) | exact Or.inr (Or.inr rfl)) (hd : (x == ("__debug__" : Str)) = false := by decide)
    (hcd : (x == ("__classdict__" : Str)) = false := by decide)
    (ha : ∀ v, assign (.Subscript (.Name x pos') b pos2) X.env v = (do
      let ov ← holding [v] (eval (.Name x pos') X.env)
      let iv ← holding [v, ov] (eval b X.env)
      standAt pos2
      holding [v, ov, iv] (setItem ov iv v)
      release [v, ov, iv] []) := by intro _; rfl)
    (hs : swapsWithSole [.Subscript (.Name x pos') b pos2] e pos.line X.env = pure false := by rfl) (hw : swappedStores [.Subscript (.Name x pos') b pos2] e X.env = pure none := by rfl)
    (h1 : (assignEach [.Subscript (.Name x pos') b pos2] X.env).map (·.2) = [assign (.Subscript (.Name x pos') b pos2) X.env] := by rfl) : RS X W (.Assign [.Subscript (.Name x pos') b pos2] e pos) (sSetIx i f g) :=
  PS.conv (ps_asg he (pg_sub (pe_var hN hv hd hcd) hb set_list ha) hs hw h1) fun E σ H ⟨ρ, Hd, O, R, st, p⟩ => ⟨ρ, Hd, O, R, st, (PostS.bind (rel := RepX X) p).imp (by
    rintro v H1 ⟨d, Hd1, ρ1, g1, st1, rv, p1⟩
    split at p1
    · rename_i ds0 q0
      obtain ⟨a0, vs0, e0, _⟩ := held_at st1 q0
      refine ⟨.ref a0, e0, ρ1, Hd1, O, R, st1, (PostS.bind (rel := RepX X) p1).imp ?_⟩
      rintro u H2 ⟨y, Hd2, ρ2, g2, st2, ry, p2⟩
      split at p2
      · rename_i ds k hds
        split at p2
        · rename_i j hj
          cases ry
          obtain ⟨a, vs, e, e2, e3, e4, e5, _⟩ := held_at st2 hds
          rw [e0] at e
          cases e
          obtain ⟨st3, g3⟩ := st2.write (es := ds.set j d) (ws := vs.set j v) hds e0 (e5.set (rv.mono g2.sub) j)
          exact ⟨a0, vs, k, j, rfl, rfl, e4, by rw [e5.length]; exact hj, p2 σ _ Hd2 O g3 (fun _ h => .inl h) st3⟩
        · exact p2.elim
      · exact p2.elim
    · exact p1.elim)⟩
end
end AH

/-! AH7: defs and their calls -/
namespace AH
open PySem PySem.Spec PyProof.Rows L2

abbrev Fn := List Slot → Res D
abbrev FnL := List Slot → Res (List D)
def keepRef : Option Slot → Slot
  | some (.ref ds) => .ref ds
  | _ => .none
def outsOf (k : Nat) (ρ : Ev) : List Slot := (List.range k).map fun i => keepRef ρ[i]?
/-- a def with so many parameters, so many other slots, and this body -/
def mkFn (n : Nat) (body : Ev → Res Fl) : Fn := fun args =>
  match body (args ++ List.replicate n .none) with
  | .ok (.rt d) ρ => .ok d (outsOf args.length ρ)
  | .ok .nx ρ => .ok .none (outsOf args.length ρ)
  | .ok _ _ => .bad
  | .exc c d ρ => .exc c d (outsOf args.length ρ)
  | .bad => .bad
/-- a def that hands back a fresh list -/
def mkFnL (n : Nat) (body : Ev → Res Fl) : FnL := fun args =>
  match body (args ++ List.replicate n .none) with
  | .ok (.rf ds) ρ => .ok ds (outsOf args.length ρ)
  | .ok _ _ => .bad
  | .exc c d ρ => .exc c d (outsOf args.length ρ)
  | .bad => .bad
/-- the promise: what m tells of the arguments is what comes -/
def spF (K : Fg) (mg : Str → Option Value) (n : Nat) {α : Type} (rel : Hp → Hp → Hp → V → α → Prop) (m : List Slot → Res α) : Sp := fun vs H Q E => ∃ args Hd O R,
  StR K (vs.map some) H Hd O R args ∧ vs.length = n ∧ (∀ i a, R i = some a → vs[i]? = some (.ref a) ∧ a ∈ O) ∧
  match m args with
  | .ok d outs => ∀ v H' Hd', Grow O H Hd H' Hd' → StR K (vs.map some) H' Hd' O R outs → rel H H' Hd' v d → Q v H'
  | .exc c d outs => ∀ cls dd H' Hd', Grow O H Hd H' Hd' → StR K (vs.map some) H' Hd' O R outs → ExcR K mg Hd' cls dd c d → E cls dd H'
  | .bad => False
abbrev spD (K : Fg) (mg : Str → Option Value) (n : Nat) (m : Fn) : Sp := spF K mg n (fun _ _ Hd v d => Rep K Hd v d) m
abbrev spL (K : Fg) (mg : Str → Option Value) (n : Nat) (m : FnL) : Sp := spF K mg n (fun H H' Hd v d => RelF K H H' Hd v d) m
theorem spF_len {K : Fg} {mg : Str → Option Value} {n : Nat} {α : Type} {rel : Hp → Hp → Hp → V → α → Prop} {m : List Slot → Res α} {ps : List Str} (hn : n = ps.length) : ∀ vs H Q E, spF K mg n rel m vs H Q E → vs.length = ps.length :=
  fun vs H Q E ⟨_, _, _, _, _, h, _⟩ => h.trans hn

section
variable {K : Fg} {R : Nat → Option Addr} {H Hd H' Hd' : Hp} {O O' : List Addr}
theorem StR.start {vs : List V} {args : List Slot} {N : List Str} (st : StR K (vs.map some) H Hd O R args) (h : vs.length ≤ N.length) : StR K (L2.start N vs) H Hd O R (args ++ List.replicate (N.length - vs.length) .none) := by
  have la : vs.length = args.length := by have := st.len; rw [List.length_map] at this; exact this
  have low : ∀ {i : Nat} {x : Slot}, (args ++ List.replicate (N.length - vs.length) Slot.none)[i]? = some x → (args[i]? = some x ∧ i < vs.length) ∨ x = .none := by
    intro i x hx
    by_cases hi : i < args.length
    · rw [List.getElem?_append_left hi] at hx; exact .inl ⟨hx, by omega⟩
    · rw [List.getElem?_append_right (by omega), List.getElem?_replicate] at hx
      split at hx
      · cases hx; exact .inr rfl
      · cases hx
  have held : ∀ {i : Nat}, Held (args ++ List.replicate (N.length - vs.length) Slot.none) i → Held args i ∧ i < vs.length := by
    rintro i ⟨ds, h | h⟩
    · rcases low h with ⟨q, l⟩ | q
      · exact ⟨⟨ds, .inl q⟩, l⟩
      · cases q
    · rcases low h with ⟨q, l⟩ | q
      · exact ⟨⟨ds, .inr q⟩, l⟩
      · cases q
  have at' : ∀ {i : Nat}, i < vs.length → (L2.start N vs)[i]? = (vs.map some)[i]? := fun {i} hi => by
    unfold L2.start
    rw [List.getElem?_append_left (by rw [List.length_map]; exact hi)]
  refine ⟨st.sub, ?_, fun i x hx => ?_, fun i j a hi hj e1 e2 => ?_, st.dom⟩
  · unfold L2.start
    rw [List.length_append, List.length_map, List.length_replicate, List.length_append, List.length_replicate]
    omega
  · rcases low hx with ⟨q, l⟩ | rfl
    · obtain ⟨o, e, r⟩ := st.sl i x q
      exact ⟨o, by rw [at' l]; exact e, r⟩
    · have li : i < (L2.start N vs).length := by
        rcases Nat.lt_or_ge i (args ++ List.replicate (N.length - vs.length) Slot.none).length with k | k
        · unfold L2.start
          rw [List.length_append, List.length_map, List.length_replicate]
          rw [List.length_append, List.length_replicate] at k
          omega
        · rw [List.getElem?_eq_none k] at hx; cases hx
      exact ⟨_, List.getElem?_eq_getElem li, trivial⟩
  · obtain ⟨h1, l1⟩ := held hi
    obtain ⟨h2, l2⟩ := held hj
    rw [at' l1] at e1
    rw [at' l2] at e2
    exact st.inj i j a h1 h2 e1 e2
/-- back at the caller: the parameters that were handed on -/
theorem StR.outs {vs : List V} {k : Nat} {ρ : Ev} {σ : St} (st : StR K σ H' Hd' O' R ρ) (hk : vs.length = k) (hR : ∀ i a, R i = some a → vs[i]? = some (.ref a) ∧ a ∈ O) (hd : ∀ a ∈ O, ∃ o, H' a = some o) :
    StR K (vs.map some) H' Hd' O R (outsOf k ρ) := by
  have get : ∀ {i : Nat} {x : Slot}, (outsOf k ρ)[i]? = some x → i < k ∧ x = keepRef ρ[i]? := by
    intro i x h
    unfold outsOf at h
    rw [List.getElem?_map] at h
    by_cases hi : i < k
    · rw [List.getElem?_range hi] at h
      cases h
      exact ⟨hi, rfl⟩
    · rw [List.getElem?_eq_none (by rw [List.length_range]; omega)] at h; cases h
  have isRef : ∀ {i : Nat} {ds : List D}, keepRef ρ[i]? = .ref ds → ρ[i]? = some (.ref ds) := by
    intro i ds h
    cases q : ρ[i]? with
    | none => rw [q] at h; cases h
    | some y =>
      rw [q] at h
      cases y with
      | ref es => cases h; rfl
      | _ => cases h
  have noOwn : ∀ {i : Nat} {ds : List D}, keepRef ρ[i]? ≠ .own ds := by
    intro i ds h
    cases q : ρ[i]? with
    | none => rw [q] at h; cases h
    | some y => rw [q] at h; cases y <;> cases h
  refine ⟨st.sub, by unfold outsOf; rw [List.length_map, List.length_map, List.length_range]; exact hk, fun i x h => ?_, fun i j a hi hj e1 e2 => ?_, hd⟩
  · obtain ⟨hi, q⟩ := get h
    have li : i < vs.length := by omega
    refine ⟨some vs[i], by rw [List.getElem?_map, List.getElem?_eq_getElem li]; rfl, ?_⟩
    cases x with
    | none => trivial
    | val d =>
      cases q2 : ρ[i]? with
      | none => rw [q2] at q; cases q
      | some y => rw [q2] at q; cases y <;> cases q
    | own ds => exact absurd q.symm noOwn
    | ref ds =>
      have e := isRef q.symm
      obtain ⟨o, e1, a, ws, rfl, e2, e3, e4, e5, e6⟩ := st.sl i _ e
      obtain ⟨e7, e8⟩ := hR i a e6
      rw [List.getElem?_eq_getElem li] at e7
      exact ⟨a, ws, e7, e8, e3, e4, e5, e6⟩
  · have ref : ∀ {i : Nat}, Held (outsOf k ρ) i → ∃ ds, ρ[i]? = some (.ref ds) := by
      rintro i ⟨ds, h | h⟩
      · exact absurd (get h).2.symm noOwn
      · exact ⟨ds, isRef (get h).2.symm⟩
    obtain ⟨ds1, r1⟩ := ref hi
    obtain ⟨ds2, r2⟩ := ref hj
    obtain ⟨o1, f1, a1, _, rfl, _, _, _, _, g1⟩ := st.sl i _ r1
    obtain ⟨o2, f2, a2, _, rfl, _, _, _, _, g2⟩ := st.sl j _ r2
    have k1 := (hR i a1 g1).1
    have k2 := (hR j a2 g2).1
    rw [List.getElem?_map, k1] at e1
    rw [List.getElem?_map, k2] at e2
    cases e1
    cases e2
    exact st.inj i j a ⟨_, .inr r1⟩ ⟨_, .inr r2⟩ f1 f2
end

section
variable {P : Program} {w : World} {K : Fg} {mg : Str → Option Value} {base : Heap}
/-- the wish of a def about what leaves it -/
abbrev WD (E : XK) : WX := fun cls d _ H => E cls d H
/-- a def keeps the promise that its mirror tells -/
theorem fn_okD {CX : CXT} {x qual : Str} {st : Stmt} {f : Addr} {fd : FuncData} {N ps : List Str} {k n : Nat} {body : Ev → Res Fl} (F : Fun K x qual st f fd) (S : FnScope N ps (defScope st)) (hn : N.length = ps.length + n)
    (hbody : ∀ (cdv : Value) (A : Around) (outer : List Env) (s : Shared) (H : Hp) (E : XK), Room k (A.deeper (envOfC qual (defScope st) s.heap.objs.size f cdv)) → A.guards = some [] →
      RSs (cxOf CX P w K mg base N qual (defScope st) f cdv A outer s H E) (WD E) (defBody st) body) :
    FnG P w K mg base CX (k + 1) f fd ps (spD K mg ps.length (mkFn n body)) := by
  refine fnG_of F S (spF_len rfl) ?_
  rintro cdv A outer s H vs Q E room gs ⟨args, Hd, O, R, sr, hl, hR, p⟩
  refine ⟨_, hbody cdv A outer s H E room gs, ?_⟩
  have hv : vs.length ≤ N.length := by omega
  have la : vs.length = args.length := by have := sr.len; rw [List.length_map] at this; exact this
  have hN : N.length - vs.length = n := by omega
  have s0 := sr.start (N := N) hv
  rw [hN] at s0
  refine ⟨_, Hd, O, R, s0, ?_⟩
  unfold mkFn at p
  have fin : ∀ {σ' : St} {H' Hd' : Hp} {O' : List Addr} {ρ : Ev}, Grow O H Hd H' Hd' → StR K σ' H' Hd' O' R ρ → StR K (vs.map some) H' Hd' O R (outsOf args.length ρ) := fun g st' =>
    st'.outs la hR fun a ha => by
      obtain ⟨o, e⟩ := sr.dom a ha
      exact g.dom a o e
  revert p
  cases hb : body (args ++ List.replicate n Slot.none) with
  | ok fl ρ =>
    cases fl with
    | nx => exact fun p σ' H' Hd' O' g ho st' => p .non H' Hd' g (fin g st') .none
    | rt d => exact fun p v σ' H' Hd' O' g ho st' r => p v H' Hd' g (fin g st') r
    | bk => intro p; exact p.elim
    | ct => intro p; exact p.elim
    | rf ds => intro p; exact p.elim
  | exc c d ρ => exact fun p cls dd σ' H' Hd' O' g ho st' r => p cls dd H' Hd' g (fin g st') r
  | bad => intro p; exact p.elim
theorem fn_okL {CX : CXT} {x qual : Str} {st : Stmt} {f : Addr} {fd : FuncData} {N ps : List Str} {k n : Nat} {body : Ev → Res Fl} (F : Fun K x qual st f fd) (S : FnScope N ps (defScope st)) (hn : N.length = ps.length + n)
    (hbody : ∀ (cdv : Value) (A : Around) (outer : List Env) (s : Shared) (H : Hp) (E : XK), Room k (A.deeper (envOfC qual (defScope st) s.heap.objs.size f cdv)) → A.guards = some [] →
      RSs (cxOf CX P w K mg base N qual (defScope st) f cdv A outer s H E) (WD E) (defBody st) body) :
    FnG P w K mg base CX (k + 1) f fd ps (spL K mg ps.length (mkFnL n body)) := by
  refine fnG_of F S (spF_len rfl) ?_
  rintro cdv A outer s H vs Q E room gs ⟨args, Hd, O, R, sr, hl, hR, p⟩
  refine ⟨_, hbody cdv A outer s H E room gs, ?_⟩
  have hv : vs.length ≤ N.length := by omega
  have la : vs.length = args.length := by have := sr.len; rw [List.length_map] at this; exact this
  have hN : N.length - vs.length = n := by omega
  have s0 := sr.start (N := N) hv
  rw [hN] at s0
  refine ⟨_, Hd, O, R, s0, ?_⟩
  unfold mkFnL at p
  have fin : ∀ {σ' : St} {H' Hd' : Hp} {O' : List Addr} {ρ : Ev}, Grow O H Hd H' Hd' → StR K σ' H' Hd' O' R ρ → StR K (vs.map some) H' Hd' O R (outsOf args.length ρ) := fun g st' =>
    st'.outs la hR fun a ha => by
      obtain ⟨o, e⟩ := sr.dom a ha
      exact g.dom a o e
  revert p
  cases hb : body (args ++ List.replicate n Slot.none) with
  | ok fl ρ =>
    cases fl with
    | nx => intro p; exact p.elim
    | rt d => intro p; exact p.elim
    | bk => intro p; exact p.elim
    | ct => intro p; exact p.elim
    | rf ds => exact fun p σ' H' Hd' O' a vs' g ho st' h0 h1 h2 r => p (.ref a) H' Hd' g (fin g st') ⟨a, vs', rfl, h0, h1, h2, r⟩
  | exc c d ρ => exact fun p cls dd σ' H' Hd' O' g ho st' r => p cls dd H' Hd' g (fin g st') r
  | bad => intro p; exact p.elim
end

/-! ### calls -/
section
variable {X : Cx} {W : WX} {H Hd H' Hd' : Hp} {O : List Addr} {R : Nat → Option Addr} {σ : St}
theorem StR.after {ρ : Ev} (st : StR X.K σ H Hd O R ρ) (g : Grow [] H Hd H' Hd') (s : Sub Hd' H') : StR X.K σ H' Hd' O R ρ := by
  have no : ∀ a vs, Hd a = none → H a = some (HO.lst vs) → Hd' a = none := fun a vs h1 h2 => by
    cases q : Hd' a with
    | none => rfl
    | some o =>
      rcases g.new a o q with z | z | z
      · rw [h1] at z; cases z
      · rw [h2] at z; cases z
      · cases z
  refine ⟨s, st.len, fun i x h => ?_, st.inj, fun a ha => ?_⟩
  · obtain ⟨o, e, r⟩ := st.sl i x h
    refine ⟨o, e, ?_⟩
    cases x with
    | none => trivial
    | val d => obtain ⟨v, e1, e2⟩ := r; exact ⟨v, e1, e2.mono g.sub⟩
    | own ds =>
      obtain ⟨a, vs, e1, e2, e3, e4, e5⟩ := r
      exact ⟨a, vs, e1, e2, no a vs e3 e4, g.keep a _ e4 (by simp), e5.mono g.sub⟩
    | ref ds =>
      obtain ⟨a, vs, e1, e2, e3, e4, e5, e6⟩ := r
      exact ⟨a, vs, e1, e2, no a vs e3 e4, g.keep a _ e4 (by simp), e5.mono g.sub, e6⟩
  · obtain ⟨o, e⟩ := st.dom a ha
    exact g.dom a o e
theorem Grow.weak (g : Grow [] H Hd H' Hd') : Grow O H Hd H' Hd' where
  sub := g.sub
  new := fun a o h => by
    rcases g.new a o h with z | z | z
    · exact .inl z
    · exact .inr (.inl z)
    · cases z
  keep := fun a o h _ => g.keep a o h (by simp)
  dom := g.dom
theorem StR.vals {vs : List V} {ds : List D} (r : RepL X.K Hd vs ds) (s : Sub Hd H) : StR X.K (vs.map some) H Hd [] (fun _ => none) (ds.map .val) := by
  have no : ∀ {i : Nat}, ¬ Held (ds.map Slot.val) i := by
    rintro i ⟨es, h | h⟩ <;> (rw [List.getElem?_map] at h; cases q : ds[i]? with | none => rw [q] at h; cases h | some d => rw [q] at h; cases h)
  refine ⟨s, by rw [List.length_map, List.length_map]; exact r.length, fun i x h => ?_, fun i j a hi => absurd hi no, fun a ha => nomatch ha⟩
  rw [List.getElem?_map] at h
  cases q : ds[i]? with
  | none => rw [q] at h; cases h
  | some d =>
    rw [q] at h
    cases h
    obtain ⟨v, e, rv⟩ := r.get q
    exact ⟨some v, by rw [List.getElem?_map, e]; rfl, v, rfl, rv⟩
/-- a call with data alone -/
def eCall {α : Type} (m : List Slot → Res α) (l : Ev → Res (List D)) : Ev → Res α := fun ρ => (l ρ).bind fun xs ρ1 => match m (xs.map .val) with
  | .ok d _ => .ok d ρ1
  | .exc c d _ => .exc c d ρ1
  | .bad => .bad
theorem callStep {α : Type} {rel : Hp → Hp → Hp → V → α → Prop} {relO : Hp → Hp → V → α → Prop} {n : Nat} {m : List Slot → Res α} {l : Ev → Res (List D)} {Q : VK} {ρ : Ev} {H0 : Hp}
    (hrel : ∀ H1 H' Hd' v d, (∀ a, H1 a = none → H0 a = none) → rel H1 H' Hd' v d → relO H' Hd' v d)
    (hn : ∀ xs ρ1, l ρ = .ok xs ρ1 → xs.length = n) (h0 : ∀ a, H a = none → H0 a = none) (p : Post X W relO σ H Hd O R (eCall m l ρ) Q) :
    Post X W (fun _ Hd vs ds => RepL X.K Hd vs ds) σ H Hd O R (l ρ) fun vs H1 => spF X.K X.mg n rel m vs H1 Q (WE W σ) := by
  unfold eCall at p
  revert p hn
  cases l ρ with
  | ok xs ρ1 =>
    intro hlen p vs H1 Hd1 g1 st1 r
    have hl : vs.length = n := by rw [r.length]; exact hlen xs ρ1 rfl
    refine ⟨xs.map .val, Hd1, [], fun _ => none, StR.vals r st1.sub, hl, (fun i a h => nomatch h), ?_⟩
    have p' : Post X W relO σ H1 Hd1 O R (match m (xs.map .val) with | .ok d _ => .ok d ρ1 | .exc c d _ => .exc c d ρ1 | .bad => .bad) Q := Post.from p g1
    revert p'
    cases m (xs.map Slot.val) with
    | ok d outs => exact fun p' v H2 Hd2 g2 st2 q => p' v H2 Hd2 g2.weak (st1.after g2 st2.sub) (hrel H1 H2 Hd2 v d (fun a ha => h0 a (g1.free ha)) q)
    | exc c d outs => exact fun p' cls dd H2 Hd2 g2 st2 q => p' cls dd H2 Hd2 g2.weak (st1.after g2 st2.sub) q
    | bad => exact fun p' => p'
  | exc c d ρ' => exact fun _ p => p
  | bad => exact fun _ p => p
theorem RelF.back {K : Fg} {H0 H1 H' Hd' : Hp} {v : V} {ds : List D} (h : ∀ a, H1 a = none → H0 a = none) (r : RelF K H1 H' Hd' v ds) : RelF K H0 H' Hd' v ds := by
  obtain ⟨p, vs, e, h0, q⟩ := r
  exact ⟨p, vs, e, h p h0, q⟩
variable {CX : CXT} {k : Nat} {f : Addr} {fd : FuncData} {ps : List Str} {x : Str} {pn pos : Pos} {e : Expr} {es : List Expr} {l : Ev → Res (List D)}
/-- f(a, ..), all data -/
theorem re_call {m : Fn} {n : Nat} (F : FnG X.prog X.w X.K X.mg X.base CX k f fd ps (spD X.K X.mg n m)) (hr : Room k X.A) (hgs : X.A.guards = some []) (hg : Gl X x) (hm : X.mg x = some (.ref f)) (hk : PySem.W.keepIn X.K (.ref f) = true)
    (hb : Binds X.K fd ps []) (hx : ∀ σ, PassesAt CX X σ (WE W σ)) (ha : RL X W (e :: es) l) (hn : (e :: es).length = n := by rfl) (hdb : (x == ("__debug__" : Str)) = false := by decide)
    (he : starEach (e :: es) X.env = (false, eval e X.env) :: starEach es X.env := by rfl) (hpl : (backTo pos (starEach es X.env)).any (·.1) = false := by rfl) : RE X W (.Call (.Name x pn) (e :: es) [] pos) (eCall m l) :=
  PE.conv (pe_callG F hr hgs hg hm hk hb hx ha.pa hdb he hpl) fun σ H Q ⟨ρ, Hd, O, R, st, p⟩ => ⟨ρ, Hd, O, R, st, callStep (H0 := H) (relO := RepX X) (fun _ _ _ _ _ _ h => h) (fun xs ρ1 h => (ha.len ρ xs ρ1 h).trans hn) (fun _ h => h) p⟩
/-- .. that hands back a fresh list -/
theorem rf_call {m : FnL} {n : Nat} (F : FnG X.prog X.w X.K X.mg X.base CX k f fd ps (spL X.K X.mg n m)) (hr : Room k X.A) (hgs : X.A.guards = some []) (hg : Gl X x) (hm : X.mg x = some (.ref f)) (hk : PySem.W.keepIn X.K (.ref f) = true)
    (hb : Binds X.K fd ps []) (hx : ∀ σ, PassesAt CX X σ (WE W σ)) (ha : RL X W (e :: es) l) (hn : (e :: es).length = n := by rfl) (hdb : (x == ("__debug__" : Str)) = false := by decide)
    (he : starEach (e :: es) X.env = (false, eval e X.env) :: starEach es X.env := by rfl) (hpl : (backTo pos (starEach es X.env)).any (·.1) = false := by rfl) : RF X W (.Call (.Name x pn) (e :: es) [] pos) (eCall m l) :=
  PE.conv (pe_callG F hr hgs hg hm hk hb hx ha.pa hdb he hpl) fun σ H Q ⟨ρ, Hd, O, R, st, p⟩ => ⟨ρ, Hd, O, R, st, callStep (H0 := H) (relO := RelF X.K H) (fun _ _ _ _ _ h q => q.back h) (fun xs ρ1 h => (ha.len ρ xs ρ1 h).trans hn) (fun _ h => h) p⟩
/-! ### a list of one's own handed on, then data -/
def backR {α : Type} (i : Nat) (ρ1 : Ev) : Res α → Res α
  | .ok d (.ref es :: _) => .ok d (setHeld i es ρ1)
  | .exc c d (.ref es :: _) => .exc c d (setHeld i es ρ1)
  | _ => .bad
def goR {α : Type} (m : List Slot → Res α) (i : Nat) (xs : List D) (ρ1 : Ev) : Res α :=
  match heldOf ρ1[i]? with
  | some ds => backR i ρ1 (m (.ref ds :: xs.map .val))
  | none => .bad
def eCallR {α : Type} (m : List Slot → Res α) (i : Nat) (l : Ev → Res (List D)) : Ev → Res α := fun ρ => match heldOf ρ[i]? with
  | some _ => (l ρ).bind fun xs ρ1 => goR m i xs ρ1
  | none => .bad
theorem StR.refs {vs : List V} {ds es : List D} {a : Addr} {ws : List V} (r : RepL X.K Hd vs ds) (s : Sub Hd H) (h1 : Hd a = none) (h2 : H a = some (.lst ws)) (q : RepL X.K Hd ws es) :
    StR X.K ((V.ref a :: vs).map some) H Hd [a] (fun i => if i = 0 then some a else none) (.ref es :: ds.map .val) := by
  have v := StR.vals (H := H) r s
  have held0 : ∀ {i : Nat}, Held (Slot.ref es :: ds.map Slot.val) i → i = 0 := by
    rintro i ⟨ds', h⟩
    cases i with
    | zero => rfl
    | succ j =>
      exfalso
      rcases h with h | h <;> (rw [List.getElem?_cons_succ, List.getElem?_map] at h; cases q : ds[j]? with | none => rw [q] at h; cases h | some d => rw [q] at h; cases h)
  refine ⟨s, by rw [List.map_cons, List.length_cons, List.length_cons, v.len], fun i x h => ?_, fun i j b hi hj _ _ => by rw [held0 hi, held0 hj], fun b hb => ?_⟩
  · cases i with
    | zero => cases h; exact ⟨_, rfl, a, ws, rfl, by simp, h1, h2, q, if_pos rfl⟩
    | succ j =>
      rw [List.getElem?_cons_succ] at h
      obtain ⟨o, e, r⟩ := v.sl j x h
      refine ⟨o, by rw [List.map_cons, List.getElem?_cons_succ]; exact e, ?_⟩
      rw [List.getElem?_map] at h
      cases q : ds[j]? with
      | none => rw [q] at h; cases h
      | some d => rw [q] at h; cases h; exact r
  · rcases List.mem_cons.mp hb with rfl | hb
    · exact ⟨_, h2⟩
    · cases hb
/-- behind a call to which the list at a was handed on -/
theorem StR.afterR {ρ : Ev} {i : Nat} {ds es : List D} {a : Addr} {ws : List V} (st : StR X.K σ H Hd O R ρ) (h : heldOf ρ[i]? = some ds) (ha : σ[i]? = some (some (.ref a))) (g : Grow [a] H Hd H' Hd') (s : Sub Hd' H') (h1 : Hd' a = none) (h2 : H' a = some (.lst ws)) (r : RepL X.K Hd' ws es) :
    StR X.K σ H' Hd' O R (setHeld i es ρ) ∧ Grow O H Hd H' Hd' := by
  obtain ⟨a', vs, e1, e2, e3, e4, e5, hh⟩ := held_at st h
  rw [ha] at e1
  cases e1
  have no : ∀ b vs, b ≠ a → Hd b = none → H b = some (HO.lst vs) → Hd' b = none := fun b vs hb k1 k2 => by
    cases q : Hd' b with
    | none => rfl
    | some o =>
      rcases g.new b o q with z | z | z
      · rw [k1] at z; cases z
      · rw [k2] at z; cases z
      · exact absurd (by simpa using z) hb
  have apart : ∀ j b, j ≠ i → Held ρ j → σ[j]? = some (some (.ref b)) → b ≠ a := fun j b hj hh' e z => by
    subst z
    exact hj (st.inj j i b hh' hh e ha)
  have li : i < ρ.length := by
    rcases Nat.lt_or_ge i ρ.length with k | k
    · exact k
    · rw [List.getElem?_eq_none k] at h; cases h
  have grow : Grow O H Hd H' Hd' := ⟨g.sub, fun b o hb => by
      rcases g.new b o hb with z | z | z
      · exact .inl z
      · exact .inr (.inl z)
      · refine .inr (.inr ?_)
        have : b = a := by simpa using z
        rw [this]; exact e2, fun b o hb hn => g.keep b o hb fun z => hn (by
          have : b = a := by simpa using z
          rw [this]
          exact e2), g.dom⟩
  have slots : ∀ (y : Slot), (y = .own es ∨ y = .ref es) → (∀ es', y = .ref es' → R i = some a) → StR X.K σ H' Hd' O R (ρ.set i y) := by
    intro y hy hR
    have held : ∀ j, Held (ρ.set i y) j → Held ρ j := fun j ⟨ds', hj⟩ => by
      by_cases e : i = j
      · subst e; exact hh
      · rw [List.getElem?_set_ne e] at hj; exact ⟨ds', hj⟩
    refine ⟨s, by rw [List.length_set]; exact st.len, fun j z hj => ?_, fun j k b hj hk => st.inj j k b (held j hj) (held k hk), fun b hb => ?_⟩
    · by_cases e : i = j
      · subst e
        rw [List.getElem?_set_self li] at hj
        cases hj
        refine ⟨_, ha, ?_⟩
        rcases hy with rfl | rfl
        · exact ⟨a, ws, rfl, e2, h1, h2, r⟩
        · exact ⟨a, ws, rfl, e2, h1, h2, r, hR _ rfl⟩
      · rw [List.getElem?_set_ne e] at hj
        obtain ⟨w, e6, q⟩ := st.sl j z hj
        refine ⟨w, e6, ?_⟩
        cases z with
        | none => trivial
        | val d => obtain ⟨v, q1, q2⟩ := q; exact ⟨v, q1, q2.mono g.sub⟩
        | own es' =>
          obtain ⟨b, vs', rfl, q2, q3, q4, q5⟩ := q
          have hb := apart j b (Ne.symm e) ⟨_, .inl hj⟩ e6
          exact ⟨b, vs', rfl, q2, no b _ hb q3 q4, g.keep b _ q4 (by simpa using hb), q5.mono g.sub⟩
        | ref es' =>
          obtain ⟨b, vs', rfl, q2, q3, q4, q5, q6⟩ := q
          have hb := apart j b (Ne.symm e) ⟨_, .inr hj⟩ e6
          exact ⟨b, vs', rfl, q2, no b _ hb q3 q4, g.keep b _ q4 (by simpa using hb), q5.mono g.sub, q6⟩
    · obtain ⟨o, e⟩ := st.dom b hb
      exact g.dom b o e
  refine ⟨?_, grow⟩
  unfold setHeld
  cases q : ρ[i]? with
  | none => rw [q] at h; cases h
  | some x =>
    cases x with
    | own es' => exact slots _ (.inl rfl) fun _ z => by cases z
    | ref es' =>
      refine slots _ (.inr rfl) fun _ _ => ?_
      obtain ⟨o, e6, b, vs', rfl, q2, q3, q4, q5, q6⟩ := st.sl i _ q
      rw [ha] at e6; cases e6; exact q6
    | none => rw [q] at h; cases h
    | val d => rw [q] at h; cases h
theorem callStepR {α : Type} {rel : Hp → Hp → Hp → V → α → Prop} {relO : Hp → Hp → V → α → Prop} {n : Nat} {m : List Slot → Res α} {i : Nat} {l : Ev → Res (List D)} {Q : VK} {ρ : Ev} {H0 : Hp} {a0 : Addr}
    (hrel : ∀ H1 H' Hd' v d, (∀ a, H1 a = none → H0 a = none) → rel H1 H' Hd' v d → relO H' Hd' v d)
    (hn : ∀ xs ρ1, l ρ = .ok xs ρ1 → xs.length + 1 = n) (h0 : ∀ a, H a = none → H0 a = none) (hi : σ[i]? = some (some (.ref a0)))
    (p : Post X W relO σ H Hd O R ((l ρ).bind fun xs ρ1 => goR m i xs ρ1) Q) :
    Post X W (fun _ Hd vs ds => RepL X.K Hd vs ds) σ H Hd O R (l ρ) fun vs H1 => spF X.K X.mg n rel m (.ref a0 :: vs) H1 Q (WE W σ) := by
  revert p hn
  cases l ρ with
  | ok xs ρ1 =>
    intro hlen p vs H1 Hd1 g1 st1 r
    have p : Post X W relO σ H Hd O R (goR m i xs ρ1) Q := p
    unfold goR at p
    cases q : heldOf ρ1[i]? with
    | none => rw [q] at p; exact p.elim
    | some ds =>
      rw [q] at p
      have p : Post X W relO σ H Hd O R (backR i ρ1 (m (.ref ds :: xs.map .val))) Q := p
      obtain ⟨a, ws, e1, e2, e3, e4, e5, _⟩ := held_at st1 q
      rw [hi] at e1
      cases e1
      have hl : (V.ref a0 :: vs).length = n := by rw [List.length_cons, r.length]; exact hlen xs ρ1 rfl
      refine ⟨.ref ds :: xs.map .val, Hd1, [a0], _, StR.refs r st1.sub e3 e4 e5, hl, fun j b h => ?_, ?_⟩
      · have h : (if j = 0 then some a0 else none) = some b := h
        split at h
        · rename_i hj; subst hj; cases h; exact ⟨rfl, by simp⟩
        · cases h
      · have back : ∀ {H2 Hd2 : Hp} {es : List D} {os : List Slot}, StR X.K ((V.ref a0 :: vs).map some) H2 Hd2 [a0] (fun i => if i = 0 then some a0 else none) (.ref es :: os) → ∃ ws, Hd2 a0 = none ∧ H2 a0 = some (.lst ws) ∧ RepL X.K Hd2 ws es := by
          intro H2 Hd2 es os st2
          obtain ⟨o, f1, b, ws, rfl, _, f3, f4, f5, _⟩ := st2.sl 0 _ rfl
          cases f1
          exact ⟨ws, f3, f4, f5⟩
        generalize m (.ref ds :: xs.map .val) = res at p
        cases res with
        | ok d outs =>
          cases outs with
          | nil => exact p.elim
          | cons o1 os =>
            cases o1 with
            | ref es =>
              intro v H2 Hd2 g2 st2 qv
              obtain ⟨ws', k1, k2, k3⟩ := back st2
              obtain ⟨st3, g3⟩ := st1.afterR q hi g2 st2.sub k1 k2 k3
              exact p v H2 Hd2 (g1.trans1 g3) st3 (hrel H1 H2 Hd2 v d (fun a ha => h0 a (g1.free ha)) qv)
            | none => exact p.elim
            | val _ => exact p.elim
            | own _ => exact p.elim
        | exc c d outs =>
          cases outs with
          | nil => exact p.elim
          | cons o1 os =>
            cases o1 with
            | ref es =>
              intro cls dd H2 Hd2 g2 st2 qv
              obtain ⟨ws', k1, k2, k3⟩ := back st2
              obtain ⟨st3, g3⟩ := st1.afterR q hi g2 st2.sub k1 k2 k3
              exact p cls dd H2 Hd2 (g1.trans1 g3) st3 qv
            | none => exact p.elim
            | val _ => exact p.elim
            | own _ => exact p.elim
        | bad => exact p.elim
  | exc c d ρ' => exact fun _ p => p
  | bad => exact fun _ p => p
variable {y : Str} {py : Pos}
theorem re_callR {m : Fn} {n i : Nat} (F : FnG X.prog X.w X.K X.mg X.base CX k f fd ps (spD X.K X.mg n m)) (hr : Room k X.A) (hgs : X.A.guards = some []) (hg : Gl X x) (hm : X.mg x = some (.ref f)) (hk : PySem.W.keepIn X.K (.ref f) = true)
    (hb : Binds X.K fd ps []) (hx : ∀ σ, PassesAt CX X σ (WE W σ)) (ha : RL X W es l) (hN : X.N[i]? = some y) (hv : Vis X.env.scope y) (hn : es.length + 1 = n := by rfl) (hdb : (x == ("__debug__" : Str)) = false := by decide)
    (he : starEach (.Name y py :: es) X.env = (false, eval (.Name y py) X.env) :: starEach es X.env := by rfl) (hpl : (backTo pos (starEach es X.env)).any (·.1) = false := by rfl) (hd1 : (y == ("__debug__" : Str)) = false := by decide) (hcd : (y == ("__classdict__" : Str)) = false := by decide) :
    RE X W (.Call (.Name x pn) (.Name y py :: es) [] pos) (eCallR m i l) :=
  PE.conv (pe_callG F hr hgs hg hm hk hb hx (pa_cons (pe_var hN hv hd1 hcd) ha.pa he) hdb he hpl) fun σ H Q ⟨ρ, Hd, O, R, st, p⟩ => by
    unfold eCallR at p
    cases q : heldOf ρ[i]? with
    | none => rw [q] at p; exact p.elim
    | some ds =>
      rw [q] at p
      obtain ⟨a0, _, e0, _⟩ := held_at st q
      exact ⟨.ref a0, e0, ρ, Hd, O, R, st, callStepR (H0 := H) (relO := RepX X) (fun _ _ _ _ _ _ h => h) (fun xs ρ1 h => by rw [ha.len ρ xs ρ1 h]; exact hn) (fun _ h => h) e0 p⟩
end
end AH

/-! AH8: loops and comprehensions over data -/
namespace AH
open PySem PySem.Spec PyProof.Rows L2
/-- what is walked: J yields just the items, each stored by bd; own: the slots that it stores -/
def Src (K : Fg) (J : It) (Hd : Hp) (g : TG) {β : Type} (items : List β) (bd : β → Ev → Option Ev) (own : Nat → Prop) : Prop :=
  ∀ (i : Nat) (σ : St) (H Hd' : Hp) (O : List Addr) (R : Nat → Option Addr) (ρ : Ev), Sub Hd Hd' → StR K σ H Hd' O R ρ →
    (items.length ≤ i → J.stop i H) ∧ ∀ b, items[i]? = some b → J.go i H ∧ ∀ x H' ρ' (Q : St → Hp → Prop), J.yld i H x H' → bd b ρ = some ρ' →
      (∀ σ' H'' Hd'', Grow O H Hd' H'' Hd'' → StR K σ' H'' Hd'' O R ρ' → (∀ vs : List Nat, (∀ i, own i → i ∈ vs) → wipe σ' vs = wipe σ vs) → Q σ' H'') → g x σ H' Q
def RI (X : Cx) (W : WX) (tg iter : Expr) (g : TG) {β : Type} (bd : β → Ev → Option Ev) (own : Nat → Prop) (fi : Ev → Res (List β)) : Prop :=
  PI X tg iter (Tr X W (fun _ Hd J items => Src X.K J Hd g items bd own) fi)
theorem PI.conv {X : Cx} {tg iter : Expr} {t t' : TI} (h : PI X tg iter t) (c : ∀ σ H Q, t' σ H Q → t σ H Q) : PI X tg iter t' := ⟨fun pins s σ H Q I q => h.run pins s σ H Q I (c σ H Q q)⟩
theorem PI.or {X : Cx} {tg iter : Expr} {t t' : TI} (h : PI X tg iter t) (h' : PI X tg iter t') : PI X tg iter (fun σ H Q => t σ H Q ∨ t' σ H Q) := ⟨fun pins s σ H Q I q => by
  rcases q with q | q
  · exact h.run pins s σ H Q I q
  · exact h'.run pins s σ H Q I q⟩
section
variable {X : Cx} {W : WX} {tg iter : Expr} {p : Pat}
/-! ### data that is walked -/
def itemsD : D → Option (List D)
  | .list xs => some xs
  | .tuple xs => some xs
  | .str z => some (z.cps.toList.map fun c => .str ⟨#[c]⟩)
  | _ => none
def iSeq (f : Ev → Res D) : Ev → Res (List D) := fun ρ => (f ρ).bind fun d ρ1 => lift (itemsD d) ρ1
theorem src_list {K : Fg} {Hd : Hp} {a : Addr} {vs : List V} {ds : List D} (h : LsR K Hd a vs) (r : RepL K Hd vs ds) : Src K (Itl K a) Hd (gPat K p) ds (bindP p) p.has := by
  intro i σ H Hd' O R ρ s st
  have sq : SqL K H a vs := (LsR.mono (fun b o e => st.sub b o (s b o e)) h).sq
  refine ⟨fun hi => ⟨vs, sq, by rw [r.length]; exact hi⟩, fun b hb => ?_⟩
  obtain ⟨v, e, rv⟩ := r.get hb
  refine ⟨⟨vs, v, sq, e⟩, ?_⟩
  rintro x H' ρ' Q ⟨rfl, hx⟩ hbd q
  have ex : x = v := Option.some.inj ((hx vs sq).symm.trans e)
  subst ex
  exact gPat_ok st (rv.mono s) hbd fun σ' st' hw => q σ' _ _ Grow.refl st' hw
theorem src_tup {K : Fg} {Hd : Hp} {a : Addr} {vs : List V} {ds : List D} (h : TpR K Hd a vs) (r : RepL K Hd vs ds) : Src K (Itt K a) Hd (gPat K p) ds (bindP p) p.has := by
  intro i σ H Hd' O R ρ s st
  have sq : SqT K H a vs := (TpR.mono (fun b o e => st.sub b o (s b o e)) h).sq
  refine ⟨fun hi => ⟨vs, sq, by rw [r.length]; exact hi⟩, fun b hb => ?_⟩
  obtain ⟨v, e, rv⟩ := r.get hb
  refine ⟨⟨vs, v, sq, e⟩, ?_⟩
  rintro x H' ρ' Q ⟨rfl, hx⟩ hbd q
  have ex : x = v := Option.some.inj ((hx vs sq).symm.trans e)
  subst ex
  exact gPat_ok st (rv.mono s) hbd fun σ' st' hw => q σ' _ _ Grow.refl st' hw
theorem src_str {K : Fg} {Hd : Hp} {z : Str} : Src K (Its z) Hd (gPat K p) (z.cps.toList.map fun c => PyData.str ⟨#[c]⟩) (bindP p) p.has := by
  intro i σ H Hd' O R ρ s st
  refine ⟨fun hi => by rw [List.length_map, Array.length_toList] at hi; exact hi, fun b hb => ?_⟩
  rw [List.getElem?_map, Array.getElem?_toList] at hb
  have hlt : i < z.cps.size := by
    rcases Nat.lt_or_ge i z.cps.size with k | k
    · exact k
    · rw [Array.getElem?_eq_none k] at hb; cases hb
  refine ⟨hlt, ?_⟩
  rintro x H' ρ' Q ⟨rfl, c, hc, rfl⟩ hbd q
  rw [hc] at hb
  cases hb
  exact gPat_ok st (.str _) hbd fun σ' st' hw => q σ' _ _ Grow.refl st' hw
theorem ri_seq {f : Ev → Res D} (h : RE X W iter f) : RI X W tg iter (gPat X.K p) (bindP p) p.has (iSeq f) :=
  PI.conv (PI.or (pi_list h) (PI.or (pi_tup h) (pi_str h))) fun σ H Q ⟨ρ, Hd, O, R, st, t⟩ => by
    unfold iSeq at t
    cases q : f ρ with
    | ok d ρ1 =>
      rw [q] at t
      dsimp only [Res.bind] at t
      cases d with
      | list xs =>
        refine .inl ⟨ρ, Hd, O, R, st, ?_⟩
        rw [q]
        intro v H1 Hd1 g1 st1 r
        cases r with
        | list h r => exact ⟨_, rfl, ⟨_, (LsR.mono st1.sub h).sq⟩, t _ H1 Hd1 g1 st1 (src_list h r)⟩
      | tuple xs =>
        refine .inr (.inl ⟨ρ, Hd, O, R, st, ?_⟩)
        rw [q]
        intro v H1 Hd1 g1 st1 r
        cases r with
        | tuple h r => exact ⟨_, rfl, ⟨_, (TpR.mono st1.sub h).sq⟩, t _ H1 Hd1 g1 st1 (src_tup h r)⟩
      | str z =>
        refine .inr (.inr ⟨ρ, Hd, O, R, st, ?_⟩)
        rw [q]
        intro v H1 Hd1 g1 st1 r
        cases r with
        | str _ => exact ⟨_, rfl, t _ H1 Hd1 g1 st1 src_str⟩
      | none => exact t.elim
      | bool _ => exact t.elim
      | int _ => exact t.elim
      | dict _ => exact t.elim
    | exc c d ρ1 => rw [q] at t; exact .inl ⟨ρ, Hd, O, R, st, by rw [q]; exact t⟩
    | bad => rw [q] at t; exact t.elim
/-! ### ranges -/
def rangeD (n : Nat) : List D := (List.range n).map fun (i : Nat) => PyData.int (0 + (i : Int))
def iRng (f : Ev → Res D) : Ev → Res (List D) := fun ρ => (f ρ).bind fun d ρ1 => match d with
  | .int j => if j ≤ 1000000 ∧ -1000000 ≤ j then .ok (rangeD j.toNat) ρ1 else .bad
  | _ => .bad
theorem src_rng {K : Fg} {Hd : Hp} {n : Nat} : Src K (Itr 0 n) Hd (gPat K p) (rangeD n) (bindP p) p.has := by
  intro i σ H Hd' O R ρ s st
  refine ⟨fun hi => by rw [rangeD, List.length_map, List.length_range] at hi; exact hi, fun b hb => ?_⟩
  unfold rangeD at hb
  rw [List.getElem?_map] at hb
  have hlt : i < n := by
    rcases Nat.lt_or_ge i n with k | k
    · exact k
    · rw [List.getElem?_eq_none (by rw [List.length_range]; exact k)] at hb; cases hb
  rw [List.getElem?_range hlt] at hb
  cases hb
  refine ⟨hlt, ?_⟩
  rintro x H' ρ' Q ⟨rfl, rfl⟩ hbd q
  exact gPat_ok st (.int _) hbd fun σ' st' hw => q σ' _ _ Grow.refl st' hw
theorem ri_rng {a : Expr} {f : Ev → Res D} {pn pos : Pos} (hg : Gl X "range") (hm : X.mg "range" = none) (h : RE X W a f) (hs : starEach [a] X.env = [(false, eval a X.env)] := by rfl) : RI X W tg (.Call (.Name "range" pn) [a] [] pos) (gPat X.K p) (bindP p) p.has (iRng f) :=
  PI.conv (pi_range1 hg hm (pa_cons h pa_nil hs) hs) fun σ H Q ⟨ρ, Hd, O, R, st, t⟩ => ⟨ρ, Hd, O, R, st, (Post.bind (rel1 := RepX X) t).imp (by
    rintro v H1 ⟨d, Hd1, ρ1, g1, st1, r, p1⟩
    cases r with
    | int j =>
      dsimp only at p1
      split at p1
      · rename_i hj
        exact ⟨j, rfl, by omega, by omega, p1 _ H1 Hd1 Grow.refl st1 src_rng⟩
      · exact p1.elim
    | _ => exact p1.elim)⟩

/-! ### for -/
def forL {β : Type} (bd : β → Ev → Option Ev) (body : Ev → Res Fl) : List β → Ev → Res Fl
  | [], ρ => .ok .nx ρ
  | b :: bs, ρ => match bd b ρ with
    | none => .bad
    | some ρ1 => match body ρ1 with
      | .ok .nx ρ2 => forL bd body bs ρ2
      | .ok .ct ρ2 => forL bd body bs ρ2
      | .ok .bk ρ2 => .ok .nx ρ2
      | r => r
def sFor {β : Type} (fi : Ev → Res (List β)) (bd : β → Ev → Option Ev) (body : Ev → Res Fl) : Ev → Res Fl := fun ρ => sBind (fi ρ) fun items ρ1 => forL bd body items ρ1
theorem rs_for {β : Type} {g : TG} {bd : β → Ev → Option Ev} {own : Nat → Prop} {fi : Ev → Res (List β)} {body : List Stmt} {fb : Ev → Res Fl} {pos : Pos} (hp : PassesOwn (model X.prog X.w) X.A X.env X.xe) (hc : X.calm = true) (hi : RI X W tg iter g bd own fi) (hg : PG X tg g) (hb : RSs X W body fb)
    (hs : ∀ x, foldedSetIterable iter X.env x = pure x := by intro _; rfl) : RS X W (.For tg iter body [] pos) (sFor fi bd fb) :=
  PS.conv (ps_for hp hc hi hg hb hs) fun E σ H ⟨ρ, Hd, O, R, st, t⟩ => ⟨ρ, Hd, O, R, st, (PostS.bind (rel := fun _ Hd J items => Src X.K J Hd g items bd own) t).imp (by
    rintro J H1 ⟨items, Hd1, ρ1, g1, st1, src, p1⟩
    refine ⟨fun i m σ H => m = items.length - i ∧ i ≤ items.length ∧ ∃ ρi Hdi Oi, StR X.K σ H Hdi Oi R ρi ∧ Sub Hd1 Hdi ∧ PostS X W R H Hdi Oi (forL bd fb (items.drop i) ρi) E,
      ⟨items.length, rfl, Nat.zero_le _, ρ1, Hd1, O, st1, fun _ _ h => h, p1⟩, ?_⟩
    rintro i m σ H ⟨rfl, hi, ρi, Hdi, Oi, sti, sub, pi⟩
    obtain ⟨hstop, hgo⟩ := src i σ H Hdi Oi R ρi sub sti
    by_cases hlt : i < items.length
    · refine .inr ?_
      have hb := List.getElem?_eq_getElem hlt
      obtain ⟨go, yl⟩ := hgo _ hb
      rw [List.drop_eq_getElem_cons hlt] at pi
      unfold forL at pi
      refine ⟨go, fun σ' H' => ∃ ρ' Hd' O', StR X.K σ' H' Hd' O' R ρ' ∧ Sub Hd1 Hd' ∧ PostS X W R H' Hd' O' (forL bd fb (items.drop (i + 1)) ρ') E, fun σ' H' q => ⟨items.length - (i + 1), by omega, rfl, hlt, q⟩, fun x H' hy => ?_⟩
      cases hbd : bd items[i] ρi with
      | none => rw [hbd] at pi; exact pi.elim
      | some ρ' =>
        rw [hbd] at pi
        dsimp only at pi
        refine yl x H' ρ' _ hy hbd fun σ' H'' Hd'' gr st' hw => ⟨ρ', Hd'', Oi, R, st', ?_⟩
        have pi' := PostS.from pi gr (O1 := Oi) fun _ h => .inl h
        have sub2 : Sub Hd1 Hd'' := fun a o h => gr.sub a o (sub a o h)
        revert pi'
        cases fb ρ' with
        | ok fl ρ2 =>
          cases fl with
          | nx => exact fun pi' σ3 H3 Hd3 O3 g3 h3 st3 => ⟨ρ2, Hd3, O3, st3, fun a o h => g3.sub a o (sub2 a o h), PostS.from pi' g3 h3⟩
          | ct => exact fun pi' σ3 H3 Hd3 O3 g3 h3 st3 => ⟨ρ2, Hd3, O3, st3, fun a o h => g3.sub a o (sub2 a o h), PostS.from pi' g3 h3⟩
          | bk => exact fun pi' σ3 H3 Hd3 O3 g3 h3 st3 => pi' σ3 H3 Hd3 O3 g3 h3 st3
          | rt d => exact fun pi' => pi'
          | rf ds => exact fun pi' => pi'
        | exc c d ρ2 => exact fun pi' => pi'
        | bad => exact fun pi' => pi'
    · have e : i = items.length := by omega
      subst e
      rw [List.drop_length] at pi
      exact .inl ⟨hstop (Nat.le_refl _), pi σ H Hdi Oi Grow.refl (fun _ h => .inl h) sti⟩)⟩
end
end AH

/-! AH9: list comprehensions -/
namespace AH
open PySem PySem.Spec PyProof.Rows L2
abbrev W0 : WX := fun _ _ _ _ => False
def wipeE (ρ : Ev) : List Nat → Ev
  | [] => ρ
  | v :: vs => (wipeE ρ vs).set v .none
def clean : Option Slot → Slot
  | some (.val d) => .val d
  | _ => .none
def restoreE (ρ1 ρ2 : Ev) : List Nat → Ev
  | [] => ρ2
  | v :: vs => (restoreE ρ1 ρ2 vs).set v (clean ρ1[v]?)
theorem wipeE_len (ρ : Ev) : ∀ vs, (wipeE ρ vs).length = ρ.length
  | [] => rfl
  | v :: vs => by unfold wipeE; rw [List.length_set, wipeE_len ρ vs]
theorem wipeE_get (ρ : Ev) : ∀ (vs : List Nat) (j : Nat), (wipeE ρ vs)[j]? = if j ∈ vs then (ρ[j]?).map (fun _ => Slot.none) else ρ[j]?
  | [], j => by simp [wipeE]
  | v :: vs, j => by
    unfold wipeE
    by_cases e : v = j
    · subst e
      rw [List.getElem?_set]
      simp only [if_true, wipeE_len, List.mem_cons, true_or]
      by_cases h : v < ρ.length
      · rw [if_pos h, List.getElem?_eq_getElem h]; rfl
      · rw [if_neg h, List.getElem?_eq_none (by omega)]; rfl
    · rw [List.getElem?_set_ne e, wipeE_get ρ vs j]
      have : (j ∈ v :: vs) ↔ j ∈ vs := by simp [Ne.symm e]
      by_cases h : j ∈ vs
      · rw [if_pos h, if_pos (this.mpr h)]
      · rw [if_neg h, if_neg (fun z => h (this.mp z))]
theorem restoreE_len (ρ1 ρ2 : Ev) : ∀ vs, (restoreE ρ1 ρ2 vs).length = ρ2.length
  | [] => rfl
  | v :: vs => by unfold restoreE; rw [List.length_set, restoreE_len ρ1 ρ2 vs]
theorem restoreE_get (ρ1 ρ2 : Ev) : ∀ (vs : List Nat) (j : Nat), (restoreE ρ1 ρ2 vs)[j]? = if j ∈ vs then (ρ2[j]?).map (fun _ => clean ρ1[j]?) else ρ2[j]?
  | [], j => by simp [restoreE]
  | v :: vs, j => by
    unfold restoreE
    by_cases e : v = j
    · subst e
      rw [List.getElem?_set]
      simp only [if_true, restoreE_len, List.mem_cons, true_or]
      by_cases h : v < ρ2.length
      · rw [if_pos h, List.getElem?_eq_getElem (l := ρ2) h]; rfl
      · rw [if_neg h, List.getElem?_eq_none (l := ρ2) (by omega)]; rfl
    · rw [List.getElem?_set_ne e, restoreE_get ρ1 ρ2 vs j]
      have : (j ∈ v :: vs) ↔ j ∈ vs := by simp [Ne.symm e]
      by_cases h : j ∈ vs
      · rw [if_pos h, if_pos (this.mpr h)]
      · rw [if_neg h, if_neg (fun z => h (this.mp z))]
section
variable {K : Fg} {H Hd H' Hd' : Hp} {O : List Addr} {R : Nat → Option Addr} {σ : St}
theorem StR.wipe {ρ : Ev} (st : StR K σ H Hd O R ρ) (vs : List Nat) : StR K (L2.wipe σ vs) H Hd O R (wipeE ρ vs) := by
  have held : ∀ {i : Nat}, Held (wipeE ρ vs) i → i ∉ vs ∧ Held ρ i := by
    rintro i ⟨ds, h⟩
    rw [wipeE_get] at h
    by_cases hi : i ∈ vs
    · rw [if_pos hi] at h
      cases q : ρ[i]? with
      | none => rw [q] at h; rcases h with h | h <;> cases h
      | some x => rw [q] at h; rcases h with h | h <;> cases h
    · rw [if_neg hi] at h; exact ⟨hi, ds, h⟩
  refine ⟨st.sub, by rw [wipe_length, wipeE_len]; exact st.len, fun i x h => ?_, fun i j a hi hj e1 e2 => ?_, st.dom⟩
  · rw [wipeE_get] at h
    by_cases hi : i ∈ vs
    · rw [if_pos hi] at h
      cases q : ρ[i]? with
      | none => rw [q] at h; cases h
      | some y =>
        rw [q] at h
        cases h
        obtain ⟨o, e, _⟩ := st.sl i y q
        exact ⟨none, by rw [wipe_get, if_pos hi, e]; rfl, trivial⟩
    · rw [if_neg hi] at h
      obtain ⟨o, e, r⟩ := st.sl i x h
      exact ⟨o, by rw [wipe_get, if_neg hi]; exact e, r⟩
  · obtain ⟨n1, h1⟩ := held hi
    obtain ⟨n2, h2⟩ := held hj
    rw [wipe_get, if_neg n1] at e1
    rw [wipe_get, if_neg n2] at e2
    exact st.inj i j a h1 h2 e1 e2
theorem StR.restore {ρ1 ρ2 : Ev} {vs : List Nat} (st1 : StR K σ H Hd O R ρ1) (st2 : StR K (L2.wipe σ vs) H' Hd' O R ρ2) (s : Sub Hd Hd') : StR K σ H' Hd' O R (restoreE ρ1 ρ2 vs) := by
  have held : ∀ {i : Nat}, Held (restoreE ρ1 ρ2 vs) i → i ∉ vs ∧ Held ρ2 i := by
    rintro i ⟨ds, h⟩
    rw [restoreE_get] at h
    by_cases hi : i ∈ vs
    · rw [if_pos hi] at h
      exfalso
      cases q : ρ2[i]? with
      | none => rw [q] at h; rcases h with h | h <;> cases h
      | some x =>
        rw [q] at h
        cases q1 : ρ1[i]? with
        | none => rw [q1] at h; rcases h with h | h <;> cases h
        | some y => rw [q1] at h; cases y <;> (rcases h with h | h <;> cases h)
    · rw [if_neg hi] at h; exact ⟨hi, ds, h⟩
  have l2 : σ.length = ρ2.length := by rw [← st2.len, wipe_length]
  refine ⟨st2.sub, by rw [restoreE_len]; exact l2, fun i x h => ?_, fun i j a hi hj e1 e2 => ?_, st2.dom⟩
  · rw [restoreE_get] at h
    by_cases hi : i ∈ vs
    · rw [if_pos hi] at h
      cases q : ρ2[i]? with
      | none => rw [q] at h; cases h
      | some y =>
        rw [q] at h
        cases h
        have li : i < ρ1.length := by
          rw [← st1.len, l2]
          rcases Nat.lt_or_ge i ρ2.length with k | k
          · exact k
          · rw [List.getElem?_eq_none k] at q; cases q
        have q1 := List.getElem?_eq_getElem li
        obtain ⟨o, e, r⟩ := st1.sl i _ q1
        refine ⟨o, e, ?_⟩
        rw [q1]
        generalize ρ1[i] = z at r
        cases z with
        | val d => obtain ⟨v, e1, e2⟩ := r; exact ⟨v, e1, e2.mono s⟩
        | _ => trivial
    · rw [if_neg hi] at h
      obtain ⟨o, e, r⟩ := st2.sl i x h
      rw [wipe_get, if_neg hi] at e
      exact ⟨o, e, r⟩
  · obtain ⟨n1, h1⟩ := held hi
    obtain ⟨n2, h2⟩ := held hj
    refine st2.inj i j a h1 h2 ?_ ?_
    · rw [wipe_get, if_neg n1]; exact e1
    · rw [wipe_get, if_neg n2]; exact e2
theorem neO {a p : Addr} {O : List Addr} (h : a ∈ O) (h2 : p ∉ O) : a ≠ p := fun z => h2 (by rw [← z]; exact h)
/-- a list that is neither data nor in a slot is written -/
theorem StR.aside {ρ : Ev} {p : Addr} {o : HO} (st : StR K σ H Hd O R ρ) (h1 : Hd p = none) (h2 : p ∉ O) : StR K σ (upd H p o) Hd O R ρ := by
  refine ⟨fun a x h => ?_, st.len, fun i x h => ?_, st.inj, fun a ha => ?_⟩
  · have : a ≠ p := fun z => by rw [z, h1] at h; cases h
    rw [upd_ne this]; exact st.sub a x h
  · obtain ⟨w, e, r⟩ := st.sl i x h
    refine ⟨w, e, ?_⟩
    cases x with
    | none => trivial
    | val d => exact r
    | own ds => obtain ⟨a, vs, e1, e2, e3, e4, e5⟩ := r; exact ⟨a, vs, e1, e2, e3, by rw [upd_ne (neO e2 h2)]; exact e4, e5⟩
    | ref ds => obtain ⟨a, vs, e1, e2, e3, e4, e5⟩ := r; exact ⟨a, vs, e1, e2, e3, by rw [upd_ne (neO e2 h2)]; exact e4, e5⟩
  · obtain ⟨x, e⟩ := st.dom a ha
    have : a ≠ p := neO ha h2
    exact ⟨x, by rw [upd_ne this]; exact e⟩
/-- .. becomes data -/
theorem StR.adopt {ρ : Ev} {p : Addr} {o : HO} (st : StR K σ H Hd O R ρ) (h1 : Hd p = none) (h2 : p ∉ O) (h3 : H p = some o) : StR K σ H (upd Hd p o) O R ρ := by
  have sd : Sub Hd (upd Hd p o) := fun a x h => by
    have : a ≠ p := fun z => by rw [z, h1] at h; cases h
    rw [upd_ne this]; exact h
  refine ⟨fun a x h => ?_, st.len, fun i x h => ?_, st.inj, st.dom⟩
  · by_cases e : a = p
    · subst e; rw [upd_same] at h; cases h; exact h3
    · rw [upd_ne e] at h; exact st.sub a x h
  · obtain ⟨w, e, r⟩ := st.sl i x h
    refine ⟨w, e, ?_⟩
    cases x with
    | none => trivial
    | val d => obtain ⟨v, e1, e2⟩ := r; exact ⟨v, e1, e2.mono sd⟩
    | own ds => obtain ⟨a, vs, e1, e2, e3, e4, e5⟩ := r; exact ⟨a, vs, e1, e2, by rw [upd_ne (neO e2 h2)]; exact e3, e4, e5.mono sd⟩
    | ref ds => obtain ⟨a, vs, e1, e2, e3, e4, e5, e6⟩ := r; exact ⟨a, vs, e1, e2, by rw [upd_ne (neO e2 h2)]; exact e3, e4, e5.mono sd, e6⟩
end

/-! ### the block's loop -/
def compL {β : Type} (bd : β → Ev → Option Ev) (c : Ev → Res Bool) (f : Ev → Res D) (vs : List Nat) : List β → Ev → Res (List D)
  | [], ρ => .ok [] ρ
  | b :: bs, ρ => match bd b ρ with
    | none => .bad
    | some ρ1 => match c ρ1 with
      | .ok true ρ2 => (match f ρ2 with
        | .ok d ρ3 => (compL bd c f vs bs (wipeE ρ3 vs)).bind fun ds ρ4 => .ok (d :: ds) ρ4
        | _ => .bad)
      | .ok false ρ2 => compL bd c f vs bs (wipeE ρ2 vs)
      | _ => .bad
def fComp {β : Type} (fi : Ev → Res (List β)) (bd : β → Ev → Option Ev) (c : Ev → Res Bool) (f : Ev → Res D) (vs : List Nat) : Ev → Res (List D) := fun ρ =>
  (fi ρ).bind fun items ρ1 => (compL bd c f vs items (wipeE ρ1 vs)).bind fun ds ρ2 => lift (okLen ds) (restoreE ρ1 ρ2 vs)
def eComp {β : Type} (fi : Ev → Res (List β)) (bd : β → Ev → Option Ev) (c : Ev → Res Bool) (f : Ev → Res D) (vs : List Nat) : Ev → Res D := fun ρ =>
  (fComp fi bd c f vs ρ).bind fun ds ρ1 => .ok (.list ds) ρ1
theorem compL_noexc {β : Type} {bd : β → Ev → Option Ev} {c : Ev → Res Bool} {f : Ev → Res D} {vs : List Nat} : ∀ {items : List β} {ρ ρ' : Ev} {x : Str} {d : D}, compL bd c f vs items ρ ≠ .exc x d ρ'
  | [], _, _, _, _ => fun h => nomatch h
  | b :: bs, ρ, ρ', x, d => fun h => by
    unfold compL at h
    split at h
    · cases h
    · split at h
      · split at h
        · rename_i d1 ρ3 _
          cases q : compL bd c f vs bs (wipeE ρ3 vs) with
          | ok ds ρ4 => rw [q] at h; cases h
          | exc x1 d2 ρ4 => exact compL_noexc q
          | bad => rw [q] at h; cases h
        · cases h
      · exact compL_noexc h
      · cases h
def cTrue : Ev → Res Bool := fun ρ => .ok true ρ
def RTs (X : Cx) (ifs : List Expr) (c : Ev → Res Bool) : Prop := PTs X ifs (tT X W0 c)
section
variable {X : Cx} {W : WX} {tg iter elt : Expr}
theorem rts_nil : RTs X [] cTrue := ⟨fun pins s σ H Q I t => pts_nil.run pins s σ H Q I (by
  obtain ⟨ρ, Hd, O, R, st, p⟩ := t
  exact p true H Hd Grow.refl st rfl)⟩
theorem rts_one {e : Expr} {c : Ev → Res Bool} (h : RT X W0 e c) : RTs X [e] c := pts_one h
/-- the comprehension's reading, from its mirror; fin tells what the new list at p is good for -/
theorem compStep {β : Type} {bd : β → Ev → Option Ev} {own : Nat → Prop} {g : TG} {fi : Ev → Res (List β)} {c : Ev → Res Bool} {f : Ev → Res D} {vs : List Nat} {σ : St} {H : Hp} {Q : VK} {ρ : Ev} {Hd : Hp} {O : List Addr} {R : Nat → Option Addr}
    (hown : ∀ i, own i → i ∈ vs) (st : StR X.K σ H Hd O R ρ)
    (p : Post X W (RelF X.K H) σ H Hd O R (fComp fi bd c f vs ρ) Q) :
    tLc (Tr X W (fun _ Hd J items => Src X.K J Hd g items bd own) fi) g (tT X W0 c) (tE X W0 f) vs σ H Q := by
  refine ⟨ρ, Hd, O, R, st, ?_⟩
  unfold fComp at p
  revert p
  cases fi ρ with
  | exc cc d ρ' => exact fun p => p
  | bad => exact fun p => p
  | ok items ρ1 =>
    intro p J H1 Hd1 g1 st1 src Dp hD
    have hDd : Hd1 Dp = none := by
      cases q : Hd1 Dp with
      | none => rfl
      | some o => rw [st1.sub Dp o q] at hD; cases hD
    have hDO : Dp ∉ O := fun ha => by
      obtain ⟨o, e⟩ := st1.dom Dp ha
      rw [hD] at e; cases e
    have p : Post X W (RelF X.K H) σ H Hd O R ((compL bd c f vs items (wipeE ρ1 vs)).bind fun ds ρ2 => lift (okLen ds) (restoreE ρ1 ρ2 vs)) Q := p
    -- the invariant
    refine ⟨fun i m H2 => m = items.length - i ∧ i ≤ items.length ∧ ∃ ρi Hdi accV accD, StR X.K (wipe σ vs) H2 Hdi O R ρi ∧ Grow O H1 Hd1 H2 Hdi ∧ H2 Dp = some (.lst accV) ∧ Hdi Dp = none ∧ RepL X.K Hdi accV accD ∧ accD.length ≤ i ∧ wipeE ρi vs = ρi ∧
        Post X W (RelF X.K H) σ H Hd O R ((compL bd c f vs (items.drop i) ρi).bind fun ds ρ2 => lift (okLen (accD ++ ds)) (restoreE ρ1 ρ2 vs)) Q, ⟨items.length, rfl, Nat.zero_le _, wipeE ρ1 vs, Hd1, [], [], ?_, ?_, upd_same, hDd, .nil, Nat.le_refl _, ?_, p⟩, ?_⟩
    · exact (st1.wipe vs).aside hDd hDO
    · exact Grow.laid1 hD
    · apply List.ext_getElem?
      intro j
      rw [wipeE_get]
      by_cases hj : j ∈ vs
      · rw [if_pos hj, wipeE_get, if_pos hj]; cases ρ1[j]? <;> rfl
      · rw [if_neg hj]
    · rintro i m H2 ⟨rfl, hi, ρi, Hdi, accV, accD, sti, gri, hL, hLd, rl, hacc, hwi, pi⟩
      obtain ⟨hstop, hgo⟩ := src i (wipe σ vs) H2 Hdi O R ρi gri.sub sti
      by_cases hlt : i < items.length
      · refine .inr ?_
        obtain ⟨go, yl⟩ := hgo _ (List.getElem?_eq_getElem hlt)
        rw [List.drop_eq_getElem_cons hlt] at pi
        unfold compL at pi
        refine ⟨go, fun H3 => ∃ ρi Hdi accV accD, StR X.K (wipe σ vs) H3 Hdi O R ρi ∧ Grow O H1 Hd1 H3 Hdi ∧ H3 Dp = some (.lst accV) ∧ Hdi Dp = none ∧ RepL X.K Hdi accV accD ∧ accD.length ≤ i + 1 ∧ wipeE ρi vs = ρi ∧
          Post X W (RelF X.K H) σ H Hd O R ((compL bd c f vs (items.drop (i + 1)) ρi).bind fun ds ρ2 => lift (okLen (accD ++ ds)) (restoreE ρ1 ρ2 vs)) Q, fun H3 q => ⟨items.length - (i + 1), by omega, rfl, hlt, q⟩, fun x H3 hy => ?_⟩
        -- the slots of the block are wiped
        have wiped : ∀ ρ : Ev, wipeE (wipeE ρ vs) vs = wipeE ρ vs := fun ρ => by
          apply List.ext_getElem?
          intro j
          rw [wipeE_get]
          by_cases hj : j ∈ vs
          · rw [if_pos hj, wipeE_get, if_pos hj]; cases ρ[j]? <;> rfl
          · rw [if_neg hj]
        -- the new list is not touched by a piece of the block
        have keepL : ∀ {Ha Hda Hb Hdb : Hp} {w : List V}, Grow O Ha Hda Hb Hdb → Ha Dp = some (.lst w) → Hda Dp = none → Hb Dp = some (.lst w) ∧ Hdb Dp = none := by
          intro Ha Hda Hb Hdb w gr k1 k2
          refine ⟨gr.keep Dp _ k1 hDO, ?_⟩
          cases q : Hdb Dp with
          | none => rfl
          | some o =>
            rcases gr.new Dp o q with z | z | z
            · rw [k2] at z; cases z
            · rw [k1] at z; cases z
            · exact absurd z hDO
        cases hbd : bd items[i] ρi with
        | none => rw [hbd] at pi; exact pi.elim
        | some ρa =>
          rw [hbd] at pi
          dsimp only at pi
          refine yl x H3 ρa _ hy hbd fun σ' H4 Hd4 gr4 st4 hw => ⟨?_, ?_⟩
          · have := hw vs hown
            rw [this]
            apply List.ext_getElem?
            intro j
            rw [wipe_get]
            by_cases hj : j ∈ vs
            · rw [if_pos hj, wipe_get, if_pos hj]; cases σ[j]? <;> rfl
            · rw [if_neg hj]
          · have hwσ : wipe σ' vs = wipe σ vs := by
              rw [hw vs hown]
              apply List.ext_getElem?
              intro j
              rw [wipe_get]
              by_cases hj : j ∈ vs
              · rw [if_pos hj, wipe_get, if_pos hj]; cases σ[j]? <;> rfl
              · rw [if_neg hj]
            obtain ⟨k1, k2⟩ := keepL gr4 hL hLd
            refine ⟨ρa, Hd4, O, R, st4, ?_⟩
            revert pi
            cases c ρa with
            | exc _ _ _ => intro pi; exact pi.elim
            | bad => intro pi; exact pi.elim
            | ok t ρb =>
              cases t with
              | false =>
                rintro pi b H5 Hd5 gr5 st5 rfl
                rw [if_neg (by decide)]
                obtain ⟨k3, k4⟩ := keepL gr5 k1 k2
                have st6 := st5.wipe vs
                rw [hwσ] at st6
                exact ⟨wipeE ρb vs, Hd5, accV, accD, st6, (gri.trans1 gr4).trans1 gr5, k3, k4, (rl.mono gr4.sub).mono gr5.sub, by omega, wiped ρb, pi⟩
              | true =>
                rintro pi b H5 Hd5 gr5 st5 rfl
                rw [if_pos rfl]
                obtain ⟨k3, k4⟩ := keepL gr5 k1 k2
                refine ⟨ρb, Hd5, O, R, st5, ?_⟩
                revert pi
                dsimp only
                cases f ρb with
                | exc _ _ _ => intro pi; exact pi.elim
                | bad => intro pi; exact pi.elim
                | ok d ρc =>
                  intro pi y H6 Hd6 gr6 st6 ry
                  obtain ⟨k5, k6⟩ := keepL gr6 k3 k4
                  have rl6 : RepL X.K Hd6 accV accD := ((rl.mono gr4.sub).mono gr5.sub).mono gr6.sub
                  have lenA : accV.length ≤ i := by rw [rl6.length]; exact hacc
                  have st7 := st6.wipe vs
                  rw [hwσ] at st7
                  -- the list stays short: otherwise the mirror is bad
                  have pi2 : Post X W (RelF X.K H) σ H Hd O R ((compL bd c f vs (items.drop (i + 1)) (wipeE ρc vs)).bind fun ds ρ2 => lift (okLen ((accD ++ [d]) ++ ds)) (restoreE ρ1 ρ2 vs)) Q := by
                    have e : (((compL bd c f vs (items.drop (i + 1)) (wipeE ρc vs)).bind fun ds ρ4 => Res.ok (d :: ds) ρ4).bind fun ds ρ2 => lift (okLen (accD ++ ds)) (restoreE ρ1 ρ2 vs)) = ((compL bd c f vs (items.drop (i + 1)) (wipeE ρc vs)).bind fun ds ρ2 => lift (okLen ((accD ++ [d]) ++ ds)) (restoreE ρ1 ρ2 vs)) := by
                      cases compL bd c f vs (items.drop (i + 1)) (wipeE ρc vs) with
                      | ok ds ρ4 => simp [Res.bind]
                      | exc _ _ _ => rfl
                      | bad => rfl
                    rw [← e]
                    exact pi
                  have short : accD.length + 1 ≤ lid := by
                    revert pi2
                    cases hq : compL bd c f vs (items.drop (i + 1)) (wipeE ρc vs) with
                    | ok ds ρ4 =>
                      intro pi2
                      rcases Nat.lt_or_ge lid (accD.length + 1) with k | k
                      · have : okLen ((accD ++ [d]) ++ ds) = none := by
                          unfold okLen
                          rw [if_neg (by simp only [List.length_append, List.length_cons, List.length_nil]; omega)]
                        dsimp only [Res.bind] at pi2
                        rw [this] at pi2
                        exact pi2.elim
                      · exact k
                    | exc x1 d1 ρ4 => exact absurd hq compL_noexc
                    | bad => intro pi2; exact pi2.elim
                  refine ⟨accV, k5, by have := lid_line; rw [rl6.length]; omega, wipeE ρc vs, Hd6, accV ++ [y], accD ++ [d], st7.aside k6 hDO, ?_, upd_same, k6, rl6.append (.cons ry .nil), by simp only [List.length_append, List.length_cons, List.length_nil]; omega, wiped ρc, pi2⟩
                  have gg := ((gri.trans1 gr4).trans1 gr5).trans1 gr6
                  refine ⟨gg.sub, gg.new, fun a o h hn => ?_, fun a o h => ?_⟩
                  · have : a ≠ Dp := fun z => by rw [z, hD] at h; cases h
                    rw [upd_ne this]; exact gg.keep a o h hn
                  · have : a ≠ Dp := fun z => by rw [z, hD] at h; cases h
                    obtain ⟨o', e⟩ := gg.dom a o h
                    exact ⟨o', by rw [upd_ne this]; exact e⟩
      · have e : i = items.length := by omega
        subst e
        rw [List.drop_length] at pi
        refine .inl ⟨hstop (Nat.le_refl _), ?_⟩
        have pi : Post X W (RelF X.K H) σ H Hd O R (lift (okLen (accD ++ [])) (restoreE ρ1 ρi vs)) Q := pi
        rw [List.append_nil] at pi
        unfold okLen at pi
        split at pi
        · exact pi (.ref Dp) H2 Hdi (g1.trans1 gri) (st1.restore sti gri.sub) ⟨Dp, accV, rfl, g1.free hD, hL, hLd, rl⟩
        · exact pi.elim
/-- a fresh list becomes data -/
theorem Post.frozen {r : Res (List D)} {σ : St} {H Hd : Hp} {O : List Addr} {R : Nat → Option Addr} {Q : VK} {ρ : Ev} (st : StR X.K σ H Hd O R ρ) (p : Post X W (RepX X) σ H Hd O R (r.bind fun ds ρ1 => .ok (.list ds) ρ1) Q) : Post X W (RelF X.K H) σ H Hd O R r Q := by
  cases r with
  | exc c d ρ1 => exact p
  | bad => exact p
  | ok ds ρ1 =>
    rintro v H1 Hd1 g1 st1 ⟨a, vs, rfl, h0, h1, h2, r⟩
    have ha : a ∉ O := fun z => by
      obtain ⟨o, e⟩ := st.dom a z
      rw [h0] at e; cases e
    have sd : Sub Hd1 (upd Hd1 a (.lst vs)) := fun b o h => by
      have : b ≠ a := fun z => by rw [z, h2] at h; cases h
      rw [upd_ne this]; exact h
    refine p (.ref a) H1 (upd Hd1 a (.lst vs)) ⟨fun b o h => sd b o (g1.sub b o h), fun b o h => ?_, g1.keep, g1.dom⟩ (st1.adopt h2 ha h1) (.list (.inl (.inl upd_same)) (r.mono sd))
    by_cases e : b = a
    · subst e; exact .inr (.inl h0)
    · rw [upd_ne e] at h; exact g1.new b o h
/-- any fresh list as data -/
theorem RF.data {e : Expr} {f : Ev → Res (List D)} (h : RF X W e f) : RE X W e (fun ρ => (f ρ).bind fun ds ρ1 => .ok (.list ds) ρ1) :=
  PE.conv h fun σ H Q ⟨ρ, Hd, O, R, st, p⟩ => ⟨ρ, Hd, O, R, st, Post.frozen st p⟩
variable {β : Type} {bd : β → Ev → Option Ev} {own : Nat → Prop} {g : TG} {fi : Ev → Res (List β)} {c : Ev → Res Bool} {f : Ev → Res D} {ifs : List Expr} {scope : Scope} {owns : List (Str × Nat)} {pos : Pos}
/-- [elt for tg in iter if ..] as a fresh list -/
theorem rf_comp (hc : X.calm = true) (hN : X.N.Nodup) (hi : RI X W tg iter g bd own fi) (ok : BlkOk X.N X.env.scope scope owns) (hown : ∀ i, own i → i ∈ owns.map (·.2))
    (hg : ∀ (s : Shared) (H : Hp) (C : Addr) (cl : List (Str × Addr)) (fp : List Addr), PG (X.blk s H scope (compEnvC scope cl C X.env) fp) tg g)
    (ht : ∀ (s : Shared) (H : Hp) (C : Addr) (cl : List (Str × Addr)) (fp : List Addr), RTs (X.blk s H scope (compEnvC scope cl C X.env) fp) ifs c)
    (he : ∀ (s : Shared) (H : Hp) (C : Addr) (cl : List (Str × Addr)) (fp : List Addr), RE (X.blk s H scope (compEnvC scope cl C X.env) fp) W0 elt f) (hs : ∀ x, foldedSetIterable iter X.env x = pure x := by intro _; rfl) :
    RF X W (.ListComp elt [⟨tg, iter, ifs, 0⟩] scope pos) (fComp fi bd c f (owns.map (·.2))) :=
  PE.conv (pe_lc (tt := tT X W0 c) (te := tE X W0 f) hc hN hi ok hg ht he hs) fun σ H Q ⟨ρ, Hd, O, R, st, p⟩ => compStep hown st p
theorem re_comp (hc : X.calm = true) (hN : X.N.Nodup) (hi : RI X W tg iter g bd own fi) (ok : BlkOk X.N X.env.scope scope owns) (hown : ∀ i, own i → i ∈ owns.map (·.2))
    (hg : ∀ (s : Shared) (H : Hp) (C : Addr) (cl : List (Str × Addr)) (fp : List Addr), PG (X.blk s H scope (compEnvC scope cl C X.env) fp) tg g)
    (ht : ∀ (s : Shared) (H : Hp) (C : Addr) (cl : List (Str × Addr)) (fp : List Addr), RTs (X.blk s H scope (compEnvC scope cl C X.env) fp) ifs c)
    (he : ∀ (s : Shared) (H : Hp) (C : Addr) (cl : List (Str × Addr)) (fp : List Addr), RE (X.blk s H scope (compEnvC scope cl C X.env) fp) W0 elt f) (hs : ∀ x, foldedSetIterable iter X.env x = pure x := by intro _; rfl) :
    RE X W (.ListComp elt [⟨tg, iter, ifs, 0⟩] scope pos) (eComp fi bd c f (owns.map (·.2))) := (rf_comp hc hN hi ok hown hg ht he hs).data
/-- name = [..] on one line -/
theorem rs_setC {i : Nat} {y : Str} {py spos : Pos} (hc : X.calm = true) (hN : X.N.Nodup) (hy : X.N[i]? = some y) (hyl : X.env.scope.names.lookup y = some .local)
    (hsw : swapsWith (.ListComp elt [⟨tg, iter, ifs, 0⟩] scope pos) (some (.Name y py)) spos.line X.env = pure true) (hi : RI X W tg iter g bd own fi) (ok : BlkOk X.N X.env.scope scope owns) (hown : ∀ i, own i → i ∈ owns.map (·.2))
    (hg : ∀ (s : Shared) (H : Hp) (C : Addr) (cl : List (Str × Addr)) (fp : List Addr), PG (X.blk s H scope (compEnvC scope cl C X.env) fp) tg g)
    (ht : ∀ (s : Shared) (H : Hp) (C : Addr) (cl : List (Str × Addr)) (fp : List Addr), RTs (X.blk s H scope (compEnvC scope cl C X.env) fp) ifs c)
    (he : ∀ (s : Shared) (H : Hp) (C : Addr) (cl : List (Str × Addr)) (fp : List Addr), RE (X.blk s H scope (compEnvC scope cl C X.env) fp) W0 elt f) (hs : ∀ x, foldedSetIterable iter X.env x = pure x := by intro _; rfl) :
    RS X W (.Assign [.Name y py] (.ListComp elt [⟨tg, iter, ifs, 0⟩] scope pos) spos) (sSet (.v i) (eComp fi bd c f (owns.map (·.2)))) :=
  PS.conv (ps_setLc (tt := tT X W0 c) (te := tE X W0 f) hc hN hy hyl hsw hi ok hg ht he hs) fun E σ H ⟨ρ, Hd, O, R, st, p⟩ => by
    have q : Post X W (RepX X) σ H Hd O R (eComp fi bd c f (owns.map (·.2)) ρ) (fun v H1 => gName i v σ H1 E.nx) := (PostS.bind (rel := RepX X) p).imp (by
      rintro v H1 ⟨d, Hd1, ρ1, g1, st1, r, p1⟩
      split at p1
      · rename_i ρ2 e2
        exact p1 _ H1 Hd1 O Grow.refl (fun _ h => .inl h) (putV_ok' st1 e2 r)
      · exact p1.elim)
    exact compStep hown st (Post.frozen st q)
theorem rs_ownC {i : Nat} {y : Str} {py spos : Pos} (hc : X.calm = true) (hN : X.N.Nodup) (hy : X.N[i]? = some y) (hyl : X.env.scope.names.lookup y = some .local)
    (hsw : swapsWith (.ListComp elt [⟨tg, iter, ifs, 0⟩] scope pos) (some (.Name y py)) spos.line X.env = pure true) (hi : RI X W tg iter g bd own fi) (ok : BlkOk X.N X.env.scope scope owns) (hown : ∀ i, own i → i ∈ owns.map (·.2))
    (hg : ∀ (s : Shared) (H : Hp) (C : Addr) (cl : List (Str × Addr)) (fp : List Addr), PG (X.blk s H scope (compEnvC scope cl C X.env) fp) tg g)
    (ht : ∀ (s : Shared) (H : Hp) (C : Addr) (cl : List (Str × Addr)) (fp : List Addr), RTs (X.blk s H scope (compEnvC scope cl C X.env) fp) ifs c)
    (he : ∀ (s : Shared) (H : Hp) (C : Addr) (cl : List (Str × Addr)) (fp : List Addr), RE (X.blk s H scope (compEnvC scope cl C X.env) fp) W0 elt f) (hs : ∀ x, foldedSetIterable iter X.env x = pure x := by intro _; rfl) :
    RS X W (.Assign [.Name y py] (.ListComp elt [⟨tg, iter, ifs, 0⟩] scope pos) spos) (sOwn i (fComp fi bd c f (owns.map (·.2)))) :=
  PS.conv (ps_setLc (tt := tT X W0 c) (te := tE X W0 f) hc hN hy hyl hsw hi ok hg ht he hs) fun E σ H t => by
    obtain ⟨ρ, Hd, O, R, st, p⟩ := ownStep t
    exact compStep hown st p
end
end AH

/-! AHA: slices, isinstance, max, min, places, freezing, zip, stores of two -/
namespace AH
open PySem PySem.Spec PyProof.Rows L2
section
variable {X : Cx} {W : WX} {a b : Expr} {f g : Ev → Res D} {pos : Pos}
/-! ### slices -/
def pNo : Ev → Res (Option Int) := fun ρ => .ok none ρ
def pSome (f : Ev → Res D) : Ev → Res (Option Int) := fun ρ => (f ρ).bind fun d ρ1 => match d with | .int i => .ok (some i) ρ1 | _ => .bad
def RP (X : Cx) (W : WX) (e : Option Expr) (f : Ev → Res (Option Int)) : Prop := PO X e (Tr X W (fun _ _ o o' => o = o') f)
theorem PO.conv {e : Option Expr} {t t' : TO} (h : PO X e t) (c : ∀ σ H Q, t' σ H Q → t σ H Q) : PO X e t' := ⟨fun pins s σ H Q I q => h.run pins s σ H Q I (c σ H Q q)⟩
theorem rp_no : RP X W none pNo := PO.conv po_none fun σ H Q ⟨ρ, Hd, O, R, st, p⟩ => p none H Hd Grow.refl st rfl
theorem rp_some (h : RE X W a f) : RP X W (some a) (pSome f) := PO.conv (po_some h) fun σ H Q ⟨ρ, Hd, O, R, st, p⟩ => ⟨ρ, Hd, O, R, st, (Post.bind (rel1 := RepX X) p).imp (by
  rintro v H1 ⟨d, Hd1, ρ1, g1, st1, r, p1⟩
  cases r with
  | int i => exact ⟨i, rfl, p1 (some i) H1 Hd1 Grow.refl st1 rfl⟩
  | _ => exact p1.elim)⟩
def cutD (xs : List D) (lo hi : Option Int) : List D := (xs.drop (HT.sIx xs.length 0 lo)).take (HT.sIx xs.length xs.length hi - HT.sIx xs.length 0 lo)
theorem cutD_rep {K : Fg} {H : Hp} {vs : List V} {ds : List D} {lo hi : Option Int} (r : RepL K H vs ds) : RepL K H (cutV vs lo hi) (cutD ds lo hi) := by
  unfold cutV cutD
  rw [r.length]
  exact (r.drop _).take _
def slD : D → Option Int → Option Int → Option D
  | .list xs, lo, hi => some (.list (cutD xs lo hi))
  | .tuple xs, lo, hi => some (.tuple (cutD xs lo hi))
  | .str z, lo, hi => if z.length ≤ lid then some (.str (cutS z lo hi)) else none
  | _, _, _ => none
def eSl (f : Ev → Res D) (lo hi : Ev → Res (Option Int)) : Ev → Res D := fun ρ => (f ρ).bind fun x ρ1 => (lo ρ1).bind fun l ρ2 => (hi ρ2).bind fun h ρ3 => lift (slD x l h) ρ3
theorem cutD_whole (xs : List D) (lo hi : Option Int) (h : HT.sIx xs.length 0 lo = 0 ∧ HT.sIx xs.length xs.length hi = xs.length) : cutD xs lo hi = xs := by
  unfold cutD
  rw [h.1, h.2, List.drop_zero, Nat.sub_zero, List.take_length]
theorem re_slice {lo hi : Option Expr} {fl fh : Ev → Res (Option Int)} {p2 : Pos} (ha : RE X W a f) (hl : RP X W lo fl) (hh : RP X W hi fh) : RE X W (.Subscript a (.Slice lo hi none p2) pos) (eSl f fl fh) :=
  PE.conv (pe_slice (SlR.or sl_list (SlR.or sl_tupX sl_str)) ha hl hh) fun σ H Q ⟨ρ, Hd, O, R, st, p⟩ => ⟨ρ, Hd, O, R, st, (Post.bind (rel1 := RepX X) p).imp (by
    rintro v H1 ⟨x, Hd1, ρ1, g1, st1, rx, p1⟩
    refine ⟨ρ1, Hd1, O, R, st1, (Post.bind (rel1 := fun _ _ o o' => o = o') p1).imp ?_⟩
    rintro l H2 ⟨l', Hd2, ρ2, g2, st2, rfl, p2⟩
    refine ⟨ρ2, Hd2, O, R, st2, (Post.bind (rel1 := fun _ _ o o' => o = o') p2).imp ?_⟩
    rintro h H3 ⟨h', Hd3, ρ3, g3, st3, rfl, p3⟩
    have rx3 := (rx.mono g2.sub).mono g3.sub
    cases rx3 with
    | list hs r =>
      rename_i a vs ds
      refine .inl ⟨_, _, rfl, (LsR.mono st3.sub hs).sq, fun k hk => ?_⟩
      have sd := (Grow.laid (O := O) (o := .lst (cutV vs l h)) st3.sub hk).sub
      exact Post.laid p3 st3 hk (.list (.inl (.inl upd_same)) (cutD_rep (r.mono sd)))
    | tuple hs r =>
      rename_i a vs ds
      refine .inr (.inl ⟨_, _, rfl, (TpR.mono st3.sub hs).sq, fun hw => ?_, fun hw k us hk rv => ?_⟩)
      · rw [r.length] at hw
        exact Post.here p3 st3 (by rw [cutD_whole _ _ _ hw]; exact .tuple hs r)
      · have sd := (Grow.laid (O := O) (o := .frz (tupO us) (.tup (cutV vs l h))) st3.sub hk).sub
        refine Post.laid p3 st3 hk (.tuple ⟨us, rv, ?_, .inl upd_same⟩ (cutD_rep (r.mono sd)))
        rw [← rv.length]
        obtain ⟨us0, r0, z0, _⟩ := hs
        exact Nat.le_trans (cutV_length vs l h) (by rw [r0.length]; exact z0)
    | str z =>
      unfold slD at p3
      dsimp only at p3
      split at p3
      · rename_i hz
        exact .inr (.inr ⟨z, rfl, by have := lid_line; omega, Post.here p3 st3 (.str _)⟩)
      · exact p3.elim
    | _ => exact p3.elim)⟩

/-! ### isinstance -/
def IsT (T : String) (t : D → Bool) : Prop := ∀ (prog : Program) (w : World) (A : Around) (E : Value → Shared → Prop) (s : Shared) (v : Value) (d : D) (as : List Addr) (Q : Value → Shared → Prop),
  Reads s.heap v d as → (∀ tk, s.toks ≤ tk → Q (.bool (t d)) { s with toks := tk }) → wpAny (model prog w) A (call (.builtin "isinstance") [v, .type T]) Q E s
theorem isT_str : IsT "str" PyData.isStr := fun _ _ _ _ _ _ _ _ _ r h => PySem.W.isinstance_str_data r h
theorem isT_tuple : IsT "tuple" PyData.isTuple := fun _ _ _ _ _ _ _ _ _ r h => PySem.W.isinstance_tuple_data r h
theorem isT_int : IsT "int" PyData.isInt := fun _ _ _ _ _ _ _ _ _ r h => PySem.W.isinstance_int_data r h
theorem isT_bool : IsT "bool" PyData.isBool := fun _ _ _ _ _ _ _ _ _ r h => PySem.W.isinstance_bool_data r h
theorem isT_list : IsT "list" PyData.isList := fun _ _ _ _ _ _ _ _ _ r h => PySem.W.isinstance_list_data r h
theorem isT_dict : IsT "dict" PyData.isDict := fun _ _ _ _ _ _ _ _ _ r h => PySem.W.isinstance_dict_data r h
theorem call_isT {T : String} {t : D → Bool} (h : IsT T t) : CallR X (.builtin "isinstance") (fun xs H Q => ∃ v d, xs = [v, .ty T] ∧ Rep X.K H v d ∧ Q (.bl (t d)) H) := by
  rintro pins s σ H xs us Q I rx ⟨v, d, rfl, r, q⟩
  cases rx with
  | cons r1 r2 =>
    cases r2 with
    | cons r3 r4 =>
      cases r4
      cases r3
      obtain ⟨as, ra⟩ := r.reads I r1
      exact h _ _ _ _ _ _ _ _ _ ra fun tk _ => ⟨.bl _, H, I.tok tk, rfl, q⟩
theorem re_isi {T : String} {t : D → Bool} {y : Str} {pn pt : Pos} (h : IsT T t) (hg : Gl X "isinstance") (hm : X.mg "isinstance" = none) (hgT : Gl X y) (hmT : X.mg y = none) (hT : bootBuiltins y = some (.type T)) (ha : RE X W a f)
    (hn : y ≠ "__name__" := by decide) (hdb : (y == ("__debug__" : Str)) = false := by decide) (hs : starEach [a, .Name y pt] X.env = (false, eval a X.env) :: starEach [.Name y pt] X.env := by rfl) (hs2 : starEach [.Name y pt] X.env = (false, eval (.Name y pt) X.env) :: starEach [] X.env := by rfl) :
    RE X W (.Call (.Name "isinstance" pn) [a, .Name y pt] [] pos) (eUn (fun d => some (.bool (t d))) f) :=
  PE.conv (pe_callB (call_isT h) hg hm (by decide +kernel) (pa_cons ha (pa_cons (pe_bltn (v := .ty T) hgT hmT hT rfl hn hdb) pa_nil hs2) hs) (by decide) (by decide) hs) fun σ H Q ⟨ρ, Hd, O, R, st, p⟩ => ⟨ρ, Hd, O, R, st, (Post.bind (rel1 := RepX X) p).imp (by
    rintro v H1 ⟨x, Hd1, ρ1, g1, st1, rx, p1⟩
    exact ⟨v, x, rfl, rx.mono st1.sub, Post.here p1 st1 (.bool _)⟩)⟩
/-! ### max, min of two ints -/
def maxI (x y : D) : Option D := match x, y with | .int i, .int j => some (.int (if j > i then j else i)) | _, _ => none
def minI (x y : D) : Option D := match x, y with | .int i, .int j => some (.int (if j < i then j else i)) | _, _ => none
theorem re_max {pn : Pos} (hc : X.calm = true) (hg : Gl X "max") (hm : X.mg "max" = none) (ha : RE X W a f) (hb : RE X W b g) (hs : starEach [a, b] X.env = (false, eval a X.env) :: starEach [b] X.env := by rfl) (hs2 : starEach [b] X.env = (false, eval b X.env) :: starEach [] X.env := by rfl) (hpl : (backTo pos (starEach [b] X.env)).any (·.1) = false := by rfl) :
    RE X W (.Call (.Name "max" pn) [a, b] [] pos) (eBin maxI f g) :=
  PE.conv (pe_callB (call_max2 hc) hg hm (by decide +kernel) (pa_cons ha (pa_cons hb pa_nil hs2) hs) (by decide) (by decide) hs hpl) fun σ H Q ⟨ρ, Hd, O, R, st, p⟩ => ⟨ρ, Hd, O, R, st, (Post.bind (rel1 := RepX X) p).imp (by
    rintro v H1 ⟨x, Hd1, ρ1, g1, st1, rx, p1⟩
    refine ⟨ρ1, Hd1, O, R, st1, (Post.bind (rel1 := RepX X) p1).imp ?_⟩
    rintro u H2 ⟨y, Hd2, ρ2, g2, st2, ry, p2⟩
    cases rx with
    | int i =>
      cases ry with
      | int j => exact ⟨i, j, rfl, Post.here p2 st2 (.int _)⟩
      | _ => exact p2.elim
    | _ => exact p2.elim)⟩
theorem re_min {pn : Pos} (hc : X.calm = true) (hg : Gl X "min") (hm : X.mg "min" = none) (ha : RE X W a f) (hb : RE X W b g) (hs : starEach [a, b] X.env = (false, eval a X.env) :: starEach [b] X.env := by rfl) (hs2 : starEach [b] X.env = (false, eval b X.env) :: starEach [] X.env := by rfl) (hpl : (backTo pos (starEach [b] X.env)).any (·.1) = false := by rfl) :
    RE X W (.Call (.Name "min" pn) [a, b] [] pos) (eBin minI f g) :=
  PE.conv (pe_callB (call_min2 hc) hg hm (by decide +kernel) (pa_cons ha (pa_cons hb pa_nil hs2) hs) (by decide) (by decide) hs hpl) fun σ H Q ⟨ρ, Hd, O, R, st, p⟩ => ⟨ρ, Hd, O, R, st, (Post.bind (rel1 := RepX X) p).imp (by
    rintro v H1 ⟨x, Hd1, ρ1, g1, st1, rx, p1⟩
    refine ⟨ρ1, Hd1, O, R, st1, (Post.bind (rel1 := RepX X) p1).imp ?_⟩
    rintro u H2 ⟨y, Hd2, ρ2, g2, st2, ry, p2⟩
    cases rx with
    | int i =>
      cases ry with
      | int j => exact ⟨i, j, rfl, Post.here p2 st2 (.int _)⟩
      | _ => exact p2.elim
    | _ => exact p2.elim)⟩
/-! ### a list of one's own becomes data -/
def eFrz (i : Nat) : Ev → Res D := fun ρ => match ρ[i]? with | some (.own ds) => .ok (.list ds) (ρ.set i (.val (.list ds))) | _ => .bad
theorem re_frz (i : Nat) {x : Str} {pos : Pos} (hN : X.N[i]? = some x := by rfl) (hv : Vis X.env.scope x := by first | exact Or.inl rfl | exact Or.inr (Or.inl rfl) | exact Or.inr (Or.inr rfl)) (hd : (x == ("__debug__" : Str)) = false := by decide)
    (hcd : (x == ("__classdict__" : Str)) = false := by decide) : RE X W (.Name x pos) (eFrz i) :=
  PE.conv (pe_var hN hv hd hcd) fun σ H Q ⟨ρ, Hd, O, R, st, p⟩ => by
    unfold eFrz at p
    split at p
    · rename_i ds q
      obtain ⟨o, e, a, vs, rfl, e2, e3, e4, e5⟩ := st.sl i _ q
      have li : i < ρ.length := by
        rcases Nat.lt_or_ge i ρ.length with k | k
        · exact k
        · rw [List.getElem?_eq_none k] at q; cases q
      have sd : Sub Hd (upd Hd a (.lst vs)) := fun b o h => by
        have : b ≠ a := fun z => by rw [z, e3] at h; cases h
        rw [upd_ne this]; exact h
      have rep : Rep X.K (upd Hd a (.lst vs)) (.ref a) (.list ds) := .list (.inl (.inl upd_same)) (e5.mono sd)
      have hh : Held ρ i := ⟨ds, .inl q⟩
      have held : ∀ {j : Nat}, Held (ρ.set i (.val (.list ds))) j → j ≠ i ∧ Held ρ j := by
        rintro j ⟨es, hj⟩
        by_cases k : i = j
        · subst k
          rw [List.getElem?_set_self li] at hj
          rcases hj with hj | hj <;> cases hj
        · rw [List.getElem?_set_ne k] at hj; exact ⟨fun z => k z.symm, es, hj⟩
      have apart : ∀ {j : Nat} {b : Addr}, j ≠ i → Held ρ j → σ[j]? = some (some (.ref b)) → b ≠ a := fun hj h1 h2 z => by
        subst z
        exact hj (st.inj _ i _ h1 hh h2 e)
      have st' : StR X.K σ H (upd Hd a (.lst vs)) O R (ρ.set i (.val (.list ds))) := by
        refine ⟨fun b o h => ?_, by rw [List.length_set]; exact st.len, fun j y hj => ?_, fun j k b hj hk => st.inj j k b (held hj).2 (held hk).2, st.dom⟩
        · by_cases k : b = a
          · subst k; rw [upd_same] at h; cases h; exact e4
          · rw [upd_ne k] at h; exact st.sub b o h
        · by_cases k : i = j
          · subst k
            rw [List.getElem?_set_self li] at hj
            cases hj
            exact ⟨_, e, _, rfl, rep⟩
          · rw [List.getElem?_set_ne k] at hj
            obtain ⟨w, e6, r⟩ := st.sl j y hj
            refine ⟨w, e6, ?_⟩
            cases y with
            | none => trivial
            | val d => obtain ⟨v, f1, f2⟩ := r; exact ⟨v, f1, f2.mono sd⟩
            | own es =>
              obtain ⟨b, ws, rfl, f2, f3, f4, f5⟩ := r
              exact ⟨b, ws, rfl, f2, by rw [upd_ne (apart (Ne.symm k) ⟨_, .inl hj⟩ e6)]; exact f3, f4, f5.mono sd⟩
            | ref es =>
              obtain ⟨b, ws, rfl, f2, f3, f4, f5, f6⟩ := r
              exact ⟨b, ws, rfl, f2, by rw [upd_ne (apart (Ne.symm k) ⟨_, .inr hj⟩ e6)]; exact f3, f4, f5.mono sd, f6⟩
      refine ⟨.ref a, e, p (.ref a) H (upd Hd a (.lst vs)) ⟨sd, fun b o h => ?_, fun _ _ h _ => h, fun b o h => ⟨o, h⟩⟩ st' rep⟩
      by_cases k : b = a
      · rw [k]; exact .inr (.inr e2)
      · rw [upd_ne k] at h; exact .inl h
    · exact p.elim
/-! ### x, y = a, b of plain names: both are reckoned first -/
def sPar (i j : Nat) (l : Ev → Res (List D)) : Ev → Res Fl := fun ρ => sBind (l ρ) fun ds ρ1 => match ds with
  | [d, e] => (match (putV i d ρ1).bind (putV j e) with | some ρ2 => .ok .nx ρ2 | none => .bad)
  | _ => .bad
theorem rs_par {i j : Nat} {x y : Str} {l : Ev → Res (List D)} {px py pt : Pos} {kt k2 pt2} (hc : X.calm = true) (hN : X.N.Nodup) (hi : X.N[i]? = some x) (hj : X.N[j]? = some y) (hij : i ≠ j)
    (hx : X.env.scope.names.lookup x = some .local) (hy : X.env.scope.names.lookup y = some .local) (ha : RL X W [a, b] l)
    (hw : swappedStores [.Tuple [.Name x px, .Name y py] kt pt] (.Tuple [a, b] k2 pt2) X.env = pure (some [x, y]))
    (hs : swapsWithSole [.Tuple [.Name x px, .Name y py] kt pt] (.Tuple [a, b] k2 pt2) pos.line X.env = pure false := by rfl) :
    RS X W (.Assign [.Tuple [.Name x px, .Name y py] kt pt] (.Tuple [a, b] k2 pt2) pos) (sPar i j l) :=
  PS.conv (ps_par hc hN hi hj hij hx hy ha.pa hw hs) fun E σ H ⟨ρ, Hd, O, R, st, p⟩ => ⟨ρ, Hd, O, R, st, (PostS.bind (rel := fun _ Hd vs ds => RepL X.K Hd vs ds) p).imp (by
    rintro vs H1 ⟨ds, Hd1, ρ1, g1, st1, r, p1⟩
    split at p1
    · rename_i d e
      cases r with
      | cons r1 r =>
        cases r with
        | cons r2 r =>
          cases r
          refine ⟨_, _, rfl, ?_⟩
          split at p1
          · rename_i ρ2 hq
            cases q : putV i d ρ1 with
            | none => rw [q] at hq; cases hq
            | some ρa =>
              rw [q] at hq
              exact p1 _ H1 Hd1 O Grow.refl (fun _ h => .inl h) (putV_ok' (putV_ok' st1 q r1) hq r2)
          · exact p1.elim
    · exact p1.elim)⟩
end
end AH

/-! AHB: places in lists and tuples -/
namespace AH
open PySem PySem.Spec PyProof.Rows L2
section
variable {X : Cx} {W : WX} {o e : Expr} {es : List Expr} {to : TE} {t : TA} {name : Str} {apos cpos : Pos} {T id : String} {r : V → List V → Hp → VK → Prop}
/-- o.m(e, ..) of a built-in type, the receiver told by Ty -/
theorem pe_bmX (Ty : V → Hp → Prop) (hTy : ∀ (pins : List (Addr × Obj)) (σ : St) (H : Hp) (s : Shared) (x : V) (v : Value), Inv X pins σ H s → RelV x v → Ty x H → s.TypeIs v T ∧ ∀ a, v = .ref a → ∃ ob, s.heap.get? a = some ob ∧ ob.dict = none)
    (pa : PlainAttrs T) (slot : PySem.Slot T name id) (hty : typeOf (.builtin id) = pure (.type "method_descriptor")) (hm : MtR X id r) (ho : PE X o to) (ha : PA X (e :: es) t)
    (hbase : attributeBase o name X.env (eval o X.env) = eval o X.env)
    (hfew : ((backTo cpos (starEach (e :: es) X.env)).all (fun x => !x.1) && (backToKw cpos (keywordEach [] X.env)).all (fun x => x.1.isSome) && decide ((e :: es).length + ([] : List Keyword).length + (if ([] : List Keyword).isEmpty then 0 else 1) < 30)) = true)
    (hline : (apos.endLine == cpos.line) = true) (hs : starEach (e :: es) X.env = (false, eval e X.env) :: starEach es X.env) (hplain : (backTo cpos (starEach es X.env)).any (·.1) = false) :
    PE X (.Call (.Attribute o name apos) (e :: es) [] cpos) (fun σ H Q => to σ H fun x H1 => Ty x H1 ∧ t σ H1 fun xs H2 => r x xs H2 Q) := by
  refine ⟨fun pins s σ H Q I h => wpAny_Call_method_late hbase hfew hline rfl (thn (ho.run pins s σ H _ I h) ?_)⟩
  rintro v s1 ⟨x, H1, I1, r1, ty, q1⟩
  obtain ⟨h1, h2⟩ := hTy pins σ H1 s1 x v I1 r1 ty
  refine ⟨T, id, pa, slot, hty, h1, h2, ?_⟩
  have hA := ha.run cpos pins s1 σ H1 _ I1 q1
  rw [hs] at hA ⊢
  refine Calls.callWith_builtin ?_ (Calls.evalArgs_plain (thn hA ?_))
  · show (false || (backTo cpos (starEach es X.env)).any (·.1)) = false
    rw [hplain] <;> rfl
  · rintro us s2 ⟨vs, H2, I2, r2, q2⟩
    exact hm pins s2 σ H2 x vs v us Q I2 r1 r2 q2
def tyTup (K : Fg) (x : V) (H : Hp) : Prop := ∃ a vs, x = .ref a ∧ TpR K H a vs
theorem tyTup_ok (pins : List (Addr × Obj)) (σ : St) (H : Hp) (s : Shared) (x : V) (v : Value) (I : Inv X pins σ H s) (rv : RelV x v) (h : tyTup X.K x H) : s.TypeIs v "tuple" ∧ ∀ a, v = .ref a → ∃ ob, s.heap.get? a = some ob ∧ ob.dict = none := by
  obtain ⟨a, vs, rfl, h⟩ := h
  cases rv
  obtain ⟨us, n, _, _, e⟩ := h.at I
  exact ⟨⟨_, e, rfl⟩, fun b hb => by cases hb; exact ⟨_, e, rfl⟩⟩
def tyLst (K : Fg) (x : V) (H : Hp) : Prop := ∃ a vs, x = .ref a ∧ LsR K H a vs
theorem tyLst_ok (pins : List (Addr × Obj)) (σ : St) (H : Hp) (s : Shared) (x : V) (v : Value) (I : Inv X pins σ H s) (rv : RelV x v) (h : tyLst X.K x H) : s.TypeIs v "list" ∧ ∀ a, v = .ref a → ∃ ob, s.heap.get? a = some ob ∧ ob.dict = none := by
  obtain ⟨a, vs, rfl, h⟩ := h
  cases rv
  obtain ⟨us, n, _, _, e⟩ := h.at I
  exact ⟨⟨_, e, rfl⟩, fun b hb => by cases hb; exact ⟨_, e, rfl⟩⟩
/-! ### index -/
def idxD (ys : List D) (d : D) : Option D := if okIn ys d then (SeqAt.dataPlace ys d).map fun j => .int (j : Nat) else none
def eIndex (f g : Ev → Res D) : Ev → Res D := fun ρ => (f ρ).bind fun x ρ1 => match x with
  | .list ys => (g ρ1).bind fun y ρ2 => lift (idxD ys y) ρ2
  | .tuple ys => (g ρ1).bind fun y ρ2 => lift (idxD ys y) ρ2
  | _ => .bad
def rIdx (K : Fg) (mk : List D → D) : V → List V → Hp → VK → Prop := fun x xs H Q => ∃ v ys d j, xs = [v] ∧ Rep K H x (mk ys) ∧ Rep K H v d ∧ okIn ys d = true ∧ SeqAt.dataPlace ys d = some j ∧ Q (.int (j : Nat)) H
theorem mt_idxL (hu : X.A.units + 100 < cLine) : MtR X "list.index" (rIdx X.K .list) := by
  rintro pins s σ H x xs v us Q I rx rs ⟨w, ys, d, j, rfl, hx, hd, ok, hj, q⟩
  obtain ⟨p1, p2, p3⟩ := okIn_of ok
  obtain ⟨u, rfl, ru⟩ := vals1 rs
  obtain ⟨bs, rb⟩ := hd.reads I ru
  cases hx with
  | list h r =>
    cases rx
    obtain ⟨its, n, rv, hz, e⟩ := h.at I
    obtain ⟨as, ra⟩ := r.reads I rv
    have ra' : ReadsAll s.heap its.toArray.toList ys as := by simpa using ra
    obtain ⟨hj1, hj2, hj3⟩ := SeqAt.hit_at (d := d) ra' p1 hj
    refine call_meets PySem.F.slot_list_index ⟨_, e, rfl⟩ PySem.F.entry_list_index (PySem.F.args_list_index_2 _ _)
      (SeqAt.list_indexAt _ its.toArray n none #[] u (fun z => PyData.eqv (SeqAt.readOf s.heap z) d) j hj1 ?_ hj2 hj3)
      ⟨e, SeqAt.items_plain ra' rb p1 p2 (by show X.A.units + 1 + _ < cLine; omega), .int _, H, I.tok _, ⟨_, rfl⟩, q⟩
    have := sizeLine_eq
    rw [List.size_toArray] at *
    omega
theorem mt_idxT (hu : X.A.units + 100 < cLine) : MtR X "tuple.index" (rIdx X.K .tuple) := by
  rintro pins s σ H x xs v us Q I rx rs ⟨w, ys, d, j, rfl, hx, hd, ok, hj, q⟩
  obtain ⟨p1, p2, p3⟩ := okIn_of ok
  obtain ⟨u, rfl, ru⟩ := vals1 rs
  obtain ⟨bs, rb⟩ := hd.reads I ru
  cases hx with
  | tuple h r =>
    cases rx
    obtain ⟨its, n, rv, hz, e⟩ := h.at I
    obtain ⟨as, ra⟩ := r.reads I rv
    have ra' : ReadsAll s.heap its.toArray.toList ys as := by simpa using ra
    obtain ⟨hj1, hj2, hj3⟩ := SeqAt.hit_at (d := d) ra' p1 hj
    exact call_meets PySem.F.slot_tuple_index ⟨_, e, rfl⟩ PySem.F.entry_tuple_index (PySem.F.args_tuple_index_2 _ _)
      (TI.tuple_indexAt _ its.toArray n none #[] u (fun z => PyData.eqv (SeqAt.readOf s.heap z) d) j hj1 hj2 hj3)
      ⟨e, SeqAt.items_plain ra' rb p1 p2 (by show X.A.units + 1 + _ < cLine; omega), .int _, H, I.tok _, ⟨_, rfl⟩, q⟩
theorem PE.or {e : Expr} {t t' : TE} (h : PE X e t) (h' : PE X e t') : PE X e (fun σ H Q => t σ H Q ∨ t' σ H Q) := ⟨fun pins s σ H Q I q => by
  rcases q with q | q
  · exact h.run pins s σ H Q I q
  · exact h'.run pins s σ H Q I q⟩
theorem re_index {f g : Ev → Res D} (hu : X.A.units + 100 < cLine) (ha : RE X W o f) (hb : RE X W e g)
    (hbase : attributeBase o "index" X.env (eval o X.env) = eval o X.env := by rfl)
    (hfew : ((backTo cpos (starEach [e] X.env)).all (fun x => !x.1) && (backToKw cpos (keywordEach [] X.env)).all (fun x => x.1.isSome) && decide (([e] : List Expr).length + ([] : List Keyword).length + (if ([] : List Keyword).isEmpty then 0 else 1) < 30)) = true := by rfl)
    (hline : (apos.endLine == cpos.line) = true := by rfl) (hs : starEach [e] X.env = (false, eval e X.env) :: starEach [] X.env := by rfl) :
    RE X W (.Call (.Attribute o "index" apos) [e] [] cpos) (eIndex f g) :=
  PE.conv (PE.or (pe_bmX (tyLst X.K) tyLst_ok PySem.F.plainAttrs_list PySem.F.slot_list_index PySem.F.type_list_index (mt_idxL hu) ha (pa_cons hb pa_nil hs) hbase hfew hline hs rfl)
      (pe_bmX (tyTup X.K) tyTup_ok PySem.F.plainAttrs_tuple PySem.F.slot_tuple_index PySem.F.type_tuple_index (mt_idxT hu) ha (pa_cons hb pa_nil hs) hbase hfew hline hs rfl)) fun σ H Q ⟨ρ, Hd, O, R, st, p⟩ => by
    unfold eIndex at p
    cases q : f ρ with
    | bad => rw [q] at p; exact p.elim
    | exc c d ρ1 => rw [q] at p; exact .inl ⟨ρ, Hd, O, R, st, by rw [q]; exact p⟩
    | ok x ρ1 =>
      rw [q] at p
      have step : ∀ {mk : List D → D} {ys : List D} {v : V} {H1 Hd1 : Hp}, Post X W (RepX X) σ H Hd O R ((g ρ1).bind fun y ρ2 => lift (idxD ys y) ρ2) Q → Grow O H Hd H1 Hd1 → StR X.K σ H1 Hd1 O R ρ1 → Rep X.K Hd1 v (mk ys) →
          (tCons (tE X W g) tNil) σ H1 fun xs H2 => rIdx X.K mk v xs H2 Q := by
        intro mk ys v H1 Hd1 p g1 st1 rx
        refine ⟨ρ1, Hd1, O, R, st1, (Post.bind (rel1 := RepX X) (Post.from p g1)).imp ?_⟩
        rintro u H2 ⟨y, Hd2, ρ2, g2, st2, ry, p2⟩
        unfold idxD at p2
        by_cases ok : okIn ys y = true
        · rw [if_pos ok] at p2
          cases hq : SeqAt.dataPlace ys y with
          | none => rw [hq] at p2; exact p2.elim
          | some j => rw [hq] at p2; exact ⟨u, ys, y, j, rfl, (rx.mono g2.sub).mono st2.sub, ry.mono st2.sub, ok, hq, Post.here p2 st2 (.int _)⟩
        · rw [if_neg ok] at p2; exact p2.elim
      cases x with
      | list ys =>
        refine .inl ⟨ρ, Hd, O, R, st, ?_⟩
        rw [q]
        intro v H1 Hd1 g1 st1 rx
        refine ⟨?_, step (mk := .list) p g1 st1 rx⟩
        cases rx with
        | list h r => exact ⟨_, _, rfl, LsR.mono st1.sub h⟩
      | tuple ys =>
        refine .inr ⟨ρ, Hd, O, R, st, ?_⟩
        rw [q]
        intro v H1 Hd1 g1 st1 rx
        refine ⟨?_, step (mk := .tuple) p g1 st1 rx⟩
        cases rx with
        | tuple h r => exact ⟨_, _, rfl, TpR.mono st1.sub h⟩
      | _ => exact p.elim
end
end AH

/-! AHC: zip, sorted, dict(pairs).get, how many keys differ -/
namespace AH
open PySem PySem.Spec PyProof.Rows L2
section
variable {X : Cx} {W : WX}
/-! ### zip of two tuples, of two lists -/
def zipD : D → D → Option (List (D × D))
  | .list xs, .list ys => some (xs.zip ys)
  | .tuple xs, .tuple ys => some (xs.zip ys)
  | _, _ => none
def iZip2 (f g : Ev → Res D) : Ev → Res (List (D × D)) := fun ρ => (f ρ).bind fun x ρ1 => (g ρ1).bind fun y ρ2 => lift (zipD x y) ρ2
def bdZ (i j : Nat) (p : D × D) (ρ : Ev) : Option Ev := putAll [i, j] [p.1, p.2] ρ
theorem src_pair {K : Fg} {J : It} {Hd : Hp} {i j : Nat} {xs ys : List D} {vs ws : List V} (r1 : RepL K Hd vs xs) (r2 : RepL K Hd ws ys)
    (hs : ∀ (n : Nat) (H : Hp), Sub Hd H → (vs.length ≤ n ∨ ws.length ≤ n) → J.stop n H) (hg : ∀ (n : Nat) (H : Hp) (v w : V), Sub Hd H → vs[n]? = some v → ws[n]? = some w → J.go n H)
    (hy : ∀ (n : Nat) (H H' : Hp) (x v w : V), Sub Hd H → vs[n]? = some v → ws[n]? = some w → J.yld n H x H' → ∃ T, x = .ref T ∧ H T = none ∧ H' = upd H T (.tup [v, w])) :
    Src K J Hd (gPat K (.t [i, j])) (xs.zip ys) (bdZ i j) (Pat.t [i, j]).has := by
  intro n σ H Hd' O R ρ s st
  have sH : Sub Hd H := fun b o e => st.sub b o (s b o e)
  refine ⟨fun hn => hs n H sH ?_, fun b hb => ?_⟩
  · rw [List.length_zip] at hn
    rw [r1.length, r2.length]
    omega
  · rw [List.getElem?_zip_eq_some] at hb
    obtain ⟨h1, h2⟩ := hb
    obtain ⟨v, e1, q1⟩ := r1.get h1
    obtain ⟨w, e2, q2⟩ := r2.get h2
    refine ⟨hg n H v w sH e1 e2, ?_⟩
    intro x H' ρ' Q hx hbd q
    obtain ⟨T, rfl, hT, rfl⟩ := hy n H H' x v w sH e1 e2 hx
    refine .inl ⟨T, [v, w], rfl, .inl (.inl upd_same), rfl, ?_⟩
    exact gAll_ok (st.grow1 hT) (.cons (q1.mono s) (.cons (q2.mono s) .nil)) hbd fun σ' st' hw => q σ' _ _ (Grow.laid1 hT) st' hw
theorem ri_zip {e e2 : Expr} {f g : Ev → Res D} {i j : Nat} {p pos tpos : Pos} {elts : List Expr} {kk : Nat} (hg : Gl X "zip") (hm : X.mg "zip" = none) (ha : RE X W e f) (hb : RE X W e2 g)
    (hs : starEach [e, e2] X.env = (false, eval e X.env) :: starEach [e2] X.env := by rfl) (hs2 : starEach [e2] X.env = (false, eval e2 X.env) :: starEach [] X.env := by rfl) (hpl : (backTo pos (starEach [e2] X.env)).any (·.1) = false := by rfl) :
    RI X W (.Tuple elts kk tpos) (.Call (.Name "zip" p) [e, e2] [] pos) (gPat X.K (.t [i, j])) (bdZ i j) (Pat.t [i, j]).has (iZip2 f g) :=
  PI.conv (RZ.pi_zipA hg hm (pa_cons ha (pa_cons hb pa_nil hs2) hs) hs hpl) fun σ H Q ⟨ρ, Hd, O, R, st, t⟩ => ⟨ρ, Hd, O, R, st, (Post.bind (rel1 := RepX X) t).imp (by
    rintro v H1 ⟨x, Hd1, ρ1, g1, st1, rx, p1⟩
    refine ⟨ρ1, Hd1, O, R, st1, (Post.bind (rel1 := RepX X) p1).imp ?_⟩
    rintro u H2 ⟨y, Hd2, ρ2, g2, st2, ry, p2⟩
    have rx2 := rx.mono g2.sub
    cases rx2 with
    | list h1 r1 =>
      cases ry with
      | list h2 r2 =>
        rename_i a vs xs b ws ys
        refine ⟨a, b, vs, ws, rfl, .inl ⟨(LsR.mono st2.sub h1).sq, (LsR.mono st2.sub h2).sq, p2 _ H2 Hd2 Grow.refl st2 (src_pair r1 r2 ?_ ?_ ?_)⟩⟩
        · exact fun n H s h => ⟨vs, ws, (LsR.mono s h1).sq, (LsR.mono s h2).sq, h⟩
        · exact fun n H v w s e1 e2 => ⟨vs, ws, v, w, (LsR.mono s h1).sq, (LsR.mono s h2).sq, e1, e2⟩
        · rintro n H H' x v w s e1 e2 ⟨T, x1, x2, rfl, hT, rfl, k1, k2⟩
          have q1 := Option.some.inj ((k1 vs (LsR.mono s h1).sq).symm.trans e1)
          have q2 := Option.some.inj ((k2 ws (LsR.mono s h2).sq).symm.trans e2)
          subst q1 q2
          exact ⟨T, rfl, hT, rfl⟩
      | _ => exact p2.elim
    | tuple h1 r1 =>
      cases ry with
      | tuple h2 r2 =>
        rename_i a vs xs b ws ys
        refine ⟨a, b, vs, ws, rfl, .inr ⟨(TpR.mono st2.sub h1).sq, (TpR.mono st2.sub h2).sq, p2 _ H2 Hd2 Grow.refl st2 (src_pair r1 r2 ?_ ?_ ?_)⟩⟩
        · exact fun n H s h => ⟨vs, ws, (TpR.mono s h1).sq, (TpR.mono s h2).sq, h⟩
        · exact fun n H v w s e1 e2 => ⟨vs, ws, v, w, (TpR.mono s h1).sq, (TpR.mono s h2).sq, e1, e2⟩
        · rintro n H H' x v w s e1 e2 ⟨T, x1, x2, rfl, hT, rfl, k1, k2⟩
          have q1 := Option.some.inj ((k1 vs (TpR.mono s h1).sq).symm.trans e1)
          have q2 := Option.some.inj ((k2 ws (TpR.mono s h2).sq).symm.trans e2)
          subst q1 q2
          exact ⟨T, rfl, hT, rfl⟩
      | _ => exact p2.elim
    | _ => exact p2.elim)⟩
/-! ### sorted -/
section
variable {α : Type} {le : α → α → Bool}
def insG (le : α → α → Bool) (d : α) : List α → List α
  | [] => [d]
  | e :: es => if le d e then d :: e :: es else e :: insG le d es
def isortG (le : α → α → Bool) : List α → List α
  | [] => []
  | d :: ds => insG le d (isortG le ds)
open PySem.W in
theorem ins_filter (h : TotalLe le) (c d : α) : ∀ l : List α, (insG le d l).filter (sameRank le c) = (d :: l).filter (sameRank le c)
  | [] => rfl
  | e :: es => by
    unfold insG
    by_cases q : le d e = true
    · rw [if_pos q]
    · rw [if_neg q, List.filter_cons, ins_filter h c d es, List.filter_cons, List.filter_cons, List.filter_cons]
      by_cases k1 : sameRank le c d = true
      · have k2 : sameRank le c e = false := by
          cases k3 : sameRank le c e with
          | false => rfl
          | true =>
            unfold sameRank at k1 k3
            simp only [Bool.and_eq_true] at k1 k3
            exact absurd (h.trans d c e k1.2 k3.1) q
        simp [k1, k2]
      · simp [k1]
open PySem.W in
theorem isort_filter (h : TotalLe le) (c : α) : ∀ l : List α, (isortG le l).filter (sameRank le c) = l.filter (sameRank le c)
  | [] => rfl
  | d :: ds => by
    unfold isortG
    rw [ins_filter h, List.filter_cons, isort_filter h c ds, List.filter_cons]
theorem ins_mem {d x : α} : ∀ {l : List α}, x ∈ insG le d l → x = d ∨ x ∈ l
  | [], h => by simpa [insG] using h
  | e :: es, h => by
    unfold insG at h
    split at h
    · rcases List.mem_cons.mp h with h | h
      · exact .inl h
      · exact .inr h
    · rcases List.mem_cons.mp h with h | h
      · exact .inr (by rw [h]; exact List.mem_cons_self)
      · rcases ins_mem h with h | h
        · exact .inl h
        · exact .inr (List.mem_cons_of_mem _ h)
open PySem.W in
theorem ins_sorted (h : TotalLe le) (d : α) : ∀ {l : List α}, l.Pairwise (fun a b => le a b = true) → (insG le d l).Pairwise (fun a b => le a b = true)
  | [], _ => by simp [insG]
  | e :: es, hp => by
    unfold insG
    rw [List.pairwise_cons] at hp
    split
    · rename_i q
      rw [List.pairwise_cons]
      refine ⟨fun x hx => ?_, List.pairwise_cons.mpr hp⟩
      rcases List.mem_cons.mp hx with hx | hx
      · rw [hx]; exact q
      · exact h.trans _ _ _ q (hp.1 x hx)
    · rename_i q
      rw [List.pairwise_cons]
      refine ⟨fun x hx => ?_, ins_sorted h d hp.2⟩
      rcases ins_mem hx with hx | hx
      · rw [hx]
        rcases h.total d e with z | z
        · exact absurd z q
        · exact z
      · exact hp.1 x hx
open PySem.W in
theorem isort_sorted (h : TotalLe le) : ∀ l : List α, (isortG le l).Pairwise (fun a b => le a b = true)
  | [] => by simp [isortG]
  | d :: ds => ins_sorted h d (isort_sorted h ds)
open PySem.W in
theorem isort_eq (h : TotalLe le) (l : List α) : isortG le l = l.mergeSort le := sort_unique h (isort_sorted h l) fun c => isort_filter h c l
theorem ins_map {β : Type} {le' : β → β → Bool} {f : α → β} (hf : ∀ a b, le a b = le' (f a) (f b)) (d : α) : ∀ l : List α, (insG le d l).map f = insG le' (f d) (l.map f)
  | [] => rfl
  | e :: es => by
    have ih := ins_map hf d es
    by_cases q : le' (f d) (f e) = true
    · simp [insG, hf, q]
    · simp [insG, hf, q, ih]
theorem isort_map {β : Type} {le' : β → β → Bool} {f : α → β} (hf : ∀ a b, le a b = le' (f a) (f b)) : ∀ l : List α, (isortG le l).map f = isortG le' (l.map f)
  | [] => rfl
  | d :: ds => by
    unfold isortG
    rw [ins_map hf, isort_map hf ds, List.map_cons]
end
def isortD : List D → List D := isortG (PySem.W.dataLe false id)
def tupish : D → Bool
  | .tuple (_ :: _) => true
  | _ => false
def flatish : D → Bool
  | .none => false
  | .tuple _ => false
  | _ => true
def okSort (ds : List D) : Bool := ds.all (fun d => ds.all fun e => PySem.W.alike d e) && (ds.all tupish || ds.all flatish) && ds.all (fun d => decide (d.depth ≤ 60)) && decide (ds.length ≤ lid)
theorem okSort_of {ds : List D} (h : okSort ds = true) : PySem.W.AllAlike ds ∧ PySem.W.Sortable ds ∧ (∀ d ∈ ds, d.depth ≤ 60) ∧ ds.length ≤ lid := by
  unfold okSort at h
  simp only [Bool.and_eq_true, Bool.or_eq_true, List.all_eq_true, decide_eq_true_eq] at h
  obtain ⟨⟨⟨h1, h2⟩, h3⟩, h4⟩ := h
  refine ⟨fun d hd e he => h1 d hd e he, ?_, h3, h4⟩
  rcases h2 with h2 | h2
  · refine .inl fun d hd => ?_
    have := h2 d hd
    unfold tupish at this
    split at this
    · exact ⟨_, _, rfl⟩
    · cases this
  · refine .inr fun d hd => ?_
    have := h2 d hd
    unfold flatish at this
    split at this
    · cases this
    · cases this
    · rename_i k1 k2
      exact ⟨fun e => k1 e, fun xs e => k2 xs e⟩
def sortedD : D → Option D
  | .list ds => if okSort ds then some (.list (isortD ds)) else none
  | _ => none
theorem call_sortX (hu : X.A.units + 100 < cLine) : CallR X (.builtin "sorted") (fun xs H Q => ∃ a vs ds, xs = [.ref a] ∧ LsR X.K H a vs ∧ RepL X.K H vs ds ∧ okSort ds = true ∧ ∀ ws p, (∃ ps : List (V × D), ps.map (·.1) = vs ∧ ps.map (·.2) = ds ∧ ws = (isortG (PySem.W.dataLe false (fun b : V × D => b.2)) ps).map (·.1)) → H p = none → Q (.ref p) (upd H p (.lst ws))) := by
  rintro pins s σ H xs us Q I rx ⟨a, vs, ds, rfl, h, r, ok, q⟩
  obtain ⟨h1, h2, h3, h4⟩ := okSort_of ok
  obtain ⟨u, rfl, ru⟩ := vals1 rx
  cases ru
  obtain ⟨its, n, rv, hz, e⟩ := h.at I
  have hl : vs.length = ds.length := r.length
  have e1 : (vs.zip ds).map (·.1) = vs := List.map_fst_zip (by omega)
  have e2 : (vs.zip ds).map (·.2) = ds := List.map_snd_zip (by omega)
  have both : ∀ {vs : List V} {ds : List D} {us : List Value}, RepL X.K H vs ds → Vals vs us → PySem.W.EachIs (fun (v : Value) (b : V × D) => RelV b.1 v) us (vs.zip ds) ∧ PySem.W.EachIs (fun (v : Value) (b : V × D) => ∃ as, Reads s.heap v b.2 as) us (vs.zip ds) := by
    intro vs ds us r
    induction vs generalizing ds us with
    | nil => intro q; cases r; cases q; exact ⟨.nil, .nil⟩
    | cons v vs ih =>
      intro q
      cases r with
      | cons r1 r2 =>
        cases q with
        | cons q1 q2 =>
          obtain ⟨i1, i2⟩ := ih r2 q2
          exact ⟨.cons q1 i1, .cons (r1.reads I q1) i2⟩
  obtain ⟨b1, b2⟩ := both r rv
  have hlen : (vs.zip ds).length = vs.length := by rw [List.length_zip]; omega
  refine PySem.W.sorted_data (bs := vs.zip ds) (enc := fun b => b.2) (R := fun v b => RelV b.1 v) (vs := its) ⟨_, e, rfl, _, rfl⟩ b1 b2 (by rw [e2]; exact h1) (by rw [e2]; exact h2) (by have := lid_line; rw [hlen]; omega) (fun b hb => ?_) fun out ho eo => ?_
  · have : b.2 ∈ ds := by rw [← e2]; exact List.mem_map_of_mem hb
    have := h3 _ this
    omega
  · obtain ⟨ep, he'⟩ := PyProof.Rows.sortedAll_at s.heap its out.toArray
    have hs : (vs.zip ds).mergeSort (PySem.W.dataLe false fun b => b.2) = isortG (PySem.W.dataLe false fun b => b.2) (vs.zip ds) := (isort_eq (PySem.W.sortLe_total _ _ _) _).symm
    rw [hs] at eo
    have toV : ∀ {bs : List (V × D)} {out : List Value}, PySem.W.EachIs (fun (v : Value) (b : V × D) => RelV b.1 v) out bs → Vals (bs.map (·.1)) out := by
      intro bs
      induction bs with
      | nil => intro out h; cases h; exact .nil
      | cons b bs ih => intro out h; cases h with | cons h1 h2 => exact .cons h1 (ih h2)
    have rv' := toV eo
    have hlw : ((isortG (PySem.W.dataLe false fun b : V × D => b.2) (vs.zip ds)).map (·.1)).length ≤ sizeLine := by
      rw [rv'.length, ho, hlen]; have := lid_line; omega
    exact ⟨.ref _, upd H (s.heap.objs.size + 1) (.lst _), I.laid (t' := s.toks) (fun _ _ => PyProof.Rows.sortedAll_old) (Nat.le_succ _) ⟨hlw, out, ep, rv', by simpa using he'⟩, rfl, q _ _ ⟨vs.zip ds, e1, e2, rfl⟩ (I.hok.fresh (Nat.le_succ _))⟩
theorem rep_pairs {K : Fg} {H : Hp} : ∀ {ps : List (V × D)}, (∀ p ∈ ps, Rep K H p.1 p.2) → RepL K H (ps.map (·.1)) (ps.map (·.2))
  | [], _ => .nil
  | p :: ps, h => .cons (h p List.mem_cons_self) (rep_pairs fun q hq => h q (List.mem_cons_of_mem _ hq))
theorem pairs_rep {K : Fg} {H : Hp} : ∀ {ps : List (V × D)}, RepL K H (ps.map (·.1)) (ps.map (·.2)) → ∀ p ∈ ps, Rep K H p.1 p.2
  | [], _, p, hp => nomatch hp
  | q :: ps, .cons h t, p, hp => by
    rcases List.mem_cons.mp hp with rfl | hp
    · exact h
    · exact pairs_rep t p hp
theorem isort_mem {α : Type} {le : α → α → Bool} {x : α} : ∀ {l : List α}, x ∈ isortG le l → x ∈ l
  | [], h => h
  | d :: ds, h => by
    unfold isortG at h
    rcases ins_mem h with h | h
    · rw [h]; exact List.mem_cons_self
    · exact List.mem_cons_of_mem _ (isort_mem h)
theorem call_sortedD (hu : X.A.units + 100 < cLine) : Call1 X (.builtin "sorted") sortedD := by
  refine ⟨_, call_sortX hu, fun W x z σ H Hd O R ρ v Q e st rx p => ?_⟩
  cases x with
  | list ds =>
    unfold sortedD at e
    dsimp only at e
    split at e
    · rename_i ok
      cases e
      obtain ⟨a, vs, rfl, h, r⟩ := RepB.list st.sub rx
      refine ⟨a, vs, ds, rfl, h, r.mono st.sub, ok, ?_⟩
      rintro ws k ⟨ps, rfl, rfl, rfl⟩ hk
      have sd := (Grow.laid (O := O) (o := .lst ((isortG (PySem.W.dataLe false fun b : V × D => b.2) ps).map (·.1))) st.sub hk).sub
      refine Post.laid p st hk (.list (.inl (.inl upd_same)) ?_)
      have er : isortD (ps.map (·.2)) = (isortG (PySem.W.dataLe false fun b : V × D => b.2) ps).map (·.2) := (isort_map (le := PySem.W.dataLe false fun b : V × D => b.2) (le' := PySem.W.dataLe false id) (f := fun b : V × D => b.2) (fun a b => rfl) ps).symm
      rw [er]
      exact rep_pairs fun q hq => (pairs_rep r q (isort_mem hq)).mono sd
    · cases e
  | _ => cases e
end
end AH

/-! AHD: how many keys differ; dict(pairs).get -/
namespace AH
open PySem PySem.Spec PyProof.Rows L2
def toKey : D → Option Key
  | .int i => some (.inl i)
  | .str x => some (.inr x)
  | _ => none
theorem toKey_rep {K : Fg} {H : Hp} {v : V} {d : D} {k : Key} (r : Rep K H v d) (h : toKey d = some k) : v = kV k := by
  cases r with
  | int i => cases h; rfl
  | str x => cases h; rfl
  | _ => cases h
def addK (ks : List Key) (k : Key) : List Key := if ks.any (fun j => decide (j = k)) then ks else ks ++ [k]
theorem putK_keys (kvs : List (Key × V)) (k : Key) (v : V) : (putK kvs k v).map (·.1) = addK (kvs.map (·.1)) k := by
  unfold putK addK
  rw [List.any_map]
  by_cases h : (kvs.any fun kv => decide (kv.1 = k)) = true
  · rw [if_pos h, if_pos (by simpa [Function.comp_def] using h), List.map_map]
    apply List.map_congr_left
    intro kv _
    by_cases e : kv.1 = k
    · simp [e]
    · simp [e]
  · rw [if_neg h, if_neg (by simpa [Function.comp_def] using h), List.map_append]
    rfl
def compK {β : Type} (bd : β → Ev → Option Ev) (f : Ev → Res D) (vs : List Nat) : List β → Ev → List Key → Res (List Key)
  | [], ρ, ks => .ok ks ρ
  | b :: bs, ρ, ks => match bd b ρ with
    | none => .bad
    | some ρ1 => match f ρ1 with
      | .ok d ρ2 => (match toKey d with
        | some k => if ks.length < lid then compK bd f vs bs (wipeE ρ2 vs) (addK ks k) else .bad
        | none => .bad)
      | _ => .bad
def eLenDC {β : Type} (fi : Ev → Res (List β)) (bd : β → Ev → Option Ev) (f : Ev → Res D) (vs : List Nat) : Ev → Res D := fun ρ =>
  (fi ρ).bind fun items ρ1 => (compK bd f vs items (wipeE ρ1 vs) []).bind fun ks ρ2 => .ok (.int ks.length) (restoreE ρ1 ρ2 vs)
section
variable {X : Cx} {W : WX} {tg iter : Expr}
theorem dcStep {β : Type} {bd : β → Ev → Option Ev} {own : Nat → Prop} {g : TG} {fi : Ev → Res (List β)} {f : Ev → Res D} {vs : List Nat} {σ : St} {H : Hp} {Q : VK} {ρ : Ev} {Hd : Hp} {O : List Addr} {R : Nat → Option Addr}
    (hown : ∀ i, own i → i ∈ vs) (st : StR X.K σ H Hd O R ρ) (p : Post X W (RepX X) σ H Hd O R (eLenDC fi bd f vs ρ) Q) :
    tDc (Tr X W (fun _ Hd J items => Src X.K J Hd g items bd own) fi) g tYes (tE X W0 f) (tC (.bl true)) vs σ H fun v H1 => ∃ a kvs, [v] = [V.ref a] ∧ H1 a = some (.dK kvs) ∧ Q (.int kvs.length) H1 := by
  refine ⟨ρ, Hd, O, R, st, ?_⟩
  unfold eLenDC at p
  revert p
  cases fi ρ with
  | exc cc d ρ' => exact fun p => p
  | bad => exact fun p => p
  | ok items ρ1 =>
    intro p J H1 Hd1 g1 st1 src Dp hD
    have hDd : Hd1 Dp = none := by
      cases q : Hd1 Dp with
      | none => rfl
      | some o => rw [st1.sub Dp o q] at hD; cases hD
    have hDO : Dp ∉ O := fun ha => by
      obtain ⟨o, e⟩ := st1.dom Dp ha
      rw [hD] at e; cases e
    have p : Post X W (RepX X) σ H Hd O R ((compK bd f vs items (wipeE ρ1 vs) []).bind fun ks ρ2 => .ok (.int ks.length) (restoreE ρ1 ρ2 vs)) Q := p
    have wiped : ∀ ρ : Ev, wipeE (wipeE ρ vs) vs = wipeE ρ vs := fun ρ => by
      apply List.ext_getElem?
      intro j
      rw [wipeE_get]
      by_cases hj : j ∈ vs
      · rw [if_pos hj, wipeE_get, if_pos hj]; cases ρ[j]? <;> rfl
      · rw [if_neg hj]
    have wiped2 : wipe (wipe σ vs) vs = wipe σ vs := by
      apply List.ext_getElem?
      intro j
      rw [wipe_get]
      by_cases hj : j ∈ vs
      · rw [if_pos hj, wipe_get, if_pos hj]; cases σ[j]? <;> rfl
      · rw [if_neg hj]
    refine ⟨fun i m H2 => m = items.length - i ∧ i ≤ items.length ∧ ∃ ρi Hdi kvs, StR X.K (wipe σ vs) H2 Hdi O R ρi ∧ Grow O H1 Hd1 H2 Hdi ∧ H2 Dp = some (.dK kvs) ∧ Hdi Dp = none ∧
        Post X W (RepX X) σ H Hd O R ((compK bd f vs (items.drop i) ρi (kvs.map (·.1))).bind fun ks ρ2 => .ok (.int ks.length) (restoreE ρ1 ρ2 vs)) Q, ⟨items.length, rfl, Nat.zero_le _, wipeE ρ1 vs, Hd1, [], ?_, ?_, upd_same, hDd, p⟩, ?_⟩
    · exact (st1.wipe vs).aside hDd hDO
    · exact Grow.laid1 hD
    · rintro i m H2 ⟨rfl, hi, ρi, Hdi, kvs, sti, gri, hL, hLd, pi⟩
      obtain ⟨hstop, hgo⟩ := src i (wipe σ vs) H2 Hdi O R ρi gri.sub sti
      by_cases hlt : i < items.length
      · refine .inr ?_
        obtain ⟨go, yl⟩ := hgo _ (List.getElem?_eq_getElem hlt)
        rw [List.drop_eq_getElem_cons hlt] at pi
        unfold compK at pi
        refine ⟨go, fun H3 => ∃ ρi Hdi kvs, StR X.K (wipe σ vs) H3 Hdi O R ρi ∧ Grow O H1 Hd1 H3 Hdi ∧ H3 Dp = some (.dK kvs) ∧ Hdi Dp = none ∧
          Post X W (RepX X) σ H Hd O R ((compK bd f vs (items.drop (i + 1)) ρi (kvs.map (·.1))).bind fun ks ρ2 => .ok (.int ks.length) (restoreE ρ1 ρ2 vs)) Q, fun H3 q => ⟨items.length - (i + 1), by omega, rfl, hlt, q⟩, fun x H3 hy => ?_⟩
        have keepL : ∀ {Ha Hda Hb Hdb : Hp} {w : HO}, Grow O Ha Hda Hb Hdb → Ha Dp = some w → Hda Dp = none → Hb Dp = some w ∧ Hdb Dp = none := by
          intro Ha Hda Hb Hdb w gr k1 k2
          refine ⟨gr.keep Dp _ k1 hDO, ?_⟩
          cases q : Hdb Dp with
          | none => rfl
          | some o =>
            rcases gr.new Dp o q with z | z | z
            · rw [k2] at z; cases z
            · rw [k1] at z; cases z
            · exact absurd z hDO
        cases hbd : bd items[i] ρi with
        | none => rw [hbd] at pi; exact pi.elim
        | some ρa =>
          rw [hbd] at pi
          dsimp only at pi
          refine yl x H3 ρa _ hy hbd fun σ' H4 Hd4 gr4 st4 hw => ?_
          have hwσ : wipe σ' vs = wipe σ vs := by rw [hw vs hown]; exact wiped2
          refine ⟨hwσ, ?_⟩
          unfold tYes
          dsimp only
          rw [if_pos rfl]
          obtain ⟨k1, k2⟩ := keepL gr4 hL hLd
          refine ⟨ρa, Hd4, O, R, st4, ?_⟩
          revert pi
          cases f ρa with
          | exc _ _ _ => intro pi; exact pi.elim
          | bad => intro pi; exact pi.elim
          | ok d ρc =>
            intro pi y H6 Hd6 gr6 st6 ry
            dsimp only at pi
            obtain ⟨k5, k6⟩ := keepL gr6 k1 k2
            cases hk : toKey d with
            | none => rw [hk] at pi; exact pi.elim
            | some k =>
              rw [hk] at pi
              dsimp only at pi
              by_cases hlen : (kvs.map (·.1)).length < lid
              · rw [if_pos hlen] at pi
                have st7 := st6.wipe vs
                rw [hwσ] at st7
                refine ⟨kvs, k, toKey_rep ry hk, k5, by have := lid_line; rw [List.length_map] at hlen; omega, wipeE ρc vs, Hd6, putK kvs k (.bl true), st7.aside k6 hDO, ?_, upd_same, k6, by rw [putK_keys]; exact pi⟩
                have gg := (gri.trans1 gr4).trans1 gr6
                refine ⟨gg.sub, gg.new, fun a o h hn => ?_, fun a o h => ?_⟩
                · have : a ≠ Dp := fun z => by rw [z, hD] at h; cases h
                  rw [upd_ne this]; exact gg.keep a o h hn
                · have : a ≠ Dp := fun z => by rw [z, hD] at h; cases h
                  obtain ⟨o', e⟩ := gg.dom a o h
                  exact ⟨o', by rw [upd_ne this]; exact e⟩
              · rw [if_neg hlen] at pi; exact pi.elim
      · have e : i = items.length := by omega
        subst e
        rw [List.drop_length] at pi
        refine .inl ⟨hstop (Nat.le_refl _), Dp, kvs, rfl, hL, ?_⟩
        have pi : Post X W (RepX X) σ H Hd O R (.ok (.int (kvs.map (·.1)).length) (restoreE ρ1 ρi vs)) Q := pi
        rw [List.length_map] at pi
        exact pi (.int _) H2 Hdi (g1.trans1 gri) (st1.restore sti gri.sub) (.int _)
theorem re_lenDC {β : Type} {bd : β → Ev → Option Ev} {own : Nat → Prop} {g : TG} {fi : Ev → Res (List β)} {f : Ev → Res D} {kx : Expr} {scope : Scope} {owns : List (Str × Nat)} {pn pos pos2 p3 : Pos} {j : Nat} (hgl : Gl X "len") (hml : X.mg "len" = none)
    (hc : X.calm = true) (hN : X.N.Nodup) (hi : RI X W tg iter g bd own fi) (ok : BlkOk X.N X.env.scope scope owns) (hown : ∀ i, own i → i ∈ owns.map (·.2))
    (hg : ∀ (s : Shared) (H : Hp) (C : Addr) (cl : List (Str × Addr)) (fp : List Addr), PG (X.blk s H scope (compEnvC scope cl C X.env) fp) tg g)
    (he : ∀ (s : Shared) (H : Hp) (C : Addr) (cl : List (Str × Addr)) (fp : List Addr), RE (X.blk s H scope (compEnvC scope cl C X.env) fp) W0 kx f) (hs : ∀ x, foldedSetIterable iter X.env x = pure x := by intro _; rfl) :
    RE X W (.Call (.Name "len" pn) [.DictComp kx (.Constant (.bool true) j p3) [⟨tg, iter, [], 0⟩] scope pos2] [] pos) (eLenDC fi bd f (owns.map (·.2))) :=
  PE.conv (pe_callB call_lenD hgl hml PySem.boot_len (pa_cons (pe_dc (tt := tYes) (tk := tE X W0 f) (tv := tC (.bl true)) hc hN hi ok hg (fun _ _ _ _ _ => pts_nil) he (fun _ _ _ _ _ => pe_bl) hs) pa_nil rfl) (by decide) (by decide) rfl) fun σ H Q ⟨ρ, Hd, O, R, st, p⟩ => dcStep hown st p
end
end AH

/-! AHE: dict(pairs).get(key, other) -/
namespace AH
open PySem PySem.Spec PyProof.Rows L2
def pairD : D → Option (Key × D)
  | .tuple [k, v] => (toKey k).map fun q => (q, v)
  | _ => none
def pairsL : List D → Option (List (Key × D))
  | [] => some []
  | d :: ds => (pairD d).bind fun p => (pairsL ds).map fun r => p :: r
def pairsD : D → Option (List (Key × D))
  | .tuple ds => pairsL ds
  | _ => none
def lastOf {α : Type} : List (Key × α) → Key → Option α
  | [], _ => none
  | (k', d) :: r, k => match lastOf r k with
    | some x => some x
    | none => if k = k' then some d else none
theorem lastOf_cons {α : Type} (k' : Key) (d : α) (r : List (Key × α)) (k : Key) : lastOf ((k', d) :: r) k = match lastOf r k with | some x => some x | none => if k = k' then some d else none := rfl
theorem valV_merge : ∀ (more kvs : List (Key × V)) (k : Key), valV (mergeK kvs more) k = match lastOf more k with | some x => some x | none => valV kvs k
  | [], kvs, k => rfl
  | (k', v) :: r, kvs, k => by
    have e : mergeK kvs ((k', v) :: r) = mergeK (putK kvs k' v) r := rfl
    rw [e, valV_merge r, valV_put, lastOf_cons]
    cases lastOf r k with
    | some x => rfl
    | none =>
      by_cases h : k = k'
      · simp [h]
      · simp [h]
/-- the pairs as they lie -/
theorem pairs_at {K : Fg} {H : Hp} : ∀ {ds : List D} {vs : List V} {kds : List (Key × D)}, pairsL ds = some kds → RepL K H vs ds → ∃ (ps : List Addr) (kvs : List (Key × V)), vs = ps.map V.ref ∧ Paired (fun p kv => SqT K H p [kV kv.1, kv.2]) ps kvs ∧ kvs.map (·.1) = kds.map (·.1) ∧ RepL K H (kvs.map (·.2)) (kds.map (·.2))
  | [], _, _, h, r => by cases h; cases r; exact ⟨[], [], rfl, .nil, rfl, .nil⟩
  | d :: ds, _, kds, h, r => by
    cases r with
    | cons r1 r2 =>
      unfold pairsL at h
      cases hp : pairD d with
      | none => rw [hp] at h; cases h
      | some p =>
        rw [hp] at h
        cases hq : pairsL ds with
        | none => simp [hq] at h
        | some rest =>
          simp [hq] at h
          subst h
          obtain ⟨ps, kvs, e1, e2, e3, e4⟩ := pairs_at hq r2
          unfold pairD at hp
          split at hp
          · rename_i k v
            cases hk : toKey k with
            | none => rw [hk] at hp; cases hp
            | some q =>
              rw [hk] at hp
              cases hp
              cases r1 with
              | tuple ht rt =>
                rename_i a ws
                cases rt with
                | cons t1 t2 =>
                  cases t2 with
                  | cons t3 t4 =>
                    cases t4
                    rename_i v1 v2
                    have ek := toKey_rep t1 hk
                    subst ek
                    exact ⟨a :: ps, (q, v2) :: kvs, by rw [e1]; rfl, .cons ht.sq e2, by rw [List.map_cons, e3]; rfl, .cons t3 e4⟩
          · cases hp
theorem lastOf_rep {K : Fg} {H : Hp} : ∀ {kvs : List (Key × V)} {kds : List (Key × D)} (k : Key), kvs.map (·.1) = kds.map (·.1) → RepL K H (kvs.map (·.2)) (kds.map (·.2)) →
    (∃ v d, lastOf kvs k = some v ∧ lastOf kds k = some d ∧ Rep K H v d) ∨ (lastOf kvs k = none ∧ lastOf kds k = none)
  | [], [], _, _, _ => .inr ⟨rfl, rfl⟩
  | [], _ :: _, _, h, _ => by cases h
  | _ :: _, [], _, h, _ => by cases h
  | (k1, v) :: kvs, (k2, d) :: kds, k, h, r => by
    rw [List.map_cons, List.map_cons] at h
    injection h with h1 h2
    cases r with
    | cons r1 r2 =>
      have h1 : k1 = k2 := h1
      subst h1
      unfold lastOf
      rcases lastOf_rep k h2 r2 with ⟨v', d', e1, e2, q⟩ | ⟨e1, e2⟩
      · exact .inl ⟨v', d', by rw [e1], by rw [e2], q⟩
      · rw [e1, e2]
        by_cases e : k = k1
        · exact .inl ⟨v, d, by simp [e], by simp [e], r1⟩
        · exact .inr ⟨by simp [e], by simp [e]⟩
section
variable {X : Cx} {W : WX}
theorem call_dictT (hc : X.calm = true) : CallR X (.type "dict") (fun xs H Q => ∃ (a : Addr) (ps : List Addr) (kvs : List (Key × V)), xs = [.ref a] ∧ TpR X.K H a (ps.map V.ref) ∧ Paired (fun p kv => SqT X.K H p [kV kv.1, kv.2]) ps kvs ∧
    ∀ p, H p = none → Q (.ref p) (upd H p (.dK (mergeK [] kvs)))) := by
  rintro pins s σ H xs us Q I r ⟨a, ps, kvs, rfl, hq, hp, q⟩
  obtain ⟨u, rfl, rx⟩ := vals1 r
  cases rx
  obtain ⟨its, n, rv, hz, e⟩ := hq.at I
  have ei := refs_at rv
  subst ei
  rw [List.length_map] at hz
  obtain ⟨prs, rel, hl, hpr⟩ := pairs_of I hp
  -- the keys as values
  have keys : ∃ kws : List (Value × Value), kws.length = prs.length ∧ ∀ (j : Nat) (k v : Value), kws[j]? = some (k, v) → ∃ (b : Addr) (q : Key), ps[j]? = some b ∧ prs[j]? = some (q, v) ∧ IsTup s.heap b #[k, v] ∧ keyIs q k = true := by
    have pick : ∀ (m : Nat), m ≤ prs.length → ∃ kws : List (Value × Value), kws.length = m ∧ ∀ (j : Nat) (k v : Value), kws[j]? = some (k, v) → ∃ (b : Addr) (q : Key), ps[j]? = some b ∧ prs[j]? = some (q, v) ∧ IsTup s.heap b #[k, v] ∧ keyIs q k = true := by
      intro m
      induction m with
      | zero => exact fun _ => ⟨[], rfl, fun j k v h => by simp at h⟩
      | succ m ih =>
        intro hm
        obtain ⟨kws, h1, h2⟩ := ih (by omega)
        have hlt : m < prs.length := by omega
        obtain ⟨b, u, e1, e2, e3⟩ := hpr m prs[m] (List.getElem?_eq_getElem hlt)
        refine ⟨kws ++ [(u, prs[m].2)], by simp [h1], fun j k v h => ?_⟩
        rcases Nat.lt_or_ge j kws.length with hj | hj
        · rw [List.getElem?_append_left hj] at h; exact h2 j k v h
        · rw [List.getElem?_append_right hj] at h
          have hj0 : j - kws.length = 0 := by
            rcases Nat.eq_zero_or_pos (j - kws.length) with z | z
            · exact z
            · rw [List.getElem?_eq_none (by simp; omega)] at h; cases h
          have hjm : j = m := by omega
          rw [hj0] at h
          cases h
          subst hjm
          exact ⟨b, prs[j].1, e1, List.getElem?_eq_getElem hlt, e2, e3⟩
    exact pick prs.length (Nat.le_refl _)
  obtain ⟨kws, hk1, hk2⟩ := keys
  refine PySem.call_dict_pairs (knd := mixKind X.prog X.w) (kvs := prs) (PySem.PairArg.tuple a (ps.map Value.ref).toArray (fun j => ps.getD j 0) kws) (I.ok.hd hc) ⟨⟨_, n, e, rfl, rfl, rfl⟩, ?_, fun j k v hj => ?_⟩ ⟨hk1.symm, fun i key v h => ?_⟩ (by rw [hk1, hl]; exact hz) fun h' tk hd' k => ?_
  · rw [List.size_toArray, List.length_map, hk1, hl]
  · obtain ⟨b, qk, e1, e2, e3, e4⟩ := hk2 j k v hj
    refine ⟨?_, .inl ?_⟩
    · simp [e1]
    · simp only [List.getD_eq_getElem?_getD, e1, Option.getD_some]; exact e3
  · obtain ⟨b, qk, e1, e2, e3, e4⟩ := hk2 i key v h
    exact ⟨qk, e2, e4⟩
  · have hm : (s.heap.objs.size == sysModules) = false := beq_eq_false_iff_ne.mpr (Nat.ne_of_gt I.big)
    have hlen : (mergeK [] kvs).length ≤ sizeLine := by
      refine Nat.le_trans (length_mergeK kvs []) ?_
      rw [List.length_nil, Nat.zero_add, rel.length, hl]
      exact hz
    have nw : ObjOk X.prog X.w (upd H s.heap.objs.size (.dK (mergeK [] kvs))) h' s.heap.objs.size (.dK (mergeK [] kvs)) := ⟨hlen, hm, merged [] prs, KV.merge rel .nil, hd'⟩
    exact ⟨.ref _, _, I.laid (t' := tk) (fun b o e => k b o (by simp) e) (Nat.le_refl _) nw, rfl, q _ (I.hok.fresh (Nat.le_refl _))⟩
def eDictGet (f g h : Ev → Res D) : Ev → Res D := fun ρ => (f ρ).bind fun x ρ1 => match pairsD x with
  | some kds => (g ρ1).bind fun y ρ2 => (h ρ2).bind fun z ρ3 => (match toKey y with
    | some k => .ok ((lastOf kds k).getD z) ρ3
    | none => .bad)
  | none => .bad
theorem re_dictGet {a b c : Expr} {f g h : Ev → Res D} {pn pos apos cpos : Pos} (hu : X.A.units + 100 < cLine) (hc : X.calm = true) (hg : Gl X "dict") (hm : X.mg "dict" = none) (ha : RE X W a f) (hb : RE X W b g) (hd : RE X W c h)
    (m : M2 X (.Call (.Name "dict" pn) [a] [] pos) "get" apos b c cpos) (hs : starEach [a] X.env = (false, eval a X.env) :: starEach [] X.env := by rfl) :
    RE X W (.Call (.Attribute (.Call (.Name "dict" pn) [a] [] pos) "get" apos) [b, c] [] cpos) (eDictGet f g h) :=
  PE.conv (pe_dget2 (by omega) (pe_callTy (call_dictT hc) hg hm (by decide +kernel) (pa_cons ha pa_nil hs) (by decide) (by decide) hs) hb hd m) fun σ H Q ⟨ρ, Hd, O, R, st, p⟩ => ⟨ρ, Hd, O, R, st, (Post.bind (rel1 := RepX X) p).imp (by
    rintro v H1 ⟨x, Hd1, ρ1, g1, st1, rx, p1⟩
    split at p1
    · rename_i kds hk
      cases rx with
      | tuple ht r =>
        obtain ⟨ps, kvs, rfl, e2, e3, e4⟩ := pairs_at hk r
        refine ⟨_, ps, kvs, rfl, TpR.mono st1.sub ht, Paired.mapP e2 (fun p kv z => SqT.mono st1.sub z), fun k hk0 => ⟨k, rfl, .inl ⟨_, .inl upd_same⟩, ?_⟩⟩
        have hkd : Hd1 k = none := by
          cases q : Hd1 k with
          | none => rfl
          | some o => rw [st1.sub k o q] at hk0; cases hk0
        have hkO : k ∉ O := fun z => by
          obtain ⟨o, e⟩ := st1.dom k z
          rw [hk0] at e; cases e
        have st2 := st1.grow1 (o := .dK (mergeK [] kvs)) hk0
        have gr2 : Grow O H1 Hd1 (upd H1 k (.dK (mergeK [] kvs))) Hd1 := Grow.laid1 hk0
        have keepL : ∀ {Ha Hda Hb Hdb : Hp} {w : HO}, Grow O Ha Hda Hb Hdb → Ha k = some w → Hb k = some w := fun gr k1 => gr.keep k _ k1 hkO
        refine ⟨ρ1, Hd1, O, R, st2, (Post.bind (rel1 := RepX X) (Post.from p1 gr2)).imp ?_⟩
        rintro u H3 ⟨y, Hd3, ρ3, g3, st3, ry, p3⟩
        refine ⟨ρ3, Hd3, O, R, st3, (Post.bind (rel1 := RepX X) p3).imp ?_⟩
        rintro z H4 ⟨z', Hd4, ρ4, g4, st4, rz, p4⟩
        split at p4
        · rename_i q hq
          have ek := toKey_rep ry hq
          subst ek
          have hH4 : H4 k = some (.dK (mergeK [] kvs)) := keepL g4 (keepL g3 upd_same)
          refine ⟨_, DGet.k hH4, ?_⟩
          rw [valV_merge]
          rcases lastOf_rep (K := X.K) (H := Hd4) q e3 ((e4.mono g3.sub).mono g4.sub) with ⟨v', d', f1, f2, f3⟩ | ⟨f1, f2⟩
          · rw [f1]
            rw [f2] at p4
            exact Post.here p4 st4 f3
          · rw [f1]
            rw [f2] at p4
            exact Post.here p4 st4 rz
        · exact p4.elim
      | _ => cases hk
    · exact p1.elim)⟩
end
end AH

/-! AHF: the words that printed derivations use -/
namespace AH
open PySem PySem.Spec PyProof.Rows L2
/-- a def of the text stands where its name says -/
def HasFn (K : Fg) (mg : Str → Option Value) (x : Str) (ps : List Str) (st : Stmt) : Prop := ∃ f fd, Fun K x x st f fd ∧ mg x = some (.ref f) ∧ Binds K fd ps []
/-- .. and keeps the promise of its mirror -/
def Keeps (P : Program) (w : World) (K : Fg) (mg : Str → Option Value) (base : Heap) (k : Nat) (x : Str) (ps : List Str) (m : Fn) : Prop :=
  ∃ f fd, FnG P w K mg base CX0 k f fd ps (spD K mg ps.length m) ∧ mg x = some (.ref f) ∧ PySem.W.keepIn K (.ref f) = true ∧ Binds K fd ps []
def KeepsL (P : Program) (w : World) (K : Fg) (mg : Str → Option Value) (base : Heap) (k : Nat) (x : Str) (ps : List Str) (m : FnL) : Prop :=
  ∃ f fd, FnG P w K mg base CX0 k f fd ps (spL K mg ps.length m) ∧ mg x = some (.ref f) ∧ PySem.W.keepIn K (.ref f) = true ∧ Binds K fd ps []
/-- a module's constant -/
def HasC (mg : Str → Option Value) (x : Str) (v : V) : Prop := ∃ u, mg x = some u ∧ RelV v u
section
variable {P : Program} {w : World} {K : Fg} {mg : Str → Option Value} {base : Heap}
theorem keeps_of {x : Str} {st : Stmt} {N ps : List Str} {k n : Nat} {body : Ev → Res Fl} (h : HasFn K mg x ps st) (S : FnScope N ps (defScope st)) (hn : N.length = ps.length + n)
    (hbody : ∀ (f : Addr) (cdv : Value) (A : Around) (outer : List Env) (s : Shared) (H : Hp) (E : XK), Room k (A.deeper (envOfC x (defScope st) s.heap.objs.size f cdv)) → A.guards = some [] → (A.deeper (envOfC x (defScope st) s.heap.objs.size f cdv)).units + 100 < cLine →
      RSs (cxOf CX0 P w K mg base N x (defScope st) f cdv A outer s H E) (WD E) (defBody st) body) : Keeps P w K mg base (k + 1) x ps (mkFn n body) := by
  obtain ⟨f, fd, F, g, b⟩ := h
  exact ⟨f, fd, fn_okD F S hn fun cdv A outer s H E hr gs => hbody f cdv A outer s H E hr gs (by have := hr.un; omega), g, F.kp, b⟩
theorem keepsL_of {x : Str} {st : Stmt} {N ps : List Str} {k n : Nat} {body : Ev → Res Fl} (h : HasFn K mg x ps st) (S : FnScope N ps (defScope st)) (hn : N.length = ps.length + n)
    (hbody : ∀ (f : Addr) (cdv : Value) (A : Around) (outer : List Env) (s : Shared) (H : Hp) (E : XK), Room k (A.deeper (envOfC x (defScope st) s.heap.objs.size f cdv)) → A.guards = some [] → (A.deeper (envOfC x (defScope st) s.heap.objs.size f cdv)).units + 100 < cLine →
      RSs (cxOf CX0 P w K mg base N x (defScope st) f cdv A outer s H E) (WD E) (defBody st) body) : KeepsL P w K mg base (k + 1) x ps (mkFnL n body) := by
  obtain ⟨f, fd, F, g, b⟩ := h
  exact ⟨f, fd, fn_okL F S hn fun cdv A outer s H E hr gs => hbody f cdv A outer s H E hr gs (by have := hr.un; omega), g, F.kp, b⟩
end
section
variable {X : Cx} {W : WX} {k : Nat} {ps : List Str} {x : Str} {pn pos : Pos} {e : Expr} {es : List Expr} {l : Ev → Res (List D)}
theorem pass00 : ∀ σ, PassesAt CX0 X σ (WE W σ) := fun _ _ _ _ _ _ _ h => h.elim
theorem ck {m : Fn} (h : Keeps X.prog X.w X.K X.mg X.base k x ps m) (hr : Room k X.A) (hgs : X.A.guards = some []) (hg : Gl X x) (ha : RL X W (e :: es) l) (hn : (e :: es).length = ps.length := by rfl) (hdb : (x == ("__debug__" : Str)) = false := by decide)
    (he : starEach (e :: es) X.env = (false, eval e X.env) :: starEach es X.env := by rfl) (hpl : (backTo pos (starEach es X.env)).any (·.1) = false := by rfl) : RE X W (.Call (.Name x pn) (e :: es) [] pos) (eCall m l) := by
  obtain ⟨f, fd, F, g, kp, b⟩ := h
  exact re_call F hr hgs hg g kp b pass00 ha hn hdb he hpl
theorem cl {m : FnL} (h : KeepsL X.prog X.w X.K X.mg X.base k x ps m) (hr : Room k X.A) (hgs : X.A.guards = some []) (hg : Gl X x) (ha : RL X W (e :: es) l) (hn : (e :: es).length = ps.length := by rfl) (hdb : (x == ("__debug__" : Str)) = false := by decide)
    (he : starEach (e :: es) X.env = (false, eval e X.env) :: starEach es X.env := by rfl) (hpl : (backTo pos (starEach es X.env)).any (·.1) = false := by rfl) : RF X W (.Call (.Name x pn) (e :: es) [] pos) (eCall m l) := by
  obtain ⟨f, fd, F, g, kp, b⟩ := h
  exact rf_call F hr hgs hg g kp b pass00 ha hn hdb he hpl
theorem cr {m : Fn} {y : Str} {py : Pos} (i : Nat) (h : Keeps X.prog X.w X.K X.mg X.base k x ps m) (hr : Room k X.A) (hgs : X.A.guards = some []) (hg : Gl X x) (ha : RL X W es l) (hN : X.N[i]? = some y := by rfl) (hv : Vis X.env.scope y := by first | exact Or.inl rfl | exact Or.inr (Or.inl rfl) | exact Or.inr (Or.inr rfl)) (hn : es.length + 1 = ps.length := by rfl) (hdb : (x == ("__debug__" : Str)) = false := by decide)
    (he : starEach (.Name y py :: es) X.env = (false, eval (.Name y py) X.env) :: starEach es X.env := by rfl) (hpl : (backTo pos (starEach es X.env)).any (·.1) = false := by rfl) (hd1 : (y == ("__debug__" : Str)) = false := by decide) (hcd : (y == ("__classdict__" : Str)) = false := by decide) :
    RE X W (.Call (.Name x pn) (.Name y py :: es) [] pos) (eCallR m i l) := by
  obtain ⟨f, fd, F, g, kp, b⟩ := h
  exact re_callR F hr hgs hg g kp b pass00 ha hN hv hn hdb he hpl hd1 hcd
theorem gc {v : V} {d : D} (h : HasC X.mg x v) (hg : Gl X x) (q : ∀ H, Rep X.K H v d) (hd : (x == ("__debug__" : Str)) = false := by decide) : RE X W (.Name x pn) (eK d) := by
  obtain ⟨u, hm, r⟩ := h
  exact re_glob hg hm r q hd
def nInD : D → D → Option D := fun x y => match y with | .str _ => none | _ => ninD x y
theorem op_nInD (hu : X.A.units + 100 < cLine) : OpD X (compareOp .NotIn) nInD := op_ninD hu
def negI : D → Option D
  | .int i => some (.int (-i))
  | _ => none
theorem re_neg {a : Expr} {f : Ev → Res D} (ha : RE X W a f) : RE X W (.UnaryOp .USub a pos) (eUn negI f) :=
  PE.conv (pe_un un_neg ha) fun σ H Q ⟨ρ, Hd, O, R, st, t⟩ => ⟨ρ, Hd, O, R, st, (Post.bind (rel1 := RepX X) t).imp (by
    rintro v H1 ⟨d, Hd1, ρ1, g1, st1, rx, p1⟩
    cases rx with
    | int i => exact ⟨i, rfl, Post.here p1 st1 (.int _)⟩
    | _ => exact p1.elim)⟩
theorem own_v (x : Str) (j : Nat) : ∀ i, (Pat.v j).has i → i ∈ [(x, j)].map (·.2) := fun i h => by
  have h : i = j := h
  rw [h]
  exact List.mem_cons_self
/-- x, y, z = a, b, c of plain names -/
def sPar3 (i j l : Nat) (t : Ev → Res (List D)) : Ev → Res Fl := fun ρ => sBind (t ρ) fun ds ρ1 => match ds with
  | [d, e, g] => (match ((putV i d ρ1).bind (putV j e)).bind (putV l g) with | some ρ2 => .ok .nx ρ2 | none => .bad)
  | _ => .bad
theorem rs_par3 {a b c : Expr} {i j n : Nat} {x1 y z : Str} {l : Ev → Res (List D)} {px py pz pt : Pos} {kt k2 pt2} (hc : X.calm = true) (hN : X.N.Nodup) (hi : X.N[i]? = some x1) (hj : X.N[j]? = some y) (hl : X.N[n]? = some z) (hij : i ≠ j) (hil : i ≠ n) (hjl : j ≠ n)
    (hx : X.env.scope.names.lookup x1 = some .local) (hy : X.env.scope.names.lookup y = some .local) (hz : X.env.scope.names.lookup z = some .local) (ha : RL X W [a, b, c] l)
    (hw : swappedStores [.Tuple [.Name x1 px, .Name y py, .Name z pz] kt pt] (.Tuple [a, b, c] k2 pt2) X.env = pure (some [x1, y, z]))
    (hs : swapsWithSole [.Tuple [.Name x1 px, .Name y py, .Name z pz] kt pt] (.Tuple [a, b, c] k2 pt2) pos.line X.env = pure false := by rfl) :
    RS X W (.Assign [.Tuple [.Name x1 px, .Name y py, .Name z pz] kt pt] (.Tuple [a, b, c] k2 pt2) pos) (sPar3 i j n l) :=
  PS.conv (ps_par3 hc hN hi hj hl hij hil hjl hx hy hz ha.pa hw hs) fun E σ H ⟨ρ, Hd, O, R, st, p⟩ => ⟨ρ, Hd, O, R, st, (PostS.bind (rel := fun _ Hd vs ds => RepL X.K Hd vs ds) p).imp (by
    rintro vs H1 ⟨ds, Hd1, ρ1, g1, st1, r, p1⟩
    split at p1
    · rename_i d e g
      cases r with
      | cons r1 r =>
        cases r with
        | cons r2 r =>
          cases r with
          | cons r3 r =>
            cases r
            refine ⟨_, _, _, rfl, ?_⟩
            split at p1
            · rename_i ρ2 hq
              cases q : putV i d ρ1 with
              | none => rw [q] at hq; cases hq
              | some ρa =>
                rw [q] at hq
                cases q2 : putV j e ρa with
                | none => rw [Option.bind_some, q2] at hq; cases hq
                | some ρb =>
                  rw [Option.bind_some, q2] at hq
                  exact p1 _ H1 Hd1 O Grow.refl (fun _ h => .inl h) (putV_ok' (putV_ok' (putV_ok' st1 q r1) q2 r2) hq r3)
            · exact p1.elim
    · exact p1.elim)⟩
end
end AH

/-! AHG: the end of a law -/
namespace AH
open PySem PySem.Spec PyProof.Rows L2
section
variable {P : Program} {w : World} {K : Fg} {mg : Str → Option Value} {base : Heap} {h : Heap}
theorem hasFn_mk {x : Str} {ps : List Str} {st : Stmt} {f : Addr} {oc : Value} {od an : Option Addr} {osl : Array (Option Value)} {kV doc pm cdv ct : Value} (X : K.In h) (G : h.Ns mainGlobals mg)
    (a : PySem.W.nsIn K mainGlobals x = some (some (.ref f)))
    (l : K.lookup f = some ⟨oc, od, .func (PySem.W.fnOf x x (defArgs st) (defBody st) (defScope st) .none kV doc pm an cdv ct), osl⟩) (c : PySem.W.codeIn K cdv x = true) (k : PySem.W.keepIn K (.ref f) = true)
    (b : ∀ (kV doc pm : Value) (an : Option Addr) (cdv ct : Value) (us : List Value), us.length = ps.length → bindArgs (PySem.W.fnOf x x (defArgs st) (defBody st) (defScope st) .none kV doc pm an cdv ct) ⟨us, []⟩ = pure (ps.zip us)) : HasFn K mg x ps st :=
  have F := fun_mk (st := st) l c k
  ⟨f, _, F, PySem.W.mg_of X G a, F.binds b⟩
theorem hasC_int {x : Str} {i : Int} {t : Tok} (X : K.In h) (G : h.Ns mainGlobals mg) (a : PySem.W.nsIn K mainGlobals x = some (some (.int i t))) : HasC mg x (.int i) := ⟨_, PySem.W.mg_of X G a, t, rfl⟩
theorem hasC_str {x : Str} {i : Str} {t : Tok} (X : K.In h) (G : h.Ns mainGlobals mg) (a : PySem.W.nsIn K mainGlobals x = some (some (.str i t))) : HasC mg x (.str i) := ⟨_, PySem.W.mg_of X G a, t, rfl⟩
/-- what a law's def promises at its end -/
def spEnd (n : Nat) (K : Fg) : Sp := fun vs H Q _ => ∃ (a : Addr) (ns : List Int), vs = [.ref a] ∧ ns.length ≤ n ∧ LsR K H a (ns.map V.int) ∧ ∀ H', Q (.bl true) H'
theorem RepL.ints {H : Hp} : ∀ ns : List Int, RepL K H (ns.map V.int) (ns.map PyData.int)
  | [] => .nil
  | i :: r => .cons (.int i) (RepL.ints r)
theorem fn_end {n k : Nat} {f : Addr} {fd : FuncData} {x : Str} {m : Fn} (F : FnG P w K mg base CX0 k f fd [x] (spD K mg 1 m))
    (hm : ∀ ns : List Int, ns.length ≤ n → ∃ outs, m [.val (.list (ns.map .int))] = .ok (.bool true) outs) : FnG P w K mg base CX0 k f fd [x] (spEnd n K) where
  len := fun vs H Q E ⟨a, ns, e, _⟩ => by rw [e]; rfl
  run := fun A outer s H args us vs Q E hr hg h0 hb hv hsp => F.run A outer s H args us vs Q E hr hg h0 hb hv (by
    obtain ⟨a, ns, rfl, hl, hL, q⟩ := hsp
    obtain ⟨outs, e⟩ := hm ns hl
    have no : ∀ {i : Nat}, ¬ Held [Slot.val (.list (ns.map .int))] i := by
      rintro i ⟨es, h | h⟩ <;> (cases i with | zero => cases h | succ j => cases h)
    refine ⟨[.val (.list (ns.map .int))], H, [], fun _ => none, ⟨fun _ _ h => h, rfl, fun i x h => ?_, fun i j a hi => absurd hi no, fun a ha => nomatch ha⟩, rfl, (fun i a h => nomatch h), ?_⟩
    · cases i with
      | zero =>
        cases h
        exact ⟨some (.ref a), rfl, .ref a, rfl, .list hL (RepL.ints ns)⟩
      | succ j => cases h
    · rw [e]
      intro v H' Hd' g st r
      cases r
      exact q H')
theorem law_go {l : PySem.W.OpenLaw} {n k : Nat} {fa : Addr} {x y : Str} {st : Stmt} {m : Fn} (T : HasFn K mg y [x] st) (hfa : mg y = some (.ref fa))
    (hb : ∀ (kV doc pm : Value) (an : Option Addr) (cdv ct v : Value), bindArgs (PySem.W.fnOf y y (defArgs st) (defBody st) (defScope st) .none kV doc pm an cdv ct) ⟨[v], []⟩ = pure [(x, v)])
    (run : ∀ (base : Heap) (f : Addr) (fd : FuncData), Fun K y y st f fd → FnG l.prog w K mg base CX0 k f fd [x] (spD K mg 1 m))
    (hm : ∀ ns : List Int, ns.length ≤ n → ∃ outs, m [.val (.list (ns.map .int))] = .ok (.bool true) outs) :
    ∃ fd : FuncData, (∀ (s : Shared) (u : Value), BindsTo s fd ⟨[u], []⟩ [(x, u)]) ∧ ∀ base : Heap, K.In base → base.Ns mainGlobals mg → FnG l.prog w K mg base CX0 k fa fd [x] (spEnd n K) := by
  obtain ⟨f, fd, F, g, b⟩ := T
  have e := hfa.symm.trans g
  cases e
  refine ⟨fd, fun s u => ?_, fun base _ _ => fn_end (run base fa fd F) hm⟩
  obtain ⟨oc, od, kV, doc, pm, an, cdv, ct, osl, rfl, lk, hcd⟩ := F.ex
  exact .of_eq (hb kV doc pm an cdv ct u)
end
end AH

/-! AHP: what the drawing of numbers gives -/
namespace AH
open PySem PySem.Spec PyProof.Rows L2
/-! ### step by step -/
section
variable {f g : Ev → Res D} {ρ ρ1 ρ2 : Ev} {x y z : D}
theorem bin_ok {op : D → D → Option D} (h1 : f ρ = .ok x ρ1) (h2 : g ρ1 = .ok y ρ2) (h3 : op x y = some z) : eBin op f g ρ = .ok z ρ2 := by
  unfold eBin
  rw [h1]
  show ((g ρ1).bind fun y ρ2 => lift (op x y) ρ2) = _
  rw [h2]
  show lift (op x y) ρ2 = _
  rw [h3]
  rfl
theorem un_ok {op : D → Option D} (h1 : f ρ = .ok x ρ1) (h3 : op x = some z) : eUn op f ρ = .ok z ρ1 := by
  unfold eUn
  rw [h1]
  show lift (op x) ρ1 = _
  rw [h3]
  rfl
theorem cv_ok {b : Bool} (h1 : f ρ = .ok (.bool b) ρ1) : cV f ρ = .ok b ρ1 := by
  unfold cV
  rw [h1]
  rfl
theorem seq_ok {p q : Ev → Res Fl} (h : p ρ = .ok .nx ρ1) : sSeq p q ρ = q ρ1 := by
  unfold sSeq
  rw [h]
theorem seq_end {p q : Ev → Res Fl} {r : Res Fl} (h : p ρ = r) (hr : ∀ ρ', r ≠ .ok .nx ρ') : sSeq p q ρ = r := by
  unfold sSeq
  rw [h]
  split
  · exact absurd rfl (hr _)
  · rfl
theorem if_t {c : Ev → Res Bool} {p q : Ev → Res Fl} (h : c ρ = .ok true ρ1) : sIf c p q ρ = p ρ1 := by
  unfold sIf
  rw [h]
  rfl
theorem if_f {c : Ev → Res Bool} {p q : Ev → Res Fl} (h : c ρ = .ok false ρ1) : sIf c p q ρ = q ρ1 := by
  unfold sIf
  rw [h]
  rfl
theorem eif_t {c : Ev → Res Bool} (h : c ρ = .ok true ρ1) : eIf c f g ρ = f ρ1 := by
  unfold eIf
  rw [h]
  rfl
theorem eif_f {c : Ev → Res Bool} (h : c ρ = .ok false ρ1) : eIf c f g ρ = g ρ1 := by
  unfold eIf
  rw [h]
  rfl
theorem set_ok {p : Pat} (h : f ρ = .ok x ρ1) (h2 : bindP p x ρ1 = some ρ2) : sSet p f ρ = .ok .nx ρ2 := by
  unfold sSet
  rw [h]
  show (match bindP p x ρ1 with | some ρ2 => Res.ok Fl.nx ρ2 | none => .bad) = _
  rw [h2]
theorem ret_ok (h : f ρ = .ok x ρ1) : sRet f ρ = .ok (.rt x) ρ1 := by
  unfold sRet
  rw [h]
  rfl
theorem setIx_ok {i : Nat} {k : Int} {ds ds1 : List D} {j : Nat} (h : f ρ = .ok x ρ1) (h1 : heldOf ρ1[i]? = some ds1) (h2 : g ρ1 = .ok (.int k) ρ2) (h3 : heldOf ρ2[i]? = some ds) (h4 : ixN ds.length k = some j) : sSetIx i f g ρ = .ok .nx (setHeld i (ds.set j x) ρ2) := by
  unfold sSetIx
  rw [h]
  show (match heldOf ρ1[i]? with
  | some _ => sBind (g ρ1) fun y ρ2 => (match heldOf ρ2[i]?, y with
    | some ds, .int k => (match ixN ds.length k with | some j => Res.ok Fl.nx (setHeld i (ds.set j x) ρ2) | none => .bad)
    | _, _ => .bad)
  | none => .bad) = _
  rw [h1]
  show (sBind (g ρ1) fun y ρ2 => (match heldOf ρ2[i]?, y with
    | some ds, .int k => (match ixN ds.length k with | some j => Res.ok Fl.nx (setHeld i (ds.set j x) ρ2) | none => .bad)
    | _, _ => .bad)) = _
  rw [h2]
  show (match heldOf ρ2[i]?, PyData.int k with
    | some ds, .int k => (match ixN ds.length k with | some j => Res.ok Fl.nx (setHeld i (ds.set j x) ρ2) | none => .bad)
    | _, _ => .bad) = _
  rw [h3]
  show (match ixN ds.length k with | some j => Res.ok Fl.nx (setHeld i (ds.set j x) ρ2) | none => .bad) = _
  rw [h4]
end
theorem bin_s {f g : Ev → Res D} {ρ : Ev} {x y z : D} {op : D → D → Option D} (h1 : f ρ = .ok x ρ) (h2 : g ρ = .ok y ρ) (h3 : op x y = some z) : eBin op f g ρ = .ok z ρ := bin_ok h1 h2 h3
theorem un_s {f : Ev → Res D} {ρ : Ev} {x z : D} {op : D → Option D} (h1 : f ρ = .ok x ρ) (h3 : op x = some z) : eUn op f ρ = .ok z ρ := un_ok h1 h3
theorem k_s {ρ : Ev} {x : D} : eK x ρ = .ok x ρ := rfl
theorem int_s {i : Int} : intD (.int i) = some (.int i) := rfl
theorem add_s {i j : Int} : addD (.int i) (.int j) = some (.int (i + j)) := rfl
/-! ### numbers -/
theorem lgN {i : Int} (h0 : 0 ≤ i) (h : i < 10 ^ 300) : i.natAbs.log2 < 1000 := by
  have e : i.natAbs < 10 ^ 300 := by omega
  by_cases z : i.natAbs = 0
  · rw [z]
    decide
  · exact (Nat.log2_lt z).mpr (Nat.lt_of_lt_of_le e (by decide))
theorem mod_ok {i j : Int} (h : 0 < j) : modI (.int i) (.int j) = some (.int (i % j)) := by
  show (if decide (0 < j) = true then some (PyData.int (i % j)) else none) = _
  rw [if_pos (decide_eq_true h)]
theorem fdiv_ok {i j : Int} (h : 0 < j) (h2 : j < 10 ^ 300) : fdivI (.int i) (.int j) = some (.int (i / j)) := by
  show (if (decide (0 < j) && decide (j.natAbs.log2 < 9000)) = true then some (PyData.int (i / j)) else none) = _
  rw [if_pos]
  rw [decide_eq_true h, decide_eq_true (Nat.lt_trans (lgN (by omega) h2) (by decide))]
  rfl
theorem mul_ok {i j : Int} (h0 : 0 ≤ i) (h : i < 10 ^ 300) (k0 : 0 ≤ j) (k : j < 10 ^ 300) : mulI (.int i) (.int j) = some (.int (i * j)) := by
  show (if decide (i.natAbs.log2 + j.natAbs.log2 < 1000000) = true then some (PyData.int (i * j)) else none) = _
  rw [if_pos]
  have a := lgN h0 h
  have b := lgN k0 k
  exact decide_eq_true (by omega)
theorem cube_ok {i : Int} (h0 : 0 ≤ i) (h : i < 10 ^ 300) : powI (.int i) (.int 3) = some (.int (i ^ 3)) := by
  show (if (decide (0 ≤ (3 : Int)) && decide ((Builtin.Int.intBits i : Int) * 3 ≤ 2 ^ 27)) = true then some (PyData.int (i ^ 3)) else none) = _
  rw [if_pos]
  have a := lgN h0 h
  have b : Builtin.Int.intBits i ≤ 1000 := by
    unfold Builtin.Int.intBits
    split <;> omega
  have c : (Builtin.Int.intBits i : Int) * 3 ≤ 2 ^ 27 := by
    have : (2 : Int) ^ 27 = 134217728 := by decide
    omega
  rw [decide_eq_true c]
  rfl
/-! ### the pot -/
def takeB : Ev → Res Fl := (sSeq (sIf (cV (eBin gtI (eIxO 0 (eK (.int 0))) (eK (.int 0)))) (sSeq (sSet (.v 4) (eBin modI (eUn intD (eIxO 0 (eK (.int 0)))) (eVar 1)))
    (sSeq (sSetIx 0 (eBin fdivI (eIxO 0 (eK (.int 0))) (eVar 1)) (eK (.int 0)))
    (sRet (eVar 4)))) sNil)
    (sSeq (sSetIx 0 (eBin addD (eIxO 0 (eK (.int 2))) (eK (.int 1))) (eK (.int 2)))
    (sSeq (sSet (.v 2) (eBin ixD (eLst (lCons (eK (.int 2147483647)) (lCons (eK (.int 2147483629)) (lCons (eK (.int 2147483587)) (lCons (eK (.int 2147483579)) (lCons (eK (.int 2147483563)) lNil)))))) (eBin modI (eUn intD (eIxO 0 (eK (.int 2)))) (eK (.int 5)))))
    (sSeq (sSet (.v 3) (eBin modI (eUn intD (eBin powI (eUn intD (eBin addD (eBin addD (eIxO 0 (eK (.int 1))) (eBin mulI (eBin mulI (eK (.int 99991)) (eIxO 0 (eK (.int 2)))) (eIxO 0 (eK (.int 2))))) (eK (.int 41)))) (eK (.int 3)))) (eVar 2)))
    (sSeq (sSet (.v 3) (eBin modI (eUn intD (eBin mulI (eVar 3) (eBin addD (eBin modI (eUn intD (eVar 3)) (eK (.int 10009))) (eBin mulI (eK (.int 83)) (eIxO 0 (eK (.int 2))))))) (eK (.int 2305843009213693907))))
    (sRet (eBin modI (eUn intD (eBin fdivI (eVar 3) (eK (.int 109)))) (eVar 1))))))))
def PotOk (n : Int) (ds : List D) : Prop := ∃ a b c : Int, ds = [.int a, .int b, .int c] ∧ 0 ≤ b ∧ b < 2305843009213693921 ∧ 0 ≤ c ∧ c ≤ n
theorem PotOk.mono {n n' : Int} {ds : List D} (h : PotOk n ds) (l : n ≤ n') : PotOk n' ds := by
  obtain ⟨a, b, c, e, h1, h2, h3, h4⟩ := h
  exact ⟨a, b, c, e, h1, h2, h3, by omega⟩
theorem big300 : (1000000000000000000000000000000000000000000000000000000000000 : Int) < 10 ^ 300 := by decide
theorem prime_at (j : Int) : ∃ p : Int, ixD (.list [.int 2147483647, .int 2147483629, .int 2147483587, .int 2147483579, .int 2147483563]) (.int (j % 5)) = some (.int p) ∧ 0 < p ∧ p < 2147483648 := by
  have h : j % 5 = 0 ∨ j % 5 = 1 ∨ j % 5 = 2 ∨ j % 5 = 3 ∨ j % 5 = 4 := by omega
  rcases h with h | h | h | h | h <;> rw [h]
  · exact ⟨_, rfl, by decide, by decide⟩
  · exact ⟨_, rfl, by decide, by decide⟩
  · exact ⟨_, rfl, by decide, by decide⟩
  · exact ⟨_, rfl, by decide, by decide⟩
  · exact ⟨_, rfl, by decide, by decide⟩
theorem take3 {a b c u p q r y z : Int} (h1 : mulI (.int 99991) (.int c) = some (.int q)) (h2 : mulI (.int q) (.int c) = some (.int r)) (h3 : powI (.int (b + r + 41)) (.int 3) = some (.int y)) (h4 : modI (.int y) (.int p) = some (.int z)) :
    sSet (.v 3) (eBin modI (eUn intD (eBin powI (eUn intD (eBin addD (eBin addD (eIxO 0 (eK (.int 1))) (eBin mulI (eBin mulI (eK (.int 99991)) (eIxO 0 (eK (.int 2)))) (eIxO 0 (eK (.int 2))))) (eK (.int 41)))) (eK (.int 3)))) (eVar 2)) [.ref [.int a, .int b, .int c], .val (.int u), .val (.int p), .none, .none]
      = .ok .nx [.ref [.int a, .int b, .int c], .val (.int u), .val (.int p), .val (.int z), .none] := by
  have i1 : eIxO 0 (eK (.int 1)) [.ref [.int a, .int b, .int c], .val (.int u), .val (.int p), .none, .none] = .ok (.int b) [.ref [.int a, .int b, .int c], .val (.int u), .val (.int p), .none, .none] := rfl
  have i2 : eIxO 0 (eK (.int 2)) [.ref [.int a, .int b, .int c], .val (.int u), .val (.int p), .none, .none] = .ok (.int c) [.ref [.int a, .int b, .int c], .val (.int u), .val (.int p), .none, .none] := rfl
  have i3 : eVar 2 [.ref [.int a, .int b, .int c], .val (.int u), .val (.int p), .none, .none] = .ok (.int p) [.ref [.int a, .int b, .int c], .val (.int u), .val (.int p), .none, .none] := rfl
  have e1 := bin_s (bin_s k_s i2 h1) i2 h2
  have e2 := bin_s (bin_s i1 e1 add_s) k_s (add_s (j := 41))
  have e3 := un_s (bin_s (un_s e2 int_s) k_s h3) int_s
  exact set_ok (bin_s e3 i3 h4) rfl
theorem take4 {a b c u p m q r z : Int} (h1 : modI (.int m) (.int 10009) = some (.int q)) (h2 : mulI (.int 83) (.int c) = some (.int r)) (h3 : mulI (.int m) (.int (q + r)) = some (.int z)) :
    sSet (.v 3) (eBin modI (eUn intD (eBin mulI (eVar 3) (eBin addD (eBin modI (eUn intD (eVar 3)) (eK (.int 10009))) (eBin mulI (eK (.int 83)) (eIxO 0 (eK (.int 2))))))) (eK (.int 2305843009213693907))) [.ref [.int a, .int b, .int c], .val (.int u), .val (.int p), .val (.int m), .none]
      = .ok .nx [.ref [.int a, .int b, .int c], .val (.int u), .val (.int p), .val (.int (z % 2305843009213693907)), .none] := by
  have i2 : eIxO 0 (eK (.int 2)) [.ref [.int a, .int b, .int c], .val (.int u), .val (.int p), .val (.int m), .none] = .ok (.int c) [.ref [.int a, .int b, .int c], .val (.int u), .val (.int p), .val (.int m), .none] := rfl
  have i3 : eVar 3 [.ref [.int a, .int b, .int c], .val (.int u), .val (.int p), .val (.int m), .none] = .ok (.int m) [.ref [.int a, .int b, .int c], .val (.int u), .val (.int p), .val (.int m), .none] := rfl
  have e1 := bin_s (bin_s (un_s i3 int_s) k_s h1) (bin_s k_s i2 h2) add_s
  exact set_ok (bin_s (un_s (bin_s i3 e1 h3) int_s) k_s (mod_ok (by decide))) rfl
theorem take5 {l : List D} {u p z : Int} (u0 : 0 < u) : sRet (eBin modI (eUn intD (eBin fdivI (eVar 3) (eK (.int 109)))) (eVar 1)) [.ref l, .val (.int u), .val (.int p), .val (.int z), .none] = .ok (.rt (.int (z / 109 % u))) [.ref l, .val (.int u), .val (.int p), .val (.int z), .none] := by
  have i3 : eVar 3 [.ref l, .val (.int u), .val (.int p), .val (.int z), .none] = .ok (.int z) [.ref l, .val (.int u), .val (.int p), .val (.int z), .none] := rfl
  have i1 : eVar 1 [.ref l, .val (.int u), .val (.int p), .val (.int z), .none] = .ok (.int u) [.ref l, .val (.int u), .val (.int p), .val (.int z), .none] := rfl
  exact ret_ok (bin_s (un_s (bin_s i3 k_s (fdiv_ok (by decide) (Int.lt_trans (by decide) big300))) int_s) i1 (mod_ok u0))
theorem take_ok {n : Int} {ds : List D} {u : Int} (h : PotOk n ds) (hn : n < 1000000) (u0 : 0 < u) (u1 : u < 1000000) :
    ∃ (r : Int) (ds' : List D), mkFn 3 takeB [.ref ds, .val (.int u)] = .ok (.int r) [.ref ds', .none] ∧ 0 ≤ r ∧ r < u ∧ PotOk (n + 1) ds' := by
  obtain ⟨a, b, c, rfl, b0, b1, c0, c1⟩ := h
  have bg := big300
  by_cases ha : 0 < a
  · refine ⟨a % u, [.int (a / u), .int b, .int c], ?_, Int.emod_nonneg _ (by omega), Int.emod_lt_of_pos _ u0, a / u, b, c, rfl, b0, b1, c0, by omega⟩
    have e : takeB [.ref [.int a, .int b, .int c], .val (.int u), .none, .none, .none] = .ok (.rt (.int (a % u))) [.ref [.int (a / u), .int b, .int c], .val (.int u), .none, .none, .val (.int (a % u))] := by
      unfold takeB
      refine seq_end ((if_t (ρ1 := [.ref [.int a, .int b, .int c], .val (.int u), .none, .none, .none]) (cv_ok (bin_ok (x := .int a) (y := .int 0) rfl rfl ?_))).trans ?_) (fun _ => nofun)
      · show some (PyData.bool (decide (0 < a))) = _
        rw [decide_eq_true ha]
      · refine (seq_ok (set_ok (bin_ok (x := .int a) (y := .int u) rfl rfl (mod_ok u0)) rfl)).trans ?_
        refine (seq_ok (setIx_ok (i := 0) (k := 0) (j := 0) (bin_ok (x := .int a) (y := .int u) rfl rfl (fdiv_ok u0 (by omega))) rfl rfl rfl rfl)).trans ?_
        rfl
    show (match takeB [.ref [.int a, .int b, .int c], .val (.int u), .none, .none, .none] with
      | .ok (.rt d) ρ => Res.ok d (outsOf 2 ρ)
      | .ok .nx ρ => .ok .none (outsOf 2 ρ)
      | .ok _ _ => .bad
      | .exc c d ρ => .exc c d (outsOf 2 ρ)
      | .bad => .bad) = _
    rw [e]
    rfl
  · obtain ⟨p, hp, p0, p1⟩ := prime_at (c + 1)
    have q1 : 0 ≤ 99991 * (c + 1) := by omega
    have q2 : 99991 * (c + 1) ≤ 99991000000 := by omega
    have q3 : 99991 * (c + 1) * (c + 1) ≤ 99991000000 * 1000000 := Int.mul_le_mul q2 (by omega) (by omega) (by decide)
    have q4 : 0 ≤ 99991 * (c + 1) * (c + 1) := Int.mul_nonneg q1 (by omega)
    have h1 : mulI (.int 99991) (.int (c + 1)) = some (.int (99991 * (c + 1))) := mul_ok (by decide) (by omega) (by omega) (by omega)
    have h2 : mulI (.int (99991 * (c + 1))) (.int (c + 1)) = some (.int (99991 * (c + 1) * (c + 1))) := mul_ok q1 (by omega) (by omega) (by omega)
    have h3 := cube_ok (i := b + 99991 * (c + 1) * (c + 1) + 41) (by omega) (by omega)
    generalize 99991 * (c + 1) * (c + 1) = r at h2 h3
    generalize (b + r + 41) ^ 3 = y at h3
    have h4 := mod_ok (i := y) p0
    have m0 := Int.emod_nonneg y (by omega : p ≠ 0)
    have m1 := Int.emod_lt_of_pos y p0
    generalize y % p = m at h4 m0 m1
    have h5 := mod_ok (i := m) (j := 10009) (by decide)
    have h6 : mulI (.int 83) (.int (c + 1)) = some (.int (83 * (c + 1))) := mul_ok (by decide) (by omega) (by omega) (by omega)
    have h7 := mul_ok (i := m) (j := m % 10009 + 83 * (c + 1)) m0 (by omega) (by omega) (by omega)
    generalize m * (m % 10009 + 83 * (c + 1)) = z at h7
    refine ⟨z % 2305843009213693907 / 109 % u, [.int a, .int b, .int (c + 1)], ?_, Int.emod_nonneg _ (by omega), Int.emod_lt_of_pos _ u0, a, b, c + 1, rfl, b0, b1, by omega, by omega⟩
    have e0 : sIf (cV (eBin gtI (eIxO 0 (eK (.int 0))) (eK (.int 0)))) (sSeq (sSet (.v 4) (eBin modI (eUn intD (eIxO 0 (eK (.int 0)))) (eVar 1)))
        (sSeq (sSetIx 0 (eBin fdivI (eIxO 0 (eK (.int 0))) (eVar 1)) (eK (.int 0)))
        (sRet (eVar 4)))) sNil [.ref [.int a, .int b, .int c], .val (.int u), .none, .none, .none] = .ok .nx [.ref [.int a, .int b, .int c], .val (.int u), .none, .none, .none] := by
      refine (if_f (ρ1 := [.ref [.int a, .int b, .int c], .val (.int u), .none, .none, .none]) (cv_ok (bin_ok (x := .int a) (y := .int 0) rfl rfl ?_))).trans rfl
      show some (PyData.bool (decide (0 < a))) = _
      rw [decide_eq_false ha]
    have e1 : sSetIx 0 (eBin addD (eIxO 0 (eK (.int 2))) (eK (.int 1))) (eK (.int 2)) [.ref [.int a, .int b, .int c], .val (.int u), .none, .none, .none] = .ok .nx [.ref [.int a, .int b, .int (c + 1)], .val (.int u), .none, .none, .none] := rfl
    have e2 : sSet (.v 2) (eBin ixD (eLst (lCons (eK (.int 2147483647)) (lCons (eK (.int 2147483629)) (lCons (eK (.int 2147483587)) (lCons (eK (.int 2147483579)) (lCons (eK (.int 2147483563)) lNil)))))) (eBin modI (eUn intD (eIxO 0 (eK (.int 2)))) (eK (.int 5)))) [.ref [.int a, .int b, .int (c + 1)], .val (.int u), .none, .none, .none]
        = .ok .nx [.ref [.int a, .int b, .int (c + 1)], .val (.int u), .val (.int p), .none, .none] := by
      have i2 : eIxO 0 (eK (.int 2)) [.ref [.int a, .int b, .int (c + 1)], .val (.int u), .none, .none, .none] = .ok (.int (c + 1)) [.ref [.int a, .int b, .int (c + 1)], .val (.int u), .none, .none, .none] := rfl
      have l : eLst (lCons (eK (.int 2147483647)) (lCons (eK (.int 2147483629)) (lCons (eK (.int 2147483587)) (lCons (eK (.int 2147483579)) (lCons (eK (.int 2147483563)) lNil))))) [.ref [.int a, .int b, .int (c + 1)], .val (.int u), .none, .none, .none] = .ok (.list [.int 2147483647, .int 2147483629, .int 2147483587, .int 2147483579, .int 2147483563]) [.ref [.int a, .int b, .int (c + 1)], .val (.int u), .none, .none, .none] := rfl
      exact set_ok (bin_s l (bin_s (un_s i2 int_s) k_s (mod_ok (by decide))) hp) rfl
    have e : takeB [.ref [.int a, .int b, .int c], .val (.int u), .none, .none, .none] = .ok (.rt (.int (z % 2305843009213693907 / 109 % u))) [.ref [.int a, .int b, .int (c + 1)], .val (.int u), .val (.int p), .val (.int (z % 2305843009213693907)), .none] :=
      (seq_ok e0).trans ((seq_ok e1).trans ((seq_ok e2).trans ((seq_ok (take3 h1 h2 h3 h4)).trans ((seq_ok (take4 h5 h6 h7)).trans (take5 u0)))))
    show (match takeB [.ref [.int a, .int b, .int c], .val (.int u), .none, .none, .none] with
      | .ok (.rt d) ρ => Res.ok d (outsOf 2 ρ)
      | .ok .nx ρ => .ok .none (outsOf 2 ρ)
      | .ok _ _ => .bad
      | .exc c d ρ => .exc c d (outsOf 2 ρ)
      | .bad => .bad) = _
    rw [e]
    rfl
end AH

/-! AHQ: the pot, the pick, the law's own loop -/
namespace AH
open PySem PySem.Spec PyProof.Rows L2
def potB : Ev → Res Fl := (sSeq (sSet (.v 2) (eIf (cV (eBin ltD (eVar 1) (eUn lenD (eVar 0)))) (eBin ixD (eVar 0) (eVar 1)) (eBin addD (eBin mulI (eK (.int 47)) (eVar 1)) (eK (.int 23)))))
    (sSeq (sSet (.v 3) (eBin mulI (eBin modI (eUn intD (eUn absD (eVar 2))) (eBin powI (eBin powI (eK (.int 10)) (eK (.int 60))) (eK (.int 5)))) (eUn intD (eBin geI (eUn absD (eVar 2)) (eBin powI (eK (.int 10)) (eK (.int 18)))))))
    (sRetF (fLst (lCons (eVar 3) (lCons (eBin modI (eUn intD (eBin addD (eBin addD (eBin mulI (eBin modI (eUn intD (eVar 2)) (eK (.int 2305843009213693951))) (eK (.int 70991))) (eBin mulI (eBin mulI (eK (.int 5323)) (eVar 1)) (eVar 1))) (eK (.int 71)))) (eK (.int 2305843009213693921))) (lCons (eK (.int 0)) lNil)))))))
theorem pow1 : powI (.int 10) (.int 60) = some (.int (10 ^ 60)) := by
  show (if (decide (0 ≤ (60 : Int)) && decide ((Builtin.Int.intBits 10 : Int) * 60 ≤ 2 ^ 27)) = true then some (PyData.int (10 ^ 60)) else none) = _
  rw [if_pos (by decide +kernel)]
theorem pow2 : powI (.int (10 ^ 60)) (.int 5) = some (.int (10 ^ 300)) := by
  show (if (decide (0 ≤ (5 : Int)) && decide ((Builtin.Int.intBits (10 ^ 60) : Int) * 5 ≤ 2 ^ 27)) = true then some (PyData.int ((10 ^ 60) ^ 5)) else none) = _
  rw [if_pos (by decide +kernel), show ((10 : Int) ^ 60) ^ 5 = 10 ^ 300 by decide +kernel]
theorem pow3 : powI (.int 10) (.int 18) = some (.int (10 ^ 18)) := by
  show (if (decide (0 ≤ (18 : Int)) && decide ((Builtin.Int.intBits 10 : Int) * 18 ≤ 2 ^ 27)) = true then some (PyData.int (10 ^ 18)) else none) = _
  rw [if_pos (by decide +kernel)]
theorem cell_ok (ns : List Int) {k : Int} (k0 : 0 ≤ k) (k1 : k < 1000) : ∃ v : Int, eIf (cV (eBin ltD (eVar 1) (eUn lenD (eVar 0)))) (eBin ixD (eVar 0) (eVar 1)) (eBin addD (eBin mulI (eK (.int 47)) (eVar 1)) (eK (.int 23))) [.val (.list (ns.map .int)), .val (.int k), .none, .none]
    = .ok (.int v) [.val (.list (ns.map .int)), .val (.int k), .none, .none] := by
  have bg := big300
  have v0 : eVar 0 [.val (.list (ns.map .int)), .val (.int k), .none, .none] = .ok (.list (ns.map .int)) [.val (.list (ns.map .int)), .val (.int k), .none, .none] := rfl
  have v1 : eVar 1 [.val (.list (ns.map .int)), .val (.int k), .none, .none] = .ok (.int k) [.val (.list (ns.map .int)), .val (.int k), .none, .none] := rfl
  have hl : lenD (.list (ns.map PyData.int)) = some (.int (ns.length : Nat)) := by
    show some (PyData.int ((ns.map PyData.int).length : Nat)) = _
    rw [List.length_map]
  have t := cv_ok (bin_s (op := ltD) v1 (un_s v0 hl) (show ltD (.int k) (.int (ns.length : Nat)) = some (.bool (decide (k < (ns.length : Nat)))) from rfl))
  by_cases h : k < (ns.length : Nat)
  · rw [decide_eq_true h] at t
    obtain ⟨j, rfl⟩ : ∃ j : Nat, k = (j : Int) := ⟨k.toNat, by omega⟩
    have hj : j < ns.length := by omega
    have ha : ixD (.list (ns.map PyData.int)) (.int (j : Int)) = some (.int ns[j]) := by
      show atI (ns.map PyData.int) (j : Int) = _
      refine atI_nat ?_
      rw [List.getElem?_map, List.getElem?_eq_getElem hj]
      rfl
    exact ⟨ns[j], (eif_t t).trans (bin_s v0 v1 ha)⟩
  · rw [decide_eq_false h] at t
    exact ⟨47 * k + 23, (eif_f t).trans (bin_s (bin_s k_s v1 (mul_ok (by decide) (by omega) k0 (by omega))) k_s add_s)⟩
theorem pot_ok (ns : List Int) {k : Int} (k0 : 0 ≤ k) (k1 : k < 1000) : ∃ ds outs, mkFnL 2 potB [.val (.list (ns.map .int)), .val (.int k)] = .ok ds outs ∧ PotOk 0 ds := by
  have bg := big300
  obtain ⟨v, hv⟩ := cell_ok ns k0 k1
  have s1 : sSet (.v 2) (eIf (cV (eBin ltD (eVar 1) (eUn lenD (eVar 0)))) (eBin ixD (eVar 0) (eVar 1)) (eBin addD (eBin mulI (eK (.int 47)) (eVar 1)) (eK (.int 23)))) [.val (.list (ns.map .int)), .val (.int k), .none, .none]
      = .ok .nx [.val (.list (ns.map .int)), .val (.int k), .val (.int v), .none] := set_ok hv rfl
  have v2 : eVar 2 [.val (.list (ns.map .int)), .val (.int k), .val (.int v), .none] = .ok (.int v) [.val (.list (ns.map .int)), .val (.int k), .val (.int v), .none] := rfl
  have ab : ∀ v : Int, absD (.int v) = some (.int (if v < 0 then -v else v)) := fun _ => rfl
  have a1 := bin_s (un_s (un_s v2 (ab v)) int_s) (bin_s (bin_s k_s k_s pow1) k_s pow2) (mod_ok (show (0 : Int) < 10 ^ 300 by decide +kernel))
  have a2 := un_s (op := intD) (bin_s (op := geI) (un_s v2 (ab v)) (bin_s k_s k_s pow3) rfl) rfl
  have m0 := Int.emod_nonneg (if v < 0 then -v else v) (show (10 : Int) ^ 300 ≠ 0 by decide +kernel)
  have m1 := Int.emod_lt_of_pos (if v < 0 then -v else v) (show (0 : Int) < 10 ^ 300 by decide +kernel)
  have t1 : ∀ b : Bool, (0 : Int) ≤ (if b = true then 1 else 0) ∧ (if b = true then (1 : Int) else 0) < 10 ^ 300 := by
    intro b
    cases b
    · exact ⟨by decide, Int.lt_trans (by decide) big300⟩
    · exact ⟨by decide, Int.lt_trans (by decide) big300⟩
  have a3 := bin_s a1 a2 (mul_ok m0 m1 (t1 _).1 (t1 _).2)
  have s2 := set_ok (p := .v 3) a3 rfl
  generalize (if v < 0 then -v else v) % 10 ^ 300 * _ = w at s2
  have i1 : eVar 1 [.val (.list (ns.map .int)), .val (.int k), .val (.int v), .val (.int w)] = .ok (.int k) [.val (.list (ns.map .int)), .val (.int k), .val (.int v), .val (.int w)] := rfl
  have i2 : eVar 2 [.val (.list (ns.map .int)), .val (.int k), .val (.int v), .val (.int w)] = .ok (.int v) [.val (.list (ns.map .int)), .val (.int k), .val (.int v), .val (.int w)] := rfl
  have c0 := Int.emod_nonneg v (show (2305843009213693951 : Int) ≠ 0 by decide)
  have c1 := Int.emod_lt_of_pos v (show (0 : Int) < 2305843009213693951 by decide)
  have q3 : 5323 * k * k ≤ 5323000 * 1000 := Int.mul_le_mul (by omega) (by omega) (by omega) (by decide)
  have q4 : 0 ≤ 5323 * k * k := Int.mul_nonneg (by omega) (by omega)
  have e1 := bin_s (bin_s (un_s i2 int_s) k_s (mod_ok (show (0 : Int) < 2305843009213693951 by decide))) k_s (mul_ok (j := 70991) c0 (by omega) (by decide) (by omega))
  have e2 := bin_s (bin_s k_s i1 (mul_ok (i := 5323) (by decide) (by omega) k0 (by omega))) i1 (mul_ok (by omega) (by omega) k0 (by omega))
  have e3 := bin_s (un_s (bin_s (bin_s e1 e2 add_s) k_s (add_s (j := 71))) int_s) k_s (mod_ok (show (0 : Int) < 2305843009213693921 by decide))
  have z0 := Int.emod_nonneg (v % 2305843009213693951 * 70991 + 5323 * k * k + 71) (show (2305843009213693921 : Int) ≠ 0 by decide)
  have z1 := Int.emod_lt_of_pos (v % 2305843009213693951 * 70991 + 5323 * k * k + 71) (show (0 : Int) < 2305843009213693921 by decide)
  generalize (v % 2305843009213693951 * 70991 + 5323 * k * k + 71) % 2305843009213693921 = z at e3 z0 z1
  have s3 : sRetF (fLst (lCons (eVar 3) (lCons (eBin modI (eUn intD (eBin addD (eBin addD (eBin mulI (eBin modI (eUn intD (eVar 2)) (eK (.int 2305843009213693951))) (eK (.int 70991))) (eBin mulI (eBin mulI (eK (.int 5323)) (eVar 1)) (eVar 1))) (eK (.int 71)))) (eK (.int 2305843009213693921))) (lCons (eK (.int 0)) lNil)))) [.val (.list (ns.map .int)), .val (.int k), .val (.int v), .val (.int w)]
      = .ok (.rf [.int w, .int z, .int 0]) [.val (.list (ns.map .int)), .val (.int k), .val (.int v), .val (.int w)] := by
    unfold sRetF fLst lCons
    show sBind (((((eBin modI (eUn intD (eBin addD (eBin addD (eBin mulI (eBin modI (eUn intD (eVar 2)) (eK (.int 2305843009213693951))) (eK (.int 70991))) (eBin mulI (eBin mulI (eK (.int 5323)) (eVar 1)) (eVar 1))) (eK (.int 71)))) (eK (.int 2305843009213693921))) [.val (.list (ns.map .int)), .val (.int k), .val (.int v), .val (.int w)]).bind fun x ρ1 => (lCons (eK (.int 0)) lNil ρ1).bind fun xs ρ2 => .ok (x :: xs) ρ2).bind fun xs ρ2 => .ok (.int w :: xs) ρ2).bind fun xs ρ1 => lift (okLen xs) ρ1) _ = _
    rw [e3]
    rfl
  have e : potB [.val (.list (ns.map .int)), .val (.int k), .none, .none] = .ok (.rf [.int w, .int z, .int 0]) [.val (.list (ns.map .int)), .val (.int k), .val (.int v), .val (.int w)] :=
    (seq_ok s1).trans ((seq_ok s2).trans s3)
  refine ⟨[.int w, .int z, .int 0], [.none, .none], ?_, w, z, 0, rfl, z0, z1, by decide, by decide⟩
  show (match potB [.val (.list (ns.map .int)), .val (.int k), .none, .none] with
    | .ok (.rf ds) ρ => Res.ok ds (outsOf 2 ρ)
    | .ok _ _ => .bad
    | .exc c d ρ => .exc c d (outsOf 2 ρ)
    | .bad => .bad) = _
  rw [e]
  rfl
/-! ### one of some -/
def ofB : Ev → Res Fl := (sRet (eBin ixD (eVar 1) (eCallR (mkFn 3 takeB) 0 (lCons (eUn lenD (eVar 1)) lNil))))
theorem callR_ok {α : Type} {m : List Slot → Res α} {i : Nat} {l : Ev → Res (List D)} {ρ ρ1 : Ev} {ds es : List D} {xs : List D} {x : α} {more : List Slot} (h0 : heldOf ρ[i]? = some ds) (h1 : l ρ = .ok xs ρ1) (h2 : heldOf ρ1[i]? = some ds) (h3 : m (.ref ds :: xs.map .val) = .ok x (.ref es :: more)) : eCallR m i l ρ = .ok x (setHeld i es ρ1) := by
  unfold eCallR
  rw [h0]
  show (l ρ).bind _ = _
  rw [h1]
  show goR m i xs ρ1 = _
  unfold goR
  rw [h2]
  show backR i ρ1 (m (.ref ds :: xs.map .val)) = _
  rw [h3]
  rfl
theorem of_ok {n : Int} {ds xs : List D} (h : PotOk n ds) (hn : n < 1000000) (h0 : 0 < xs.length) (h1 : xs.length < 1000000) : ∃ (r : Nat) (x : D) (ds' : List D), mkFn 0 ofB [.ref ds, .val (.list xs)] = .ok x [.ref ds', .none] ∧ xs[r]? = some x ∧ r < xs.length ∧ PotOk (n + 1) ds' := by
  obtain ⟨r, ds', e, r0, r1, p⟩ := take_ok (u := (xs.length : Nat)) h hn (by omega) (by omega)
  obtain ⟨j, rfl⟩ : ∃ j : Nat, r = (j : Int) := ⟨r.toNat, by omega⟩
  have hj : j < xs.length := by omega
  refine ⟨j, xs[j], ds', ?_, List.getElem?_eq_getElem hj, hj, p⟩
  have c : eCallR (mkFn 3 takeB) 0 (lCons (eUn lenD (eVar 1)) lNil) [.ref ds, .val (.list xs)] = .ok (.int (j : Int)) [.ref ds', .val (.list xs)] := callR_ok (ds := ds) (ρ1 := [.ref ds, .val (.list xs)]) (xs := [.int (xs.length : Nat)]) rfl rfl rfl e
  have v : ofB [.ref ds, .val (.list xs)] = .ok (.rt xs[j]) [.ref ds', .val (.list xs)] := ret_ok (bin_ok (x := .list xs) (y := .int (j : Int)) (ρ1 := [.ref ds, .val (.list xs)]) rfl c (atI_nat (List.getElem?_eq_getElem hj)))
  show (match ofB [.ref ds, .val (.list xs)] with
      | .ok (.rt d) ρ => Res.ok d (outsOf 2 ρ)
      | .ok .nx ρ => .ok .none (outsOf 2 ρ)
      | .ok _ _ => .bad
      | .exc c d ρ => .exc c d (outsOf 2 ρ)
      | .bad => .bad) = _
  rw [v]
  rfl
end AH

/-! AHR: a law's own loop -/
namespace AH
open PySem PySem.Spec PyProof.Rows L2
/-- what a try of the law gives -/
def Right (s B : Int) (right : Fn) : Prop := ∀ (n : Int) (ds : List D), PotOk n ds → n ≤ B → ∃ ds', right [.ref ds] = .ok (.bool true) [.ref ds'] ∧ PotOk (n + s) ds'
def trues (n : Nat) : List D := List.replicate n (.bool true)
theorem allBools_trues : ∀ n, allBools (trues n) = some (List.replicate n true)
  | 0 => rfl
  | n + 1 => by
    show (allBools (PyData.bool true :: trues n)) = _
    unfold allBools
    rw [allBools_trues n]
    rfl
theorem comp_turns {s B : Int} {right : Fn} (R : Right s B right) (s0 : 0 ≤ s) (S K0 : Slot) : ∀ (items : List D) (n : Int) (ds : List D), PotOk n ds → n + s * (items.length : Nat) ≤ B →
    ∃ ds', compL (bindP (Pat.v 3)) cTrue (eCallR right 2 lNil) [3] items [S, K0, .own ds, .none] = .ok (trues items.length) [S, K0, .own ds', .none] ∧ PotOk (n + s * (items.length : Nat)) ds'
  | [], n, ds, h, _ => ⟨ds, rfl, h.mono (by show n ≤ n + s * 0; rw [Int.mul_zero]; omega)⟩
  | x :: xs, n, ds, h, hB => by
    have hl : ((x :: xs).length : Nat) = xs.length + 1 := rfl
    have em : s * ((x :: xs).length : Nat) = s * (xs.length : Nat) + s := by
      rw [hl]
      show s * ((xs.length : Int) + 1) = _
      rw [Int.mul_add, Int.mul_one]
    have nn : 0 ≤ s * (xs.length : Nat) := Int.mul_nonneg s0 (by omega)
    obtain ⟨d1, e1, p1⟩ := R n ds h (by omega)
    obtain ⟨d2, e2, p2⟩ := comp_turns R s0 S K0 xs (n + s) d1 p1 (by omega)
    refine ⟨d2, ?_, p2.mono (by omega)⟩
    have c : eCallR right 2 lNil [S, K0, .own ds, .val x] = .ok (.bool true) [S, K0, .own d1, .val x] := callR_ok (ds := ds) (ρ1 := [S, K0, .own ds, .val x]) (xs := []) rfl rfl rfl e1
    show (match eCallR right 2 lNil [S, K0, .own ds, .val x] with
      | .ok d ρ3 => (compL (bindP (Pat.v 3)) cTrue (eCallR right 2 lNil) [3] xs (wipeE ρ3 [3])).bind fun ds ρ4 => .ok (d :: ds) ρ4
      | _ => .bad) = _
    rw [c]
    show (compL (bindP (Pat.v 3)) cTrue (eCallR right 2 lNil) [3] xs [S, K0, .own d1, .none]).bind _ = _
    rw [e2]
    rfl
/-- the turns of one pot -/
def turnB (t : Int) (right : Fn) : Ev → Res Fl := sIf (cNot (cV (eUn allD (eComp (iRng (eK (.int t))) (bindP (Pat.v 3)) cTrue (eCallR right 2 lNil) [3])))) (sRet (eK (.bool false))) sNil
theorem turn_ok {s B t : Int} {right : Fn} (R : Right s B right) (s0 : 0 ≤ s) (t0 : 0 ≤ t) (t1 : t ≤ 100) (hB : s * t ≤ B) {S K0 : Slot} {ds : List D} (h : PotOk 0 ds) : ∃ ds', turnB t right [S, K0, .own ds, .none] = .ok .nx [S, K0, .own ds', .none] := by
  obtain ⟨j, rfl⟩ : ∃ j : Nat, t = (j : Int) := ⟨t.toNat, by omega⟩
  have lr : (rangeD j).length = j := by unfold rangeD; rw [List.length_map, List.length_range]
  obtain ⟨d2, e2, -⟩ := comp_turns R s0 S K0 (rangeD j) 0 ds h (by rw [lr]; omega)
  rw [lr] at e2
  refine ⟨d2, ?_⟩
  have r : iRng (eK (.int (j : Int))) [S, K0, .own ds, .none] = .ok (rangeD j) [S, K0, .own ds, .none] := by
    show (if (j : Int) ≤ 1000000 ∧ -1000000 ≤ (j : Int) then Res.ok (rangeD (j : Int).toNat) [S, K0, .own ds, .none] else .bad) = _
    rw [if_pos ⟨by omega, by omega⟩]
    rfl
  have ok : okLen (trues j) = some (trues j) := by
    unfold okLen
    rw [if_pos]
    unfold trues
    rw [List.length_replicate]
    show j ≤ lid
    have : lid = 1000000 := rfl
    omega
  have c : eComp (iRng (eK (.int (j : Int)))) (bindP (Pat.v 3)) cTrue (eCallR right 2 lNil) [3] [S, K0, .own ds, .none] = .ok (.list (trues j)) [S, K0, .own d2, .none] := by
    unfold eComp fComp
    rw [r]
    show ((((compL (bindP (Pat.v 3)) cTrue (eCallR right 2 lNil) [3] (rangeD j) [S, K0, .own ds, .none]).bind fun xs ρ2 => lift (okLen xs) (restoreE [S, K0, .own ds, .none] ρ2 [3]))).bind fun ds ρ1 => Res.ok (PyData.list ds) ρ1) = _
    rw [e2]
    show (lift (okLen (trues j)) _).bind _ = _
    rw [ok]
    rfl
  have a : allD (.list (trues j)) = some (.bool true) := by
    show (allBools (trues j)).map _ = _
    rw [allBools_trues]
    show some (PyData.bool ((List.replicate j true).all id)) = _
    rw [show (List.replicate j true).all id = true by
      rw [List.all_eq_true]
      intro x hx
      rw [List.eq_of_mem_replicate hx]
      rfl]
  have t := cv_ok (un_ok c a)
  refine (if_f (ρ1 := [S, K0, .own d2, .none]) ?_).trans rfl
  show (cV _ _).bind _ = _
  rw [t]
  rfl
/-- the law's own loop -/
def lawB (lim t : Int) (pot : FnL) (right : Fn) : Ev → Res Fl := sSeq (sFor (iRng (eBin maxI (eK (.int 1)) (eBin minI (eK (.int lim)) (eUn lenD (eVar 0))))) (bindP (Pat.v 1)) (sSeq (sOwn 2 (eCall pot (lCons (eVar 0) (lCons (eVar 1) lNil)))) (turnB t right))) (sRet (eK (.bool true)))
theorem own_ok {i : Nat} {f : Ev → Res (List D)} {ρ ρ1 ρ2 : Ev} {ds : List D} (h : f ρ = .ok ds ρ1) (h2 : putO i ds ρ1 = some ρ2) : sOwn i f ρ = .ok .nx ρ2 := by
  unfold sOwn
  rw [h]
  show (match putO i ds ρ1 with | some ρ2 => Res.ok Fl.nx ρ2 | none => .bad) = _
  rw [h2]
theorem call_ok {α : Type} {m : List Slot → Res α} {l : Ev → Res (List D)} {ρ ρ1 : Ev} {xs : List D} {x : α} {outs : List Slot} (h1 : l ρ = .ok xs ρ1) (h2 : m (xs.map .val) = .ok x outs) : eCall m l ρ = .ok x ρ1 := by
  unfold eCall
  rw [h1]
  show (match m (xs.map .val) with
    | .ok d _ => Res.ok d ρ1
    | .exc c d _ => .exc c d ρ1
    | .bad => .bad) = _
  rw [h2]
def LawEv (S : Slot) (ρ : Ev) : Prop := ρ = [S, .none, .none, .none] ∨ ∃ k ds, ρ = [S, .val k, .own ds, .none]
theorem loop_ok {s B t : Int} {right : Fn} (R : Right s B right) (s0 : 0 ≤ s) (t0 : 0 ≤ t) (t1 : t ≤ 100) (hB : s * t ≤ B) (ns : List Int) :
    ∀ (is : List Nat) (ρ : Ev), (∀ i ∈ is, i < 1000) → LawEv (.val (.list (ns.map .int))) ρ →
    ∃ ρ', forL (bindP (Pat.v 1)) (sSeq (sOwn 2 (eCall (mkFnL 2 potB) (lCons (eVar 0) (lCons (eVar 1) lNil)))) (turnB t right)) (is.map fun (i : Nat) => PyData.int (0 + (i : Int))) ρ = .ok .nx ρ'
  | [], ρ, _, _ => ⟨ρ, rfl⟩
  | i :: is, ρ, hi, h => by
    have h1 : i < 1000 := hi i List.mem_cons_self
    obtain ⟨ds, outs, e, p⟩ := pot_ok ns (k := 0 + (i : Int)) (by omega) (by omega)
    obtain ⟨d2, e2⟩ := turn_ok (S := .val (.list (ns.map .int))) (K0 := .val (.int (0 + (i : Int)))) R s0 t0 t1 hB p
    obtain ⟨ρ', e3⟩ := loop_ok R s0 t0 t1 hB ns is [.val (.list (ns.map .int)), .val (.int (0 + (i : Int))), .own d2, .none] (fun j hj => hi j (List.mem_cons_of_mem _ hj)) (.inr ⟨_, _, rfl⟩)
    refine ⟨ρ', ?_⟩
    have b1 : ∃ x, bindP (Pat.v 1) (.int (0 + (i : Int))) ρ = some [.val (.list (ns.map .int)), .val (.int (0 + (i : Int))), x, .none] ∧ (x = .none ∨ ∃ ds, x = .own ds) := by
      rcases h with rfl | ⟨k, d, rfl⟩
      · exact ⟨_, rfl, .inl rfl⟩
      · exact ⟨_, rfl, .inr ⟨_, rfl⟩⟩
    obtain ⟨x, b1, hx⟩ := b1
    have b2 : (sSeq (sOwn 2 (eCall (mkFnL 2 potB) (lCons (eVar 0) (lCons (eVar 1) lNil)))) (turnB t right)) [.val (.list (ns.map .int)), .val (.int (0 + (i : Int))), x, .none] = .ok .nx [.val (.list (ns.map .int)), .val (.int (0 + (i : Int))), .own d2, .none] := by
      refine (seq_ok (own_ok (ρ2 := [.val (.list (ns.map .int)), .val (.int (0 + (i : Int))), .own ds, .none]) (call_ok (ρ1 := [.val (.list (ns.map .int)), .val (.int (0 + (i : Int))), x, .none]) (xs := [.list (ns.map .int), .int (0 + (i : Int))]) rfl e) ?_)).trans e2
      rcases hx with rfl | ⟨d, rfl⟩ <;> rfl
    show (match bindP (Pat.v 1) (.int (0 + (i : Int))) ρ with
      | none => (Res.bad : Res Fl)
      | some ρ1 => match (sSeq (sOwn 2 (eCall (mkFnL 2 potB) (lCons (eVar 0) (lCons (eVar 1) lNil)))) (turnB t right)) ρ1 with
        | .ok .nx ρ2 => forL (bindP (Pat.v 1)) (sSeq (sOwn 2 (eCall (mkFnL 2 potB) (lCons (eVar 0) (lCons (eVar 1) lNil)))) (turnB t right)) (is.map fun (i : Nat) => PyData.int (0 + (i : Int))) ρ2
        | .ok .ct ρ2 => forL (bindP (Pat.v 1)) (sSeq (sOwn 2 (eCall (mkFnL 2 potB) (lCons (eVar 0) (lCons (eVar 1) lNil)))) (turnB t right)) (is.map fun (i : Nat) => PyData.int (0 + (i : Int))) ρ2
        | .ok .bk ρ2 => .ok .nx ρ2
        | r => r) = _
    rw [b1]
    show (match (sSeq (sOwn 2 (eCall (mkFnL 2 potB) (lCons (eVar 0) (lCons (eVar 1) lNil)))) (turnB t right)) [.val (.list (ns.map .int)), .val (.int (0 + (i : Int))), x, .none] with
        | .ok .nx ρ2 => forL (bindP (Pat.v 1)) (sSeq (sOwn 2 (eCall (mkFnL 2 potB) (lCons (eVar 0) (lCons (eVar 1) lNil)))) (turnB t right)) (is.map fun (i : Nat) => PyData.int (0 + (i : Int))) ρ2
        | .ok .ct ρ2 => forL (bindP (Pat.v 1)) (sSeq (sOwn 2 (eCall (mkFnL 2 potB) (lCons (eVar 0) (lCons (eVar 1) lNil)))) (turnB t right)) (is.map fun (i : Nat) => PyData.int (0 + (i : Int))) ρ2
        | .ok .bk ρ2 => .ok .nx ρ2
        | r => r) = _
    rw [b2]
    exact e3
theorem law_ok {s B t lim : Int} {right : Fn} (R : Right s B right) (s0 : 0 ≤ s) (t0 : 0 ≤ t) (t1 : t ≤ 100) (hB : s * t ≤ B) (l1 : lim < 1000) (ns : List Int) :
    ∃ outs, mkFn 3 (lawB lim t (mkFnL 2 potB) right) [.val (.list (ns.map .int))] = .ok (.bool true) outs := by
  have e0 : ∃ m : Nat, m < 1000 ∧ iRng (eBin maxI (eK (.int 1)) (eBin minI (eK (.int lim)) (eUn lenD (eVar 0)))) [.val (.list (ns.map .int)), .none, .none, .none] = .ok (rangeD m) [.val (.list (ns.map .int)), .none, .none, .none] := by
    let L : Int := ((ns.map PyData.int).length : Nat)
    let q : Int := if L < lim then L else lim
    let z : Int := if q > 1 then q else 1
    have hq : q ≤ lim := by
      show (if L < lim then L else lim) ≤ lim
      split <;> omega
    have hz : 1 ≤ z ∧ z < 1000 := by
      show 1 ≤ (if q > 1 then q else 1) ∧ (if q > 1 then q else 1) < 1000
      split <;> omega
    refine ⟨z.toNat, by omega, ?_⟩
    show (if z ≤ 1000000 ∧ -1000000 ≤ z then Res.ok (rangeD z.toNat) [.val (.list (ns.map .int)), .none, .none, .none] else .bad) = _
    rw [if_pos ⟨by omega, by omega⟩]
  obtain ⟨m, hm, e0⟩ := e0
  obtain ⟨ρ', e1⟩ := loop_ok R s0 t0 t1 hB ns (List.range m) [.val (.list (ns.map .int)), .none, .none, .none] (fun i hi => Nat.lt_trans (List.mem_range.mp hi) hm) (.inl rfl)
  have e : lawB lim t (mkFnL 2 potB) right [.val (.list (ns.map .int)), .none, .none, .none] = .ok (.rt (.bool true)) ρ' := by
    refine (seq_ok (ρ1 := ρ') ?_).trans rfl
    unfold sFor
    rw [e0]
    exact e1
  refine ⟨outsOf 1 ρ', ?_⟩
  show (match lawB lim t (mkFnL 2 potB) right [.val (.list (ns.map .int)), .none, .none, .none] with
      | .ok (.rt d) ρ => Res.ok d (outsOf 1 ρ)
      | .ok .nx ρ => .ok .none (outsOf 1 ρ)
      | .ok _ _ => .bad
      | .exc c d ρ => .exc c d (outsOf 1 ρ)
      | .bad => .bad) = _
  rw [e]
end AH
namespace AH
open PySem
/-- what a def's body tells, as its caller hears it -/
def finF (k : Nat) : Res Fl → Res D
  | .ok (.rt d) ρ => .ok d (outsOf k ρ)
  | .ok .nx ρ => .ok .none (outsOf k ρ)
  | .ok _ _ => .bad
  | .exc c d ρ => .exc c d (outsOf k ρ)
  | .bad => .bad
theorem mkFn_eq (n : Nat) (body : Ev → Res Fl) (args : List Slot) : mkFn n body args = finF args.length (body (args ++ List.replicate n .none)) := rfl
theorem fin_of {n : Nat} {body : Ev → Res Fl} {args : List Slot} {r : Res Fl} (h : body (args ++ List.replicate n .none) = r) : mkFn n body args = finF args.length r := by rw [mkFn_eq, h]
end AH

/-! the walk of law_k10_rules_known_by_hand: printed by gen.py -/
namespace AH.k10
open PySem PySem.Spec PyProof.Rows L2 AH
def topS (i : Nat) : Stmt := PySem.Challenge.pw_afterhand_k10_rules_known_by_hand.main.body.getD i (.Pass ⟨0, 0, 0, 0⟩)
structure Txt (K : Fg) (mg : Str → Option Value) : Prop where
  f__law_pot : HasFn K mg "_law_pot" ["_law_script", "_law_k"] (topS 44)
  f_is_word : HasFn K mg "is_word" ["thing"] (topS 3)
  f_is_name : HasFn K mg "is_name" ["thing"] (topS 4)
  f_is_count : HasFn K mg "is_count" ["thing"] (topS 6)
  f_is_aim : HasFn K mg "is_aim" ["thing"] (topS 10)
  f_is_source : HasFn K mg "is_source" ["thing"] (topS 28)
  f_is_act : HasFn K mg "is_act" ["thing"] (topS 29)
  f_is_test : HasFn K mg "is_test" ["thing"] (topS 27)
  f_is_rule : HasFn K mg "is_rule" ["thing"] (topS 30)
  f_is_part : HasFn K mg "is_part" ["thing"] (topS 31)
  f_is_program : HasFn K mg "is_program" ["thing"] (topS 32)
  f_check_program : HasFn K mg "check_program" ["program"] (topS 33)
  f_are_names : HasFn K mg "are_names" ["thing"] (topS 5)
  f_is_seen : HasFn K mg "is_seen" ["thing"] (topS 20)
  f_is_view : HasFn K mg "is_view" ["thing"] (topS 21)
  f_check_view : HasFn K mg "check_view" ["view"] (topS 22)
  f_place_among : HasFn K mg "place_among" ["labels", "aim"] (topS 11)
  f_field_at : HasFn K mg "field_at" ["view", "aim"] (topS 12)
  f_test_holds : HasFn K mg "test_holds" ["test", "view"] (topS 37)
  f_rule_holds : HasFn K mg "rule_holds" ["rule", "view"] (topS 38)
  f_button_at : HasFn K mg "button_at" ["view", "aim"] (topS 13)
  f_word_from : HasFn K mg "word_from" ["source", "view"] (topS 39)
  f_rule_means : HasFn K mg "rule_means" ["rule", "view"] (topS 40)
  f_rules_mean : HasFn K mg "rules_mean" ["rules", "view"] (topS 41)
  f_rules_of : HasFn K mg "rules_of" ["program", "title"] (topS 34)
  f_means : HasFn K mg "means" ["program", "view"] (topS 42)
  f_rules_price : HasFn K mg "rules_price" ["rules"] (topS 35)
  f_price : HasFn K mg "price" ["program"] (topS 36)
  f__law_case_right : HasFn K mg "_law_case_right" ["_law_sight", "_law_rules", "_law_due", "_law_cost"] (topS 47)
  f__law_take : HasFn K mg "_law_take" ["_law_pot_here", "_law_upto"] (topS 45)
  f__law_of : HasFn K mg "_law_of" ["_law_pot_here", "_law_some"] (topS 46)
  f__law_right : HasFn K mg "_law_right" ["_law_pot_here"] (topS 48)
  f_law : HasFn K mg "law" ["_law_script"] (topS 49)
  c_LETTERS : HasC mg "LETTERS" (.str "abcdefghijklmnopqrstuvwxyz")
  c_MOST_LETTERS : HasC mg "MOST_LETTERS" (.int 8)
  c_MOST_PLACE : HasC mg "MOST_PLACE" (.int 999)
  c_MOST_TESTS : HasC mg "MOST_TESTS" (.int 2)
  c_PAIR_aims : HasC mg "PAIR_aims" (.int 2)
  c_PAIR_programs : HasC mg "PAIR_programs" (.int 2)
  c_TRIPLE_programs : HasC mg "TRIPLE_programs" (.int 3)
  c_TRIPLE_views : HasC mg "TRIPLE_views" (.int 3)
  n_abs : mg "abs" = none
  n_all : mg "all" = none
  n_bool : mg "bool" = none
  n_dict : mg "dict" = none
  n_int : mg "int" = none
  n_isinstance : mg "isinstance" = none
  n_len : mg "len" = none
  n_max : mg "max" = none
  n_min : mg "min" = none
  n_range : mg "range" = none
  n_repr : mg "repr" = none
  n_sorted : mg "sorted" = none
  n_str : mg "str" = none
  n_sum : mg "sum" = none
  n_tuple : mg "tuple" = none
  n_zip : mg "zip" = none
theorem sc__law_pot : FnScope ["_law_script", "_law_k", "_law_cell", "_law_own"] ["_law_script", "_law_k"] (defScope (topS 44)) := ⟨rfl, rfl, rfl, by decide +kernel, rfl, by decide +kernel, by decide +kernel⟩
def b__law_pot : Ev → Res Fl := (sSeq (sSet (.v 2) (eIf (cV (eBin ltD (eVar 1) (eUn lenD (eVar 0)))) (eBin ixD (eVar 0) (eVar 1)) (eBin addD (eBin mulI (eK (.int 47)) (eVar 1)) (eK (.int 23)))))
    (sSeq (sSet (.v 3) (eBin mulI (eBin modI (eUn intD (eUn absD (eVar 2))) (eBin powI (eBin powI (eK (.int 10)) (eK (.int 60))) (eK (.int 5)))) (eUn intD (eBin geI (eUn absD (eVar 2)) (eBin powI (eK (.int 10)) (eK (.int 18)))))))
    (sRetF (fLst (lCons (eVar 3) (lCons (eBin modI (eUn intD (eBin addD (eBin addD (eBin mulI (eBin modI (eUn intD (eVar 2)) (eK (.int 2305843009213693951))) (eK (.int 70991))) (eBin mulI (eBin mulI (eK (.int 5323)) (eVar 1)) (eVar 1))) (eK (.int 71)))) (eK (.int 2305843009213693921))) (lCons (eK (.int 0)) lNil)))))))
def m__law_pot : FnL := mkFnL 2 b__law_pot
theorem sc_is_word : FnScope ["thing", "sign"] ["thing"] (defScope (topS 3)) := ⟨rfl, rfl, rfl, by decide +kernel, rfl, by decide +kernel, by decide +kernel⟩
def b_is_word : Ev → Res Fl := (sRet (eAnd (eUn (fun d => some (.bool (PyData.isStr d))) (eVar 0)) (eAnd (eBin leI (eUn lenD (eVar 0)) (eK (.int 8))) (eUn allD (eComp (iSeq (eVar 0)) (bindP (Pat.v 1)) cTrue (eBin inD (eVar 1) (eK (.str "abcdefghijklmnopqrstuvwxyz"))) [1])))))
def m_is_word : Fn := mkFn 1 b_is_word
theorem sc_is_name : FnScope ["thing"] ["thing"] (defScope (topS 4)) := ⟨rfl, rfl, rfl, by decide +kernel, rfl, by decide +kernel, by decide +kernel⟩
def b_is_name : Ev → Res Fl := (sRet (eAnd (eCall m_is_word (lCons (eVar 0) lNil)) (eBin neD (eVar 0) (eK (.str "")))))
def m_is_name : Fn := mkFn 0 b_is_name
theorem sc_is_count : FnScope ["thing"] ["thing"] (defScope (topS 6)) := ⟨rfl, rfl, rfl, by decide +kernel, rfl, by decide +kernel, by decide +kernel⟩
def b_is_count : Ev → Res Fl := (sRet (eAnd (eUn (fun d => some (.bool (PyData.isInt d))) (eVar 0)) (eAnd (eUn notD (eUn (fun d => some (.bool (PyData.isBool d))) (eVar 0))) (eBin geI (eVar 0) (eK (.int 0))))))
def m_is_count : Fn := mkFn 0 b_is_count
theorem sc_is_aim : FnScope ["thing"] ["thing"] (defScope (topS 10)) := ⟨rfl, rfl, rfl, by decide +kernel, rfl, by decide +kernel, by decide +kernel⟩
def b_is_aim : Ev → Res Fl := (sSeq (sIf (cOr (cNot (cV (eUn (fun d => some (.bool (PyData.isTuple d))) (eVar 0)))) (cV (eBin neD (eUn lenD (eVar 0)) (eK (.int 2))))) (sRet (eK (.bool false))) sNil)
    (sSeq (sIf (cV (eBin eqD (eBin ixD (eVar 0) (eK (.int 0))) (eK (.str "label")))) (sRet (eCall m_is_name (lCons (eBin ixD (eVar 0) (eK (.int 1))) lNil))) sNil)
    (sRet (eAnd (eBin eqD (eBin ixD (eVar 0) (eK (.int 0))) (eK (.str "place"))) (eAnd (eCall m_is_count (lCons (eBin ixD (eVar 0) (eK (.int 1))) lNil)) (eBin leI (eBin ixD (eVar 0) (eK (.int 1))) (eK (.int 999))))))))
def m_is_aim : Fn := mkFn 0 b_is_aim
theorem sc_is_source : FnScope ["thing"] ["thing"] (defScope (topS 28)) := ⟨rfl, rfl, rfl, by decide +kernel, rfl, by decide +kernel, by decide +kernel⟩
def b_is_source : Ev → Res Fl := (sSeq (sIf (cOr (cNot (cV (eUn (fun d => some (.bool (PyData.isTuple d))) (eVar 0)))) (cV (eBin neD (eUn lenD (eVar 0)) (eK (.int 2))))) (sRet (eK (.bool false))) sNil)
    (sRet (eOr (eAnd (eBin eqD (eBin ixD (eVar 0) (eK (.int 0))) (eK (.str "word"))) (eCall m_is_word (lCons (eBin ixD (eVar 0) (eK (.int 1))) lNil))) (eAnd (eBin eqD (eBin ixD (eVar 0) (eK (.int 0))) (eK (.str "of"))) (eCall m_is_aim (lCons (eBin ixD (eVar 0) (eK (.int 1))) lNil))))))
def m_is_source : Fn := mkFn 0 b_is_source
theorem sc_is_act : FnScope ["thing"] ["thing"] (defScope (topS 29)) := ⟨rfl, rfl, rfl, by decide +kernel, rfl, by decide +kernel, by decide +kernel⟩
def b_is_act : Ev → Res Fl := (sSeq (sIf (cOr (cNot (cV (eUn (fun d => some (.bool (PyData.isTuple d))) (eVar 0)))) (cOr (cV (eBin nInD (eUn lenD (eVar 0)) (eTup (lCons (eK (.int 2)) (lCons (eK (.int 3)) lNil))))) (cNot (cV (eCall m_is_aim (lCons (eBin ixD (eVar 0) (eK (.int 1))) lNil)))))) (sRet (eK (.bool false))) sNil)
    (sSeq (sIf (cV (eBin eqD (eUn lenD (eVar 0)) (eK (.int 2)))) (sRet (eBin eqD (eBin ixD (eVar 0) (eK (.int 0))) (eK (.str "press")))) sNil)
    (sRet (eAnd (eBin eqD (eBin ixD (eVar 0) (eK (.int 0))) (eK (.str "write"))) (eCall m_is_source (lCons (eBin ixD (eVar 0) (eK (.int 2))) lNil))))))
def m_is_act : Fn := mkFn 0 b_is_act
theorem sc_is_test : FnScope ["thing", "one", "other"] ["thing"] (defScope (topS 27)) := ⟨rfl, rfl, rfl, by decide +kernel, rfl, by decide +kernel, by decide +kernel⟩
def b_is_test : Ev → Res Fl := (sSeq (sIf (cOr (cNot (cV (eUn (fun d => some (.bool (PyData.isTuple d))) (eVar 0)))) (cOr (cV (eBin neD (eUn lenD (eVar 0)) (eK (.int 3)))) (cNot (cV (eCall m_is_aim (lCons (eBin ixD (eVar 0) (eK (.int 1))) lNil)))))) (sRet (eK (.bool false))) sNil)
    (sSeq (sIf (cV (eBin eqD (eBin ixD (eVar 0) (eK (.int 0))) (eK (.str "is")))) (sRet (eCall m_is_word (lCons (eBin ixD (eVar 0) (eK (.int 2))) lNil))) sNil)
    (sSeq (sIf (cOr (cV (eBin neD (eBin ixD (eVar 0) (eK (.int 0))) (eK (.str "same")))) (cNot (cV (eCall m_is_aim (lCons (eBin ixD (eVar 0) (eK (.int 2))) lNil))))) (sRet (eK (.bool false))) sNil)
    (sSeq (sPar 1 2 (lCons (eBin ixD (eVar 0) (eK (.int 1))) (lCons (eBin ixD (eVar 0) (eK (.int 2))) lNil)))
    (sRet (eAnd (eBin eqD (eBin ixD (eVar 1) (eK (.int 0))) (eBin ixD (eVar 2) (eK (.int 0)))) (eBin ltD (eBin ixD (eVar 1) (eK (.int 1))) (eBin ixD (eVar 2) (eK (.int 1))))))))))
def m_is_test : Fn := mkFn 2 b_is_test
theorem sc_is_rule : FnScope ["thing", "tests", "act", "one", "other"] ["thing"] (defScope (topS 30)) := ⟨rfl, rfl, rfl, by decide +kernel, rfl, by decide +kernel, by decide +kernel⟩
def b_is_rule : Ev → Res Fl := (sSeq (sIf (cOr (cNot (cV (eUn (fun d => some (.bool (PyData.isTuple d))) (eVar 0)))) (cV (eBin neD (eUn lenD (eVar 0)) (eK (.int 2))))) (sRet (eK (.bool false))) sNil)
    (sSeq (sSet (Pat.t [1, 2]) (eVar 0))
    (sSeq (sIf (cOr (cNot (cV (eUn (fun d => some (.bool (PyData.isTuple d))) (eVar 1)))) (cOr (cV (eBin gtI (eUn lenD (eVar 1)) (eK (.int 2)))) (cNot (cV (eUn allD (eComp (iSeq (eVar 1)) (bindP (Pat.v 3)) cTrue (eCall m_is_test (lCons (eVar 3) lNil)) [3])))))) (sRet (eK (.bool false))) sNil)
    (sRet (eAnd (eUn allD (eComp (iZip2 (eVar 1) (eSl (eVar 1) (pSome (eK (.int 1))) pNo)) (bdZ 3 4) cTrue (eBin ltD (eVar 3) (eVar 4)) [3, 4])) (eCall m_is_act (lCons (eVar 2) lNil)))))))
def m_is_rule : Fn := mkFn 4 b_is_rule
theorem sc_is_part : FnScope ["thing", "one"] ["thing"] (defScope (topS 31)) := ⟨rfl, rfl, rfl, by decide +kernel, rfl, by decide +kernel, by decide +kernel⟩
def b_is_part : Ev → Res Fl := (sSeq (sIf (cOr (cNot (cV (eUn (fun d => some (.bool (PyData.isTuple d))) (eVar 0)))) (cOr (cV (eBin neD (eUn lenD (eVar 0)) (eK (.int 2)))) (cNot (cV (eCall m_is_name (lCons (eBin ixD (eVar 0) (eK (.int 0))) lNil)))))) (sRet (eK (.bool false))) sNil)
    (sRet (eAnd (eUn (fun d => some (.bool (PyData.isTuple d))) (eBin ixD (eVar 0) (eK (.int 1)))) (eAnd (eBin neD (eBin ixD (eVar 0) (eK (.int 1))) (eTup lNil)) (eUn allD (eComp (iSeq (eBin ixD (eVar 0) (eK (.int 1)))) (bindP (Pat.v 1)) cTrue (eCall m_is_rule (lCons (eVar 1) lNil)) [1]))))))
def m_is_part : Fn := mkFn 1 b_is_part
theorem sc_is_program : FnScope ["thing", "one", "other"] ["thing"] (defScope (topS 32)) := ⟨rfl, rfl, rfl, by decide +kernel, rfl, by decide +kernel, by decide +kernel⟩
def b_is_program : Ev → Res Fl := (sSeq (sIf (cOr (cNot (cV (eUn (fun d => some (.bool (PyData.isTuple d))) (eVar 0)))) (cNot (cV (eUn allD (eComp (iSeq (eVar 0)) (bindP (Pat.v 1)) cTrue (eCall m_is_part (lCons (eVar 1) lNil)) [1]))))) (sRet (eK (.bool false))) sNil)
    (sRet (eUn allD (eComp (iZip2 (eVar 0) (eSl (eVar 0) (pSome (eK (.int 1))) pNo)) (bdZ 1 2) cTrue (eBin ltD (eBin ixD (eVar 1) (eK (.int 0))) (eBin ixD (eVar 2) (eK (.int 0)))) [1, 2]))))
def m_is_program : Fn := mkFn 2 b_is_program
theorem sc_check_program : FnScope ["program"] ["program"] (defScope (topS 33)) := ⟨rfl, rfl, rfl, by decide +kernel, rfl, by decide +kernel, by decide +kernel⟩
def b_check_program : Ev → Res Fl := (sIf (cNot (cV (eCall m_is_program (lCons (eVar 0) lNil)))) sBad sNil)
def m_check_program : Fn := mkFn 0 b_check_program
theorem sc_are_names : FnScope ["thing", "one"] ["thing"] (defScope (topS 5)) := ⟨rfl, rfl, rfl, by decide +kernel, rfl, by decide +kernel, by decide +kernel⟩
def b_are_names : Ev → Res Fl := (sSeq (sIf (cOr (cNot (cV (eUn (fun d => some (.bool (PyData.isTuple d))) (eVar 0)))) (cNot (cV (eUn allD (eComp (iSeq (eVar 0)) (bindP (Pat.v 1)) cTrue (eCall m_is_name (lCons (eVar 1) lNil)) [1]))))) (sRet (eK (.bool false))) sNil)
    (sRet (eBin eqD (eLenDC (iSeq (eVar 0)) (bindP (Pat.v 1)) (eVar 1) [1]) (eUn lenD (eVar 0)))))
def m_are_names : Fn := mkFn 1 b_are_names
theorem sc_is_seen : FnScope ["thing"] ["thing"] (defScope (topS 20)) := ⟨rfl, rfl, rfl, by decide +kernel, rfl, by decide +kernel, by decide +kernel⟩
def b_is_seen : Ev → Res Fl := (sSeq (sIf (cOr (cNot (cV (eUn (fun d => some (.bool (PyData.isTuple d))) (eVar 0)))) (cV (eBin neD (eUn lenD (eVar 0)) (eK (.int 3))))) (sRet (eK (.bool false))) sNil)
    (sRet (eAnd (eCall m_is_name (lCons (eBin ixD (eVar 0) (eK (.int 0))) lNil)) (eAnd (eCall m_is_word (lCons (eBin ixD (eVar 0) (eK (.int 1))) lNil)) (eUn (fun d => some (.bool (PyData.isBool d))) (eBin ixD (eVar 0) (eK (.int 2))))))))
def m_is_seen : Fn := mkFn 0 b_is_seen
theorem sc_is_view : FnScope ["thing", "title", "shown", "buttons", "one"] ["thing"] (defScope (topS 21)) := ⟨rfl, rfl, rfl, by decide +kernel, rfl, by decide +kernel, by decide +kernel⟩
def b_is_view : Ev → Res Fl := (sSeq (sIf (cOr (cNot (cV (eUn (fun d => some (.bool (PyData.isTuple d))) (eVar 0)))) (cV (eBin neD (eUn lenD (eVar 0)) (eK (.int 3))))) (sRet (eK (.bool false))) sNil)
    (sSeq (sSet (Pat.t [1, 2, 3]) (eVar 0))
    (sSeq (sIf (cOr (cNot (cV (eCall m_is_name (lCons (eVar 1) lNil)))) (cOr (cNot (cV (eUn (fun d => some (.bool (PyData.isTuple d))) (eVar 2)))) (cNot (cV (eUn allD (eComp (iSeq (eVar 2)) (bindP (Pat.v 4)) cTrue (eCall m_is_seen (lCons (eVar 4) lNil)) [4])))))) (sRet (eK (.bool false))) sNil)
    (sRet (eAnd (eCall m_are_names (lCons (eUn tupleD (eComp (iSeq (eVar 2)) (bindP (Pat.v 4)) cTrue (eBin ixD (eVar 4) (eK (.int 0))) [4])) lNil)) (eCall m_are_names (lCons (eVar 3) lNil)))))))
def m_is_view : Fn := mkFn 4 b_is_view
theorem sc_check_view : FnScope ["view"] ["view"] (defScope (topS 22)) := ⟨rfl, rfl, rfl, by decide +kernel, rfl, by decide +kernel, by decide +kernel⟩
def b_check_view : Ev → Res Fl := (sIf (cNot (cV (eCall m_is_view (lCons (eVar 0) lNil)))) sBad sNil)
def m_check_view : Fn := mkFn 0 b_check_view
theorem sc_place_among : FnScope ["labels", "aim", "sort", "what"] ["labels", "aim"] (defScope (topS 11)) := ⟨rfl, rfl, rfl, by decide +kernel, rfl, by decide +kernel, by decide +kernel⟩
def b_place_among : Ev → Res Fl := (sSeq (sSet (Pat.t [2, 3]) (eVar 1))
    (sSeq (sIf (cV (eBin eqD (eVar 2) (eK (.str "label")))) (sRet (eIf (cV (eBin inD (eVar 3) (eVar 0))) (eIndex (eVar 0) (eVar 3)) (eK .none))) sNil)
    (sRet (eIf (cV (eBin ltD (eVar 3) (eUn lenD (eVar 0)))) (eVar 3) (eK .none)))))
def m_place_among : Fn := mkFn 2 b_place_among
theorem sc_field_at : FnScope ["view", "aim", "one"] ["view", "aim"] (defScope (topS 12)) := ⟨rfl, rfl, rfl, by decide +kernel, rfl, by decide +kernel, by decide +kernel⟩
def b_field_at : Ev → Res Fl := (sRet (eCall m_place_among (lCons (eComp (iSeq (eBin ixD (eVar 0) (eK (.int 1)))) (bindP (Pat.v 2)) cTrue (eBin ixD (eVar 2) (eK (.int 0))) [2]) (lCons (eVar 1) lNil))))
def m_field_at : Fn := mkFn 1 b_field_at
theorem sc_test_holds : FnScope ["test", "view", "place", "its_place", "word", "aim", "other"] ["test", "view"] (defScope (topS 37)) := ⟨rfl, rfl, rfl, by decide +kernel, rfl, by decide +kernel, by decide +kernel⟩
def b_test_holds : Ev → Res Fl := (sSeq (sSet (Pat.t [4, 5, 6]) (eVar 0))
    (sSeq (sSet (.v 2) (eCall m_field_at (lCons (eVar 1) (lCons (eVar 5) lNil))))
    (sSeq (sIf (cV (eUn (fun x => some (.bool (isNoneD x))) (eVar 2))) (sRet (eK (.bool false))) sNil)
    (sSeq (sIf (cV (eBin eqD (eVar 4) (eK (.str "is")))) (sRet (eBin eqD (eBin ixD (eBin ixD (eBin ixD (eVar 1) (eK (.int 1))) (eVar 2)) (eK (.int 1))) (eVar 6))) sNil)
    (sSeq (sSet (.v 3) (eCall m_field_at (lCons (eVar 1) (lCons (eVar 6) lNil))))
    (sRet (eAnd (eUn (fun x => some (.bool (!isNoneD x))) (eVar 3)) (eBin eqD (eBin ixD (eBin ixD (eBin ixD (eVar 1) (eK (.int 1))) (eVar 2)) (eK (.int 1))) (eBin ixD (eBin ixD (eBin ixD (eVar 1) (eK (.int 1))) (eVar 3)) (eK (.int 1)))))))))))
def m_test_holds : Fn := mkFn 5 b_test_holds
theorem sc_rule_holds : FnScope ["rule", "view", "test"] ["rule", "view"] (defScope (topS 38)) := ⟨rfl, rfl, rfl, by decide +kernel, rfl, by decide +kernel, by decide +kernel⟩
def b_rule_holds : Ev → Res Fl := (sRet (eUn allD (eComp (iSeq (eBin ixD (eVar 0) (eK (.int 0)))) (bindP (Pat.v 2)) cTrue (eCall m_test_holds (lCons (eVar 2) (lCons (eVar 1) lNil))) [2])))
def m_rule_holds : Fn := mkFn 1 b_rule_holds
theorem sc_button_at : FnScope ["view", "aim"] ["view", "aim"] (defScope (topS 13)) := ⟨rfl, rfl, rfl, by decide +kernel, rfl, by decide +kernel, by decide +kernel⟩
def b_button_at : Ev → Res Fl := (sRet (eCall m_place_among (lCons (eBin ixD (eVar 0) (eK (.int 2))) (lCons (eVar 1) lNil))))
def m_button_at : Fn := mkFn 0 b_button_at
theorem sc_word_from : FnScope ["source", "view", "place"] ["source", "view"] (defScope (topS 39)) := ⟨rfl, rfl, rfl, by decide +kernel, rfl, by decide +kernel, by decide +kernel⟩
def b_word_from : Ev → Res Fl := (sSeq (sIf (cV (eBin eqD (eBin ixD (eVar 0) (eK (.int 0))) (eK (.str "word")))) (sRet (eBin ixD (eVar 0) (eK (.int 1)))) sNil)
    (sSeq (sSet (.v 2) (eCall m_field_at (lCons (eVar 1) (lCons (eBin ixD (eVar 0) (eK (.int 1))) lNil))))
    (sRet (eIf (cV (eUn (fun x => some (.bool (isNoneD x))) (eVar 2))) (eK .none) (eBin ixD (eBin ixD (eBin ixD (eVar 1) (eK (.int 1))) (eVar 2)) (eK (.int 1)))))))
def m_word_from : Fn := mkFn 1 b_word_from
theorem sc_rule_means : FnScope ["rule", "view", "act", "place", "word"] ["rule", "view"] (defScope (topS 40)) := ⟨rfl, rfl, rfl, by decide +kernel, rfl, by decide +kernel, by decide +kernel⟩
def b_rule_means : Ev → Res Fl := (sSeq (sSet (.v 2) (eBin ixD (eVar 0) (eK (.int 1))))
    (sSeq (sIf (cV (eUn (fun x => some (.bool (isNoneD x))) (eVar 2))) (sRet (eK .none)) sNil)
    (sSeq (sIf (cV (eBin eqD (eBin ixD (eVar 2) (eK (.int 0))) (eK (.str "press")))) (sSeq (sSet (.v 3) (eCall m_button_at (lCons (eVar 1) (lCons (eBin ixD (eVar 2) (eK (.int 1))) lNil))))
    (sRet (eIf (cV (eUn (fun x => some (.bool (isNoneD x))) (eVar 3))) (eK .none) (eTup (lCons (eK (.str "press")) (lCons (eVar 3) lNil)))))) sNil)
    (sSeq (sPar 3 4 (lCons (eCall m_field_at (lCons (eVar 1) (lCons (eBin ixD (eVar 2) (eK (.int 1))) lNil))) (lCons (eCall m_word_from (lCons (eBin ixD (eVar 2) (eK (.int 2))) (lCons (eVar 1) lNil))) lNil)))
    (sSeq (sIf (cOr (cV (eUn (fun x => some (.bool (isNoneD x))) (eVar 3))) (cOr (cV (eUn (fun x => some (.bool (isNoneD x))) (eVar 4))) (cNot (cV (eBin ixD (eBin ixD (eBin ixD (eVar 1) (eK (.int 1))) (eVar 3)) (eK (.int 2))))))) (sRet (eK .none)) sNil)
    (sRet (eTup (lCons (eK (.str "write")) (lCons (eVar 3) (lCons (eVar 4) lNil))))))))))
def m_rule_means : Fn := mkFn 3 b_rule_means
theorem sc_rules_mean : FnScope ["rules", "view", "rule"] ["rules", "view"] (defScope (topS 41)) := ⟨rfl, rfl, rfl, by decide +kernel, rfl, by decide +kernel, by decide +kernel⟩
def b_rules_mean : Ev → Res Fl := (sSeq (sFor (iSeq (eVar 0)) (bindP (Pat.v 2)) (sIf (cV (eCall m_rule_holds (lCons (eVar 2) (lCons (eVar 1) lNil)))) (sRet (eCall m_rule_means (lCons (eVar 2) (lCons (eVar 1) lNil)))) sNil))
    (sRet (eK .none)))
def m_rules_mean : Fn := mkFn 1 b_rules_mean
theorem sc_rules_of : FnScope ["program", "title"] ["program", "title"] (defScope (topS 34)) := ⟨rfl, rfl, rfl, by decide +kernel, rfl, by decide +kernel, by decide +kernel⟩
def b_rules_of : Ev → Res Fl := (sRet (eDictGet (eVar 0) (eVar 1) (eTup lNil)))
def m_rules_of : Fn := mkFn 0 b_rules_of
theorem sc_means : FnScope ["program", "view"] ["program", "view"] (defScope (topS 42)) := ⟨rfl, rfl, rfl, by decide +kernel, rfl, by decide +kernel, by decide +kernel⟩
def b_means : Ev → Res Fl := (sSeq (sExpr (eCall m_check_program (lCons (eVar 0) lNil)))
    (sSeq (sExpr (eCall m_check_view (lCons (eVar 1) lNil)))
    (sRet (eCall m_rules_mean (lCons (eCall m_rules_of (lCons (eVar 0) (lCons (eBin ixD (eVar 1) (eK (.int 0))) lNil))) (lCons (eVar 1) lNil))))))
def m_means : Fn := mkFn 0 b_means
theorem sc_rules_price : FnScope ["rules", "tests", "act"] ["rules"] (defScope (topS 35)) := ⟨rfl, rfl, rfl, by decide +kernel, rfl, by decide +kernel, by decide +kernel⟩
def b_rules_price : Ev → Res Fl := (sRet (eUn sumD (eComp (iSeq (eVar 0)) (bindP (Pat.t [1, 2])) cTrue (eBin addD (eK (.int 1)) (eUn lenD (eVar 1))) [1, 2])))
def m_rules_price : Fn := mkFn 2 b_rules_price
theorem sc_price : FnScope ["program", "title", "rules"] ["program"] (defScope (topS 36)) := ⟨rfl, rfl, rfl, by decide +kernel, rfl, by decide +kernel, by decide +kernel⟩
def b_price : Ev → Res Fl := (sSeq (sExpr (eCall m_check_program (lCons (eVar 0) lNil)))
    (sRet (eUn sumD (eComp (iSeq (eVar 0)) (bindP (Pat.t [1, 2])) cTrue (eCall m_rules_price (lCons (eVar 2) lNil)) [1, 2]))))
def m_price : Fn := mkFn 2 b_price
theorem sc__law_case_right : FnScope ["_law_sight", "_law_rules", "_law_due", "_law_cost", "_law_plan"] ["_law_sight", "_law_rules", "_law_due", "_law_cost"] (defScope (topS 47)) := ⟨rfl, rfl, rfl, by decide +kernel, rfl, by decide +kernel, by decide +kernel⟩
def b__law_case_right : Ev → Res Fl := (sSeq (sSet (.v 4) (eTup (lCons (eTup (lCons (eBin ixD (eVar 0) (eK (.int 0))) (lCons (eVar 1) lNil))) lNil)))
    (sRet (eAnd (eBin eqD (eUn reprD (eCall m_means (lCons (eVar 4) (lCons (eVar 0) lNil)))) (eUn reprD (eVar 2))) (eBin eqD (eUn reprD (eCall m_price (lCons (eVar 4) lNil))) (eUn reprD (eVar 3))))))
def m__law_case_right : Fn := mkFn 1 b__law_case_right
theorem sc__law_take : FnScope ["_law_pot_here", "_law_upto", "_law_prime", "_law_mixed", "_law_digit"] ["_law_pot_here", "_law_upto"] (defScope (topS 45)) := ⟨rfl, rfl, rfl, by decide +kernel, rfl, by decide +kernel, by decide +kernel⟩
def b__law_take : Ev → Res Fl := (sSeq (sIf (cV (eBin gtI (eIxO 0 (eK (.int 0))) (eK (.int 0)))) (sSeq (sSet (.v 4) (eBin modI (eUn intD (eIxO 0 (eK (.int 0)))) (eVar 1)))
    (sSeq (sSetIx 0 (eBin fdivI (eIxO 0 (eK (.int 0))) (eVar 1)) (eK (.int 0)))
    (sRet (eVar 4)))) sNil)
    (sSeq (sSetIx 0 (eBin addD (eIxO 0 (eK (.int 2))) (eK (.int 1))) (eK (.int 2)))
    (sSeq (sSet (.v 2) (eBin ixD (eLst (lCons (eK (.int 2147483647)) (lCons (eK (.int 2147483629)) (lCons (eK (.int 2147483587)) (lCons (eK (.int 2147483579)) (lCons (eK (.int 2147483563)) lNil)))))) (eBin modI (eUn intD (eIxO 0 (eK (.int 2)))) (eK (.int 5)))))
    (sSeq (sSet (.v 3) (eBin modI (eUn intD (eBin powI (eUn intD (eBin addD (eBin addD (eIxO 0 (eK (.int 1))) (eBin mulI (eBin mulI (eK (.int 99991)) (eIxO 0 (eK (.int 2)))) (eIxO 0 (eK (.int 2))))) (eK (.int 41)))) (eK (.int 3)))) (eVar 2)))
    (sSeq (sSet (.v 3) (eBin modI (eUn intD (eBin mulI (eVar 3) (eBin addD (eBin modI (eUn intD (eVar 3)) (eK (.int 10009))) (eBin mulI (eK (.int 83)) (eIxO 0 (eK (.int 2))))))) (eK (.int 2305843009213693907))))
    (sRet (eBin modI (eUn intD (eBin fdivI (eVar 3) (eK (.int 109)))) (eVar 1))))))))
def m__law_take : Fn := mkFn 3 b__law_take
theorem sc__law_of : FnScope ["_law_pot_here", "_law_some"] ["_law_pot_here", "_law_some"] (defScope (topS 46)) := ⟨rfl, rfl, rfl, by decide +kernel, rfl, by decide +kernel, by decide +kernel⟩
def b__law_of : Ev → Res Fl := (sRet (eBin ixD (eVar 1) (eCallR m__law_take 0 (lCons (eUn lenD (eVar 1)) lNil))))
def m__law_of : Fn := mkFn 0 b__law_of
theorem sc__law_right : FnScope ["_law_pot_here", "_law_sight", "_law_cases", "_law_both", "_law_one", "_law_two", "_law_three", "_law_word", "_law_other", "_law_first", "_law_second", "_law_third", "_law_far", "_law_go", "_law_rules", "_law_due", "_law_cost"] ["_law_pot_here"] (defScope (topS 48)) := ⟨rfl, rfl, rfl, by decide +kernel, rfl, by decide +kernel, by decide +kernel⟩
def b__law_right : Ev → Res Fl := (sSeq (sSet (Pat.t [4, 5, 6]) (eCallR m__law_of 0 (lCons (eLst (lCons (eTup (lCons (eK (.str "aa")) (lCons (eK (.str "bb")) (lCons (eK (.str "cc")) lNil)))) (lCons (eTup (lCons (eK (.str "x")) (lCons (eK (.str "y")) (lCons (eK (.str "z")) lNil)))) (lCons (eTup (lCons (eK (.str "z")) (lCons (eK (.str "is")) (lCons (eK (.str "of")) lNil)))) lNil)))) lNil)))
    (sSeq (sSet (Pat.t [7, 8]) (eCallR m__law_of 0 (lCons (eLst (lCons (eTup (lCons (eK (.str "")) (lCons (eK (.str "b")) lNil))) (lCons (eTup (lCons (eK (.str "w")) (lCons (eK (.str "")) lNil))) (lCons (eTup (lCons (eK (.str "is")) (lCons (eK (.str "word")) lNil))) lNil)))) lNil)))
    (sSeq (sSet (.v 1) (eTup (lCons (eK (.str "desk")) (lCons (eTup (lCons (eTup (lCons (eVar 4) (lCons (eVar 7) (lCons (eK (.bool true)) lNil)))) (lCons (eTup (lCons (eVar 5) (lCons (eVar 8) (lCons (eK (.bool false)) lNil)))) (lCons (eTup (lCons (eVar 6) (lCons (eVar 7) (lCons (eK (.bool true)) lNil)))) lNil)))) (lCons (eTup (lCons (eK (.str "go")) (lCons (eVar 4) lNil))) lNil)))))
    (sSeq (sPar3 9 10 11 (lCons (eTup (lCons (eK (.str "label")) (lCons (eVar 4) lNil))) (lCons (eTup (lCons (eK (.str "place")) (lCons (eK (.int 1)) lNil))) (lCons (eTup (lCons (eK (.str "label")) (lCons (eVar 6) lNil))) lNil))))
    (sSeq (sSet (Pat.t [12, 13]) (eTup (lCons (eTup (lCons (eK (.str "label")) (lCons (eK (.str "nothing")) lNil))) (lCons (eTup (lCons (eK (.str "press")) (lCons (eTup (lCons (eK (.str "label")) (lCons (eK (.str "go")) lNil))) lNil))) lNil))))
    (sSeq (sOwn 2 (fLst (lCons (eLst (lCons (eTup (lCons (eTup (lCons (eTup lNil) (lCons (eVar 13) lNil))) lNil)) (lCons (eTup (lCons (eK (.str "press")) (lCons (eK (.int 0)) lNil))) (lCons (eK (.int 1)) lNil)))) (lCons (eLst (lCons (eTup (lCons (eTup (lCons (eTup lNil) (lCons (eTup (lCons (eK (.str "press")) (lCons (eVar 9) lNil))) lNil))) lNil)) (lCons (eTup (lCons (eK (.str "press")) (lCons (eK (.int 1)) lNil))) (lCons (eK (.int 1)) lNil)))) lNil))))
    (sSeq (sExpr (eAppend 2 (eLst (lCons (eTup (lCons (eTup (lCons (eTup lNil) (lCons (eTup (lCons (eK (.str "write")) (lCons (eVar 10) (lCons (eTup (lCons (eK (.str "word")) (lCons (eK (.str "q")) lNil))) lNil)))) lNil))) (lCons (eTup (lCons (eTup lNil) (lCons (eVar 13) lNil))) lNil))) (lCons (eK .none) (lCons (eK (.int 2)) lNil))))))
    (sSeq (sExpr (eAppend 2 (eLst (lCons (eTup (lCons (eTup (lCons (eTup (lCons (eTup (lCons (eK (.str "is")) (lCons (eVar 12) (lCons (eVar 7) lNil)))) lNil)) (lCons (eVar 13) lNil))) (lCons (eTup (lCons (eTup lNil) (lCons (eTup (lCons (eK (.str "press")) (lCons (eTup (lCons (eK (.str "place")) (lCons (eK (.int 1)) lNil))) lNil))) lNil))) lNil))) (lCons (eTup (lCons (eK (.str "press")) (lCons (eK (.int 1)) lNil))) (lCons (eK (.int 3)) lNil))))))
    (sSeq (sExpr (eAppend 2 (eLst (lCons (eTup (lCons (eTup (lCons (eTup lNil) (lCons (eTup (lCons (eK (.str "press")) (lCons (eVar 12) lNil))) lNil))) (lCons (eTup (lCons (eTup lNil) (lCons (eVar 13) lNil))) lNil))) (lCons (eK .none) (lCons (eK (.int 2)) lNil))))))
    (sSeq (sExpr (eAppend 2 (eLst (lCons (eTup (lCons (eTup (lCons (eTup (lCons (eTup (lCons (eK (.str "same")) (lCons (eTup (lCons (eK (.str "place")) (lCons (eK (.int 0)) lNil))) (lCons (eTup (lCons (eK (.str "place")) (lCons (eK (.int 2)) lNil))) lNil)))) lNil)) (lCons (eVar 13) lNil))) lNil)) (lCons (eTup (lCons (eK (.str "press")) (lCons (eK (.int 0)) lNil))) (lCons (eK (.int 2)) lNil))))))
    (sSeq (sExpr (eAppend 2 (eLst (lCons (eTup (lCons (eTup (lCons (eTup (lCons (eTup (lCons (eK (.str "same")) (lCons (eTup (lCons (eK (.str "place")) (lCons (eK (.int 0)) lNil))) (lCons (eTup (lCons (eK (.str "place")) (lCons (eK (.int 1)) lNil))) lNil)))) lNil)) (lCons (eVar 13) lNil))) lNil)) (lCons (eK .none) (lCons (eK (.int 2)) lNil))))))
    (sSeq (sExpr (eAppend 2 (eLst (lCons (eTup (lCons (eTup (lCons (eTup (lCons (eTup (lCons (eK (.str "same")) (lCons (eTup (lCons (eK (.str "place")) (lCons (eK (.int 0)) lNil))) (lCons (eTup (lCons (eK (.str "place")) (lCons (eK (.int 3)) lNil))) lNil)))) lNil)) (lCons (eVar 13) lNil))) lNil)) (lCons (eK .none) (lCons (eK (.int 2)) lNil))))))
    (sSeq (sSet (.v 3) (eUn tupleD (eUn sortedD (eLst (lCons (eTup (lCons (eK (.str "is")) (lCons (eVar 9) (lCons (eVar 7) lNil)))) (lCons (eTup (lCons (eK (.str "is")) (lCons (eVar 11) (lCons (eVar 7) lNil)))) lNil))))))
    (sSeq (sExpr (eAppend 2 (eLst (lCons (eTup (lCons (eTup (lCons (eVar 3) (lCons (eVar 13) lNil))) (lCons (eTup (lCons (eTup lNil) (lCons (eTup (lCons (eK (.str "press")) (lCons (eTup (lCons (eK (.str "place")) (lCons (eK (.int 1)) lNil))) lNil))) lNil))) lNil))) (lCons (eTup (lCons (eK (.str "press")) (lCons (eK (.int 0)) lNil))) (lCons (eK (.int 4)) lNil))))))
    (sSeq (sExpr (eAppend 2 (eLst (lCons (eTup (lCons (eTup (lCons (eTup lNil) (lCons (eTup (lCons (eK (.str "write")) (lCons (eVar 11) (lCons (eTup (lCons (eK (.str "of")) (lCons (eVar 10) lNil))) lNil)))) lNil))) lNil)) (lCons (eTup (lCons (eK (.str "write")) (lCons (eK (.int 2)) (lCons (eVar 8) lNil)))) (lCons (eK (.int 1)) lNil))))))
    (sSeq (sExpr (eAppend 2 (eLst (lCons (eTup (lCons (eTup (lCons (eTup lNil) (lCons (eTup (lCons (eK (.str "write")) (lCons (eVar 11) (lCons (eTup (lCons (eK (.str "of")) (lCons (eTup (lCons (eK (.str "place")) (lCons (eK (.int 3)) lNil))) lNil))) lNil)))) lNil))) (lCons (eTup (lCons (eTup lNil) (lCons (eVar 13) lNil))) lNil))) (lCons (eK .none) (lCons (eK (.int 2)) lNil))))))
    (sSeq (sExpr (eAppend 2 (eLst (lCons (eTup (lCons (eTup (lCons (eTup lNil) (lCons (eTup (lCons (eK (.str "write")) (lCons (eVar 9) (lCons (eTup (lCons (eK (.str "of")) (lCons (eVar 9) lNil))) lNil)))) lNil))) lNil)) (lCons (eTup (lCons (eK (.str "write")) (lCons (eK (.int 0)) (lCons (eVar 7) lNil)))) (lCons (eK (.int 1)) lNil))))))
    (sSeq (sExpr (eAppend 2 (eLst (lCons (eTup (lCons (eTup (lCons (eTup (lCons (eTup (lCons (eK (.str "is")) (lCons (eVar 10) (lCons (eVar 8) lNil)))) lNil)) (lCons (eTup (lCons (eK (.str "write")) (lCons (eVar 9) (lCons (eTup (lCons (eK (.str "word")) (lCons (eVar 8) lNil))) lNil)))) lNil))) lNil)) (lCons (eTup (lCons (eK (.str "write")) (lCons (eK (.int 0)) (lCons (eVar 8) lNil)))) (lCons (eK (.int 2)) lNil))))))
    (sSeq (sExpr (eAppend 2 (eLst (lCons (eTup (lCons (eTup (lCons (eTup (lCons (eTup (lCons (eK (.str "is")) (lCons (eVar 10) (lCons (eVar 7) lNil)))) lNil)) (lCons (eVar 13) lNil))) lNil)) (lCons (eK .none) (lCons (eK (.int 2)) lNil))))))
    (sSeq (sIf (cNot (cV (eUn allD (eComp (iSeq (eFrz 2)) (bindP (Pat.t [14, 15, 16])) cTrue (eCall m__law_case_right (lCons (eVar 1) (lCons (eVar 14) (lCons (eVar 15) (lCons (eVar 16) lNil))))) [14, 15, 16])))) (sRet (eK (.bool false))) sNil)
    (sRet (eAnd (eUn (fun x => some (.bool (isNoneD x))) (eCall m_means (lCons (eTup lNil) (lCons (eVar 1) lNil)))) (eUn (fun x => some (.bool (isNoneD x))) (eCall m_means (lCons (eTup (lCons (eTup (lCons (eK (.str "desks")) (lCons (eTup (lCons (eTup (lCons (eTup lNil) (lCons (eVar 13) lNil))) lNil)) lNil))) lNil)) (lCons (eVar 1) lNil))))))))))))))))))))))))))
def m__law_right : Fn := mkFn 16 b__law_right
theorem sc_law : FnScope ["_law_script", "_law_k", "_law_pot_here", "_law_turn"] ["_law_script"] (defScope (topS 49)) := ⟨rfl, rfl, rfl, by decide +kernel, rfl, by decide +kernel, by decide +kernel⟩
def b_law : Ev → Res Fl := (sSeq (sFor (iRng (eBin maxI (eK (.int 1)) (eBin minI (eK (.int 4)) (eUn lenD (eVar 0))))) (bindP (Pat.v 1)) (sSeq (sOwn 2 (eCall m__law_pot (lCons (eVar 0) (lCons (eVar 1) lNil))))
    (sIf (cNot (cV (eUn allD (eComp (iRng (eK (.int 3))) (bindP (Pat.v 3)) cTrue (eCallR m__law_right 2 lNil) [3])))) (sRet (eK (.bool false))) sNil)))
    (sRet (eK (.bool true))))
def m_law : Fn := mkFn 3 b_law
section
variable {P : Program} {w : World} {K : Fg} {mg : Str → Option Value} {base : Heap}
theorem ok__law_pot (T : Txt K mg) (k : Nat) : KeepsL P w K mg base (k + 1) "_law_pot" ["_law_script", "_law_k"] m__law_pot :=
  keepsL_of (k := k + 0) T.f__law_pot sc__law_pot rfl fun f cdv A outer s H E hr gs hu => ((rs_cons (rs_set (i := 2) sc__law_pot.nd rfl (by first | exact .inl rfl | exact .inr rfl) (re_if (rt_cmp (op_ltD hu) (re_var 1) (RE.b (re_callB call_lenD1 (by rfl) T.n_len (by decide +kernel) (RE.b (re_var 0)))) rfl) (re_ix (re_var 0) (re_var 1) (fun _ _ => rfl)) (re_op op_addD (re_op op_mulI re_int (RE.b (re_var 1))) (RE.b re_int))))
    (rs_cons (rs_set (i := 3) sc__law_pot.nd rfl (by first | exact .inl rfl | exact .inr rfl) (re_op op_mulI (re_op op_modI (re_callT call_intD (by rfl) T.n_int (by decide +kernel) (RE.b (re_callB call_absD (by rfl) T.n_abs (by decide +kernel) (RE.b (re_var 2))))) (RE.b (re_op op_powI (re_op op_powI re_int (RE.b re_int)) (RE.b re_int)))) (RE.b (re_callT call_intD (by rfl) T.n_int (by decide +kernel) (RE.b (re_cmp op_geN (re_callB call_absD (by rfl) T.n_abs (by decide +kernel) (RE.b (re_var 2))) (RE.b (re_op op_powI re_int (RE.b re_int))) rfl))))))
    (rs_one (rs_retF (rf_lst (rl_cons (re_var 3) (rl_cons (re_op op_modI (re_callT call_intD (by rfl) T.n_int (by decide +kernel) (RE.b (re_op op_addD (re_op op_addD (re_op op_mulI (re_op op_modI (re_callT call_intD (by rfl) T.n_int (by decide +kernel) (RE.b (re_var 2))) (RE.b re_int)) (RE.b re_int)) (RE.b (re_op op_mulI (re_op op_mulI re_int (RE.b (re_var 1))) (RE.b (re_var 1))))) (RE.b re_int)))) (RE.b re_int)) (rl_cons re_int rl_nil)))))))) : RSs _ _ _ b__law_pot)
theorem ok_is_word (T : Txt K mg) (k : Nat) : Keeps P w K mg base (k + 1) "is_word" ["thing"] m_is_word :=
  keeps_of (k := k + 0) T.f_is_word sc_is_word rfl fun f cdv A outer s H E hr gs hu => ((rs_one (rs_ret (re_and (re_isi isT_str (by rfl) T.n_isinstance (by rfl) T.n_str (by decide +kernel) (re_var 0)) (re_and (re_cmp op_leN (re_callB call_lenD1 (by rfl) T.n_len (by decide +kernel) (RE.b (re_var 0))) (RE.b (gc T.c_MOST_LETTERS (by rfl) fun _ => .int _)) rfl) (re_one (re_callB (call_allD rfl) (by rfl) T.n_all (by decide +kernel) (RE.b (re_comp rfl sc_is_word.nd (ri_seq (re_var 0)) (blkOk_by (own := [("sign", 1)]) (by rfl)) (own_v "sign" 1) (fun _ _ _ _ _ => (rg_v sc_is_word.nd rfl (by first | exact .inl rfl | exact .inr rfl))) (fun _ _ _ _ _ => rts_nil) (fun _ _ _ _ _ => (re_cmp (op_inD hu) (re_var 1) (RE.b (gc T.c_LETTERS (by rfl) fun _ => .str _)) rfl)))))))))) : RSs _ _ _ b_is_word)
theorem ok_is_name (T : Txt K mg) (k : Nat) : Keeps P w K mg base (k + 2) "is_name" ["thing"] m_is_name :=
  keeps_of (k := k + 1) T.f_is_name sc_is_name rfl fun f cdv A outer s H E hr gs hu => ((rs_one (rs_ret (re_and (ck (ok_is_word T k) hr gs (by rfl) (rl_cons (re_var 0) rl_nil)) (re_one (re_cmp (op_neD hu) (re_var 0) (RE.b re_str) rfl))))) : RSs _ _ _ b_is_name)
theorem ok_is_count (T : Txt K mg) (k : Nat) : Keeps P w K mg base (k + 1) "is_count" ["thing"] m_is_count :=
  keeps_of (k := k + 0) T.f_is_count sc_is_count rfl fun f cdv A outer s H E hr gs hu => ((rs_one (rs_ret (re_and (re_isi isT_int (by rfl) T.n_isinstance (by rfl) T.n_int (by decide +kernel) (re_var 0)) (re_and (re_not (re_isi isT_bool (by rfl) T.n_isinstance (by rfl) T.n_bool (by decide +kernel) (re_var 0))) (re_one (re_cmp op_geN (re_var 0) (RE.b re_int) rfl)))))) : RSs _ _ _ b_is_count)
theorem ok_is_aim (T : Txt K mg) (k : Nat) : Keeps P w K mg base (k + 3) "is_aim" ["thing"] m_is_aim :=
  keeps_of (k := k + 2) T.f_is_aim sc_is_aim rfl fun f cdv A outer s H E hr gs hu => ((rs_cons (rs_if (rt_w (rw_or (rt_not (rt_val (re_isi isT_tuple (by rfl) T.n_isinstance (by rfl) T.n_tuple (by decide +kernel) (re_var 0)))) (rw_or1 (rt_cmp (op_neD hu) (re_callB call_lenD1 (by rfl) T.n_len (by decide +kernel) (RE.b (re_var 0))) (RE.b (gc T.c_PAIR_aims (by rfl) fun _ => .int _)) rfl)))) (rs_one (rs_ret re_bl)) rs_nil)
    (rs_cons (rs_if (rt_cmp (op_eqD hu) (re_ix (re_var 0) re_int (fun _ _ => rfl)) (RE.b re_str) rfl) (rs_one (rs_ret (ck (ok_is_name T k) hr gs (by rfl) (rl_cons (re_ix (re_var 0) re_int (fun _ _ => rfl)) rl_nil)))) rs_nil)
    (rs_one (rs_ret (re_and (re_cmp (op_eqD hu) (re_ix (re_var 0) re_int (fun _ _ => rfl)) (RE.b re_str) rfl) (re_and (ck (ok_is_count T (k + 1)) hr gs (by rfl) (rl_cons (re_ix (re_var 0) re_int (fun _ _ => rfl)) rl_nil)) (re_one (re_cmp op_leN (re_ix (re_var 0) re_int (fun _ _ => rfl)) (RE.b (gc T.c_MOST_PLACE (by rfl) fun _ => .int _)) rfl)))))))) : RSs _ _ _ b_is_aim)
theorem ok_is_source (T : Txt K mg) (k : Nat) : Keeps P w K mg base (k + 4) "is_source" ["thing"] m_is_source :=
  keeps_of (k := k + 3) T.f_is_source sc_is_source rfl fun f cdv A outer s H E hr gs hu => ((rs_cons (rs_if (rt_w (rw_or (rt_not (rt_val (re_isi isT_tuple (by rfl) T.n_isinstance (by rfl) T.n_tuple (by decide +kernel) (re_var 0)))) (rw_or1 (rt_cmp (op_neD hu) (re_callB call_lenD1 (by rfl) T.n_len (by decide +kernel) (RE.b (re_var 0))) (RE.b (gc T.c_PAIR_programs (by rfl) fun _ => .int _)) rfl)))) (rs_one (rs_ret re_bl)) rs_nil)
    (rs_one (rs_ret (re_or (re_and (re_cmp (op_eqD hu) (re_ix (re_var 0) re_int (fun _ _ => rfl)) (RE.b re_str) rfl) (re_one (ck (ok_is_word T (k + 2)) hr gs (by rfl) (rl_cons (re_ix (re_var 0) re_int (fun _ _ => rfl)) rl_nil)))) (re_one (re_and (re_cmp (op_eqD hu) (re_ix (re_var 0) re_int (fun _ _ => rfl)) (RE.b re_str) rfl) (re_one (ck (ok_is_aim T k) hr gs (by rfl) (rl_cons (re_ix (re_var 0) re_int (fun _ _ => rfl)) rl_nil))))))))) : RSs _ _ _ b_is_source)
theorem ok_is_act (T : Txt K mg) (k : Nat) : Keeps P w K mg base (k + 5) "is_act" ["thing"] m_is_act :=
  keeps_of (k := k + 4) T.f_is_act sc_is_act rfl fun f cdv A outer s H E hr gs hu => ((rs_cons (rs_if (rt_w (rw_or (rt_not (rt_val (re_isi isT_tuple (by rfl) T.n_isinstance (by rfl) T.n_tuple (by decide +kernel) (re_var 0)))) (rw_or (rt_cmp (op_nInD hu) (re_callB call_lenD1 (by rfl) T.n_len (by decide +kernel) (RE.b (re_var 0))) (RE.b (re_tup (rl_cons (gc T.c_PAIR_programs (by rfl) fun _ => .int _) (rl_cons (gc T.c_TRIPLE_programs (by rfl) fun _ => .int _) rl_nil)))) rfl) (rw_or1 (rt_not (rt_val (ck (ok_is_aim T (k + 1)) hr gs (by rfl) (rl_cons (re_ix (re_var 0) re_int (fun _ _ => rfl)) rl_nil)))))))) (rs_one (rs_ret re_bl)) rs_nil)
    (rs_cons (rs_if (rt_cmp (op_eqD hu) (re_callB call_lenD1 (by rfl) T.n_len (by decide +kernel) (RE.b (re_var 0))) (RE.b (gc T.c_PAIR_programs (by rfl) fun _ => .int _)) rfl) (rs_one (rs_ret (re_cmp (op_eqD hu) (re_ix (re_var 0) re_int (fun _ _ => rfl)) (RE.b re_str) rfl))) rs_nil)
    (rs_one (rs_ret (re_and (re_cmp (op_eqD hu) (re_ix (re_var 0) re_int (fun _ _ => rfl)) (RE.b re_str) rfl) (re_one (ck (ok_is_source T k) hr gs (by rfl) (rl_cons (re_ix (re_var 0) re_int (fun _ _ => rfl)) rl_nil)))))))) : RSs _ _ _ b_is_act)
theorem ok_is_test (T : Txt K mg) (k : Nat) : Keeps P w K mg base (k + 4) "is_test" ["thing"] m_is_test :=
  keeps_of (k := k + 3) T.f_is_test sc_is_test rfl fun f cdv A outer s H E hr gs hu => ((rs_cons (rs_if (rt_w (rw_or (rt_not (rt_val (re_isi isT_tuple (by rfl) T.n_isinstance (by rfl) T.n_tuple (by decide +kernel) (re_var 0)))) (rw_or (rt_cmp (op_neD hu) (re_callB call_lenD1 (by rfl) T.n_len (by decide +kernel) (RE.b (re_var 0))) (RE.b (gc T.c_TRIPLE_programs (by rfl) fun _ => .int _)) rfl) (rw_or1 (rt_not (rt_val (ck (ok_is_aim T k) hr gs (by rfl) (rl_cons (re_ix (re_var 0) re_int (fun _ _ => rfl)) rl_nil)))))))) (rs_one (rs_ret re_bl)) rs_nil)
    (rs_cons (rs_if (rt_cmp (op_eqD hu) (re_ix (re_var 0) re_int (fun _ _ => rfl)) (RE.b re_str) rfl) (rs_one (rs_ret (ck (ok_is_word T (k + 2)) hr gs (by rfl) (rl_cons (re_ix (re_var 0) re_int (fun _ _ => rfl)) rl_nil)))) rs_nil)
    (rs_cons (rs_if (rt_w (rw_or (rt_cmp (op_neD hu) (re_ix (re_var 0) re_int (fun _ _ => rfl)) (RE.b re_str) rfl) (rw_or1 (rt_not (rt_val (ck (ok_is_aim T k) hr gs (by rfl) (rl_cons (re_ix (re_var 0) re_int (fun _ _ => rfl)) rl_nil))))))) (rs_one (rs_ret re_bl)) rs_nil)
    (rs_cons (rs_par (i := 1) (j := 2) rfl sc_is_test.nd rfl rfl (by decide) rfl rfl (rl_cons (re_ix (re_var 0) re_int (fun _ _ => rfl)) (rl_cons (re_ix (re_var 0) re_int (fun _ _ => rfl)) rl_nil)) rfl)
    (rs_one (rs_ret (re_and (re_cmp (op_eqD hu) (re_ix (re_var 1) re_int (fun _ _ => rfl)) (RE.b (re_ix (re_var 2) re_int (fun _ _ => rfl))) rfl) (re_one (re_cmp (op_ltD hu) (re_ix (re_var 1) re_int (fun _ _ => rfl)) (RE.b (re_ix (re_var 2) re_int (fun _ _ => rfl))) rfl))))))))) : RSs _ _ _ b_is_test)
theorem ok_is_rule (T : Txt K mg) (k : Nat) : Keeps P w K mg base (k + 6) "is_rule" ["thing"] m_is_rule :=
  keeps_of (k := k + 5) T.f_is_rule sc_is_rule rfl fun f cdv A outer s H E hr gs hu => ((rs_cons (rs_if (rt_w (rw_or (rt_not (rt_val (re_isi isT_tuple (by rfl) T.n_isinstance (by rfl) T.n_tuple (by decide +kernel) (re_var 0)))) (rw_or1 (rt_cmp (op_neD hu) (re_callB call_lenD1 (by rfl) T.n_len (by decide +kernel) (RE.b (re_var 0))) (RE.b (gc T.c_PAIR_programs (by rfl) fun _ => .int _)) rfl)))) (rs_one (rs_ret re_bl)) rs_nil)
    (rs_cons (rs_asg (re_var 0) (rg_t rfl (rgs_cons sc_is_rule.nd rfl (by first | exact .inl rfl | exact .inr rfl) (rgs_cons sc_is_rule.nd rfl (by first | exact .inl rfl | exact .inr rfl) rgs_nil))))
    (rs_cons (rs_if (rt_w (rw_or (rt_not (rt_val (re_isi isT_tuple (by rfl) T.n_isinstance (by rfl) T.n_tuple (by decide +kernel) (re_var 1)))) (rw_or (rt_cmp op_gtN (re_callB call_lenD1 (by rfl) T.n_len (by decide +kernel) (RE.b (re_var 1))) (RE.b (gc T.c_MOST_TESTS (by rfl) fun _ => .int _)) rfl) (rw_or1 (rt_not (rt_val (re_callB (call_allD rfl) (by rfl) T.n_all (by decide +kernel) (RE.b (re_comp rfl sc_is_rule.nd (ri_seq (re_var 1)) (blkOk_by (own := [("one", 3)]) (by rfl)) (own_v "one" 3) (fun _ _ _ _ _ => (rg_v sc_is_rule.nd rfl (by first | exact .inl rfl | exact .inr rfl))) (fun _ _ _ _ _ => rts_nil) (fun _ _ _ _ _ => (ck (ok_is_test T (k + 1)) hr gs (by rfl) (rl_cons (re_var 3) rl_nil)))))))))))) (rs_one (rs_ret re_bl)) rs_nil)
    (rs_one (rs_ret (re_and (re_callB (call_allD rfl) (by rfl) T.n_all (by decide +kernel) (RE.b (re_comp rfl sc_is_rule.nd (ri_zip (by rfl) T.n_zip (re_var 1) (re_slice (re_var 1) (rp_some re_int) rp_no)) (blkOk_by (own := [("one", 3), ("other", 4)]) (by rfl)) (fun _ h => h) (fun _ _ _ _ _ => (rg_t rfl (rgs_cons sc_is_rule.nd rfl (by first | exact .inl rfl | exact .inr rfl) (rgs_cons sc_is_rule.nd rfl (by first | exact .inl rfl | exact .inr rfl) rgs_nil)))) (fun _ _ _ _ _ => rts_nil) (fun _ _ _ _ _ => (re_cmp (op_ltD hu) (re_var 3) (RE.b (re_var 4)) rfl))))) (re_one (ck (ok_is_act T k) hr gs (by rfl) (rl_cons (re_var 2) rl_nil))))))))) : RSs _ _ _ b_is_rule)
theorem ok_is_part (T : Txt K mg) (k : Nat) : Keeps P w K mg base (k + 7) "is_part" ["thing"] m_is_part :=
  keeps_of (k := k + 6) T.f_is_part sc_is_part rfl fun f cdv A outer s H E hr gs hu => ((rs_cons (rs_if (rt_w (rw_or (rt_not (rt_val (re_isi isT_tuple (by rfl) T.n_isinstance (by rfl) T.n_tuple (by decide +kernel) (re_var 0)))) (rw_or (rt_cmp (op_neD hu) (re_callB call_lenD1 (by rfl) T.n_len (by decide +kernel) (RE.b (re_var 0))) (RE.b (gc T.c_PAIR_programs (by rfl) fun _ => .int _)) rfl) (rw_or1 (rt_not (rt_val (ck (ok_is_name T (k + 4)) hr gs (by rfl) (rl_cons (re_ix (re_var 0) re_int (fun _ _ => rfl)) rl_nil)))))))) (rs_one (rs_ret re_bl)) rs_nil)
    (rs_one (rs_ret (re_and (re_isi isT_tuple (by rfl) T.n_isinstance (by rfl) T.n_tuple (by decide +kernel) (re_ix (re_var 0) re_int (fun _ _ => rfl))) (re_and (re_cmp (op_neD hu) (re_ix (re_var 0) re_int (fun _ _ => rfl)) (RE.b (re_tup rl_nil)) rfl) (re_one (re_callB (call_allD rfl) (by rfl) T.n_all (by decide +kernel) (RE.b (re_comp rfl sc_is_part.nd (ri_seq (re_ix (re_var 0) re_int (fun _ _ => rfl))) (blkOk_by (own := [("one", 1)]) (by rfl)) (own_v "one" 1) (fun _ _ _ _ _ => (rg_v sc_is_part.nd rfl (by first | exact .inl rfl | exact .inr rfl))) (fun _ _ _ _ _ => rts_nil) (fun _ _ _ _ _ => (ck (ok_is_rule T k) hr gs (by rfl) (rl_cons (re_var 1) rl_nil)))))))))))) : RSs _ _ _ b_is_part)
theorem ok_is_program (T : Txt K mg) (k : Nat) : Keeps P w K mg base (k + 8) "is_program" ["thing"] m_is_program :=
  keeps_of (k := k + 7) T.f_is_program sc_is_program rfl fun f cdv A outer s H E hr gs hu => ((rs_cons (rs_if (rt_w (rw_or (rt_not (rt_val (re_isi isT_tuple (by rfl) T.n_isinstance (by rfl) T.n_tuple (by decide +kernel) (re_var 0)))) (rw_or1 (rt_not (rt_val (re_callB (call_allD rfl) (by rfl) T.n_all (by decide +kernel) (RE.b (re_comp rfl sc_is_program.nd (ri_seq (re_var 0)) (blkOk_by (own := [("one", 1)]) (by rfl)) (own_v "one" 1) (fun _ _ _ _ _ => (rg_v sc_is_program.nd rfl (by first | exact .inl rfl | exact .inr rfl))) (fun _ _ _ _ _ => rts_nil) (fun _ _ _ _ _ => (ck (ok_is_part T k) hr gs (by rfl) (rl_cons (re_var 1) rl_nil))))))))))) (rs_one (rs_ret re_bl)) rs_nil)
    (rs_one (rs_ret (re_callB (call_allD rfl) (by rfl) T.n_all (by decide +kernel) (RE.b (re_comp rfl sc_is_program.nd (ri_zip (by rfl) T.n_zip (re_var 0) (re_slice (re_var 0) (rp_some re_int) rp_no)) (blkOk_by (own := [("one", 1), ("other", 2)]) (by rfl)) (fun _ h => h) (fun _ _ _ _ _ => (rg_t rfl (rgs_cons sc_is_program.nd rfl (by first | exact .inl rfl | exact .inr rfl) (rgs_cons sc_is_program.nd rfl (by first | exact .inl rfl | exact .inr rfl) rgs_nil)))) (fun _ _ _ _ _ => rts_nil) (fun _ _ _ _ _ => (re_cmp (op_ltD hu) (re_ix (re_var 1) re_int (fun _ _ => rfl)) (RE.b (re_ix (re_var 2) re_int (fun _ _ => rfl))) rfl)))))))) : RSs _ _ _ b_is_program)
theorem ok_check_program (T : Txt K mg) (k : Nat) : Keeps P w K mg base (k + 9) "check_program" ["program"] m_check_program :=
  keeps_of (k := k + 8) T.f_check_program sc_check_program rfl fun f cdv A outer s H E hr gs hu => ((rs_one (rs_if (rt_not (rt_val (ck (ok_is_program T k) hr gs (by rfl) (rl_cons (re_var 0) rl_nil)))) (rs_one rs_never) rs_nil)) : RSs _ _ _ b_check_program)
theorem ok_are_names (T : Txt K mg) (k : Nat) : Keeps P w K mg base (k + 3) "are_names" ["thing"] m_are_names :=
  keeps_of (k := k + 2) T.f_are_names sc_are_names rfl fun f cdv A outer s H E hr gs hu => ((rs_cons (rs_if (rt_w (rw_or (rt_not (rt_val (re_isi isT_tuple (by rfl) T.n_isinstance (by rfl) T.n_tuple (by decide +kernel) (re_var 0)))) (rw_or1 (rt_not (rt_val (re_callB (call_allD rfl) (by rfl) T.n_all (by decide +kernel) (RE.b (re_comp rfl sc_are_names.nd (ri_seq (re_var 0)) (blkOk_by (own := [("one", 1)]) (by rfl)) (own_v "one" 1) (fun _ _ _ _ _ => (rg_v sc_are_names.nd rfl (by first | exact .inl rfl | exact .inr rfl))) (fun _ _ _ _ _ => rts_nil) (fun _ _ _ _ _ => (ck (ok_is_name T k) hr gs (by rfl) (rl_cons (re_var 1) rl_nil))))))))))) (rs_one (rs_ret re_bl)) rs_nil)
    (rs_one (rs_ret (re_cmp (op_eqD hu) (re_lenDC (by rfl) T.n_len rfl sc_are_names.nd (ri_seq (re_var 0)) (blkOk_by (own := [("one", 1)]) (by rfl)) (own_v "one" 1) (fun _ _ _ _ _ => (rg_v sc_are_names.nd rfl (by first | exact .inl rfl | exact .inr rfl))) (fun _ _ _ _ _ => (re_var 1))) (RE.b (re_callB call_lenD1 (by rfl) T.n_len (by decide +kernel) (RE.b (re_var 0)))) rfl)))) : RSs _ _ _ b_are_names)
theorem ok_is_seen (T : Txt K mg) (k : Nat) : Keeps P w K mg base (k + 3) "is_seen" ["thing"] m_is_seen :=
  keeps_of (k := k + 2) T.f_is_seen sc_is_seen rfl fun f cdv A outer s H E hr gs hu => ((rs_cons (rs_if (rt_w (rw_or (rt_not (rt_val (re_isi isT_tuple (by rfl) T.n_isinstance (by rfl) T.n_tuple (by decide +kernel) (re_var 0)))) (rw_or1 (rt_cmp (op_neD hu) (re_callB call_lenD1 (by rfl) T.n_len (by decide +kernel) (RE.b (re_var 0))) (RE.b (gc T.c_TRIPLE_views (by rfl) fun _ => .int _)) rfl)))) (rs_one (rs_ret re_bl)) rs_nil)
    (rs_one (rs_ret (re_and (ck (ok_is_name T k) hr gs (by rfl) (rl_cons (re_ix (re_var 0) re_int (fun _ _ => rfl)) rl_nil)) (re_and (ck (ok_is_word T (k + 1)) hr gs (by rfl) (rl_cons (re_ix (re_var 0) re_int (fun _ _ => rfl)) rl_nil)) (re_one (re_isi isT_bool (by rfl) T.n_isinstance (by rfl) T.n_bool (by decide +kernel) (re_ix (re_var 0) re_int (fun _ _ => rfl))))))))) : RSs _ _ _ b_is_seen)
theorem ok_is_view (T : Txt K mg) (k : Nat) : Keeps P w K mg base (k + 4) "is_view" ["thing"] m_is_view :=
  keeps_of (k := k + 3) T.f_is_view sc_is_view rfl fun f cdv A outer s H E hr gs hu => ((rs_cons (rs_if (rt_w (rw_or (rt_not (rt_val (re_isi isT_tuple (by rfl) T.n_isinstance (by rfl) T.n_tuple (by decide +kernel) (re_var 0)))) (rw_or1 (rt_cmp (op_neD hu) (re_callB call_lenD1 (by rfl) T.n_len (by decide +kernel) (RE.b (re_var 0))) (RE.b (gc T.c_TRIPLE_views (by rfl) fun _ => .int _)) rfl)))) (rs_one (rs_ret re_bl)) rs_nil)
    (rs_cons (rs_asg (re_var 0) (rg_t rfl (rgs_cons sc_is_view.nd rfl (by first | exact .inl rfl | exact .inr rfl) (rgs_cons sc_is_view.nd rfl (by first | exact .inl rfl | exact .inr rfl) (rgs_cons sc_is_view.nd rfl (by first | exact .inl rfl | exact .inr rfl) rgs_nil)))))
    (rs_cons (rs_if (rt_w (rw_or (rt_not (rt_val (ck (ok_is_name T (k + 1)) hr gs (by rfl) (rl_cons (re_var 1) rl_nil)))) (rw_or (rt_not (rt_val (re_isi isT_tuple (by rfl) T.n_isinstance (by rfl) T.n_tuple (by decide +kernel) (re_var 2)))) (rw_or1 (rt_not (rt_val (re_callB (call_allD rfl) (by rfl) T.n_all (by decide +kernel) (RE.b (re_comp rfl sc_is_view.nd (ri_seq (re_var 2)) (blkOk_by (own := [("one", 4)]) (by rfl)) (own_v "one" 4) (fun _ _ _ _ _ => (rg_v sc_is_view.nd rfl (by first | exact .inl rfl | exact .inr rfl))) (fun _ _ _ _ _ => rts_nil) (fun _ _ _ _ _ => (ck (ok_is_seen T k) hr gs (by rfl) (rl_cons (re_var 4) rl_nil)))))))))))) (rs_one (rs_ret re_bl)) rs_nil)
    (rs_one (rs_ret (re_and (ck (ok_are_names T k) hr gs (by rfl) (rl_cons (re_callT call_tupleD (by rfl) T.n_tuple (by decide +kernel) (RE.b (re_comp rfl sc_is_view.nd (ri_seq (re_var 2)) (blkOk_by (own := [("one", 4)]) (by rfl)) (own_v "one" 4) (fun _ _ _ _ _ => (rg_v sc_is_view.nd rfl (by first | exact .inl rfl | exact .inr rfl))) (fun _ _ _ _ _ => rts_nil) (fun _ _ _ _ _ => (re_ix (re_var 4) re_int (fun _ _ => rfl)))))) rl_nil)) (re_one (ck (ok_are_names T k) hr gs (by rfl) (rl_cons (re_var 3) rl_nil))))))))) : RSs _ _ _ b_is_view)
theorem ok_check_view (T : Txt K mg) (k : Nat) : Keeps P w K mg base (k + 5) "check_view" ["view"] m_check_view :=
  keeps_of (k := k + 4) T.f_check_view sc_check_view rfl fun f cdv A outer s H E hr gs hu => ((rs_one (rs_if (rt_not (rt_val (ck (ok_is_view T k) hr gs (by rfl) (rl_cons (re_var 0) rl_nil)))) (rs_one rs_never) rs_nil)) : RSs _ _ _ b_check_view)
theorem ok_place_among (T : Txt K mg) (k : Nat) : Keeps P w K mg base (k + 1) "place_among" ["labels", "aim"] m_place_among :=
  keeps_of (k := k + 0) T.f_place_among sc_place_among rfl fun f cdv A outer s H E hr gs hu => ((rs_cons (rs_asg (re_var 1) (rg_t rfl (rgs_cons sc_place_among.nd rfl (by first | exact .inl rfl | exact .inr rfl) (rgs_cons sc_place_among.nd rfl (by first | exact .inl rfl | exact .inr rfl) rgs_nil))))
    (rs_cons (rs_if (rt_cmp (op_eqD hu) (re_var 2) (RE.b re_str) rfl) (rs_one (rs_ret (re_if (rt_cmp (op_inD hu) (re_var 3) (RE.b (re_var 0)) rfl) (re_index hu (re_var 0) (re_var 3)) re_non))) rs_nil)
    (rs_one (rs_ret (re_if (rt_cmp (op_ltD hu) (re_var 3) (RE.b (re_callB call_lenD1 (by rfl) T.n_len (by decide +kernel) (RE.b (re_var 0)))) rfl) (re_var 3) re_non))))) : RSs _ _ _ b_place_among)
theorem ok_field_at (T : Txt K mg) (k : Nat) : Keeps P w K mg base (k + 2) "field_at" ["view", "aim"] m_field_at :=
  keeps_of (k := k + 1) T.f_field_at sc_field_at rfl fun f cdv A outer s H E hr gs hu => ((rs_one (rs_ret (ck (ok_place_among T k) hr gs (by rfl) (rl_cons (re_comp rfl sc_field_at.nd (ri_seq (re_ix (re_var 0) re_int (fun _ _ => rfl))) (blkOk_by (own := [("one", 2)]) (by rfl)) (own_v "one" 2) (fun _ _ _ _ _ => (rg_v sc_field_at.nd rfl (by first | exact .inl rfl | exact .inr rfl))) (fun _ _ _ _ _ => rts_nil) (fun _ _ _ _ _ => (re_ix (re_var 2) re_int (fun _ _ => rfl)))) (rl_cons (re_var 1) rl_nil))))) : RSs _ _ _ b_field_at)
theorem ok_test_holds (T : Txt K mg) (k : Nat) : Keeps P w K mg base (k + 3) "test_holds" ["test", "view"] m_test_holds :=
  keeps_of (k := k + 2) T.f_test_holds sc_test_holds rfl fun f cdv A outer s H E hr gs hu => ((rs_cons (rs_asg (re_var 0) (rg_t rfl (rgs_cons sc_test_holds.nd rfl (by first | exact .inl rfl | exact .inr rfl) (rgs_cons sc_test_holds.nd rfl (by first | exact .inl rfl | exact .inr rfl) (rgs_cons sc_test_holds.nd rfl (by first | exact .inl rfl | exact .inr rfl) rgs_nil)))))
    (rs_cons (rs_set (i := 2) sc_test_holds.nd rfl (by first | exact .inl rfl | exact .inr rfl) (ck (ok_field_at T k) hr gs (by rfl) (rl_cons (re_var 1) (rl_cons (re_var 5) rl_nil))))
    (rs_cons (rs_if (rt_isN (re_var 2)) (rs_one (rs_ret re_bl)) rs_nil)
    (rs_cons (rs_if (rt_cmp (op_eqD hu) (re_var 4) (RE.b re_str) rfl) (rs_one (rs_ret (re_cmp (op_eqD hu) (re_ix (re_ix (re_ix (re_var 1) re_int (fun _ _ => rfl)) (re_var 2) (fun _ _ => rfl)) re_int (fun _ _ => rfl)) (RE.b (re_var 6)) rfl))) rs_nil)
    (rs_cons (rs_set (i := 3) sc_test_holds.nd rfl (by first | exact .inl rfl | exact .inr rfl) (ck (ok_field_at T k) hr gs (by rfl) (rl_cons (re_var 1) (rl_cons (re_var 6) rl_nil))))
    (rs_one (rs_ret (re_and (re_notN (re_var 3)) (re_one (re_cmp (op_eqD hu) (re_ix (re_ix (re_ix (re_var 1) re_int (fun _ _ => rfl)) (re_var 2) (fun _ _ => rfl)) re_int (fun _ _ => rfl)) (RE.b (re_ix (re_ix (re_ix (re_var 1) re_int (fun _ _ => rfl)) (re_var 3) (fun _ _ => rfl)) re_int (fun _ _ => rfl))) rfl)))))))))) : RSs _ _ _ b_test_holds)
theorem ok_rule_holds (T : Txt K mg) (k : Nat) : Keeps P w K mg base (k + 4) "rule_holds" ["rule", "view"] m_rule_holds :=
  keeps_of (k := k + 3) T.f_rule_holds sc_rule_holds rfl fun f cdv A outer s H E hr gs hu => ((rs_one (rs_ret (re_callB (call_allD rfl) (by rfl) T.n_all (by decide +kernel) (RE.b (re_comp rfl sc_rule_holds.nd (ri_seq (re_ix (re_var 0) re_int (fun _ _ => rfl))) (blkOk_by (own := [("test", 2)]) (by rfl)) (own_v "test" 2) (fun _ _ _ _ _ => (rg_v sc_rule_holds.nd rfl (by first | exact .inl rfl | exact .inr rfl))) (fun _ _ _ _ _ => rts_nil) (fun _ _ _ _ _ => (ck (ok_test_holds T k) hr gs (by rfl) (rl_cons (re_var 2) (rl_cons (re_var 1) rl_nil))))))))) : RSs _ _ _ b_rule_holds)
theorem ok_button_at (T : Txt K mg) (k : Nat) : Keeps P w K mg base (k + 2) "button_at" ["view", "aim"] m_button_at :=
  keeps_of (k := k + 1) T.f_button_at sc_button_at rfl fun f cdv A outer s H E hr gs hu => ((rs_one (rs_ret (ck (ok_place_among T k) hr gs (by rfl) (rl_cons (re_ix (re_var 0) re_int (fun _ _ => rfl)) (rl_cons (re_var 1) rl_nil))))) : RSs _ _ _ b_button_at)
theorem ok_word_from (T : Txt K mg) (k : Nat) : Keeps P w K mg base (k + 3) "word_from" ["source", "view"] m_word_from :=
  keeps_of (k := k + 2) T.f_word_from sc_word_from rfl fun f cdv A outer s H E hr gs hu => ((rs_cons (rs_if (rt_cmp (op_eqD hu) (re_ix (re_var 0) re_int (fun _ _ => rfl)) (RE.b re_str) rfl) (rs_one (rs_ret (re_ix (re_var 0) re_int (fun _ _ => rfl)))) rs_nil)
    (rs_cons (rs_set (i := 2) sc_word_from.nd rfl (by first | exact .inl rfl | exact .inr rfl) (ck (ok_field_at T k) hr gs (by rfl) (rl_cons (re_var 1) (rl_cons (re_ix (re_var 0) re_int (fun _ _ => rfl)) rl_nil))))
    (rs_one (rs_ret (re_if (rt_isN (re_var 2)) re_non (re_ix (re_ix (re_ix (re_var 1) re_int (fun _ _ => rfl)) (re_var 2) (fun _ _ => rfl)) re_int (fun _ _ => rfl))))))) : RSs _ _ _ b_word_from)
theorem ok_rule_means (T : Txt K mg) (k : Nat) : Keeps P w K mg base (k + 4) "rule_means" ["rule", "view"] m_rule_means :=
  keeps_of (k := k + 3) T.f_rule_means sc_rule_means rfl fun f cdv A outer s H E hr gs hu => ((rs_cons (rs_set (i := 2) sc_rule_means.nd rfl (by first | exact .inl rfl | exact .inr rfl) (re_ix (re_var 0) re_int (fun _ _ => rfl)))
    (rs_cons (rs_if (rt_isN (re_var 2)) (rs_one (rs_ret re_non)) rs_nil)
    (rs_cons (rs_if (rt_cmp (op_eqD hu) (re_ix (re_var 2) re_int (fun _ _ => rfl)) (RE.b re_str) rfl) (rs_cons (rs_set (i := 3) sc_rule_means.nd rfl (by first | exact .inl rfl | exact .inr rfl) (ck (ok_button_at T (k + 1)) hr gs (by rfl) (rl_cons (re_var 1) (rl_cons (re_ix (re_var 2) re_int (fun _ _ => rfl)) rl_nil))))
    (rs_one (rs_ret (re_if (rt_isN (re_var 3)) re_non (re_tup (rl_cons re_str (rl_cons (re_var 3) rl_nil))))))) rs_nil)
    (rs_cons (rs_par (i := 3) (j := 4) rfl sc_rule_means.nd rfl rfl (by decide) rfl rfl (rl_cons (ck (ok_field_at T (k + 1)) hr gs (by rfl) (rl_cons (re_var 1) (rl_cons (re_ix (re_var 2) re_int (fun _ _ => rfl)) rl_nil))) (rl_cons (ck (ok_word_from T k) hr gs (by rfl) (rl_cons (re_ix (re_var 2) re_int (fun _ _ => rfl)) (rl_cons (re_var 1) rl_nil))) rl_nil)) rfl)
    (rs_cons (rs_if (rt_w (rw_or (rt_isN (re_var 3)) (rw_or (rt_isN (re_var 4)) (rw_or1 (rt_not (rt_val (re_ix (re_ix (re_ix (re_var 1) re_int (fun _ _ => rfl)) (re_var 3) (fun _ _ => rfl)) re_int (fun _ _ => rfl)))))))) (rs_one (rs_ret re_non)) rs_nil)
    (rs_one (rs_ret (re_tup (rl_cons re_str (rl_cons (re_var 3) (rl_cons (re_var 4) rl_nil))))))))))) : RSs _ _ _ b_rule_means)
theorem ok_rules_mean (T : Txt K mg) (k : Nat) : Keeps P w K mg base (k + 5) "rules_mean" ["rules", "view"] m_rules_mean :=
  keeps_of (k := k + 4) T.f_rules_mean sc_rules_mean rfl fun f cdv A outer s H E hr gs hu => ((rs_cons (rs_for (passes_of rfl) rfl (ri_seq (re_var 0)) (rg_v sc_rules_mean.nd rfl (by first | exact .inl rfl | exact .inr rfl)) (rs_one (rs_if (rt_val (ck (ok_rule_holds T k) hr gs (by rfl) (rl_cons (re_var 2) (rl_cons (re_var 1) rl_nil)))) (rs_one (rs_ret (ck (ok_rule_means T k) hr gs (by rfl) (rl_cons (re_var 2) (rl_cons (re_var 1) rl_nil))))) rs_nil)))
    (rs_one (rs_ret re_non))) : RSs _ _ _ b_rules_mean)
theorem ok_rules_of (T : Txt K mg) (k : Nat) : Keeps P w K mg base (k + 1) "rules_of" ["program", "title"] m_rules_of :=
  keeps_of (k := k + 0) T.f_rules_of sc_rules_of rfl fun f cdv A outer s H E hr gs hu => ((rs_one (rs_ret (re_dictGet hu rfl (by rfl) T.n_dict (re_var 0) (re_var 1) (re_tup rl_nil) ⟨rfl, rfl, rfl, rfl⟩))) : RSs _ _ _ b_rules_of)
theorem ok_means (T : Txt K mg) (k : Nat) : Keeps P w K mg base (k + 10) "means" ["program", "view"] m_means :=
  keeps_of (k := k + 9) T.f_means sc_means rfl fun f cdv A outer s H E hr gs hu => ((rs_cons (rs_expr (ck (ok_check_program T k) hr gs (by rfl) (rl_cons (re_var 0) rl_nil)))
    (rs_cons (rs_expr (ck (ok_check_view T (k + 4)) hr gs (by rfl) (rl_cons (re_var 1) rl_nil)))
    (rs_one (rs_ret (ck (ok_rules_mean T (k + 4)) hr gs (by rfl) (rl_cons (ck (ok_rules_of T (k + 8)) hr gs (by rfl) (rl_cons (re_var 0) (rl_cons (re_ix (re_var 1) re_int (fun _ _ => rfl)) rl_nil))) (rl_cons (re_var 1) rl_nil))))))) : RSs _ _ _ b_means)
theorem ok_rules_price (T : Txt K mg) (k : Nat) : Keeps P w K mg base (k + 1) "rules_price" ["rules"] m_rules_price :=
  keeps_of (k := k + 0) T.f_rules_price sc_rules_price rfl fun f cdv A outer s H E hr gs hu => ((rs_one (rs_ret (re_callB (call_sumD rfl) (by rfl) T.n_sum (by decide +kernel) (RE.b (re_comp rfl sc_rules_price.nd (ri_seq (re_var 0)) (blkOk_by (own := [("tests", 1), ("act", 2)]) (by rfl)) (fun _ h => h) (fun _ _ _ _ _ => (rg_t rfl (rgs_cons sc_rules_price.nd rfl (by first | exact .inl rfl | exact .inr rfl) (rgs_cons sc_rules_price.nd rfl (by first | exact .inl rfl | exact .inr rfl) rgs_nil)))) (fun _ _ _ _ _ => rts_nil) (fun _ _ _ _ _ => (re_op op_addD re_int (RE.b (re_callB call_lenD1 (by rfl) T.n_len (by decide +kernel) (RE.b (re_var 1))))))))))) : RSs _ _ _ b_rules_price)
theorem ok_price (T : Txt K mg) (k : Nat) : Keeps P w K mg base (k + 10) "price" ["program"] m_price :=
  keeps_of (k := k + 9) T.f_price sc_price rfl fun f cdv A outer s H E hr gs hu => ((rs_cons (rs_expr (ck (ok_check_program T k) hr gs (by rfl) (rl_cons (re_var 0) rl_nil)))
    (rs_one (rs_ret (re_callB (call_sumD rfl) (by rfl) T.n_sum (by decide +kernel) (RE.b (re_comp rfl sc_price.nd (ri_seq (re_var 0)) (blkOk_by (own := [("title", 1), ("rules", 2)]) (by rfl)) (fun _ h => h) (fun _ _ _ _ _ => (rg_t rfl (rgs_cons sc_price.nd rfl (by first | exact .inl rfl | exact .inr rfl) (rgs_cons sc_price.nd rfl (by first | exact .inl rfl | exact .inr rfl) rgs_nil)))) (fun _ _ _ _ _ => rts_nil) (fun _ _ _ _ _ => (ck (ok_rules_price T (k + 8)) hr gs (by rfl) (rl_cons (re_var 2) rl_nil))))))))) : RSs _ _ _ b_price)
theorem ok__law_case_right (T : Txt K mg) (k : Nat) : Keeps P w K mg base (k + 11) "_law_case_right" ["_law_sight", "_law_rules", "_law_due", "_law_cost"] m__law_case_right :=
  keeps_of (k := k + 10) T.f__law_case_right sc__law_case_right rfl fun f cdv A outer s H E hr gs hu => ((rs_cons (rs_set (i := 4) sc__law_case_right.nd rfl (by first | exact .inl rfl | exact .inr rfl) (re_tup (rl_cons (re_tup (rl_cons (re_ix (re_var 0) re_int (fun _ _ => rfl)) (rl_cons (re_var 1) rl_nil))) rl_nil)))
    (rs_one (rs_ret (re_and (re_cmp (op_eqD hu) (re_callB (call_reprD hu gs) (by rfl) T.n_repr (by decide +kernel) (RE.b (ck (ok_means T k) hr gs (by rfl) (rl_cons (re_var 4) (rl_cons (re_var 0) rl_nil))))) (RE.b (re_callB (call_reprD hu gs) (by rfl) T.n_repr (by decide +kernel) (RE.b (re_var 2)))) rfl) (re_one (re_cmp (op_eqD hu) (re_callB (call_reprD hu gs) (by rfl) T.n_repr (by decide +kernel) (RE.b (ck (ok_price T k) hr gs (by rfl) (rl_cons (re_var 4) rl_nil)))) (RE.b (re_callB (call_reprD hu gs) (by rfl) T.n_repr (by decide +kernel) (RE.b (re_var 3)))) rfl)))))) : RSs _ _ _ b__law_case_right)
theorem ok__law_take (T : Txt K mg) (k : Nat) : Keeps P w K mg base (k + 1) "_law_take" ["_law_pot_here", "_law_upto"] m__law_take :=
  keeps_of (k := k + 0) T.f__law_take sc__law_take rfl fun f cdv A outer s H E hr gs hu => ((rs_cons (rs_if (rt_cmp op_gtN (re_ixO 0 re_int (fun _ _ => rfl)) (RE.b re_int) rfl) (rs_cons (rs_set (i := 4) sc__law_take.nd rfl (by first | exact .inl rfl | exact .inr rfl) (re_op op_modI (re_callT call_intD (by rfl) T.n_int (by decide +kernel) (RE.b (re_ixO 0 re_int (fun _ _ => rfl)))) (RE.b (re_var 1))))
    (rs_cons (rs_setIx 0 (re_op op_fdivI (re_ixO 0 re_int (fun _ _ => rfl)) (RE.b (re_var 1))) re_int)
    (rs_one (rs_ret (re_var 4))))) rs_nil)
    (rs_cons (rs_setIx 0 (re_op op_addD (re_ixO 0 re_int (fun _ _ => rfl)) (RE.b re_int)) re_int)
    (rs_cons (rs_set (i := 2) sc__law_take.nd rfl (by first | exact .inl rfl | exact .inr rfl) (re_ix (re_lst (rl_cons re_int (rl_cons re_int (rl_cons re_int (rl_cons re_int (rl_cons re_int rl_nil)))))) (re_op op_modI (re_callT call_intD (by rfl) T.n_int (by decide +kernel) (RE.b (re_ixO 0 re_int (fun _ _ => rfl)))) (RE.b re_int)) (fun _ _ => rfl)))
    (rs_cons (rs_set (i := 3) sc__law_take.nd rfl (by first | exact .inl rfl | exact .inr rfl) (re_op op_modI (re_callT call_intD (by rfl) T.n_int (by decide +kernel) (RE.b (re_op op_powI (re_callT call_intD (by rfl) T.n_int (by decide +kernel) (RE.b (re_op op_addD (re_op op_addD (re_ixO 0 re_int (fun _ _ => rfl)) (RE.b (re_op op_mulI (re_op op_mulI re_int (RE.b (re_ixO 0 re_int (fun _ _ => rfl)))) (RE.b (re_ixO 0 re_int (fun _ _ => rfl)))))) (RE.b re_int)))) (RE.b re_int)))) (RE.b (re_var 2))))
    (rs_cons (rs_set (i := 3) sc__law_take.nd rfl (by first | exact .inl rfl | exact .inr rfl) (re_op op_modI (re_callT call_intD (by rfl) T.n_int (by decide +kernel) (RE.b (re_op op_mulI (re_var 3) (RE.b (re_op op_addD (re_op op_modI (re_callT call_intD (by rfl) T.n_int (by decide +kernel) (RE.b (re_var 3))) (RE.b re_int)) (RE.b (re_op op_mulI re_int (RE.b (re_ixO 0 re_int (fun _ _ => rfl)))))))))) (RE.b re_int)))
    (rs_one (rs_ret (re_op op_modI (re_callT call_intD (by rfl) T.n_int (by decide +kernel) (RE.b (re_op op_fdivI (re_var 3) (RE.b re_int)))) (RE.b (re_var 1)))))))))) : RSs _ _ _ b__law_take)
theorem ok__law_of (T : Txt K mg) (k : Nat) : Keeps P w K mg base (k + 2) "_law_of" ["_law_pot_here", "_law_some"] m__law_of :=
  keeps_of (k := k + 1) T.f__law_of sc__law_of rfl fun f cdv A outer s H E hr gs hu => ((rs_one (rs_ret (re_ix (re_var 1) (cr 0 (ok__law_take T k) hr gs (by rfl) (rl_cons (re_callB call_lenD1 (by rfl) T.n_len (by decide +kernel) (RE.b (re_var 1))) rl_nil)) (fun _ _ => rfl)))) : RSs _ _ _ b__law_of)
theorem ok__law_right (T : Txt K mg) (k : Nat) : Keeps P w K mg base (k + 12) "_law_right" ["_law_pot_here"] m__law_right :=
  keeps_of (k := k + 11) T.f__law_right sc__law_right rfl fun f cdv A outer s H E hr gs hu => ((rs_cons (rs_asg (cr 0 (ok__law_of T (k + 9)) hr gs (by rfl) (rl_cons (re_lst (rl_cons (re_tup (rl_cons re_str (rl_cons re_str (rl_cons re_str rl_nil)))) (rl_cons (re_tup (rl_cons re_str (rl_cons re_str (rl_cons re_str rl_nil)))) (rl_cons (re_tup (rl_cons re_str (rl_cons re_str (rl_cons re_str rl_nil)))) rl_nil)))) rl_nil)) (rg_t rfl (rgs_cons sc__law_right.nd rfl (by first | exact .inl rfl | exact .inr rfl) (rgs_cons sc__law_right.nd rfl (by first | exact .inl rfl | exact .inr rfl) (rgs_cons sc__law_right.nd rfl (by first | exact .inl rfl | exact .inr rfl) rgs_nil)))))
    (rs_cons (rs_asg (cr 0 (ok__law_of T (k + 9)) hr gs (by rfl) (rl_cons (re_lst (rl_cons (re_tup (rl_cons re_str (rl_cons re_str rl_nil))) (rl_cons (re_tup (rl_cons re_str (rl_cons re_str rl_nil))) (rl_cons (re_tup (rl_cons re_str (rl_cons re_str rl_nil))) rl_nil)))) rl_nil)) (rg_t rfl (rgs_cons sc__law_right.nd rfl (by first | exact .inl rfl | exact .inr rfl) (rgs_cons sc__law_right.nd rfl (by first | exact .inl rfl | exact .inr rfl) rgs_nil))))
    (rs_cons (rs_set (i := 1) sc__law_right.nd rfl (by first | exact .inl rfl | exact .inr rfl) (re_tup (rl_cons re_str (rl_cons (re_tup (rl_cons (re_tup (rl_cons (re_var 4) (rl_cons (re_var 7) (rl_cons re_bl rl_nil)))) (rl_cons (re_tup (rl_cons (re_var 5) (rl_cons (re_var 8) (rl_cons re_bl rl_nil)))) (rl_cons (re_tup (rl_cons (re_var 6) (rl_cons (re_var 7) (rl_cons re_bl rl_nil)))) rl_nil)))) (rl_cons (re_tup (rl_cons re_str (rl_cons (re_var 4) rl_nil))) rl_nil)))))
    (rs_cons (rs_par3 (i := 9) (j := 10) (n := 11) rfl sc__law_right.nd rfl rfl rfl (by decide) (by decide) (by decide) rfl rfl rfl (rl_cons (re_tup (rl_cons re_str (rl_cons (re_var 4) rl_nil))) (rl_cons (re_tup (rl_cons re_str (rl_cons re_int rl_nil))) (rl_cons (re_tup (rl_cons re_str (rl_cons (re_var 6) rl_nil))) rl_nil))) rfl)
    (rs_cons (rs_asg (re_tup (rl_cons (re_tup (rl_cons re_str (rl_cons re_str rl_nil))) (rl_cons (re_tup (rl_cons re_str (rl_cons (re_tup (rl_cons re_str (rl_cons re_str rl_nil))) rl_nil))) rl_nil))) (rg_t rfl (rgs_cons sc__law_right.nd rfl (by first | exact .inl rfl | exact .inr rfl) (rgs_cons sc__law_right.nd rfl (by first | exact .inl rfl | exact .inr rfl) rgs_nil))))
    (rs_cons (rs_own (i := 2) sc__law_right.nd rfl (by first | exact .inl rfl | exact .inr rfl) (rf_lst (rl_cons (re_lst (rl_cons (re_tup (rl_cons (re_tup (rl_cons (re_tup rl_nil) (rl_cons (re_var 13) rl_nil))) rl_nil)) (rl_cons (re_tup (rl_cons re_str (rl_cons re_int rl_nil))) (rl_cons re_int rl_nil)))) (rl_cons (re_lst (rl_cons (re_tup (rl_cons (re_tup (rl_cons (re_tup rl_nil) (rl_cons (re_tup (rl_cons re_str (rl_cons (re_var 9) rl_nil))) rl_nil))) rl_nil)) (rl_cons (re_tup (rl_cons re_str (rl_cons re_int rl_nil))) (rl_cons re_int rl_nil)))) rl_nil))))
    (rs_cons (rs_expr (re_append 2 (re_lst (rl_cons (re_tup (rl_cons (re_tup (rl_cons (re_tup rl_nil) (rl_cons (re_tup (rl_cons re_str (rl_cons (re_var 10) (rl_cons (re_tup (rl_cons re_str (rl_cons re_str rl_nil))) rl_nil)))) rl_nil))) (rl_cons (re_tup (rl_cons (re_tup rl_nil) (rl_cons (re_var 13) rl_nil))) rl_nil))) (rl_cons re_non (rl_cons re_int rl_nil))))))
    (rs_cons (rs_expr (re_append 2 (re_lst (rl_cons (re_tup (rl_cons (re_tup (rl_cons (re_tup (rl_cons (re_tup (rl_cons re_str (rl_cons (re_var 12) (rl_cons (re_var 7) rl_nil)))) rl_nil)) (rl_cons (re_var 13) rl_nil))) (rl_cons (re_tup (rl_cons (re_tup rl_nil) (rl_cons (re_tup (rl_cons re_str (rl_cons (re_tup (rl_cons re_str (rl_cons re_int rl_nil))) rl_nil))) rl_nil))) rl_nil))) (rl_cons (re_tup (rl_cons re_str (rl_cons re_int rl_nil))) (rl_cons re_int rl_nil))))))
    (rs_cons (rs_expr (re_append 2 (re_lst (rl_cons (re_tup (rl_cons (re_tup (rl_cons (re_tup rl_nil) (rl_cons (re_tup (rl_cons re_str (rl_cons (re_var 12) rl_nil))) rl_nil))) (rl_cons (re_tup (rl_cons (re_tup rl_nil) (rl_cons (re_var 13) rl_nil))) rl_nil))) (rl_cons re_non (rl_cons re_int rl_nil))))))
    (rs_cons (rs_expr (re_append 2 (re_lst (rl_cons (re_tup (rl_cons (re_tup (rl_cons (re_tup (rl_cons (re_tup (rl_cons re_str (rl_cons (re_tup (rl_cons re_str (rl_cons re_int rl_nil))) (rl_cons (re_tup (rl_cons re_str (rl_cons re_int rl_nil))) rl_nil)))) rl_nil)) (rl_cons (re_var 13) rl_nil))) rl_nil)) (rl_cons (re_tup (rl_cons re_str (rl_cons re_int rl_nil))) (rl_cons re_int rl_nil))))))
    (rs_cons (rs_expr (re_append 2 (re_lst (rl_cons (re_tup (rl_cons (re_tup (rl_cons (re_tup (rl_cons (re_tup (rl_cons re_str (rl_cons (re_tup (rl_cons re_str (rl_cons re_int rl_nil))) (rl_cons (re_tup (rl_cons re_str (rl_cons re_int rl_nil))) rl_nil)))) rl_nil)) (rl_cons (re_var 13) rl_nil))) rl_nil)) (rl_cons re_non (rl_cons re_int rl_nil))))))
    (rs_cons (rs_expr (re_append 2 (re_lst (rl_cons (re_tup (rl_cons (re_tup (rl_cons (re_tup (rl_cons (re_tup (rl_cons re_str (rl_cons (re_tup (rl_cons re_str (rl_cons re_int rl_nil))) (rl_cons (re_tup (rl_cons re_str (rl_cons re_int rl_nil))) rl_nil)))) rl_nil)) (rl_cons (re_var 13) rl_nil))) rl_nil)) (rl_cons re_non (rl_cons re_int rl_nil))))))
    (rs_cons (rs_set (i := 3) sc__law_right.nd rfl (by first | exact .inl rfl | exact .inr rfl) (re_callT call_tupleD (by rfl) T.n_tuple (by decide +kernel) (RE.b (re_callB (call_sortedD hu) (by rfl) T.n_sorted (by decide +kernel) (RE.b (re_lst (rl_cons (re_tup (rl_cons re_str (rl_cons (re_var 9) (rl_cons (re_var 7) rl_nil)))) (rl_cons (re_tup (rl_cons re_str (rl_cons (re_var 11) (rl_cons (re_var 7) rl_nil)))) rl_nil))))))))
    (rs_cons (rs_expr (re_append 2 (re_lst (rl_cons (re_tup (rl_cons (re_tup (rl_cons (re_var 3) (rl_cons (re_var 13) rl_nil))) (rl_cons (re_tup (rl_cons (re_tup rl_nil) (rl_cons (re_tup (rl_cons re_str (rl_cons (re_tup (rl_cons re_str (rl_cons re_int rl_nil))) rl_nil))) rl_nil))) rl_nil))) (rl_cons (re_tup (rl_cons re_str (rl_cons re_int rl_nil))) (rl_cons re_int rl_nil))))))
    (rs_cons (rs_expr (re_append 2 (re_lst (rl_cons (re_tup (rl_cons (re_tup (rl_cons (re_tup rl_nil) (rl_cons (re_tup (rl_cons re_str (rl_cons (re_var 11) (rl_cons (re_tup (rl_cons re_str (rl_cons (re_var 10) rl_nil))) rl_nil)))) rl_nil))) rl_nil)) (rl_cons (re_tup (rl_cons re_str (rl_cons re_int (rl_cons (re_var 8) rl_nil)))) (rl_cons re_int rl_nil))))))
    (rs_cons (rs_expr (re_append 2 (re_lst (rl_cons (re_tup (rl_cons (re_tup (rl_cons (re_tup rl_nil) (rl_cons (re_tup (rl_cons re_str (rl_cons (re_var 11) (rl_cons (re_tup (rl_cons re_str (rl_cons (re_tup (rl_cons re_str (rl_cons re_int rl_nil))) rl_nil))) rl_nil)))) rl_nil))) (rl_cons (re_tup (rl_cons (re_tup rl_nil) (rl_cons (re_var 13) rl_nil))) rl_nil))) (rl_cons re_non (rl_cons re_int rl_nil))))))
    (rs_cons (rs_expr (re_append 2 (re_lst (rl_cons (re_tup (rl_cons (re_tup (rl_cons (re_tup rl_nil) (rl_cons (re_tup (rl_cons re_str (rl_cons (re_var 9) (rl_cons (re_tup (rl_cons re_str (rl_cons (re_var 9) rl_nil))) rl_nil)))) rl_nil))) rl_nil)) (rl_cons (re_tup (rl_cons re_str (rl_cons re_int (rl_cons (re_var 7) rl_nil)))) (rl_cons re_int rl_nil))))))
    (rs_cons (rs_expr (re_append 2 (re_lst (rl_cons (re_tup (rl_cons (re_tup (rl_cons (re_tup (rl_cons (re_tup (rl_cons re_str (rl_cons (re_var 10) (rl_cons (re_var 8) rl_nil)))) rl_nil)) (rl_cons (re_tup (rl_cons re_str (rl_cons (re_var 9) (rl_cons (re_tup (rl_cons re_str (rl_cons (re_var 8) rl_nil))) rl_nil)))) rl_nil))) rl_nil)) (rl_cons (re_tup (rl_cons re_str (rl_cons re_int (rl_cons (re_var 8) rl_nil)))) (rl_cons re_int rl_nil))))))
    (rs_cons (rs_expr (re_append 2 (re_lst (rl_cons (re_tup (rl_cons (re_tup (rl_cons (re_tup (rl_cons (re_tup (rl_cons re_str (rl_cons (re_var 10) (rl_cons (re_var 7) rl_nil)))) rl_nil)) (rl_cons (re_var 13) rl_nil))) rl_nil)) (rl_cons re_non (rl_cons re_int rl_nil))))))
    (rs_cons (rs_if (rt_not (rt_val (re_callB (call_allD rfl) (by rfl) T.n_all (by decide +kernel) (RE.b (re_comp rfl sc__law_right.nd (ri_seq (re_frz 2)) (blkOk_by (own := [("_law_rules", 14), ("_law_due", 15), ("_law_cost", 16)]) (by rfl)) (fun _ h => h) (fun _ _ _ _ _ => (rg_t rfl (rgs_cons sc__law_right.nd rfl (by first | exact .inl rfl | exact .inr rfl) (rgs_cons sc__law_right.nd rfl (by first | exact .inl rfl | exact .inr rfl) (rgs_cons sc__law_right.nd rfl (by first | exact .inl rfl | exact .inr rfl) rgs_nil))))) (fun _ _ _ _ _ => rts_nil) (fun _ _ _ _ _ => (ck (ok__law_case_right T k) hr gs (by rfl) (rl_cons (re_var 1) (rl_cons (re_var 14) (rl_cons (re_var 15) (rl_cons (re_var 16) rl_nil))))))))))) (rs_one (rs_ret re_bl)) rs_nil)
    (rs_one (rs_ret (re_and (re_isN (ck (ok_means T (k + 1)) hr gs (by rfl) (rl_cons (re_tup rl_nil) (rl_cons (re_var 1) rl_nil)))) (re_one (re_isN (ck (ok_means T (k + 1)) hr gs (by rfl) (rl_cons (re_tup (rl_cons (re_tup (rl_cons re_str (rl_cons (re_tup (rl_cons (re_tup (rl_cons (re_tup rl_nil) (rl_cons (re_var 13) rl_nil))) rl_nil)) rl_nil))) rl_nil)) (rl_cons (re_var 1) rl_nil)))))))))))))))))))))))))))) : RSs _ _ _ b__law_right)
theorem ok_law (T : Txt K mg) (k : Nat) : Keeps P w K mg base (k + 13) "law" ["_law_script"] m_law :=
  keeps_of (k := k + 12) T.f_law sc_law rfl fun f cdv A outer s H E hr gs hu => ((rs_cons (rs_for (passes_of rfl) rfl (ri_rng (by rfl) T.n_range (re_max rfl (by rfl) T.n_max re_int (re_min rfl (by rfl) T.n_min re_int (re_callB call_lenD1 (by rfl) T.n_len (by decide +kernel) (RE.b (re_var 0)))))) (rg_v sc_law.nd rfl (by first | exact .inl rfl | exact .inr rfl)) (rs_cons (rs_own (i := 2) sc_law.nd rfl (by first | exact .inl rfl | exact .inr rfl) (cl (ok__law_pot T (k + 11)) hr gs (by rfl) (rl_cons (re_var 0) (rl_cons (re_var 1) rl_nil))))
    (rs_one (rs_if (rt_not (rt_val (re_callB (call_allD rfl) (by rfl) T.n_all (by decide +kernel) (RE.b (re_comp rfl sc_law.nd (ri_rng (by rfl) T.n_range re_int) (blkOk_by (own := [("_law_turn", 3)]) (by rfl)) (own_v "_law_turn" 3) (fun _ _ _ _ _ => (rg_v sc_law.nd rfl (by first | exact .inl rfl | exact .inr rfl))) (fun _ _ _ _ _ => rts_nil) (fun _ _ _ _ _ => (cr 2 (ok__law_right T k) hr gs (by rfl) rl_nil))))))) (rs_one (rs_ret re_bl)) rs_nil))))
    (rs_one (rs_ret re_bl))) : RSs _ _ _ b_law)
theorem run_law (T : Txt K mg) {f : Addr} {fd : FuncData} (F : Fun K "law" "law" (topS 49) f fd) : FnG P w K mg base CX0 13 f fd ["_law_script"] (spD K mg 1 m_law) :=
  fn_okD (k := 12) F sc_law rfl fun cdv A outer s H E hr gs => have hu : (A.deeper (envOfC "law" (defScope (topS 49)) s.heap.objs.size f cdv)).units + 100 < cLine := (by have := hr.un; omega); ((rs_cons (rs_for (passes_of rfl) rfl (ri_rng (by rfl) T.n_range (re_max rfl (by rfl) T.n_max re_int (re_min rfl (by rfl) T.n_min re_int (re_callB call_lenD1 (by rfl) T.n_len (by decide +kernel) (RE.b (re_var 0)))))) (rg_v sc_law.nd rfl (by first | exact .inl rfl | exact .inr rfl)) (rs_cons (rs_own (i := 2) sc_law.nd rfl (by first | exact .inl rfl | exact .inr rfl) (cl (ok__law_pot T (0 + 11)) hr gs (by rfl) (rl_cons (re_var 0) (rl_cons (re_var 1) rl_nil))))
    (rs_one (rs_if (rt_not (rt_val (re_callB (call_allD rfl) (by rfl) T.n_all (by decide +kernel) (RE.b (re_comp rfl sc_law.nd (ri_rng (by rfl) T.n_range re_int) (blkOk_by (own := [("_law_turn", 3)]) (by rfl)) (own_v "_law_turn" 3) (fun _ _ _ _ _ => (rg_v sc_law.nd rfl (by first | exact .inl rfl | exact .inr rfl))) (fun _ _ _ _ _ => rts_nil) (fun _ _ _ _ _ => (cr 2 (ok__law_right T 0) hr gs (by rfl) rl_nil))))))) (rs_one (rs_ret re_bl)) rs_nil))))
    (rs_one (rs_ret re_bl))) : RSs _ _ _ b_law)
end
end AH.k10

namespace AH.k10
open PySem PySem.Spec PyProof.Rows L2 AH
theorem e_of : m__law_of = mkFn 0 ofB := rfl
theorem e_law : m_law = mkFn 3 (lawB 4 3 (mkFnL 2 potB) m__law_right) := rfl
def xs1 : List D := [.tuple [.str "aa", .str "bb", .str "cc"], .tuple [.str "x", .str "y", .str "z"], .tuple [.str "z", .str "is", .str "of"]]
def xs2 : List D := [.tuple [.str "", .str "b"], .tuple [.str "w", .str ""], .tuple [.str "is", .str "word"]]
theorem three {xs : List D} {a b c x : D} {r : Nat} (e : xs = [a, b, c]) (h : xs[r]? = some x) : x = a ∨ x = b ∨ x = c := by
  subst e
  match r, h with
  | 0, h => exact .inl (Option.some.inj h).symm
  | 1, h => exact .inr (.inl (Option.some.inj h).symm)
  | 2, h => exact .inr (.inr (Option.some.inj h).symm)
  | n + 3, h => cases h
theorem right_ok : Right 2 999990 m__law_right := by
  intro n ds h hn
  obtain ⟨r1, x1, d1, c1, g1, -, p1⟩ := of_ok (xs := xs1) h (by omega) (by decide) (by decide)
  obtain ⟨r2, x2, d2, c2, g2, -, p2⟩ := of_ok (xs := xs2) p1 (by omega) (by decide) (by decide)
  refine ⟨d2, ?_, p2.mono (by omega)⟩
  rw [← e_of] at c1 c2
  have t1 := three rfl g1
  have t2 := three rfl g2
  clear g1 g2 p1 p2 h hn
  unfold m__law_right
  have s1 : ∀ {a b c : D}, x1 = .tuple [a, b, c] → sSet (Pat.t [4, 5, 6]) (eCallR m__law_of 0 (lCons (eLst (lCons (eTup (lCons (eK (.str "aa")) (lCons (eK (.str "bb")) (lCons (eK (.str "cc")) lNil)))) (lCons (eTup (lCons (eK (.str "x")) (lCons (eK (.str "y")) (lCons (eK (.str "z")) lNil)))) (lCons (eTup (lCons (eK (.str "z")) (lCons (eK (.str "is")) (lCons (eK (.str "of")) lNil)))) lNil)))) lNil)) (.ref ds :: List.replicate 16 .none)
      = .ok .nx [.ref d1, .none, .none, .none, .val a, .val b, .val c, .none, .none, .none, .none, .none, .none, .none, .none, .none, .none] := by
    rintro a b c rfl
    exact set_ok (callR_ok (ds := ds) (ρ1 := .ref ds :: List.replicate 16 .none) (xs := [.list xs1]) rfl rfl rfl c1) rfl
  have s2 : ∀ {a b c d e : D}, x2 = .tuple [d, e] → sSet (Pat.t [7, 8]) (eCallR m__law_of 0 (lCons (eLst (lCons (eTup (lCons (eK (.str "")) (lCons (eK (.str "b")) lNil))) (lCons (eTup (lCons (eK (.str "w")) (lCons (eK (.str "")) lNil))) (lCons (eTup (lCons (eK (.str "is")) (lCons (eK (.str "word")) lNil))) lNil)))) lNil)) [.ref d1, .none, .none, .none, .val a, .val b, .val c, .none, .none, .none, .none, .none, .none, .none, .none, .none, .none]
      = .ok .nx [.ref d2, .none, .none, .none, .val a, .val b, .val c, .val d, .val e, .none, .none, .none, .none, .none, .none, .none, .none] := by
    rintro a b c d e rfl
    exact set_ok (callR_ok (ds := d1) (ρ1 := [.ref d1, .none, .none, .none, .val a, .val b, .val c, .none, .none, .none, .none, .none, .none, .none, .none, .none, .none]) (xs := [.list xs2]) rfl rfl rfl c2) rfl
  clear c1 c2
  rcases t1 with t1 | t1 | t1 <;> rcases t2 with t2 | t2 | t2 <;> refine (fin_of ((seq_ok (s1 t1)).trans (seq_ok (s2 t2)))).trans ?_ <;> clear s1 s2 t1 t2 <;> kernel_rfl
theorem plain : ∀ ns : List Int, ns.length ≤ 63 → ∃ outs, m_law [.val (.list (ns.map .int))] = .ok (.bool true) outs := fun ns _ => by
  rw [e_law]
  exact law_ok right_ok (by decide) (by decide) (by decide) (by decide) (by decide) ns
end AH.k10

open PySem PySem.W PyProof.Rows
set_option maxHeartbeats 0 in
theorem PySem.Challenge.cw_afterhand_k10_rules_known_by_hand_holds : PySem.Challenge.rw_afterhand_k10_rules_known_by_hand.Holds := by
  w_on; o_law; k_head; (case hw => w_witness2)
  k_fill
  refine AH.walkG (l := PySem.Challenge.rw_afterhand_k10_rules_known_by_hand) (n := 63) (k := 13) (x := "_law_script") (sp := AH.spEnd 63) rfl (by decide) rfl ⟨rfl, by decide, by decide⟩ (fun w h Y => PySem.W.kIn_of Y) ?F (fun K H a ns hl hL => ⟨a, ns, rfl, hl, hL, fun _ => rfl⟩)
  case F =>
    intro w mg fa h KX G hmg
    have t__law_pot := by
      refine' AH.hasFn_mk (x := "_law_pot") (ps := ["_law_script", "_law_k"]) (st := AH.k10.topS 44) KX G ?a ?l ?c ?k (fun _ _ _ _ _ _ us hl => match us, hl with | [_, _], _ => rfl)
      (case a => k_is); (case l => k_is); (case c => k_is); (case k => k_is)
    have t_is_word := by
      refine' AH.hasFn_mk (x := "is_word") (ps := ["thing"]) (st := AH.k10.topS 3) KX G ?a ?l ?c ?k (fun _ _ _ _ _ _ us hl => match us, hl with | [_], _ => rfl)
      (case a => k_is); (case l => k_is); (case c => k_is); (case k => k_is)
    have t_is_name := by
      refine' AH.hasFn_mk (x := "is_name") (ps := ["thing"]) (st := AH.k10.topS 4) KX G ?a ?l ?c ?k (fun _ _ _ _ _ _ us hl => match us, hl with | [_], _ => rfl)
      (case a => k_is); (case l => k_is); (case c => k_is); (case k => k_is)
    have t_is_count := by
      refine' AH.hasFn_mk (x := "is_count") (ps := ["thing"]) (st := AH.k10.topS 6) KX G ?a ?l ?c ?k (fun _ _ _ _ _ _ us hl => match us, hl with | [_], _ => rfl)
      (case a => k_is); (case l => k_is); (case c => k_is); (case k => k_is)
    have t_is_aim := by
      refine' AH.hasFn_mk (x := "is_aim") (ps := ["thing"]) (st := AH.k10.topS 10) KX G ?a ?l ?c ?k (fun _ _ _ _ _ _ us hl => match us, hl with | [_], _ => rfl)
      (case a => k_is); (case l => k_is); (case c => k_is); (case k => k_is)
    have t_is_source := by
      refine' AH.hasFn_mk (x := "is_source") (ps := ["thing"]) (st := AH.k10.topS 28) KX G ?a ?l ?c ?k (fun _ _ _ _ _ _ us hl => match us, hl with | [_], _ => rfl)
      (case a => k_is); (case l => k_is); (case c => k_is); (case k => k_is)
    have t_is_act := by
      refine' AH.hasFn_mk (x := "is_act") (ps := ["thing"]) (st := AH.k10.topS 29) KX G ?a ?l ?c ?k (fun _ _ _ _ _ _ us hl => match us, hl with | [_], _ => rfl)
      (case a => k_is); (case l => k_is); (case c => k_is); (case k => k_is)
    have t_is_test := by
      refine' AH.hasFn_mk (x := "is_test") (ps := ["thing"]) (st := AH.k10.topS 27) KX G ?a ?l ?c ?k (fun _ _ _ _ _ _ us hl => match us, hl with | [_], _ => rfl)
      (case a => k_is); (case l => k_is); (case c => k_is); (case k => k_is)
    have t_is_rule := by
      refine' AH.hasFn_mk (x := "is_rule") (ps := ["thing"]) (st := AH.k10.topS 30) KX G ?a ?l ?c ?k (fun _ _ _ _ _ _ us hl => match us, hl with | [_], _ => rfl)
      (case a => k_is); (case l => k_is); (case c => k_is); (case k => k_is)
    have t_is_part := by
      refine' AH.hasFn_mk (x := "is_part") (ps := ["thing"]) (st := AH.k10.topS 31) KX G ?a ?l ?c ?k (fun _ _ _ _ _ _ us hl => match us, hl with | [_], _ => rfl)
      (case a => k_is); (case l => k_is); (case c => k_is); (case k => k_is)
    have t_is_program := by
      refine' AH.hasFn_mk (x := "is_program") (ps := ["thing"]) (st := AH.k10.topS 32) KX G ?a ?l ?c ?k (fun _ _ _ _ _ _ us hl => match us, hl with | [_], _ => rfl)
      (case a => k_is); (case l => k_is); (case c => k_is); (case k => k_is)
    have t_check_program := by
      refine' AH.hasFn_mk (x := "check_program") (ps := ["program"]) (st := AH.k10.topS 33) KX G ?a ?l ?c ?k (fun _ _ _ _ _ _ us hl => match us, hl with | [_], _ => rfl)
      (case a => k_is); (case l => k_is); (case c => k_is); (case k => k_is)
    have t_are_names := by
      refine' AH.hasFn_mk (x := "are_names") (ps := ["thing"]) (st := AH.k10.topS 5) KX G ?a ?l ?c ?k (fun _ _ _ _ _ _ us hl => match us, hl with | [_], _ => rfl)
      (case a => k_is); (case l => k_is); (case c => k_is); (case k => k_is)
    have t_is_seen := by
      refine' AH.hasFn_mk (x := "is_seen") (ps := ["thing"]) (st := AH.k10.topS 20) KX G ?a ?l ?c ?k (fun _ _ _ _ _ _ us hl => match us, hl with | [_], _ => rfl)
      (case a => k_is); (case l => k_is); (case c => k_is); (case k => k_is)
    have t_is_view := by
      refine' AH.hasFn_mk (x := "is_view") (ps := ["thing"]) (st := AH.k10.topS 21) KX G ?a ?l ?c ?k (fun _ _ _ _ _ _ us hl => match us, hl with | [_], _ => rfl)
      (case a => k_is); (case l => k_is); (case c => k_is); (case k => k_is)
    have t_check_view := by
      refine' AH.hasFn_mk (x := "check_view") (ps := ["view"]) (st := AH.k10.topS 22) KX G ?a ?l ?c ?k (fun _ _ _ _ _ _ us hl => match us, hl with | [_], _ => rfl)
      (case a => k_is); (case l => k_is); (case c => k_is); (case k => k_is)
    have t_place_among := by
      refine' AH.hasFn_mk (x := "place_among") (ps := ["labels", "aim"]) (st := AH.k10.topS 11) KX G ?a ?l ?c ?k (fun _ _ _ _ _ _ us hl => match us, hl with | [_, _], _ => rfl)
      (case a => k_is); (case l => k_is); (case c => k_is); (case k => k_is)
    have t_field_at := by
      refine' AH.hasFn_mk (x := "field_at") (ps := ["view", "aim"]) (st := AH.k10.topS 12) KX G ?a ?l ?c ?k (fun _ _ _ _ _ _ us hl => match us, hl with | [_, _], _ => rfl)
      (case a => k_is); (case l => k_is); (case c => k_is); (case k => k_is)
    have t_test_holds := by
      refine' AH.hasFn_mk (x := "test_holds") (ps := ["test", "view"]) (st := AH.k10.topS 37) KX G ?a ?l ?c ?k (fun _ _ _ _ _ _ us hl => match us, hl with | [_, _], _ => rfl)
      (case a => k_is); (case l => k_is); (case c => k_is); (case k => k_is)
    have t_rule_holds := by
      refine' AH.hasFn_mk (x := "rule_holds") (ps := ["rule", "view"]) (st := AH.k10.topS 38) KX G ?a ?l ?c ?k (fun _ _ _ _ _ _ us hl => match us, hl with | [_, _], _ => rfl)
      (case a => k_is); (case l => k_is); (case c => k_is); (case k => k_is)
    have t_button_at := by
      refine' AH.hasFn_mk (x := "button_at") (ps := ["view", "aim"]) (st := AH.k10.topS 13) KX G ?a ?l ?c ?k (fun _ _ _ _ _ _ us hl => match us, hl with | [_, _], _ => rfl)
      (case a => k_is); (case l => k_is); (case c => k_is); (case k => k_is)
    have t_word_from := by
      refine' AH.hasFn_mk (x := "word_from") (ps := ["source", "view"]) (st := AH.k10.topS 39) KX G ?a ?l ?c ?k (fun _ _ _ _ _ _ us hl => match us, hl with | [_, _], _ => rfl)
      (case a => k_is); (case l => k_is); (case c => k_is); (case k => k_is)
    have t_rule_means := by
      refine' AH.hasFn_mk (x := "rule_means") (ps := ["rule", "view"]) (st := AH.k10.topS 40) KX G ?a ?l ?c ?k (fun _ _ _ _ _ _ us hl => match us, hl with | [_, _], _ => rfl)
      (case a => k_is); (case l => k_is); (case c => k_is); (case k => k_is)
    have t_rules_mean := by
      refine' AH.hasFn_mk (x := "rules_mean") (ps := ["rules", "view"]) (st := AH.k10.topS 41) KX G ?a ?l ?c ?k (fun _ _ _ _ _ _ us hl => match us, hl with | [_, _], _ => rfl)
      (case a => k_is); (case l => k_is); (case c => k_is); (case k => k_is)
    have t_rules_of := by
      refine' AH.hasFn_mk (x := "rules_of") (ps := ["program", "title"]) (st := AH.k10.topS 34) KX G ?a ?l ?c ?k (fun _ _ _ _ _ _ us hl => match us, hl with | [_, _], _ => rfl)
      (case a => k_is); (case l => k_is); (case c => k_is); (case k => k_is)
    have t_means := by
      refine' AH.hasFn_mk (x := "means") (ps := ["program", "view"]) (st := AH.k10.topS 42) KX G ?a ?l ?c ?k (fun _ _ _ _ _ _ us hl => match us, hl with | [_, _], _ => rfl)
      (case a => k_is); (case l => k_is); (case c => k_is); (case k => k_is)
    have t_rules_price := by
      refine' AH.hasFn_mk (x := "rules_price") (ps := ["rules"]) (st := AH.k10.topS 35) KX G ?a ?l ?c ?k (fun _ _ _ _ _ _ us hl => match us, hl with | [_], _ => rfl)
      (case a => k_is); (case l => k_is); (case c => k_is); (case k => k_is)
    have t_price := by
      refine' AH.hasFn_mk (x := "price") (ps := ["program"]) (st := AH.k10.topS 36) KX G ?a ?l ?c ?k (fun _ _ _ _ _ _ us hl => match us, hl with | [_], _ => rfl)
      (case a => k_is); (case l => k_is); (case c => k_is); (case k => k_is)
    have t__law_case_right := by
      refine' AH.hasFn_mk (x := "_law_case_right") (ps := ["_law_sight", "_law_rules", "_law_due", "_law_cost"]) (st := AH.k10.topS 47) KX G ?a ?l ?c ?k (fun _ _ _ _ _ _ us hl => match us, hl with | [_, _, _, _], _ => rfl)
      (case a => k_is); (case l => k_is); (case c => k_is); (case k => k_is)
    have t__law_take := by
      refine' AH.hasFn_mk (x := "_law_take") (ps := ["_law_pot_here", "_law_upto"]) (st := AH.k10.topS 45) KX G ?a ?l ?c ?k (fun _ _ _ _ _ _ us hl => match us, hl with | [_, _], _ => rfl)
      (case a => k_is); (case l => k_is); (case c => k_is); (case k => k_is)
    have t__law_of := by
      refine' AH.hasFn_mk (x := "_law_of") (ps := ["_law_pot_here", "_law_some"]) (st := AH.k10.topS 46) KX G ?a ?l ?c ?k (fun _ _ _ _ _ _ us hl => match us, hl with | [_, _], _ => rfl)
      (case a => k_is); (case l => k_is); (case c => k_is); (case k => k_is)
    have t__law_right := by
      refine' AH.hasFn_mk (x := "_law_right") (ps := ["_law_pot_here"]) (st := AH.k10.topS 48) KX G ?a ?l ?c ?k (fun _ _ _ _ _ _ us hl => match us, hl with | [_], _ => rfl)
      (case a => k_is); (case l => k_is); (case c => k_is); (case k => k_is)
    have t_law := by
      refine' AH.hasFn_mk (x := "law") (ps := ["_law_script"]) (st := AH.k10.topS 49) KX G ?a ?l ?c ?k (fun _ _ _ _ _ _ us hl => match us, hl with | [_], _ => rfl)
      (case a => k_is); (case l => k_is); (case c => k_is); (case k => k_is)
    have t_LETTERS := by
      refine' AH.hasC_str (x := "LETTERS") (i := "abcdefghijklmnopqrstuvwxyz") KX G ?a
      (case a => k_is)
    have t_MOST_LETTERS := by
      refine' AH.hasC_int (x := "MOST_LETTERS") (i := 8) KX G ?a
      (case a => k_is)
    have t_MOST_PLACE := by
      refine' AH.hasC_int (x := "MOST_PLACE") (i := 999) KX G ?a
      (case a => k_is)
    have t_MOST_TESTS := by
      refine' AH.hasC_int (x := "MOST_TESTS") (i := 2) KX G ?a
      (case a => k_is)
    have t_PAIR_aims := by
      refine' AH.hasC_int (x := "PAIR_aims") (i := 2) KX G ?a
      (case a => k_is)
    have t_PAIR_programs := by
      refine' AH.hasC_int (x := "PAIR_programs") (i := 2) KX G ?a
      (case a => k_is)
    have t_TRIPLE_programs := by
      refine' AH.hasC_int (x := "TRIPLE_programs") (i := 3) KX G ?a
      (case a => k_is)
    have t_TRIPLE_views := by
      refine' AH.hasC_int (x := "TRIPLE_views") (i := 3) KX G ?a
      (case a => k_is)
    have t_abs := by
      refine' PySem.W.mg_none_of (n := "abs") KX G ?a
      (case a => k_is)
    have t_all := by
      refine' PySem.W.mg_none_of (n := "all") KX G ?a
      (case a => k_is)
    have t_bool := by
      refine' PySem.W.mg_none_of (n := "bool") KX G ?a
      (case a => k_is)
    have t_dict := by
      refine' PySem.W.mg_none_of (n := "dict") KX G ?a
      (case a => k_is)
    have t_int := by
      refine' PySem.W.mg_none_of (n := "int") KX G ?a
      (case a => k_is)
    have t_isinstance := by
      refine' PySem.W.mg_none_of (n := "isinstance") KX G ?a
      (case a => k_is)
    have t_len := by
      refine' PySem.W.mg_none_of (n := "len") KX G ?a
      (case a => k_is)
    have t_max := by
      refine' PySem.W.mg_none_of (n := "max") KX G ?a
      (case a => k_is)
    have t_min := by
      refine' PySem.W.mg_none_of (n := "min") KX G ?a
      (case a => k_is)
    have t_range := by
      refine' PySem.W.mg_none_of (n := "range") KX G ?a
      (case a => k_is)
    have t_repr := by
      refine' PySem.W.mg_none_of (n := "repr") KX G ?a
      (case a => k_is)
    have t_sorted := by
      refine' PySem.W.mg_none_of (n := "sorted") KX G ?a
      (case a => k_is)
    have t_str := by
      refine' PySem.W.mg_none_of (n := "str") KX G ?a
      (case a => k_is)
    have t_sum := by
      refine' PySem.W.mg_none_of (n := "sum") KX G ?a
      (case a => k_is)
    have t_tuple := by
      refine' PySem.W.mg_none_of (n := "tuple") KX G ?a
      (case a => k_is)
    have t_zip := by
      refine' PySem.W.mg_none_of (n := "zip") KX G ?a
      (case a => k_is)
    have T : AH.k10.Txt _ mg := ⟨t__law_pot, t_is_word, t_is_name, t_is_count, t_is_aim, t_is_source, t_is_act, t_is_test, t_is_rule, t_is_part, t_is_program, t_check_program, t_are_names, t_is_seen, t_is_view, t_check_view, t_place_among, t_field_at, t_test_holds, t_rule_holds, t_button_at, t_word_from, t_rule_means, t_rules_mean, t_rules_of, t_means, t_rules_price, t_price, t__law_case_right, t__law_take, t__law_of, t__law_right, t_law, t_LETTERS, t_MOST_LETTERS, t_MOST_PLACE, t_MOST_TESTS, t_PAIR_aims, t_PAIR_programs, t_TRIPLE_programs, t_TRIPLE_views, t_abs, t_all, t_bool, t_dict, t_int, t_isinstance, t_len, t_max, t_min, t_range, t_repr, t_sorted, t_str, t_sum, t_tuple, t_zip⟩
    exact AH.law_go t_law hmg (fun _ _ _ _ _ _ _ => rfl) (fun base f fd F => AH.k10.run_law T F) AH.k10.plain

