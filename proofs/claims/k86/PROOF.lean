import PyProof.Rows.All
import Wide.All
import OpenK.AllK
import Wide.FinOn
import PyProof.EqAt
import PyProof.EqKinds
import PyProof.TupleCall
import PyProof.ReprRoads
import HandS.ForMost
import HandS.Wide
import HandS.Codes
import HandS.ClsMeth
import HandS.Property
import HandS.Star
import KE.KExcLine
import KE.RegKIsAll
import HandS.DictComp
import HandS.Walk
import PyProof.RulesMatch
import PyProof.SliceList
import HandS.Words
import PyProof.SetKind
import HandS.Set
import HandS.Strs
import HandS.More
import HandS.SetBool
import HandS.Comp
import PyProof.DictUpdate
import HandS.ListEq
import PyProof.EnumFor
import PyProof.EnumStmt
import KE.GoesEnum
import HandS.Iter
import HandS.DictTup
import HandS.SortOrd
import HandS.SortRule
import HandS.ListItems
import HandS.Text
import HandS.SetKeys
import HandS.Style
import HandS.Proxy
import KE.KCallOwn
import HandS.OwnEq
import KE.KRevSl
import PyProof.InstNe
import HandS.SetFor
import PyProof.CallFns
import HandS.FStr
import HandS.IsInst
import HandS.RaiseMore
import HandS.Zip
import KE.KExcInit
import HandS.Base
import HandS.Call
import HandS.List
import HandS.Ends
import HandS.Exc
import HandS.ExcInit
import HandS.ExcField
import PyProof.Rows.FactsExc_KeyError
import HandS.WordsExc
import HandS.ExcOwn
import HandS.Lambda
import HandS.EndTab
import HandS.EndOwn
import HandS.NestedK
import HandS.CallLocal
import PyProof.P3In
import KE.KOpsOwn
import HandS.Deep
import KE.KIsAll
import KE.KTryMore
import HandS.ExcIs
import HandS.DeepEq
import HandS.NoneIn
import HandS.TupLe
import PySem.Challenge.RW_dictorders_k86_operators_of_rules
set_option Elab.async false
set_option linter.all false
set_option maxRecDepth 100000
set_option maxHeartbeats 4000000
/-! A def's promise where nothing that guards against itself (a repr under way) stands around the call; repr of data. -/
namespace PX
open PySem PySem.Spec PyProof.Rows L2

/-- no guard is under way -/
def NoG (A : Around) : Prop := A.guards = some []
theorem NoG.dp {A : Around} (h : NoG A) (env : Env) : NoG (A.deeper env) := h

/-- FnOk, asked only where NoG holds -/
structure FnG (P : Program) (w : World) (K : PySem.W.Frag) (mg : Str → Option Value) (base : Heap) (CX : CXT) (k : Nat) (f : Addr) (fd : FuncData) (ps : List Str) (sp : Sp) : Prop where
  many : ∀ vs H Q E, sp vs H Q E → vs.length = ps.length
  goes : ∀ (A : Around) (outer : List Env) (s : Shared) (H : Hp) (args : Args) (us : List Value) (vs : List V) (Q : VK) (E : XK),
    Room k A → NoG A → Env0 P w K mg base A outer s H → BindsTo s fd args (ps.zip us) → Vals vs us → sp vs H Q E →
      codeAny (model P w) A (.call (.ref f) args) (CR CX outer P w H s Q E) s

section
variable {P : Program} {w : World} {K : PySem.W.Frag} {mg : Str → Option Value} {base : Heap} {CX : CXT} {k : Nat} {f : Addr} {fd : FuncData} {ps : List Str} {sp : Sp}
theorem FnG.ofOk (F : FnOk P w K mg base CX k f fd ps sp) : FnG P w K mg base CX k f fd ps sp :=
  ⟨F.len, fun A outer s H args us vs Q E hr _ e0 hb r h => F.run A outer s H args us vs Q E hr e0 hb r h⟩

/-- a def by its body -/
theorem fnG_of {name qual : Str} {params : Arguments} {body : List Stmt} {scope : Scope} {dV kV doc pm cdv ct oc : Value} {an od : Option Addr} {osl : Array (Option Value)} {N : List Str}
    (lk : K.lookup f = some ⟨oc, od, .func (PySem.W.fnOf name qual params body scope dV kV doc pm an cdv ct), osl⟩) (hcd : PySem.W.codeIn K cdv qual = true) (S : FnScope N ps scope)
    (many : ∀ vs H Q E, sp vs H Q E → vs.length = ps.length)
    (hb : ∀ (A : Around) (outer : List Env) (s : Shared) (H : Hp) (vs : List V) (Q : VK) (E : XK), Room k (A.deeper (envOfC qual scope s.heap.objs.size f cdv)) → NoG A → sp vs H Q E →
      ∃ t, PSs (cxOf CX P w K mg base N qual scope f cdv A outer s H E) body t ∧ t { nx := fun _ H' => Q .non H', rt := Q } (start N vs) H) :
    FnG P w K mg base CX (k + 1) f (PySem.W.fnOf name qual params body scope dV kV doc pm an cdv ct) ps sp := by
  constructor
  · exact many
  intro A outer s H args us vs Q E hr hg e0 hbd rv hs
  have back : ∀ b o, base.get? b = some o → s.heap.get? b = some o := fun b o e => (e0.bs b o e).1
  have hK := e0.mod.kin.keeps back
  refine codeAny_call_function hr.depth (hK _ _ lk) rfl S.co S.gen rfl (PySem.W.codeRec_of hK hcd) (hbd _ _ _ _ ?_)
  refine wpAny_newFunctionEnv_cells S.kind (fun y hy => ?_) fun env he s1 x => ?_
  · obtain ⟨n, v⟩ := y
    have hn := (List.of_mem_zip hy).1
    cases S.par n hn with
    | inl q => exact Or.inl q
    | inr q => exact Or.inr ⟨q, PySem.W.cellsFrom_some _ _ _ (Or.inl q)⟩
  subst he
  refine ⟨(e0.mod.nolimit.keeps back).keeps x.toInCall.keep, codeAny_func ?_⟩
  obtain ⟨t, ht, hq⟩ := hb A outer s H vs Q E (hr.deeper _) hg hs
  have J := inv_start (CX := CX) (E := E) S hr.hd e0 (many _ _ _ _ hs) rv x
  refine wpAny_mono (ht.run [] s1 (start N vs) H _ J hq) (fun fl s' z => ?_) fun e s' z => z
  cases fl with
  | ret u =>
    obtain ⟨v, σ', H', J', r', q⟩ := z
    exact ⟨v, H', J'.os, J'.bare, J'.base, J'.hok, r', q⟩
  | next =>
    obtain ⟨σ', H', J', q⟩ := z
    exact ⟨V.non, H', J'.os, J'.bare, J'.base, J'.hok, (rfl : Value.none = Value.none), q⟩
  | brk =>
    obtain ⟨_, _, _, q⟩ := z
    exact q.elim
  | cont =>
    obtain ⟨_, _, _, q⟩ := z
    exact q.elim
end

section
variable {P : Program} {w : World} {K : PySem.W.Frag} {mg : Str → Option Value} {base : Heap}
/-- Fun.ok for FnG -/
theorem okG {x qual : Str} {st : Stmt} {f : Addr} {fd : FuncData} {N ps : List Str} {k : Nat} {sp : Sp} (F : Fun K x qual st f fd) (S : FnScope N ps (defScope st)) (many : ∀ vs H Q E, sp vs H Q E → vs.length = ps.length)
    (hb : ∀ (cdv : Value) (A : Around) (outer : List Env) (s : Shared) (H : Hp) (vs : List V) (Q : VK) (E : XK), Room k (A.deeper (envOfC qual (defScope st) s.heap.objs.size f cdv)) → NoG A → sp vs H Q E →
      ∃ t, PSs (cxOf CX0 P w K mg base N qual (defScope st) f cdv A outer s H E).nox (defBody st) t ∧ t { nx := fun _ H' => Q .non H', rt := Q } (start N vs) H) : FnG P w K mg base CX0 (k + 1) f fd ps sp := by
  obtain ⟨oc, od, kV, doc, pm, an, cdv, ct, osl, rfl, lk, hcd⟩ := F.ex
  refine fnG_of lk hcd S many fun A outer s H vs Q E hr hg hs => ?_
  obtain ⟨t, h, q⟩ := hb cdv A outer s H vs Q E hr hg hs
  exact ⟨t, h.nox, q⟩
end

section
variable {X : Cx} {CX : CXT} {k : Nat} {f : Addr} {fd : FuncData} {ps : List Str} {sp : Sp} {dvs : List V} {ds : List Value} {E : XK} {x : Str} {p pos : Pos} {e : Expr} {es : List Expr} {t : TA}
theorem runG {pins : List (Addr × Obj)} {σ : L2.St} {H : Hp} {s : Shared} {Q : VK} {us : List Value} {vs : List V} (F : FnG X.prog X.w X.K X.mg X.base CX k f fd ps sp) (hr : Room k X.A) (hg : NoG X.A) (hb : Binds X.K fd ps ds) (hd : Vals dvs ds) (hx : Passes CX X E)
    (I : Inv X pins σ H s) (r : Vals vs us) (h : sp (vs ++ dvs) H Q E) : wpAny (model X.prog X.w) X.A (call (.ref f) us) (EP X pins σ Q) X.xe s := by
  have rv := r.append hd
  have hl : (us ++ ds).length = ps.length := rv.length.symm.trans (F.many _ _ _ _ h)
  refine wpAny_call (codeAny_mono (F.goes X.A X.stack s H ⟨us, []⟩ (us ++ ds) (vs ++ dvs) Q E hr hg I.env0 (hb s us I.kIn hl) rv h) fun r s' hq => ?_)
  match r, hq with
  | .error e, hq => exact hx pins σ H s e s' I hq
  | .ok (.ret u), hq => exact I.after hq
  | .ok .next, hq => exact hq.elim
  | .ok .brk, hq => exact hq.elim
  | .ok .cont, hq => exact hq.elim
/-- f(e, ..) -/
theorem pe_callG (F : FnG X.prog X.w X.K X.mg X.base CX k f fd ps sp) (hr : Room k X.A) (hg0 : NoG X.A) (hg : Gl X x) (hm : X.mg x = some (.ref f)) (hk : PySem.W.keepIn X.K (.ref f) = true) (hb : Binds X.K fd ps ds) (hd : Vals dvs ds) (hx : Passes CX X E)
    (ha : PA X (e :: es) t) (hdb : (x == ("__debug__" : Str)) = false := by decide) (he : starEach (e :: es) X.env = (false, eval e X.env) :: starEach es X.env := by rfl) (hpl : (backTo pos (starEach es X.env)).any (·.1) = false := by rfl) :
    PE X (.Call (.Name x p) (e :: es) [] pos) (tCall sp dvs E t) := by
  constructor
  intro pins s σ H Q I h
  refine wpAny_Call_Name_kw (ld_glob I hg hm ?_ hdb)
  refine PySem.W.callWith_K (h₀ := X.base) I.ok.mod.kin hk (thn (ha.run pos pins s σ H _ I h) fun us s1 z => ?_) he hpl
  obtain ⟨vs, H1, I1, r, q⟩ := z
  exact ⟨I1.kIn, runG F hr hg0 hb hd hx I1 r q⟩
end

/-! ### calls by keywords alone -/
section
variable {X : Cx} {CX : CXT} {k : Nat} {f : Addr} {fd : FuncData} {ps ks : List Str} {sp : Sp} {E : XK} {x : Str} {p pos : Pos} {kws : List Keyword} {tk : TA} {g : List Value → List Value → List Value} {gV : List V → List V → List V}
theorem pe_callKw (F : FnOk X.prog X.w X.K X.mg X.base CX k f fd ps sp) (hr : Room k X.A) (hg : Gl X x) (hm : X.mg x = some (.ref f)) (hk : PySem.W.keepIn X.K (.ref f) = true) (hb : KBinds X.K fd ps ks g gV) (hx : Passes CX X E)
    (hkw : PK X kws tk) (hall : (backToKw pos (keywordEach kws X.env)).all (·.1.isSome) = true := by rfl) (hks : (backToKw pos (keywordEach kws X.env)).filterMap (·.1) = ks := by rfl)
    (hdb : (x == ("__debug__" : Str)) = false := by decide) (hpl : ((backTo pos (starEach [] X.env)).any (·.1) || (backToKw pos (keywordEach kws X.env)).any (·.1.isNone)) = false := by rfl) :
    PE X (.Call (.Name x p) [] kws pos) (tCallK sp gV E tNil tk) := by
  constructor
  intro pins s σ H Q I h
  refine wpAny_Call_Name_kw (ld_glob I hg hm ?_ hdb)
  refine PySem.W.callWith_KW0 (h₀ := X.base) I.ok.mod.kin hk hall ?_ hpl
  refine thn (hkw.run pos pins s σ H _ I h) fun ws s2 z => ?_
  obtain ⟨zs, H2, I2, rz, q⟩ := z
  refine ⟨I2.kIn, ?_⟩
  rw [hks]
  exact run_fnk (us := []) (vs := []) F hr hb hx I2 .nil rz q
end
/-- two values by keywords, in the opposite order -/
def sw2 {α : Type} : List α → List α → List α
  | [], [a, b] => [b, a]
  | _, _ => []
theorem kb_swap {K : PySem.W.Frag} {x qual : Str} {st : Stmt} {f : Addr} {fd : FuncData} {p1 p2 : Str} (F : Fun K x qual st f fd)
    (h : ∀ (kV doc pm : Value) (an : Option Addr) (cdv ct a b : Value), bindArgs (PySem.W.fnOf x qual (defArgs st) (defBody st) (defScope st) .none kV doc pm an cdv ct) ⟨[], [(p2, a), (p1, b)]⟩ = pure [(p1, b), (p2, a)]) :
    KBinds K fd [p1, p2] [p2, p1] sw2 sw2 := by
  obtain ⟨oc, od, kV, doc, pm, an, cdv, ct, osl, rfl, lk, hcd⟩ := F.ex
  refine ⟨fun s us ws _ hl => ?_, fun {vs us zs ws} r z => ?_⟩
  · match us, ws, hl with
    | [], [a, b], _ => exact .of_eq (h kV doc pm an cdv ct a b)
  · cases r with
    | nil =>
      cases z with
      | nil => exact .nil
      | cons a z =>
        cases z with
        | nil => exact .nil
        | cons b z =>
          cases z with
          | nil => exact .cons b (.cons a .nil)
          | cons c z => exact .nil
    | cons a r => exact .nil

/-! ### cuts: what is known behind a part, said once -/
def tCut (t : TE) : TE := fun σ H Q => ∃ Q0 : VK, t σ H Q0 ∧ ∀ x H1, Q0 x H1 → Q x H1
theorem pe_cut {X : Cx} {e : Expr} {t : TE} (h : PE X e t) : PE X e (tCut t) := ⟨fun pins s σ H Q I z => by
  obtain ⟨Q0, h0, h1⟩ := z
  exact thn (h.run pins s σ H Q0 I h0) fun v s1 ⟨x, H1, I1, r, q⟩ => ⟨x, H1, I1, r, h1 x H1 q⟩⟩
def tCutT (t : TT) : TT := fun σ H Q => ∃ Q0 : Bool → Hp → Prop, t σ H Q0 ∧ ∀ b H1, Q0 b H1 → Q b H1
theorem pt_cut {X : Cx} {e : Expr} {t : TT} (h : PT X e t) : PT X e (tCutT t) := ⟨fun pins s σ H Q I z => by
  obtain ⟨Q0, h0, h1⟩ := z
  exact thn (h.run pins s σ H Q0 I h0) fun b s1 ⟨H1, I1, q⟩ => ⟨H1, I1, h1 b H1 q⟩⟩
def tCutS (t : TS) : TS := fun D σ H => ∃ N : L2.St → Hp → Prop, t { D with nx := N } σ H ∧ ∀ σ' H', N σ' H' → D.nx σ' H'
theorem ps_cut {X : Cx} {st : Stmt} {t : TS} (h : PS X st t) : PS X st (tCutS t) := ⟨fun pins s σ H D I z => by
  obtain ⟨N, h0, h1⟩ := z
  refine thn (h.run pins s σ H { D with nx := N } I h0) fun f s1 q => ?_
  cases f with
  | next =>
    obtain ⟨σ', H', I', n⟩ := q
    exact ⟨σ', H', I', h1 σ' H' n⟩
  | brk => exact q
  | cont => exact q
  | ret u => exact q⟩

/-! ### heaps that grow, but for one object -/
/-- all that was tracked stands, but for p -/
def Gr (p : Addr) (H H' : Hp) : Prop := ∀ q o, q ≠ p → H q = some o → H' q = some o
theorem Gr.refl (p : Addr) (H : Hp) : Gr p H H := fun _ _ _ h => h
theorem Gr.trans {p : Addr} {H H1 H2 : Hp} (a : Gr p H H1) (b : Gr p H1 H2) : Gr p H H2 := fun q o n h => b q o n (a q o n h)
theorem Gr.same {p : Addr} {H H' : Hp} (s : Same H H') : Gr p H H' := fun q o _ h => s q o h
theorem Same.mk1 {H : Hp} {p : Addr} {o : HO} (h : H p = none) : Same H (upd H p o) := fun b u e => by
  rw [upd_ne (ne_of_none e h)]
  exact e
/-- what is none behind was none ahead -/
theorem Gr.back {p q : Addr} {H H' : Hp} (g : Gr p H H') (hp : H' p ≠ none) (h : H' q = none) : H q = none := by
  cases e : H q with
  | none => rfl
  | some o =>
    by_cases z : q = p
    · subst z
      exact absurd h hp
    · rw [g q o z e] at h
      cases h
/-- a write to an object that was not tracked at the start -/
theorem Same.put {H H' : Hp} {p : Addr} {o : HO} (s : Same H H') (h : H p = none) : Same H (upd H' p o) := fun b u e => by
  rw [upd_ne (ne_of_none e h)]
  exact s b u e
theorem Gr.put {p q : Addr} {H H' : Hp} {o : HO} (s : Gr q H H') (h : H p = none) : Gr q H (upd H' p o) := fun b u n e => by
  rw [upd_ne (ne_of_none e h)]
  exact s b u n e
theorem Same.lst {H H' : Hp} {a : Addr} {o : HO} (s : Same H H') (h : H a = some o) : H' a = some o := s a o h

theorem Gr.seq {K : PySem.W.Frag} {p q : Addr} {H H' : Hp} {xs : List V} (g : Gr p H H') (n : q ≠ p) (h : SqL K H q xs) : SqL K H' q xs := by
  rcases h with (h | ⟨o, h⟩) | h
  · exact .inl (.inl (g _ _ n h))
  · exact .inl (.inr ⟨o, g _ _ n h⟩)
  · exact .inr h
theorem paired_map {α β γ : Type} {F : α → β → Prop} (f : γ → α) (g : γ → β) : ∀ l : List γ, (∀ e ∈ l, F (f e) (g e)) → Paired F (l.map f) (l.map g)
  | [], _ => .nil
  | e :: r, h => .cons (h e List.mem_cons_self) (paired_map f g r fun x hx => h x (List.mem_cons_of_mem _ hx))
theorem getElem?_map' {α β : Type} {f : α → β} {l : List α} {i : Nat} {y : β} (h : (l.map f)[i]? = some y) : ∃ x, l[i]? = some x ∧ y = f x := by
  rw [List.getElem?_map] at h
  obtain ⟨x, h1, h2⟩ := Option.map_eq_some_iff.mp h
  exact ⟨x, h1, h2.symm⟩
theorem take_next {α : Type} : ∀ {l : List α} {i : Nat} {x : α}, l[i]? = some x → l.take (i + 1) = l.take i ++ [x]
  | [], i, x, h => nomatch (show (none : Option α) = some x by simpa using h)
  | a :: l, 0, x, h => by
    have e : a = x := Option.some.inj h
    rw [e] <;> rfl
  | a :: l, i + 1, x, h => by
    have q := take_next (l := l) (i := i) (x := x) h
    show a :: l.take (i + 1) = a :: l.take i ++ [x]
    rw [q] <;> rfl

/-! ### slices -/
theorem cutV_map {α : Type} (f : α → V) (xs : List α) (lo hi : Option Int) : cutV (xs.map f) lo hi = ((xs.drop (HT.sIx xs.length 0 lo)).take (HT.sIx xs.length xs.length hi - HT.sIx xs.length 0 lo)).map f := by
  unfold cutV
  rw [List.length_map, List.map_take, List.map_drop]
theorem cut_from {xs : List V} {i : Int} (h : 0 ≤ i) : cutV xs (some i) none = xs.drop i.toNat := by
  obtain ⟨k, rfl⟩ : ∃ k : Nat, i = (k : Int) := ⟨i.toNat, by omega⟩
  unfold cutV
  rw [HT.sIx_nat, HT.sIx_none, Int.toNat_natCast]
  by_cases hk : k ≤ xs.length
  · rw [Nat.min_eq_left hk, List.take_of_length_le (by rw [List.length_drop]; exact Nat.le_refl _)]
  · rw [Nat.min_eq_right (by omega), List.drop_eq_nil_of_le (Nat.le_refl _), List.drop_eq_nil_of_le (by omega), List.take_nil]
theorem cut_to {xs : List V} {j : Int} (h : 0 ≤ j) : cutV xs none (some j) = xs.take j.toNat := by
  obtain ⟨k, rfl⟩ : ∃ k : Nat, j = (k : Int) := ⟨j.toNat, by omega⟩
  unfold cutV
  rw [HT.sIx_nat, HT.sIx_none, Int.toNat_natCast, List.drop_zero, Nat.sub_zero]
  by_cases hk : k ≤ xs.length
  · rw [Nat.min_eq_left hk]
  · rw [Nat.min_eq_right (by omega), List.take_of_length_le (Nat.le_refl _), List.take_of_length_le (by omega)]

/-! ### repr of data -/
/-- repr(x), x data without dicts -/
def rRepr (K : PySem.W.Frag) : List V → Hp → VK → Prop := fun xs H Q => ∃ (a : Addr) (d : PyData), xs = [.ref a] ∧ Dp K H (.ref a) d ∧ d.showable = true ∧ d.hasDict = false ∧ d.depth ≤ 60 ∧ d.shown.length ≤ sizeLine ∧ Q (.str d.shown) H
theorem call_repr {X : Cx} {k : Nat} (hr : Room k X.A) (hg : NoG X.A) : CallR X (.builtin "repr") (rRepr X.K) := by
  intro pins s σ H xs us Q I r h
  obtain ⟨a, d, rfl, hd, hs, hn, hp, hz, q⟩ := h
  obtain ⟨u, rfl, ru⟩ := vals1 r
  obtain ⟨as, rd⟩ := Dp.reads I d _ u hd ru
  obtain rfl : u = Value.ref a := ru
  have hu := hr.units
  exact repr_of_reads' rd hs (PyData.noDict_hsm hn) hg (by omega) (fun _ _ e => e) (fun h' u tk kp => ⟨.str d.shown, H, I.kept kp, ⟨u, rfl⟩, q⟩) hz

/-! ### the head of a law whose promise is a FnG -/
theorem law_callG {P : Program} {w : World} {K : PySem.W.Frag} {mg mb : Str → Option Value} {CX : CXT} {k : Nat} {fa a : Addr} {fd : FuncData} {x : Str} {sp : Sp} {s₁ : Shared} {vs : List Value} {ns : List Int}
    (KX : K.In s₁.heap) (hns : s₁.heap.Ns mainGlobals mg) (hb : s₁.heap.Ns builtinsNs mb) (hbb : ∀ x : Str, x ≠ "__name__" → mb x = bootBuiltins x) (hlim : s₁.heap.NoLimit) (hg : s₁.gens = #[])
    (ha : s₁.heap.get? a = some { cls := .type "list", data := .seq vs.toArray }) (hi : IntsAre vs ns) (hl : ns.length ≤ sizeLine) (hr : Room k callerA)
    (F : ∀ base : Heap, K.In base → base.Ns mainGlobals mg → FnG P w K mg base CX k fa fd [x] sp) (hbind : ∀ (s : Shared) (u : Value), BindsTo s fd ⟨[u], []⟩ [(x, u)])
    (hsp : ∀ H : Hp, Only H → SqL K H a (ns.map V.int) → sp [.ref a] H (fun v _ => v = .bl true) fun _ _ _ => False)
    (hCX : ∀ H e s', CX [] H s₁ (fun _ _ _ => False) e s' → False) :
    codeAny (model P w) callerA (.call (.ref fa) ⟨[.ref a], []⟩) (fun r s' => r = .ok (.ret (.bool true)) ∧ OldK s₁.heap s'.heap ∧ s'.os = s₁.os ∧ AllBare s'.gens) s₁ := by
  have rv := vals_ints hi
  have lenV := hi.length
  have main : ∀ H : Hp, Only H → SqL K H a (ns.map V.int) → HOk P w H s₁.heap → (∀ b, H b ≠ none → b = a) → (H a ≠ none → K.lookup a = none) →
      codeAny (model P w) callerA (.call (.ref fa) ⟨[.ref a], []⟩) (fun r s' => r = .ok (.ret (.bool true)) ∧ OldK s₁.heap s'.heap ∧ s'.os = s₁.os ∧ AllBare s'.gens) s₁ := by
    intro H hO hS hok hA hK
    have free_of : ∀ {b : Addr}, (b = a → H b = none) → H b = none := fun {b} z => by
      cases q : H b with
      | none => rfl
      | some u =>
        rw [← q]
        exact z (hA b (by rw [q]; exact fun y => nomatch y))
    have dict_free : ∀ {b : Addr} {o : Obj} {es : Array DictEntry} {ep : Nat}, s₁.heap.get? b = some o → o.data = .dict es ep → H b = none := fun {b o es ep} e d => free_of fun z => by
      subst z
      rw [ha] at e
      cases e
      cases (show Data.seq vs.toArray _ = Data.dict es ep from d)
    have nsT : ∀ {b : Addr} {m : Str → Option Value}, s₁.heap.Ns b m → (hidT s₁.heap H).Ns b m := fun {b m} z => by
      obtain ⟨o, es, ep, e, d, r⟩ := z
      exact ⟨o, es, ep, hidT_get e (dict_free e d), d, r⟩
    have hKb : K.In (hidT s₁.heap H) := fun b o e => hidT_get (KX b o e) (by
      cases q : H b with
      | none => rfl
      | some u =>
        have e' : b = a := hA b (by rw [q]; exact fun y => nomatch y)
        subst e'
        rw [hK (by rw [q]; exact fun y => nomatch y)] at e
        cases e)
    have hM : Mod K mg (hidT s₁.heap H) := ⟨hKb, nsT hns, ⟨mb, nsT hb, hbb⟩, by obtain ⟨mc, h1, h2⟩ := hlim; exact ⟨mc, nsT h1, h2⟩⟩
    have e0 : Env0 P w K mg (hidT s₁.heap H) callerA [] s₁ H := ⟨rfl, hM, fun b o e => of_hidT e, Nat.le_of_eq (hidT_size _ _), True.intro, fun b hb => absurd (show b ∈ ([] : List Addr) from hb) List.not_mem_nil, hok, .of_eq hg⟩
    refine codeAny_mono ((F _ hKb (nsT hns)).goes callerA [] s₁ H ⟨[.ref a], []⟩ [.ref a] [.ref a] _ _ hr rfl e0 (hbind s₁ (.ref a)) (.cons rfl .nil) (hsp H hO hS)) fun r s' h => ?_
    match r, h with
    | .error e, h => exact (hCX H e s' h).elim
    | .ok .next, h => exact False.elim h
    | .ok .brk, h => exact False.elim h
    | .ok .cont, h => exact False.elim h
    | .ok (.ret u), h =>
      obtain ⟨v, H', os, bare, un, hok', r', q⟩ := h
      obtain rfl : v = V.bl true := q
      obtain rfl : u = Value.bool true := r'
      refine ⟨rfl, OldK.of_keep fun b o e => ?_, os, bare⟩
      rcases hO b with z | ⟨ob, xs, z⟩
      · exact un.keep b o e z (fun y => absurd (show b ∈ ([] : List Addr) from y) List.not_mem_nil) List.not_mem_nil
      · have e1 := (hok b _ z).1
        have e2 := (hok' b _ (un.frzs b ob _ z)).1
        rw [e] at e1
        cases e1
        exact e2
  cases hk : K.lookup a with
  | some o =>
    have e := KX a o hk
    rw [ha] at e
    cases e
    exact main (fun _ => none) (fun _ => .inl rfl) (.inr ⟨_, vs.toArray, _, hk, rfl, rfl, rfl, by rw [List.size_toArray, lenV]; exact hl, by simpa using rv⟩) (fun b u z => nomatch z) (fun b z => absurd rfl z) fun z => absurd rfl z
  | none =>
    refine main (fun b => if b = a then some (.frz { cls := .type "list", data := .seq vs.toArray } (.lst (ns.map V.int))) else none) (fun b => ?_) (.inl (.inr ⟨{ cls := .type "list", data := .seq vs.toArray }, if_pos rfl⟩)) (fun b u z => ?_) (fun b z => ?_) fun _ => hk
    · by_cases hb : b = a
      · exact .inr ⟨_, _, if_pos hb⟩
      · exact .inl (if_neg hb)
    · by_cases hb : b = a
      · have z' := (if_pos hb).symm.trans z
        cases z'
        subst hb
        exact ⟨ha, by rw [List.length_map]; exact hl, vs, _, rv, ha⟩
      · have z' := (if_neg hb).symm.trans z
        cases z'
    · by_cases hb : b = a
      · exact hb
      · exact absurd (if_neg hb) z

theorem walkG {l : PySem.W.OpenLaw} {n k : Nat} {q : Program} {loose : List Str} {XP : (Str → Option Value) → Heap → Prop} {YP : World → Heap → Prop} {d : DefRec} {K : Params → PySem.W.Frag} {CX : World → CXT} {sp : World → Sp} {x : Str}
    (hn : l.most = some n) (hn2 : n ≤ sizeLine) (hdf : d.params.defaults = []) (hr : Room k callerA)
    (hY : ∀ (w : World) (h : Heap), YP w h → (K w.params).In h)
    (F : ∀ (w : World) (mg : Str → Option Value) (fa : Addr) (h : Heap), (K w.params).In h → h.Ns mainGlobals mg → mg d.name = some (.ref fa) →
      ∃ fd : FuncData, (∀ (s : Shared) (u : Value), BindsTo s fd ⟨[u], []⟩ [(x, u)]) ∧
        ∀ base : Heap, (K w.params).In base → base.Ns mainGlobals mg → FnG l.prog w (K w.params) mg base (CX w) k fa fd [x] (sp w))
    (hsp : ∀ (w : World) (H : Hp) (a : Addr) (ns : List Int), ns.length ≤ n → Only H → SqL (K w.params) H a (ns.map V.int) → sp w [.ref a] H (fun v _ => v = .bl true) fun _ _ _ => False)
    (hCX : ∀ (w : World) (H : Hp) (s : Shared) (e : Value) (s' : Shared), CX w [] H s (fun _ _ _ => False) e s' → False) :
    PySem.W.WalkO q loose XP YP l.row.toRowW d [] (fun f vs => PySem.call f vs) := by
  refine Att.attach_call hn hdf fun w s₀ s₁ mg mb fa o pm cd doc a vs ns G Y ho hd hcd hmg hobj hints hlen hg => ?_
  obtain ⟨fd, hb, hF⟩ := F w mg fa _ (hY w _ Y) G.T.g hmg
  exact law_callG (hY w _ Y) G.T.g G.T.b G.T.builtins G.T.nolimit hg hobj hints (Nat.le_trans hlen hn2) hr hF hb (fun H hO hS => hsp w H a ns hlen hO hS) fun H e s' => hCX w H s₁ e s'
end PX
/-! Tables: dicts of ints as lists of pairs; dicts of them by names. -/
namespace PX
open PySem PySem.Spec PyProof.Rows L2

/-! ### lists of pairs -/
section
variable {κ β : Type} [DecidableEq κ]
def getL (l : List (κ × β)) (k : κ) : Option β := (l.find? fun p => decide (p.1 = k)).map (·.2)
def hasL (l : List (κ × β)) (k : κ) : Bool := l.any fun p => decide (p.1 = k)
def putL (l : List (κ × β)) (k : κ) (v : β) : List (κ × β) := if hasL l k = true then l.map (fun p => if p.1 = k then (p.1, v) else p) else l ++ [(k, v)]
def dropL (l : List (κ × β)) (k : κ) : List (κ × β) := l.filter fun p => decide (p.1 ≠ k)
theorem hasL_iff {l : List (κ × β)} {k : κ} : hasL l k = true ↔ k ∈ l.map (·.1) := by
  unfold hasL
  rw [List.any_eq_true, List.mem_map]
  constructor
  · rintro ⟨p, hp, h⟩
    exact ⟨p, hp, of_decide_eq_true h⟩
  · rintro ⟨p, hp, h⟩
    exact ⟨p, hp, decide_eq_true h⟩
theorem putL_keys (l : List (κ × β)) (k : κ) (v : β) : (putL l k v).map (·.1) = if k ∈ l.map (·.1) then l.map (·.1) else l.map (·.1) ++ [k] := by
  unfold putL
  by_cases h : hasL l k = true
  · rw [if_pos h, if_pos (hasL_iff.mp h), List.map_map]
    refine List.map_congr_left fun p _ => ?_
    show (if p.1 = k then (p.1, v) else p).1 = p.1
    split <;> rfl
  · rw [if_neg h, if_neg fun z => h (hasL_iff.mpr z), List.map_append]
    rfl
theorem putL_nodup {l : List (κ × β)} (k : κ) (v : β) (h : (l.map (·.1)).Nodup) : ((putL l k v).map (·.1)).Nodup := by
  rw [putL_keys]
  split
  · exact h
  · rename_i hk
    rw [List.nodup_append]
    exact ⟨h, by simp, fun a ha b hb e => hk (by rw [List.mem_singleton] at hb; rw [← hb, ← e]; exact ha)⟩
theorem putL_length (l : List (κ × β)) (k : κ) (v : β) : (putL l k v).length ≤ l.length + 1 := by
  unfold putL
  split
  · rw [List.length_map]; omega
  · rw [List.length_append]; exact Nat.le_refl _
theorem putL_mem {l : List (κ × β)} {k : κ} {v : β} {p : κ × β} (h : p ∈ putL l k v) : p ∈ l ∨ p = (k, v) := by
  unfold putL at h
  split at h
  · obtain ⟨q, hq, e⟩ := List.mem_map.mp h
    by_cases z : q.1 = k
    · rw [if_pos z] at e
      exact .inr (by rw [← e, z])
    · rw [if_neg z] at e
      exact .inl (e ▸ hq)
  · rcases List.mem_append.mp h with h | h
    · exact .inl h
    · exact .inr (List.mem_singleton.mp h)
theorem putL_new {l : List (κ × β)} {k : κ} (v : β) (h : k ∉ l.map (·.1)) : putL l k v = l ++ [(k, v)] := by
  unfold putL
  rw [if_neg fun z => h (hasL_iff.mp z)]
theorem getL_none {l : List (κ × β)} {k : κ} : getL l k = none ↔ k ∉ l.map (·.1) := by
  unfold getL
  rw [Option.map_eq_none_iff, List.find?_eq_none, List.mem_map]
  constructor
  · rintro h ⟨p, hp, e⟩
    exact h p hp (decide_eq_true e)
  · intro h p hp e
    exact h ⟨p, hp, of_decide_eq_true e⟩
theorem getL_of_mem {l : List (κ × β)} {k : κ} {v : β} (nd : (l.map (·.1)).Nodup) (h : (k, v) ∈ l) : getL l k = some v := by
  induction l with
  | nil => cases h
  | cons p r ih =>
    unfold getL
    rw [List.find?_cons]
    rcases List.mem_cons.mp h with e | e
    · subst e
      simp
    · have nk : p.1 ≠ k := fun z => (List.nodup_cons.mp nd).1 (List.mem_map.mpr ⟨(k, v), e, z.symm⟩)
      have q := ih (List.nodup_cons.mp nd).2 e
      unfold getL at q
      simp [nk, q]
theorem mem_of_getL {l : List (κ × β)} {k : κ} {v : β} (h : getL l k = some v) : (k, v) ∈ l := by
  unfold getL at h
  obtain ⟨p, hp, e⟩ := Option.map_eq_some_iff.mp h
  have h1 := List.mem_of_find?_eq_some hp
  have h2 := List.find?_some hp
  have h3 : p.1 = k := of_decide_eq_true h2
  subst e
  subst h3
  exact h1
theorem getL_put (l : List (κ × β)) (k j : κ) (v : β) : getL (putL l k v) j = if j = k then some v else getL l j := by
  unfold putL
  by_cases h : hasL l k = true
  · rw [if_pos h]
    have key : ∀ l : List (κ × β), getL (l.map fun p => if p.1 = k then (p.1, v) else p) j = if j = k then (if k ∈ l.map (·.1) then some v else none) else getL l j := by
      intro l
      induction l with
      | nil =>
        by_cases e : j = k
        · rw [if_pos e]
          rfl
        · rw [if_neg e]
          rfl
      | cons p r ih =>
        unfold getL at ih ⊢
        rw [List.map_cons, List.find?_cons, List.find?_cons]
        by_cases e : p.1 = k
        · rw [if_pos e]
          by_cases z : j = k
          · subst z
            simp [e]
          · have z1 : ¬ p.1 = j := fun y => z (y.symm.trans e)
            simp only [decide_eq_false z1]
            rw [ih, if_neg z, if_neg z]
        · rw [if_neg e]
          by_cases z : p.1 = j
          · have z2 : ¬ j = k := fun y => e (z.trans y)
            simp [z, z2]
          · simp only [decide_eq_false z]
            rw [ih]
            by_cases y : j = k
            · have e' : ¬ k = p.1 := fun q => e q.symm
              rw [if_pos y, if_pos y, List.map_cons]
              simp only [List.mem_cons, e', false_or]
            · rw [if_neg y, if_neg y]
    rw [key]
    by_cases e : j = k
    · rw [if_pos e, if_pos e, if_pos (hasL_iff.mp h)]
    · rw [if_neg e, if_neg e]
  · rw [if_neg h]
    have hk : k ∉ l.map (·.1) := fun z => h (hasL_iff.mpr z)
    by_cases e : j = k
    · subst e
      rw [if_pos rfl]
      have q := getL_none.mpr hk
      unfold getL at q ⊢
      rw [List.find?_append, Option.map_eq_none_iff.mp q]
      simp
    · rw [if_neg e]
      unfold getL
      rw [List.find?_append]
      have z : ¬ k = j := fun y => e y.symm
      simp [List.find?_cons, z]
end

/-! ### tables: ints to ints -/
abbrev Tab := List (Int × Int)
def kI (p : Int × Int) : Key × V := (Sum.inl p.1, .int p.2)
abbrev tab (l : Tab) : List (Key × V) := l.map kI
theorem tab_len (l : Tab) : (tab l).length = l.length := List.length_map ..
theorem any_tab (l : Tab) (k : Int) : ((tab l).any fun kv => decide (kv.1 = (Sum.inl k : Key))) = hasL l k := by
  unfold hasL tab
  rw [List.any_map]
  congr 1
  funext p
  show decide ((Sum.inl p.1 : Key) = Sum.inl k) = decide (p.1 = k)
  by_cases e : p.1 = k
  · rw [e]; simp
  · rw [decide_eq_false e, decide_eq_false fun z => e (Sum.inl.inj z)]
theorem putK_tab (l : Tab) (k v : Int) : putK (tab l) (Sum.inl k : Key) (.int v) = tab (putL l k v) := by
  unfold putK putL
  rw [any_tab]
  by_cases h : hasL l k = true
  · rw [if_pos h, if_pos h]
    unfold tab
    rw [List.map_map, List.map_map]
    refine List.map_congr_left fun p _ => ?_
    show (if (Sum.inl p.1 : Key) = Sum.inl k then ((Sum.inl p.1 : Key), V.int v) else (Sum.inl p.1, .int p.2)) = kI (if p.1 = k then (p.1, v) else p)
    by_cases e : p.1 = k
    · rw [if_pos e, if_pos (by rw [e])]
      rfl
    · rw [if_neg e, if_neg fun z => e (Sum.inl.inj z)]
      rfl
  · rw [if_neg h, if_neg h]
    unfold tab
    rw [List.map_append]
    rfl
theorem valV_tab (l : Tab) (k : Int) : valV (tab l) (Sum.inl k : Key) = (getL l k).map V.int := by
  unfold valV getL tab
  rw [List.find?_map]
  have e : ((fun kv : Key × V => decide (kv.1 = Sum.inl k)) ∘ kI) = fun p : Int × Int => decide (p.1 = k) := by
    funext p
    show decide ((Sum.inl p.1 : Key) = Sum.inl k) = decide (p.1 = k)
    by_cases e : p.1 = k
    · rw [e]; simp
    · rw [decide_eq_false e, decide_eq_false fun z => e (Sum.inl.inj z)]
  rw [e]
  cases l.find? _ with
  | none => rfl
  | some p => rfl
/-- an int of thirty digits at most -/
def Num (r : Int) : Prop := -(10 ^ 30) < r ∧ r < 10 ^ 30
/-- distinct keys, small numbers -/
structure TabOk (l : Tab) : Prop where
  nd : (l.map (·.1)).Nodup
  sm : ∀ p ∈ l, Num p.1 ∧ Num p.2
theorem TabOk.nil : TabOk [] := ⟨List.nodup_nil, fun _ h => nomatch h⟩
theorem TabOk.put {l : Tab} (h : TabOk l) {k v : Int} (hk : Num k) (hv : Num v) : TabOk (putL l k v) :=
  ⟨putL_nodup k v h.nd, fun p hp => by
    rcases putL_mem hp with q | q
    · exact h.sm p q
    · rw [q]; exact ⟨hk, hv⟩⟩
/-- at d stands a table -/
def TabAt (H : Hp) (d : Addr) (l : Tab) : Prop := H d = some (.dK (tab l))

/-! ### tables by names: name, address, table -/
abbrev Sheets := List (Str × Addr × Tab)
def kS (s : Str × Addr × Tab) : Key × V := (Sum.inr s.1, .ref s.2.1)
structure SheetsAt (H : Hp) (d : Addr) (sh : Sheets) : Prop where
  top : H d = some (.dK (sh.map kS))
  nd : (sh.map (·.1)).Nodup
  all : ∀ s ∈ sh, TabAt H s.2.1 s.2.2
theorem SheetsAt.ne {H : Hp} {d : Addr} {sh : Sheets} (S : SheetsAt H d sh) {s : Str × Addr × Tab} (hs : s ∈ sh) : s.2.1 ≠ d := fun z => by
  have h : H s.2.1 = some (.dK (tab s.2.2)) := S.all s hs
  rw [z, S.top] at h
  have e : sh.map kS = tab s.2.2 := HO.dK.inj (Option.some.inj h)
  cases sh with
  | nil => cases hs
  | cons a r =>
    cases hl : s.2.2 with
    | nil => rw [hl] at e; cases e
    | cons b q =>
      rw [hl] at e
      have e1 : kS a = kI b := (List.cons.inj e).1
      have e2 : (Sum.inr a.1 : Key) = Sum.inl b.1 := congrArg Prod.fst e1
      cases e2
theorem mergeK_nil : ∀ (l acc : List (Key × V)), (acc.map (·.1) ++ l.map (·.1)).Nodup → mergeK acc l = acc ++ l
  | [], acc, _ => by rw [List.append_nil]; rfl
  | p :: r, acc, h => by
    have hn : p.1 ∉ acc.map (·.1) := fun z => by
      have := (List.nodup_append.mp h).2.2 p.1 z p.1 (by simp)
      exact this rfl
    have e : putK acc p.1 p.2 = acc ++ [p] := by
      rw [putK_new]
      rw [show valV acc p.1 = getL acc p.1 from rfl]
      exact getL_none.mpr hn
    show mergeK (putK acc p.1 p.2) r = acc ++ p :: r
    rw [e, mergeK_nil r (acc ++ [p]) (by simpa using h)]
    simp
theorem mergeK_id {l : List (Key × V)} (h : (l.map (·.1)).Nodup) : mergeK [] l = l := by
  rw [mergeK_nil l [] (by simpa using h)]
  rfl
theorem inr_nodup : ∀ {l : List Str}, l.Nodup → (l.map (Sum.inr : Str → Key)).Nodup
  | [], _ => List.nodup_nil
  | x :: r, h => by
    rw [List.map_cons, List.nodup_cons]
    refine ⟨fun z => ?_, inr_nodup (List.nodup_cons.mp h).2⟩
    obtain ⟨y, hy, e⟩ := List.mem_map.mp z
    cases Sum.inr.inj e
    exact (List.nodup_cons.mp h).1 hy
theorem putK_sheet {es : Sheets} {nm : Str} {a : Addr} (t : Tab) (h : nm ∉ es.map (·.1)) : putK (es.map kS) (Sum.inr nm : Key) (.ref a) = (es ++ [(nm, a, t)]).map kS := by
  rw [putK_new, List.map_append]
  · rfl
  · rw [show valV (es.map kS) (Sum.inr nm : Key) = getL (es.map kS) (Sum.inr nm : Key) from rfl]
    refine getL_none.mpr fun z => ?_
    obtain ⟨p, hp, e⟩ := List.mem_map.mp z
    obtain ⟨s, hs, rfl⟩ := List.mem_map.mp hp
    exact h (List.mem_map.mpr ⟨s, hs, Sum.inr.inj e⟩)
theorem not_mem_take {α : Type} : ∀ {l : List α} {i : Nat} {x : α}, l.Nodup → l[i]? = some x → x ∉ l.take i
  | [], _, _, _, h => by simp at h
  | a :: l, 0, x, _, _ => by simp
  | a :: l, i + 1, x, nd, h => by
    rw [List.take_succ_cons, List.mem_cons]
    rintro (z | z)
    · subst z
      exact (List.nodup_cons.mp nd).1 (List.mem_of_getElem? (by simpa using h))
    · exact not_mem_take (List.nodup_cons.mp nd).2 (by simpa using h) z
theorem valV_sheets (sh : Sheets) (x : Str) : valV (sh.map kS) (Sum.inr x : Key) = ((sh.find? fun s => decide (s.1 = x)).map fun s => V.ref s.2.1) := by
  unfold valV
  rw [List.find?_map]
  have e : ((fun kv : Key × V => decide (kv.1 = Sum.inr x)) ∘ kS) = fun s : Str × Addr × Tab => decide (s.1 = x) := by
    funext p
    show decide ((Sum.inr p.1 : Key) = Sum.inr x) = decide (p.1 = x)
    by_cases e : p.1 = x
    · rw [e]; simp
    · rw [decide_eq_false e, decide_eq_false fun z => e (Sum.inr.inj z)]
  rw [e]
  cases sh.find? _ with
  | none => rfl
  | some p => rfl
/-- one to six letters from a to z -/
def nmB (x : Str) : Bool := decide (1 ≤ x.length) && decide (x.length ≤ 6) && x.cps.toList.all fun c => decide (97 ≤ c) && decide (c ≤ 122)
end PX
/-! A dict comprehension over anything that is walked; what is locked meanwhile. -/
namespace PX
open PySem PySem.Spec PyProof.Rows L2
section
variable {J : It} {n : Nat} {G : Hp → Prop} {Y : Nat → Hp → V → Hp → Prop}
theorem dc_it (w : Walk J n G Y) {g : TG} {tt : TT} {tk tv : TE} {vs : List Nat} {σ : L2.St} {H1 : Hp} {D : Addr} {Qd : Hp → Prop} (Pv : Nat → Hp → Prop) (h0 : Pv 0 (upd H1 D (.dK []))) (hG : ∀ i H, i ≤ n → Pv i H → G H)
    (hs : ∀ i x H H', i < n → Pv i H → Y i H x H' → g x (wipe σ vs) H' fun σ2 H2 => wipe σ2 vs = wipe σ vs ∧ tt σ2 H2 fun b H3 =>
      if b = true then tk σ2 H3 fun y H4 => tv σ2 H4 fun z H5 => ∃ kvs k, y = kV k ∧ H5 D = some (.dK kvs) ∧ kvs.length < sizeLine ∧ Pv (i + 1) (upd H5 D (.dK (putK kvs k z))) else Pv (i + 1) H3)
    (hd : ∀ H, Pv n H → Qd H) :
    ∃ W : Nat → Nat → Hp → Prop, (∃ m, W 0 m (upd H1 D (.dK []))) ∧ ∀ i m H, W i m H →
      (J.stop i H ∧ Qd H) ∨ (J.go i H ∧ ∃ Nx : Hp → Prop, (∀ H', Nx H' → ∃ m', m' < m ∧ W (i + 1) m' H') ∧ ∀ x H', J.yld i H x H' → g x (wipe σ vs) H' fun σ2 H2 => wipe σ2 vs = wipe σ vs ∧ tt σ2 H2 fun b H3 =>
        if b = true then tk σ2 H3 fun y H4 => tv σ2 H4 fun z H5 => ∃ kvs k, y = kV k ∧ H5 D = some (.dK kvs) ∧ kvs.length < sizeLine ∧ Nx (upd H5 D (.dK (putK kvs k z))) else Nx H3) := by
  refine ⟨fun i m H => m = n - i ∧ i ≤ n ∧ Pv i H, ⟨n, (Nat.sub_zero n).symm, Nat.zero_le _, h0⟩, ?_⟩
  rintro i m H ⟨hm, hi, p⟩
  subst hm
  have q := hG i H hi p
  cases Nat.lt_or_ge i n with
  | inl lt => exact .inr ⟨w.goes i H lt q, Pv (i + 1), (fun H' p' => ⟨n - (i + 1), by omega, rfl, lt, p'⟩), fun x H' y => hs i x H H' lt p (w.yields i H x H' lt q y)⟩
  | inr ge =>
    have e : i = n := Nat.le_antisymm hi ge
    subst e
    exact .inl ⟨w.stops H q, hd H p⟩
end
theorem getElem?_map2 {α β γ : Type} {f : α → β} {g : β → γ} {l : List α} {i : Nat} {y : γ} (h : (l.map f)[i]?.map g = some y) : ∃ x, l[i]? = some x ∧ y = g (f x) := by
  obtain ⟨z, h1, h2⟩ := Option.map_eq_some_iff.mp h
  obtain ⟨x, h3, h4⟩ := getElem?_map' h1
  exact ⟨x, h3, by rw [← h2, h4]⟩
/-- locked, the rest as it was -/
theorem Same.lock {H : Hp} {d : Addr} {u o : HO} {b : Addr} (h : H b = some u) (n : b ≠ d) : upd H d o b = some u := (upd_ne n).trans h
/-- a heap grown over a lock, unlocked -/
theorem Same.unlock {H H' : Hp} {d : Addr} {u w : HO} (hd : H d = some u) (s : Same (upd H d w) H') : Same H (upd H' d u) := fun b o e => by
  by_cases z : b = d
  · subst z
    rw [hd] at e
    cases e
    exact upd_same
  · rw [upd_ne z]
    exact s b o (by rw [upd_ne z]; exact e)
/-- a list or a tuple that is read -/
def Sq (K : PySem.W.Frag) (H : Hp) (q : Addr) (xs : List V) : Prop := SqL K H q xs ∨ SqT K H q xs
theorem Sq.move {K : PySem.W.Frag} {H H' : Hp} {q : Addr} {xs : List V} (h : Sq K H q xs) (m : ∀ o, (∀ kvs, o ≠ .dK kvs) → H q = some o → H' q = some o) : Sq K H' q xs := by
  rcases h with ((h | ⟨o, h⟩) | h) | ((h | ⟨o, h⟩) | h)
  · exact .inl (.inl (.inl (m _ (fun _ z => nomatch z) h)))
  · exact .inl (.inl (.inr ⟨o, m _ (fun _ z => nomatch z) h⟩))
  · exact .inl (.inr h)
  · exact .inr (.inl (.inl (m _ (fun _ z => nomatch z) h)))
  · exact .inr (.inl (.inr ⟨o, m _ (fun _ z => nomatch z) h⟩))
  · exact .inr (.inr h)
theorem Sq.same {K : PySem.W.Frag} {H H' : Hp} {q : Addr} {xs : List V} (h : Sq K H q xs) (s : Same H H') : Sq K H' q xs := h.move fun o _ e => s _ _ e
theorem Sq.lock {K : PySem.W.Frag} {H : Hp} {d q : Addr} {xs : List V} {kvs : List (Key × V)} {u : HO} (h : Sq K H q xs) (hd : H d = some (.dK kvs)) : Sq K (upd H d u) q xs := h.move fun o n e => by
  rw [upd_ne fun z => ?_]
  · exact e
  · rw [z, hd] at e
    exact n kvs (Option.some.inj e).symm
end PX
/-! How long the repr of data may be. -/
namespace PX
open PySem PySem.Spec PyProof.Rows L2
mutual
def costD : PyData → Nat
  | .none => 4
  | .bool _ => 5
  | .int _ => 2000
  | .str x => 10 * x.length + 2
  | .list xs => costL xs + 2
  | .tuple xs => costL xs + 3
  | .dict kvs => costK kvs + 2
def costL : List PyData → Nat
  | [] => 0
  | x :: xs => costD x + 2 + costL xs
def costK : List (PyData × PyData) → Nat
  | [] => 0
  | (k, v) :: r => costD k + costD v + 4 + costK r
end
mutual
/-- every text's signs are signs -/
def signsD : PyData → Bool
  | .str x => x.cps.toList.all fun c => decide (c < 16 ^ 8)
  | .list xs => signsL xs
  | .tuple xs => signsL xs
  | .dict kvs => signsK kvs
  | _ => true
def signsL : List PyData → Bool
  | [] => true
  | x :: xs => signsD x && signsL xs
def signsK : List (PyData × PyData) → Bool
  | [] => true
  | (k, v) :: r => signsD k && signsD v && signsK r
end
theorem join_le (ts : List Str) : (Str.join ", " ts).length ≤ piled ts := by
  by_cases h : ts = []
  · subst h
    exact Nat.le_refl _
  · have := join_length_add ts h
    omega
theorem textFrom_le : ∀ (ts : List Str) (k : Nat) (acc : Str), (textFrom k acc ts).length ≤ acc.length + piled ts
  | [], _, _ => Nat.le_refl _
  | t :: ts, k, acc => by
    have ih := textFrom_le ts (k + 1)
    rw [piled_cons]
    unfold textFrom
    by_cases h : k > 0
    · simp only [h, if_true]
      refine Nat.le_trans (ih _) ?_
      rw [strLen_append, strLen_append]
      have e : ((", " : String) : Str).length = 2 := rfl
      omega
    · simp only [h, if_false]
      refine Nat.le_trans (ih _) ?_
      have e : ((("" : String) : Str)).length = 0 := rfl
      simp only [strLen_append, e]
      omega
theorem listText_le (ts : List Str) : (listText ts).length ≤ piled ts + 2 := by
  unfold listText
  rw [strLen_append]
  have h := textFrom_le ts 0 "["
  have e1 : ((("[" : String) : Str)).length = 1 := rfl
  have e2 : ((("]" : String) : Str)).length = 1 := rfl
  omega
theorem tupleText_le (ts : List Str) : (tupleText ts).length ≤ piled ts + 3 := by
  unfold tupleText
  rw [strLen_append, strLen_append]
  have h := join_le ts
  have e1 : ((("(" : String) : Str)).length = 1 := rfl
  have e3 : (((if ts.length == 1 then ",)" else ")" : String) : Str)).length ≤ 2 := by split <;> decide +kernel
  omega
theorem dictText_le (ts : List Str) : (dictText ts).length ≤ piled ts + 2 := by
  unfold dictText
  rw [strLen_append, strLen_append]
  have h := join_le ts
  have e1 : ((("{" : String) : Str)).length = 1 := rfl
  have e2 : ((("}" : String) : Str)).length = 1 := rfl
  omega
mutual
theorem shown_le : ∀ d : PyData, d.showable = true → signsD d = true → d.shown.length ≤ costD d
  | .none, _, _ => by decide +kernel
  | .bool b, _, _ => by cases b <;> decide +kernel
  | .int i, h, _ => by
    have h2 : i.natAbs.log2 < 1920 := by simpa [PyData.showable] using h
    have := int_text_length_le (k := 1920) (by decide) h2
    simp only [PyData.shown, costD]
    rw [PySem.ofString_length]
    omega
  | .str x, _, h => by
    simp only [PyData.shown, costD]
    refine StrLaws.reprText_len x fun c hc => ?_
    simp only [signsD, List.all_eq_true] at h
    exact of_decide_eq_true (h c hc)
  | .list xs, h, g => by
    have q := shownL_le xs (by simpa [PyData.showable] using h) (by simpa [signsD] using g)
    simp only [PyData.shown, costD]
    have := listText_le (PyData.shownAll xs)
    omega
  | .tuple xs, h, g => by
    have q := shownL_le xs (by simpa [PyData.showable] using h) (by simpa [signsD] using g)
    simp only [PyData.shown, costD]
    have := tupleText_le (PyData.shownAll xs)
    omega
  | .dict kvs, h, g => by
    have q := shownK_le kvs (by simpa [PyData.showable] using h) (by simpa [signsD] using g)
    simp only [PyData.shown, costD]
    have := dictText_le (PyData.shownKv kvs)
    omega
theorem shownL_le : ∀ ds : List PyData, PyData.showableAll ds = true → signsL ds = true → piled (PyData.shownAll ds) ≤ costL ds
  | [], _, _ => Nat.le_refl _
  | d :: ds, h, g => by
    simp only [PyData.showableAll, Bool.and_eq_true] at h
    simp only [signsL, Bool.and_eq_true] at g
    have h1 := shown_le d h.1 g.1
    have h2 := shownL_le ds h.2 g.2
    simp only [PyData.shownAll, costL]
    rw [piled_cons]
    omega
theorem shownK_le : ∀ ds : List (PyData × PyData), PyData.showableKv ds = true → signsK ds = true → piled (PyData.shownKv ds) ≤ costK ds
  | [], _, _ => Nat.le_refl _
  | (k, v) :: ds, h, g => by
    simp only [PyData.showableKv, Bool.and_eq_true] at h
    simp only [signsK, Bool.and_eq_true] at g
    have h1 := shown_le k h.1.1 g.1.1
    have h2 := shown_le v h.1.2 g.1.2
    have h3 := shownK_le ds h.2 g.2
    simp only [PyData.shownKv, costK]
    rw [piled_cons, strLen_append, strLen_append]
    have e : (((": " : String) : Str)).length = 2 := rfl
    omega
end
theorem sqL_same {K : PySem.W.Frag} {H H' : Hp} {a : Addr} {xs : List V} (s : Same H H') (h : SqL K H a xs) : SqL K H' a xs := s.seq h
theorem sqT_same {K : PySem.W.Frag} {H H' : Hp} {a : Addr} {xs : List V} (s : Same H H') (h : SqT K H a xs) : SqT K H' a xs := by
  rcases h with (h | ⟨o, h⟩) | h
  · exact .inl (.inl (s _ _ h))
  · exact .inl (.inr ⟨o, s _ _ h⟩)
  · exact .inr h
mutual
theorem dp_same {K : PySem.W.Frag} {H H' : Hp} (s : Same H H') : ∀ (d : PyData) (v : V), Dp K H v d → Dp K H' v d
  | .none, _, h => by cases h; exact .non
  | .bool b, _, h => by cases h; exact .bl b
  | .int i, _, h => by cases h; exact .int i
  | .str x, _, h => by cases h; exact .str x
  | .list ds, _, h => by
    cases h with
    | lst h1 h2 => exact .lst (sqL_same s h1) (dps_same s ds _ h2)
  | .tuple ds, _, h => by
    cases h with
    | tup h1 h2 => exact .tup (sqT_same s h1) (dps_same s ds _ h2)
  | .dict _, _, h => by cases h
theorem dps_same {K : PySem.W.Frag} {H H' : Hp} (s : Same H H') : ∀ (ds : List PyData) (vs : List V), DpAll K H vs ds → DpAll K H' vs ds
  | [], _, h => by cases h; exact .nil
  | d :: ds, _, h => by
    cases h with
    | cons h1 h2 => exact .cons (dp_same s d _ h1) (dps_same s ds _ h2)
end
theorem dps_append {K : PySem.W.Frag} {H : Hp} : ∀ {vs : List V} {ds : List PyData} {us : List V} {es : List PyData}, DpAll K H vs ds → DpAll K H us es → DpAll K H (vs ++ us) (ds ++ es)
  | _, _, _, _, .nil, h => h
  | _, _, _, _, .cons a b, h => .cons a (dps_append b h)
theorem dps_map {K : PySem.W.Frag} {H : Hp} {α : Type} (f : α → V) (g : α → PyData) : ∀ l : List α, (∀ x ∈ l, Dp K H (f x) (g x)) → DpAll K H (l.map f) (l.map g)
  | [], _ => .nil
  | x :: r, h => .cons (h x List.mem_cons_self) (dps_map f g r fun y hy => h y (List.mem_cons_of_mem _ hy))
theorem dps_of_paired {K : PySem.W.Frag} {H : Hp} {α β : Type} {F : α → β → Prop} (f : α → V) (g : β → PyData) (h : ∀ x y, F x y → Dp K H (f x) (g y)) : ∀ {l : List α} {r : List β}, Paired F l r → DpAll K H (l.map f) (r.map g)
  | _, _, .nil => .nil
  | _, _, .cons a b => .cons (h _ _ a) (dps_of_paired f g h b)
theorem dps_len {K : PySem.W.Frag} {H : Hp} : ∀ {vs : List V} {ds : List PyData}, DpAll K H vs ds → vs.length = ds.length
  | _, _, .nil => rfl
  | _, _, .cons _ b => congrArg (· + 1) (dps_len b)
/-- the heap without D -/
def hid (D : Addr) (H : Hp) : Hp := fun a => if a = D then none else H a
theorem hid_at {D a : Addr} {H : Hp} (n : a ≠ D) : hid D H a = H a := if_neg n
theorem hid_le (D : Addr) (H : Hp) : Same (hid D H) H := fun b o e => by
  unfold hid at e
  by_cases z : b = D
  · rw [if_pos z] at e; cases e
  · rw [if_neg z] at e; exact e
theorem hid_upd (D : Addr) (H : Hp) (o : HO) : hid D (upd H D o) = hid D H := by
  funext b
  unfold hid
  by_cases z : b = D
  · rw [if_pos z, if_pos z]
  · rw [if_neg z, if_neg z, upd_ne z]
theorem hid_same {D : Addr} {H H' : Hp} (s : Same H H') : Same (hid D H) (hid D H') := fun b o e => by
  unfold hid at e ⊢
  by_cases z : b = D
  · rw [if_pos z] at e; cases e
  · rw [if_neg z] at e ⊢; exact s b o e
theorem hid_gr {p D : Addr} {H H' : Hp} {o : HO} (hp : H D = none) (g : Same H H') : Same H (hid D H') := fun b u e => by
  rw [hid_at (ne_of_none e hp)]
  exact g b u e
/-! ### data made of a list -/
theorem showable_map {α : Type} (f : α → PyData) : ∀ l : List α, (∀ x ∈ l, (f x).showable = true) → PyData.showableAll (l.map f) = true
  | [], _ => rfl
  | x :: r, h => by
    rw [List.map_cons]
    simp only [PyData.showableAll, Bool.and_eq_true]
    exact ⟨h x List.mem_cons_self, showable_map f r fun y hy => h y (List.mem_cons_of_mem _ hy)⟩
theorem nodict_map {α : Type} (f : α → PyData) : ∀ l : List α, (∀ x ∈ l, (f x).hasDict = false) → PyData.hasDictAll (l.map f) = false
  | [], _ => rfl
  | x :: r, h => by
    rw [List.map_cons]
    simp only [PyData.hasDictAll, Bool.or_eq_false_iff]
    exact ⟨h x List.mem_cons_self, nodict_map f r fun y hy => h y (List.mem_cons_of_mem _ hy)⟩
theorem signs_map {α : Type} (f : α → PyData) : ∀ l : List α, (∀ x ∈ l, signsD (f x) = true) → signsL (l.map f) = true
  | [], _ => rfl
  | x :: r, h => by
    rw [List.map_cons]
    simp only [signsL, Bool.and_eq_true]
    exact ⟨h x List.mem_cons_self, signs_map f r fun y hy => h y (List.mem_cons_of_mem _ hy)⟩
theorem cost_map {α : Type} (f : α → PyData) (c : Nat) : ∀ l : List α, (∀ x ∈ l, costD (f x) ≤ c) → costL (l.map f) ≤ l.length * (c + 2)
  | [], _ => Nat.zero_le _
  | x :: r, h => by
    rw [List.map_cons, List.length_cons, Nat.add_mul]
    have h1 := h x List.mem_cons_self
    have h2 := cost_map f c r fun y hy => h y (List.mem_cons_of_mem _ hy)
    simp only [costL]
    omega
theorem depth_map {α : Type} (f : α → PyData) (c : Nat) : ∀ l : List α, (∀ x ∈ l, (f x).depth ≤ c) → PyData.depthAll (l.map f) ≤ c
  | [], _ => Nat.zero_le _
  | x :: r, h => by
    rw [List.map_cons]
    have h1 := h x List.mem_cons_self
    have h2 := depth_map f c r fun y hy => h y (List.mem_cons_of_mem _ hy)
    simp only [PyData.depthAll]
    omega
/-- repr(x): what is asked, in short -/
theorem repr_q {K : PySem.W.Frag} {a : Addr} {d : PyData} {H : Hp} {Q : VK} (h : Dp K H (.ref a) d) (hs : d.showable = true) (hn : d.hasDict = false) (hp : d.depth ≤ 60) (hg : signsD d = true) (hc : costD d ≤ 16000000) (q : Q (.str d.shown) H) : rRepr K [.ref a] H Q :=
  ⟨a, d, rfl, h, hs, hn, hp, by
    have := shown_le d hs hg
    rw [sizeLine_eq]
    omega, q⟩
end PX
/-! Small parts of a heap; heaps that grow but for one object; lists of ints as data. -/
namespace PX
open PySem PySem.Spec PyProof.Rows L2
theorem nsub_new {N H : Hp} {t : Addr} {o : HO} (s : Same N H) : Same (upd N t o) (upd H t o) := fun b u e => by
  by_cases z : b = t
  · subst z
    rw [upd_same] at e ⊢
    exact e
  · rw [upd_ne z] at e ⊢
    exact s b u e
theorem nsub_add {N H : Hp} {t : Addr} {o : HO} (s : Same N H) (h : H t = some o) : Same (upd N t o) H := fun b u e => by
  by_cases z : b = t
  · subst z
    rw [upd_same] at e
    rw [h]
    exact e
  · rw [upd_ne z] at e
    exact s b u e
theorem Gr.putq {q : Addr} {H H' : Hp} {o : HO} (g : Gr q H H') : Gr q H (upd H' q o) := fun b u n e => by
  rw [upd_ne n]
  exact g b u n e
theorem Gr.unlock {H H' : Hp} {d q : Addr} {u w : HO} (hd : H d = some u) (s : Gr q (upd H d w) H') : Gr q H (upd H' d u) := fun b o n e => by
  by_cases z : b = d
  · subst z
    rw [hd] at e
    cases e
    exact upd_same
  · rw [upd_ne z]
    exact s b o n (by rw [upd_ne z]; exact e)
theorem Gr.all {p : Addr} {H H' : Hp} (g : Gr p H H') (h : H p = none) : Same H H' := fun q o e => g q o (ne_of_none e h) e
theorem Gr.from {p : Addr} {H0 H H' : Hp} (s : Same H0 H) (g : Gr p H H') (h : H0 p = none) : Same H0 H' := fun q o e => g q o (ne_of_none e h) (s q o e)
theorem sheets_same {H H' : Hp} {d : Addr} {sh : Sheets} (S : SheetsAt H d sh) (s : Same H H') : SheetsAt H' d sh := ⟨s _ _ S.top, S.nd, fun x hx => s _ _ (S.all x hx)⟩
/-- an object that is no list there -/
theorem ne_lst {H : Hp} {a b : Addr} {kvs : List (Key × V)} {xs : List V} (h : H a = some (.dK kvs)) (g : H b = some (.lst xs)) : a ≠ b := fun z => by
  rw [z, g] at h
  cases h
theorem ne_frz {H : Hp} {a b : Addr} {o : Obj} {u : HO} {xs : List V} (h : H a = some (.frz o u)) (g : H b = some (.lst xs)) : a ≠ b := fun z => by
  rw [z, g] at h
  cases h
theorem none_of {N H : Hp} {b : Addr} {u : HO} (h : ∀ b, N b ≠ none → H b = none) (e : H b = some u) : N b = none := by
  cases q : N b with
  | none => rfl
  | some v =>
    have := h b (by rw [q]; exact fun z => nomatch z)
    rw [e] at this
    cases this
theorem repr_z {d : PyData} (hs : d.showable = true) (hg : signsD d = true) (hc : costD d ≤ 16000000) : d.shown.length ≤ sizeLine := by
  have := shown_le d hs hg
  rw [sizeLine_eq]
  omega
/-! ### lists of ints as data -/
def intsD (ks : List Int) : PyData := .list (ks.map .int)
theorem ints_dp {K : PySem.W.Frag} {H : Hp} {a : Addr} {ks : List Int} (h : SqL K H a (ks.map V.int)) : Dp K H (.ref a) (intsD ks) := .lst h (dps_map V.int PyData.int ks fun k _ => .int k)
theorem ints_eqvAll : ∀ ks : List Int, PyData.eqvAll (ks.map .int) (ks.map .int) = true
  | [] => rfl
  | k :: r => by
    rw [List.map_cons, PyData.eqvAll, ints_eqvAll r]
    simp [PyData.eqv]
theorem ints_eqv (ks : List Int) : PyData.eqv (intsD ks) (intsD ks) = true := by
  unfold intsD
  rw [PyData.eqv]
  exact ints_eqvAll ks
theorem ints_layAll : ∀ ks : List Int, PyData.canLayAll0 (ks.map .int) = true
  | [] => rfl
  | k :: r => by
    rw [List.map_cons, PyData.canLayAll0, ints_layAll r]
    simp [PyData.canLay0]
theorem ints_shaped (ks : List Int) : SeqAt.shaped (intsD ks) = true := by
  unfold SeqAt.shaped
  rw [Bool.and_eq_true]
  refine ⟨?_, ?_⟩
  · unfold intsD
    rw [PyData.canLay0]
    exact ints_layAll ks
  · have := depth_map PyData.int 0 ks fun k _ => Nat.le_refl _
    refine decide_eq_true ?_
    show PyData.depthAll _ + 1 ≤ 64
    omega
end PX
/-! Rules that the class Rule needs: match by texts, slices that are set, fields set side by side. -/
namespace PX
open PySem PySem.Spec PyProof.Rows L2
/-! ### match, each case a value -/
structure PMs (X : Cx) (cs : List MatchCase) (t : V → TS) : Prop where
  run : ∀ (first : Bool) (pins : List (Addr × Obj)) (s : Shared) (σ : L2.St) (H : Hp) (D : Ends) (x : V) (v : Value), RelV x v → Inv X pins σ H s → t x D σ H → wpAny (model X.prog X.w) X.A (matchCases cs X.env v first) (SP X pins D) X.xe s
def mNil : V → TS := fun _ D σ H => D.nx σ H
def mCase (te : TE) (t : TS) (r : V → TS) : V → TS := fun x D σ H => te σ H fun y H1 => rEq x y H1 fun b H2 => ∃ c, b = .bl c ∧ if c = true then t D σ H2 else r x D σ H2
def tMatch (te : TE) (t : V → TS) : TS := fun D σ H => te σ H fun x H1 => t x D σ H1
section
variable {X : Cx}
theorem pm_nil : PMs X [] mNil := ⟨fun _ pins s σ H D x v _ I h => wpAny_matchCases_nil ⟨σ, H, I, h⟩⟩
theorem pm_case {e : Expr} {te : TE} {pos : Pos} {body : List Stmt} {rest : List MatchCase} {t : TS} {r : V → TS} (he : PE X e te) (ht : PSs X body t) (hr : PMs X rest r) : PMs X (⟨.MatchValue e pos, none, body⟩ :: rest) (mCase te t r) := by
  refine ⟨fun first pins s σ H D x v rx I h => wpAny_matchCases_cons (wpAny_matchPattern_Value ?_)⟩
  refine thn (he.run pins s σ H _ I h) fun u s1 ⟨y, H1, I1, ry, q1⟩ => ?_
  refine thn (op_eq pins s1 σ H1 x y v u _ I1 rx ry q1) fun c s2 ⟨z, H2, I2, rz, k, ez, q2⟩ => ?_
  subst ez
  cases rz
  refine wpAny_truthy_bool ?_
  cases k with
  | true => exact wpAny_assignInOrder_none (ht.run pins s2 σ H2 D I2 q2)
  | false => exact hr.run false pins s2 σ H2 D x v rx I2 q2
theorem ps_match {e : Expr} {te : TE} {cs : List MatchCase} {pos : Pos} {t : V → TS} (he : PE X e te) (h : PMs X cs t) : PS X (.Match e cs pos) (tMatch te t) := by
  refine ⟨fun pins s σ H D I hw => wpAny_Match ?_⟩
  exact thn (he.run pins s σ H _ I hw) fun v s1 ⟨x, H1, I1, rx, q1⟩ => h.run true pins s1 σ H1 D x v rx I1 q1
end

/-! ### a field as a target -/
def gFld (K : PySem.W.Frag) (ta : TE) (f : Str) : TG := fun v σ H Q => ta σ H fun x H1 => ∃ a C dx fs, x = .ref a ∧ H1 a = some (.ins C dx fs) ∧ Cls K C ∧ NoAttr K C f ∧ fs.length < 1000 ∧ Q σ (upd H1 a (.ins C dx (putF f v fs)))
section
variable {X : Cx}
theorem pg_fld {o : Expr} {f : Str} {pos : Pos} {ta : TE} (ho : PE X o ta) : PG X (.Attribute o f pos) (gFld X.K ta f) := by
  refine ⟨fun pins s σ H v u Q I r h => ?_⟩
  rw [assign_Attribute]
  refine wpAny_bind (wpAny_holding (thn (ho.run pins s σ H _ I h) fun ov s1 got => ?_))
  obtain ⟨x, H1, I1, rx, a, C, dx, fs, rfl, hins, hcl, hno, hfew, q⟩ := got
  obtain rfl : ov = Value.ref a := rx
  refine wpAny_bind (wpAny_standAt (wpAny_bind (wpAny_holding ?_)))
  exact setattr_ok I1 hins hcl hno hfew r fun s2 I2 => wpAny_release ⟨σ, _, I2, q⟩
end

/-! ### xs[a:] = ys -/
theorem bounds_open {a n : Nat} (h : a ≤ n) : sliceBounds (some (a : Int)) none none n = ((a : Int), (n : Int), 1) := by
  unfold sliceBounds
  have z : ¬ (a : Int) < 0 := by omega
  simp only [Option.getD_none, z, if_false, show (1 : Int) > 0 from by decide, if_true]
  rw [Int.min_eq_left (by omega), Int.max_eq_right (by omega)]
section
variable {prog : Program} {w : World} {A : Around} {E : Value → Shared → Prop} {s : Shared}
theorem setItem_open {l b sl : Addr} {old new : Array Value} {n n2 : Nat} {vl : Value} {a : Nat} {Q : Unit → Shared → Prop}
    (atL : s.heap.get? l = some { cls := .type "list", data := .seq old n }) (atB : s.heap.get? b = some { cls := .type "list", data := .seq new n2 }) (apart : l ≠ b)
    (atS : s.heap.IsSliceOf sl vl .none .none) (lowIs : IsPart vl (some (a : Int))) (low : a ≤ old.size) (few : old.size + new.size ≤ sizeLine)
    (h : Q () { s with heap := s.heap.update l (Obj.mapSeq fun xs => xs.extract 0 a ++ new ++ xs.extract old.size xs.size) }) :
    wpAny (model prog w) A (setItem (.ref l) (.ref sl) (.ref b)) Q E s := by
  have isL := PySem.IsL.isList atL
  have isB := PySem.IsL.isList atB
  obtain ⟨os, sAt, sCls, sData⟩ := id atS
  have sTy : s.TypeIs (.ref sl) "slice" := ⟨os, sAt, sCls⟩
  have other : Builtin.List.listSameRef (.ref l) (.ref b) = false := by
    show (l == b) = false
    exact beq_eq_false_iff_ne.mpr apart
  have hi : (max (a : Int) (old.size : Int)).toNat = old.size := by omega
  have few2 : ((fun xs : Array Value => xs.extract 0 a ++ new ++ xs.extract old.size xs.size) old).size ≤ sizeLine + 1 := by
    dsimp only
    rw [Array.size_append, Array.size_append, Array.size_extract, Array.size_extract]
    omega
  unfold setItem
  refine wpAny_holding (wpAny_bind (wpAny_sequenceKey isL.typeIs (by decide) ?_))
  refine wpAny_bind (wpAny_callSpecial?_slot (name := Str.ofString "__setitem__") isL.typeIs slot_list_setitem (wpAny_call_entry slot_list_setitem isL.typeIs entry_list_setitem ?_ (args_list_setitem _ _ _)))
  show wpAny _ _ (Builtin.List.listSubscript? (.ref sl) >>= _) _ _ s
  unfold Builtin.List.listSubscript?
  refine wpAny_bind (wpAny_bind (wpAny_specialOf sTy slice_no_index ?_))
  rw [if_pos (show (Option.none : Option Value).isNone = true from rfl)]
  refine wpAny_pure ?_
  show wpAny _ _ (typeOf (.ref sl) >>= _) _ _ s
  refine wpAny_bind (wpAny_typeOf sTy ?_)
  rw [if_neg (show ¬ ((Value.type "slice" != Value.type "slice") = true) by decide), listSliceParts_eq]
  refine wpAny_bind (wpAny_bind (wpAny_field sAt sData (x := .none) rfl (wpAny_bind (wpAny_listPart (k := Option.none) .none ?_))))
  rw [if_neg (show ¬ ((rawPart Option.none == rawInt 0) = true) from Bool.false_ne_true)]
  refine wpAny_bind (wpAny_field sAt sData (x := vl) rfl (wpAny_bind (wpAny_listPart lowIs ?_)))
  refine wpAny_bind (wpAny_field sAt sData (x := .none) rfl (wpAny_bind (wpAny_listPart (k := Option.none) .none (wpAny_pure ?_))))
  dsimp only
  rw [if_neg (show ¬ (Builtin.List.listSameRef (.ref l) (.ref b) = true) by rw [other]; exact Bool.false_ne_true)]
  unfold Builtin.List.listAllItems
  refine wpAny_bind (wpAny_bind (wpAny_typeOf isB.typeIs ?_))
  rw [if_pos (show (Value.type "list" == Value.type "list" || Value.type "list" == Value.type "tuple") = true by decide)]
  unfold Builtin.List.listItems
  refine wpAny_bind (wpAny_seqItems atB rfl (wpAny_pure ?_))
  refine wpAny_bind (wpAny_bind (wpAny_seqItems atL rfl (wpAny_pure ?_)))
  have cutAt : sliceIndices (rawPart (some (a : Int))) (rawPart Option.none) (rawPart Option.none) old.size = pure ((a : Int), (old.size : Int), 1) := by
    rw [sliceIndices_raw _ _ _ _ (by simp), bounds_open low]
  refine wpAny_bind (wpAny_of_eq cutAt ?_)
  show wpAny _ _ (if ((1 : Int) == 1) = true then _ else _) _ _ s
  rw [if_pos (show ((1 : Int) == 1) = true by decide)]
  refine wpAny_bind (wpAny_rule ?_)
  rw [if_neg (show ¬ (Builtin.List.listTooLong (old.size + new.size) = true) by rw [notLongL few]; exact Bool.false_ne_true)]
  show wpAny _ _ (updateSeq l (fun xs => xs.extract 0 ((a : Int)).toNat ++ new ++ xs.extract (max (a : Int) (old.size : Int)).toNat xs.size) >>= _) _ _ s
  rw [hi, Int.toNat_natCast]
  refine wpAny_bind (wpAny_updateSeq (hz := Nat.le_trans (Nat.le_add_right _ _) few) (_hz' := few2) atL rfl (wpAny_bind (wpAny_letGo ?_)))
  exact wpAny_pure ⟨.none, rfl, wpAny_pure h⟩
end
section
variable {X : Cx}
/-- at the value level: sl is the slice object that was just made -/
theorem set_open {pins : List (Addr × Obj)} {s : Shared} {σ : L2.St} {H : Hp} {l b sl : Addr} {xs ys : List V} {a : Int} {vl : Value} {Q : Unit → Shared → Prop} (I : Inv X pins σ H s) (atL : H l = some (.lst xs)) (atB : H b = some (.lst ys)) (apart : l ≠ b)
    (atS : s.heap.IsSliceOf sl vl .none .none) (ra : RelV (.int a) vl) (h0 : 0 ≤ a) (low : a ≤ xs.length) (few : xs.length + ys.length ≤ sizeLine)
    (h : ∀ s', Inv X pins σ (upd H l (.lst (xs.take a.toNat ++ ys))) s' → Q () s') : wpAny (model X.prog X.w) X.A (setItem (.ref l) (.ref sl) (.ref b)) Q X.xe s := by
  obtain ⟨ta, rfl⟩ := ra
  obtain ⟨z, us, n, r, lu, e⟩ := I.lstM atL
  obtain ⟨z2, ws, n2, r2, lw, e2⟩ := I.lstM atB
  obtain ⟨k, rfl⟩ := Int.eq_ofNat_of_zero_le h0
  rw [Int.toNat_natCast] at h
  refine setItem_open (a := k) e e2 apart atS (.int _ _) (by rw [List.size_toArray]; omega) (by rw [List.size_toArray, List.size_toArray]; omega) (h _ ?_)
  refine I.lset (its' := us.take k ++ ws) (t' := s.toks) atL e ?_ ((r.take _).append r2) ?_
  · have q : us.toArray.extract us.toArray.size us.toArray.size = #[] := by simp
    simp
  · rw [List.length_append, List.length_take]
    omega
end
def sOpen (to tl tv : TE) : TS := fun D σ H => tv σ H fun y H1 => to σ H1 fun x H2 => tl σ H2 fun i H3 => ∃ (l b : Addr) (xs ys : List V) (a : Int), x = .ref l ∧ y = .ref b ∧ i = .int a ∧ H3 l = some (.lst xs) ∧ H3 b = some (.lst ys) ∧ l ≠ b ∧ 0 ≤ a ∧ a ≤ xs.length ∧
  xs.length + ys.length ≤ sizeLine ∧ D.nx σ (upd H3 l (.lst (xs.take a.toNat ++ ys)))
section
variable {X : Cx}
theorem ps_open {o lo value : Expr} {to tl tv : TE} {p p' pos : Pos} (ho : PE X o to) (hl : PE X lo tl) (hv : PE X value tv) (hs : swapsWith value (some (.Subscript o (.Slice (some lo) none none p) p')) pos.line X.env = pure false) :
    PS X (.Assign [.Subscript o (.Slice (some lo) none none p) p'] value pos) (sOpen to tl tv) := by
  refine ⟨fun pins s σ H D I h => wpAny_Assign_Subscript (thn (hv.run pins s σ H _ I h) fun u s1 ⟨y, H1, I1, ry, q1⟩ => thn (ho.run pins s1 σ H1 _ I1 q1) fun ov s2 ⟨x, H2, I2, rx, q2⟩ => wpAny_Slice ?_) hs⟩
  rw [evalPart_some]
  refine thn (hl.run pins s2 σ H2 _ I2 q2) fun iv s3 ⟨i, H3, I3, ri, l, b, xs, ys, a, ex, ey, ei, atL, atB, apart, h0, low, few, q3⟩ => ?_
  subst ex ey ei
  obtain rfl : ov = Value.ref l := rx
  obtain rfl : u = Value.ref b := ry
  rw [evalPart_none]
  refine wpAny_pure (wpAny_pure ?_)
  have I4 : Inv X pins σ H3 { s3 with heap := s3.heap.push { cls := .type "slice", data := .fields #[iv, .none, .none] } } := I3.kept (t' := s3.toks) fun c o e => Heap.get?_push_of_some _ e
  exact set_open I4 atL atB apart (Heap.IsSliceOf.new ..) ri h0 low few fun s5 I5 => ⟨σ, _, I5, q3⟩
end
end PX
/-! Sets of texts that can be walked; sorted of one; a set comprehension with two sources. -/
namespace PX
open PySem PySem.Spec PyProof.Rows L2
section
variable {κ : Type} [DecidableEq κ] {P : Program} {w : World}
/-- what lies in a set: rows of keys of one kind, no key twice, a table that rises -/
structure Lot (knd : PySem.KeyKind P w κ) (S : κ → Bool) (es : Array (Int × Value)) (t : SetTable) : Prop where
  el : ElemsOf knd es.toList
  dis : es.toList.Pairwise fun e f => ∀ k, knd.is k e.2 = true → knd.is k f.2 = true → False
  mem : ∀ k, S k = true ↔ ∃ e ∈ es.toList, knd.is k e.2 = true
  few : es.size < scanBound
  fit : t.fits es.size = true
  ris : Ris t.place.toList
  led : w.params.followText "set-order" = true ∨ t.led = true
variable {knd : PySem.KeyKind P w κ} {S S' : κ → Bool} {es es' : Array (Int × Value)} {t t' : SetTable}
theorem dis_perm {l m : List (Int × Value)} (p : l.Perm m) : (l.Pairwise fun e f => ∀ k, knd.is k e.2 = true → knd.is k f.2 = true → False) ↔ m.Pairwise fun e f => ∀ k, knd.is k e.2 = true → knd.is k f.2 = true → False :=
  p.pairwise_iff fun h k a b => h k b a
/-- the same rows in another order, another table -/
theorem Lot.re (L : Lot knd S es t) (p : es'.toList.Perm es.toList) (fit : t'.fits es'.size = true) (ris : Ris t'.place.toList) (led : t'.led = t.led) : Lot knd S es' t' where
  el := fun e he => L.el e (p.mem_iff.mp he)
  dis := (dis_perm p).mpr L.dis
  mem := fun k => (L.mem k).trans ⟨fun ⟨e, he, q⟩ => ⟨e, p.mem_iff.mpr he, q⟩, fun ⟨e, he, q⟩ => ⟨e, p.mem_iff.mp he, q⟩⟩
  few := by
    have := p.length_eq
    rw [Array.length_toList, Array.length_toList] at this
    rw [this]
    exact L.few
  fit := fit
  ris := ris
  led := L.led.imp id fun z => led.trans z
/-- one row more -/
theorem Lot.more (L : Lot knd S es t) {k : κ} {x : Value} (hk : knd.is k x = true) (hx : x.scannable = true) (new : S k = false) (room : es.size + 1 < scanBound) (p : es'.toList.Perm (es.toList ++ [(knd.hash k, x)])) (fit : t'.fits es'.size = true) (ris : Ris t'.place.toList)
    (led : t'.led = t.led) : Lot knd (fun j => S j || decide (j = k)) es' t' where
  el := fun e he => by
    rcases List.mem_append.mp (p.mem_iff.mp he) with z | z
    · exact L.el e z
    · cases List.mem_singleton.mp z
      exact ⟨⟨k, hk, rfl⟩, hx⟩
  dis := by
    refine (dis_perm p).mpr (List.pairwise_append.mpr ⟨L.dis, List.pairwise_singleton _ _, fun e he f hf j a b => ?_⟩)
    cases List.mem_singleton.mp hf
    have e2 : j = k := by
      have := KeyKind.is_eq_decide hk j
      rw [b] at this
      exact of_decide_eq_true this.symm
    subst e2
    have := (L.mem j).mpr ⟨e, he, a⟩
    rw [new] at this
    cases this
  mem := fun j => by
    rw [Bool.or_eq_true, decide_eq_true_eq, L.mem j]
    constructor
    · rintro (⟨e, he, q⟩ | z)
      · exact ⟨e, p.mem_iff.mpr (List.mem_append_left _ he), q⟩
      · subst z
        exact ⟨_, p.mem_iff.mpr (List.mem_append_right _ (List.mem_singleton.mpr rfl)), hk⟩
    · rintro ⟨e, he, q⟩
      rcases List.mem_append.mp (p.mem_iff.mp he) with z | z
      · exact .inl ⟨e, z, q⟩
      · cases List.mem_singleton.mp z
        have := KeyKind.is_eq_decide hk j
        rw [q] at this
        exact .inr (of_decide_eq_true this.symm)
  few := by
    have := p.length_eq
    rw [Array.length_toList, List.length_append, Array.length_toList] at this
    rw [this]
    exact room
  fit := fit
  ris := ris
  led := L.led.imp id fun z => led.trans z
/-- at a stands the set S of n keys -/
def SetG (knd : PySem.KeyKind P w κ) (h : Heap) (a : Addr) (S : κ → Bool) (n : Nat) : Prop := ∃ o es ep t, h.get? a = some o ∧ o.ExactSet ∧ o.data = .set es ep t ∧ Lot knd S es t ∧ es.size = n
theorem SetG.setOf {h : Heap} {a : Addr} {n : Nat} (R : SetG knd h a S n) : h.SetOf knd a S n := by
  obtain ⟨o, es, ep, t, ho, hex, hd, L, hn⟩ := R
  exact ⟨o, es, ep, t, ho, hex, hd, L.el, L.mem, L.few, L.fit, hn⟩
theorem SetG.keep {h h' : Heap} {a : Addr} {n : Nat} (R : SetG knd h a S n) (k : ∀ o, h.get? a = some o → h'.get? a = some o) : SetG knd h' a S n := by
  obtain ⟨o, es, ep, t, ho, r⟩ := R
  exact ⟨o, es, ep, t, k o ho, r⟩
end
section
variable {κ : Type} [DecidableEq κ] {P : Program} {w : World} {knd : PySem.KeyKind P w κ} {A : Around} {E : Value → Shared → Prop} {s : Shared} {a : Addr} {S : κ → Bool}
theorem put_at {h : Heap} {o : Obj} {es es' : Array (Int × Value)} {ep : Nat} {t t' : SetTable} (ho : h.get? a = some o) (hd : o.data = .set es ep t) : (h.update a (Obj.putSet es' t')).get? a = some { o with data := .set es' (ep + 1) t' } := by
  have e := putSet_of es' t' hd
  have q := Heap.get?_update_self (Obj.putSet es' t') ho (by rw [e] <;> rfl)
  rw [e] at q
  exact q
theorem setG_tail {g : Bool → Sem Unit} (quiet : ∀ (b : Bool) (s₁ : Shared) (F : Unit → Shared → Prop), F () s₁ → wpAny (model P w) A (g b) F E s₁) {o : Obj} {es es1 : Array (Int × Value)} {ep : Nat} {t t1 : SetTable} (ho : s.heap.get? a = some o) (hex : o.ExactSet)
    (hd : o.data = .set es ep t) (L : Lot knd S es1 t1) {was : Bool} {F : Option Bool → Shared → Prop} (fin : ∀ h', Heap.SameBut a s.heap h' → SetG knd h' a S es1.size → F (some true) { s with heap := h' }) :
    wpAny (model P w) A (do
        storeSet a es1 t1
        if (!was && t1.tooFull) = true then do
            g (relayAll t1 es1 (SetTable.grown es1.size)).2.2
            storeSet a (relayAll t1 es1 (SetTable.grown es1.size)).1 (relayAll t1 es1 (SetTable.grown es1.size)).2.1
            pure (some true)
          else pure (some true)) F E s := by
  have at1 := put_at (es' := es1) (t' := t1) ho hd
  have but1 := Heap.SameBut.update s.heap a (Obj.putSet es1 t1)
  refine wpAny_bind (wpAny_storeSet_of ho hd ?_ (fits_of_scanBound L.few))
  split
  · have L2 := L.re (relayAll_perm t1 es1 (SetTable.grown es1.size)) (relayAll_fits t1 es1 (SetTable.grown es1.size)) (relayAll_ris t1 es1 (SetTable.grown es1.size)) (relayAll_led t1 es1 (SetTable.grown es1.size))
    have len := (relayAll_perm t1 es1 (SetTable.grown es1.size)).length_eq
    rw [Array.length_toList, Array.length_toList] at len
    generalize relayAll t1 es1 (SetTable.grown es1.size) = Z at L2 len ⊢
    refine wpAny_bind (quiet _ _ _ (wpAny_bind (wpAny_storeSet_of at1 rfl (wpAny_pure (fin _ (but1.trans (Heap.SameBut.update _ a _)) ?_)) (fits_of_scanBound L2.few))))
    exact ⟨_, Z.1, _, Z.2.1, put_at at1 rfl, hex, rfl, L2, len⟩
  · exact wpAny_pure (fin _ but1 ⟨_, es1, _, t1, at1, hex, rfl, L, rfl⟩)
theorem setG_addH {n : Nat} {k : κ} {x : Value} {Q : Bool → Shared → Prop} (hk : knd.is k x = true) (hx : x.scannable = true) (R : SetG knd s.heap a S n) (room : n + 1 < scanBound)
    (hQ : ∀ h', Heap.SameBut a s.heap h' → SetG knd h' a (fun j => S j || decide (j = k)) (if S k = true then n else n + 1) → Q (!S k) { s with heap := h' }) : wpAny (model P w) A (setAddHashed a x (knd.hash k)) Q E s := by
  obtain ⟨o, es, ep, t, ho, hex, hd, L, hn⟩ := R
  unfold setAddHashed setAddHashedIn
  refine wpAny_holding (wpAny_bind (wpAny_setState_of ho hd L.fit ?_))
  dsimp only
  rw [byScan_of hx L.few L.el, if_pos rfl]
  unfold setAddByScan
  refine wpAny_bind (wpAny_bind (wpAny_rule (wpAny_bind (wpAny_setScan_of hk ho hd L.fit L.el ?_))))
  cases there : List.findIdx? (fun e => knd.is k e.2) es.toList with
  | some j =>
    obtain ⟨lt, yes, _⟩ := List.findIdx?_eq_some_iff_getElem.mp there
    have old : S k = true := (L.mem k).mpr ⟨_, List.getElem_mem lt, yes⟩
    have q := hQ s.heap (Heap.SameBut.refl a s.heap)
    rw [old] at q
    refine wpAny_pure (wpAny_pure (q ?_))
    have same : (fun j => S j || decide (j = k)) = S := by
      funext i
      by_cases z : i = k
      · subst z
        rw [old] <;> rfl
      · rw [decide_eq_false z, Bool.or_false]
    rw [same, if_pos rfl]
    exact ⟨o, es, ep, t, ho, hex, hd, L, hn⟩
  | none =>
    have new : S k = false := by
      cases e : S k with
      | false => rfl
      | true =>
        obtain ⟨r, hr, yes⟩ := (L.mem k).mp e
        have no := List.findIdx?_eq_none_iff.mp there r hr
        rw [yes] at no
        cases no
    have q := hQ
    rw [new] at q
    have quiet : ∀ (b : Bool) (s₁ : Shared) (F : Unit → Shared → Prop), F () s₁ → wpAny (model P w) A (match b with | true => rule "set.scan.the-table-gave-way" | false => pure ()) F E s₁ := fun b s₁ F z => by
      cases b
      · exact wpAny_pure z
      · exact wpAny_rule z
    have len := (layNew_perm t es (knd.hash k) x).length_eq
    have pm := layNew_perm t es (knd.hash k) x
    rw [Array.toList_push] at pm
    rw [Array.length_toList, Array.length_toList, Array.size_push] at len
    have fit := layNew_fits t es (knd.hash k) x
    have mk : ∀ {t1 : SetTable}, t1.fits (layNew t es (knd.hash k) x).1.size = true → Ris t1.place.toList → t1.led = t.led → Lot knd (fun j => S j || decide (j = k)) (layNew t es (knd.hash k) x).1 t1 := fun f r l => L.more hk hx new (by omega) pm f r l
    have ris := layNew_ris t es (knd.hash k) x L.ris
    have led := layNew_led t es (knd.hash k) x
    dsimp only
    generalize layNew t es (knd.hash k) x = Z at mk ris led fit len pm ⊢
    obtain ⟨es1, t1, was, gave⟩ := Z
    dsimp only at mk ris led fit len pm ⊢
    have fin : ∀ h', Heap.SameBut a s.heap h' → SetG knd h' a (fun j => S j || decide (j = k)) es1.size → Q true { s with heap := h' } := fun h' b r => by
      refine q h' b ?_
      rw [if_neg Bool.false_ne_true]
      have e : es1.size = n + 1 := by omega
      rw [← e]
      exact r
    refine wpAny_bind (quiet _ _ _ ?_)
    split
    · rw [hashByValue_scannable 8 hx]
      refine wpAny_bind (wpAny_pure (setG_tail quiet ho hex hd (mk ?_ ?_ ?_) fun h' b r => ?_))
      · split
        · exact fit
        · exact SetTable.fits_plain_off fit
      · split <;> exact ris
      · split <;> exact led
      · exact wpAny_pure (fin h' b r)
    · refine wpAny_bind (wpAny_pure ?_)
      rw [if_pos rfl]
      exact setG_tail quiet ho hex hd (mk fit ris led) fun h' b r => wpAny_pure (fin h' b r)
end

/-! ### texts -/
abbrev txtKind (P : Program) (w : World) : PySem.KeyKind P w Str := PySem.strKind P w
section
variable {P : Program} {w : World} {A : Around} {E : Value → Shared → Prop} {s : Shared} {a : Addr}
/-- s.add(x) -/
theorem setS_add {S : Str → Bool} {n : Nat} {x : Str} {t0 : Tok} {Q : Value → Shared → Prop} (R : SetG (txtKind P w) s.heap a S n) (room : n + 1 < scanBound)
    (hQ : ∀ h', Heap.SameBut a s.heap h' → SetG (txtKind P w) h' a (fun j => S j || decide (j = x)) (if S x = true then n else n + 1) → Q .none { s with heap := h', toks := s.toks + 1 }) : wpAny (model P w) A (call (.builtin "set.add") [.ref a, .str x t0]) Q E s := by
  have hk : (txtKind P w).is x (.str x t0) = true := strKind_is P w x t0
  refine wpAny_call_entry F.slot_set_add R.setOf.typeIs F.entry_set_add ?_ (F.args_set_add_2 _ _)
  unfold Builtin.«set.add» Builtin.Frozenset.oneOther Builtin.Frozenset.addrOf setAdd
  refine wpAny_bind (wpAny_pure ?_)
  refine wpAny_bind (wpAny_holding (wpAny_bind ((txtKind P w).pyHash hk ?_)))
  refine setG_addH (s := { s with toks := s.toks + 1 }) hk rfl R room fun h' b r => ?_
  show wpAny _ _ (ret Value.none) _ _ _
  exact wpAny_pure ⟨_, rfl, hQ h' b r⟩
theorem lot_nil : Lot (txtKind P w) (fun _ => false) #[] (.fresh 0 0 (!w.params.followText "set-order")) where
  el := fun e he => nomatch he
  dis := .nil
  mem := fun k => ⟨(fun z => nomatch z), fun ⟨e, he, _⟩ => nomatch he⟩
  few := by decide
  fit := by rfl
  ris := .nil
  led := by
    show _ ∨ (!w.params.followText "set-order") = true
    cases w.params.followText "set-order"
    · exact .inr rfl
    · exact .inl rfl
theorem setS_fresh (P : Program) {h : Heap} (w : World) : SetG (txtKind P w) (h.push { cls := .type "set", dict := none, data := .set #[] 0 (.fresh 0 0 (!w.params.followText "set-order")) }) h.objs.size (fun _ => false) 0 :=
  ⟨_, #[], 0, _, Heap.get?_push_size _ rfl, ⟨rfl, rfl, rfl⟩, rfl, lot_nil, rfl⟩
def txtOf : Value → Str
  | .str x _ => x
  | _ => Str.empty
theorem strs_raw : ∀ vs : List Value, (∀ v ∈ vs, ∃ x t, v = Value.str x t) → StrsAre vs (vs.map txtOf)
  | [], _ => .nil
  | v :: vs, h => by
    obtain ⟨x, t, rfl⟩ := h v List.mem_cons_self
    exact .cons x t (strs_raw vs fun u hu => h u (List.mem_cons_of_mem _ hu))
/-- sorted(s) -/
theorem sorted_setS {S : Str → Bool} {n : Nat} {Q : Value → Shared → Prop} (R : SetG (txtKind P w) s.heap a S n) (hh : A.handled = none) (h64 : n < 64)
    (hQ : ∀ s' p (out : Array Value) (c : Nat) (ys : List Str), (∀ b o, s.heap.get? b = some o → s'.heap.get? b = some o) → s'.gens = s.gens → s'.os = s.os → s.heap.objs.size ≤ p →
      s'.heap.get? p = some (seqObj "list" out c) → StrsAre out.toList ys → sortedS ys = true → ys.Nodup → (∀ x, x ∈ ys ↔ S x = true) → ys.length = n → Q (.ref p) s') : wpAny (model P w) A (call (.builtin "sorted") [.ref a]) Q E s := by
  obtain ⟨o, es, ep, t, ho, hex, hd, L, hn⟩ := R
  refine Calls.call_function_entry kind_sorted plain_sorted entry_sorted (args_sorted1 _) ?_
  unfold Builtin.«sorted»
  refine wpAny_bind (m := checkCount "sorted" 1 1 _) (wpAny_pure (wpAny_bind (collect_set (A := A.in1) hh ⟨o, ho, hex.1, hd⟩ L.fit L.few L.ris L.led fun s1 vs keeps room gens1 os1 pm => ?_)))
  have len : vs.length = n := by rw [pm.length_eq, List.length_map, Array.length_toList]; exact hn
  have good : ∀ e ∈ es.toList, ∃ x t, e.2 = Value.str x t ∧ (txtKind P w).is x e.2 = true := fun e he => by
    obtain ⟨⟨k, hk, _⟩, _⟩ := L.el e he
    obtain ⟨t, e2⟩ := Value.isStrOf_shape hk
    exact ⟨k, t, e2, hk⟩
  have texts := strs_raw vs fun v hv => by
    obtain ⟨e, he, e2⟩ := List.mem_map.mp (pm.mem_iff.mp hv)
    obtain ⟨x, t, q, _⟩ := good e he
    exact ⟨x, t, by rw [← e2]; exact q⟩
  have pk : (vs.map txtOf).Perm (es.toList.map fun e => txtOf e.2) := by
    have q := pm.map txtOf
    rw [List.map_map] at q
    exact q
  have is_txt : ∀ e ∈ es.toList, ∀ x, (txtKind P w).is x e.2 = true ↔ txtOf e.2 = x := fun e he x => by
    obtain ⟨y, t, q, hy⟩ := good e he
    have z := KeyKind.is_eq_decide hy x
    rw [z, q]
    show decide (x = y) = true ↔ y = x
    rw [decide_eq_true_eq]
    exact ⟨Eq.symm, Eq.symm⟩
  have nd : (es.toList.map fun e => txtOf e.2).Nodup := by
    refine List.pairwise_map.mpr (List.Pairwise.imp_of_mem (fun {e f} he hf h z => ?_) L.dis)
    exact h _ ((is_txt e he _).mpr rfl) ((is_txt f hf _).mpr z.symm)
  have mem : ∀ x, x ∈ (es.toList.map fun e => txtOf e.2) ↔ S x = true := fun x => by
    rw [L.mem x, List.mem_map]
    exact ⟨fun ⟨e, he, z⟩ => ⟨e, he, (is_txt e he x).mpr z⟩, fun ⟨e, he, z⟩ => ⟨e, he, (is_txt e he x).mp z⟩⟩
  refine wpAny_bind (wpAny_newList ?_ (by rw [len, sizeLine_eq]; omega))
  have lies : (s1.heap.push (seqObj "list" vs.toArray 0)).get? s1.heap.objs.size = some (seqObj "list" vs.toArray 0) := Heap.get?_push_size _ rfl
  refine wpAny_bind (wpAny_holding (wpAny_call_entry slot_list_sort ⟨_, lies, rfl⟩ entry_list_sort (list_sort_treeK PyProof.Rows.strKind_oneLt lies texts.keysOf (fun v₁ v₂ rest e => keyKind_strs (by rw [← e]; exact texts)) (by rw [len]; exact h64) fun st' hp hs => ?_) (args_list_sort _)))
  obtain ⟨ys, g1, g2, g3⟩ := sorted_out_str texts hp hs
  obtain ⟨c, hc⟩ := sortedHeap_at (vs := vs) (out := (arrOf st').map (·.2)) lies
  have pn := g2.trans pk
  refine ⟨_, rfl, wpAny_pure ⟨_, rfl, hQ _ s1.heap.objs.size _ c ys (fun b u e => ?_) gens1 os1 room hc g1 g3 (pn.nodup_iff.mpr nd) (fun x => by rw [pn.mem_iff, mem x]) ?_⟩⟩
  · have q := keeps b u e
    have lt := Heap.lt_size q
    show (sortedHeap (s1.heap.push (seqObj "list" vs.toArray 0)) s1.heap.objs.size vs ((arrOf st').map (·.2))).get? b = some u
    rw [sortedHeap_old (Nat.ne_of_lt lt) (by rw [size_push']; exact Nat.lt_succ_of_lt lt)]
    exact Heap.get?_push_of_some _ q
  · rw [pn.length_eq, List.length_map, Array.length_toList]
    exact hn
end
/-! ### as tracked things -/
def SetSO (P : Program) (w : World) (a : Addr) (S : Str → Bool) (n : Nat) : HO := .ext fun h => SetG (txtKind P w) h a S n
theorem setSO_new {w : World} {P : Program} {H : Hp} {h : Heap} {a : Addr} {S : Str → Bool} {n : Nat} (R : SetG (txtKind P w) h a S n) : ObjOk P w H h a (SetSO P w a S n) := by
  have ⟨o, _, _, _, ho, _⟩ := R
  exact ⟨R, ⟨o, ho⟩, fun h1 h2 p k => SetG.keep p k⟩
section
variable {X : Cx} {pins : List (Addr × Obj)} {σ : L2.St} {H : Hp} {s : Shared} {S : Str → Bool} {n : Nat}
theorem setSO_get {a : Addr} (I : Inv X pins σ H s) (ha : H a = some (SetSO X.prog X.w a S n)) : SetG (txtKind X.prog X.w) s.heap a S n := (I.hok a _ ha).1
theorem addS_ok {E : Value → Shared → Prop} {D : Addr} {y : Str} {t0 : Tok} {Q : Value → Shared → Prop} (I : Inv X pins σ H s) (hD : H D = some (SetSO X.prog X.w D S n)) (room : n + 1 < scanBound)
    (h : ∀ s', Inv X pins σ (upd H D (SetSO X.prog X.w D (fun j => S j || decide (j = y)) (if S y = true then n else n + 1))) s' → Q .none s') : wpAny (model X.prog X.w) X.A (call (.builtin "set.add") [.ref D, .str y t0]) Q E s := by
  refine setS_add (setSO_get I hD) room fun h' but new => ?_
  have ⟨o, _, _, _, ho, _⟩ := new
  exact h _ (I.write (e := D) (t' := s.toks + 1) (by rw [hD]; trivial) (.inl rfl) (fun b u hb hu => (but.2 b hb).trans hu) ⟨o, ho⟩ (setSO_new new))
end
/-- sorted(a set of texts) -/
def rSortedTS (P : Program) (w : World) : List V → Hp → VK → Prop := fun vs H Q => ∃ (a : Addr) (S : Str → Bool) (n : Nat), vs = [V.ref a] ∧ H a = some (SetSO P w a S n) ∧ n < 64 ∧
  ∀ (ys : List Str) (p : Addr), sortedS ys = true → ys.Nodup → (∀ x, x ∈ ys ↔ S x = true) → ys.length = n → H p = none → Q (.ref p) (upd H p (.lst (ys.map V.str)))
theorem cr_sortedTS {X : Cx} (hc : X.calm = true) : CallR X (.builtin "sorted") (rSortedTS X.prog X.w) := by
  intro pins s σ H vs us Q I r h
  obtain ⟨a, S, n, rfl, ha, h64, q⟩ := h
  rw [Vals.ref1 r]
  refine sorted_setS (setSO_get I ha) (I.ok.hd hc) h64 fun s' p out c ys keeps gens os hp at_ texts srt nd mem len => ?_
  have few : (ys.map V.str).length ≤ sizeLine := by rw [List.length_map, len, sizeLine_eq]; omega
  have hn : H p = none := I.hok.fresh hp
  have J : Inv X pins σ (upd H p (.lst (ys.map V.str))) { s with heap := s'.heap, gens := s'.gens, drawn := s'.drawn, toks := s'.toks } :=
    I.call (ch := []) (Un.laid keeps hp hn) (I.hok.laid keeps hp ⟨few, out.toList, c, vals_of_strs texts, at_⟩) (by rw [gens]; exact I.bare) (fun _ z => nomatch z)
  have e : s' = { s with heap := s'.heap, gens := s'.gens, drawn := s'.drawn, toks := s'.toks } := by
    cases s'
    cases s
    cases os
    rfl
  rw [e]
  exact ⟨.ref p, _, J, rfl, q ys p srt nd mem len hn⟩
end PX
/-! {x for .. in .. for x in ..}: the members are texts. -/
namespace PX
open PySem PySem.Spec PyProof.Rows L2
/-- a set comprehension with two sources -/
abbrev two (e a0 b0 : Expr) (c0 : List Expr) (a1 b1 : Expr) (c1 : List Expr) (sc : Scope) (ps : Pos) : Expr := .SetComp e [⟨a0, b0, c0, 0⟩, ⟨a1, b1, c1, 0⟩] sc ps
section
variable {e a0 b0 a1 b1 : Expr} {c0 c1 : List Expr} {sc : Scope} {ps : Pos} {it acc : Value} {v : Env}
theorem two_outer : compTurn (two e a0 b0 c0 a1 b1 c1 sc ps) 0 it acc v = (do
      standAt b0.pos
      match ← pyNext it with
      | none => pure (.done .next)
      | some y =>
        letOwnedTupleGo a0 it y
        assign a0 v y
        let mut yes := true
        for q in c0 do
          if yes then yes ← isTrue q v (eval q v)
        if yes then
          let y ← eval b1 v
          standAt b1.pos
          let y ← foldedSetIterable b1 v y
          let _ ← runOwn (.compStart (two e a0 b0 c0 a1 b1 c1 sc ps) 1 (← holding [y] (pyIter y)) acc v) v
        again (.compLoop (two e a0 b0 c0 a1 b1 c1 sc ps) 0 it acc v)) := by rfl
theorem two_inner : compTurn (two e a0 b0 c0 a1 b1 c1 sc ps) 1 it acc v = (do
      standAt b1.pos
      match ← pyNext it with
      | none => pure (.done .next)
      | some y =>
        letOwnedTupleGo a1 it y
        assign a1 v y
        let mut yes := true
        for q in c1 do
          if yes then yes ← isTrue q v (eval q v)
        if yes then
          (do let y ← eval e v; standAt e.pos; let _ ← call (.builtin "set.add") [acc, y])
        again (.compLoop (two e a0 b0 c0 a1 b1 c1 sc ps) 1 it acc v)) := by rfl
end

section
variable {prog : Program} {w : World} {A : Around} {R : Result → Shared → Prop} {s : Shared} {e a0 b0 a1 b1 : Expr} {c0 c1 : List Expr} {sc : Scope} {ps : Pos} {it acc : Value} {v : Env}
/-- how a loop is left by an error -/
abbrev Out (prog : Program) (w : World) (A : Around) (v : Env) (R : Result → Shared → Prop) : Value → Shared → Prop := notedBy (model prog w) A v fun x s' => R (.error x) s'
/-- the tests of one source -/
abbrev tests (c : List Expr) (v : Env) : Sem Bool := forIn c true fun q r => if r = true then do let yes ← isTrue q v (eval q v); pure (ForInStep.yield yes) else pure (ForInStep.yield r)
theorem loop_outer (plain : ∀ y, foldedSetIterable b1 v y = pure y) (J : Nat → Shared → Prop)
    (turn : ∀ m s, J m s → wpAny (model prog w) A (pyNext it) (fun r s1 => match r with
      | none => R (.ok .next) s1
      | some y => wpAny (model prog w) A (letOwnedTupleGo a0 it y) (fun _ s2 => wpAny (model prog w) A (assign a0 v y) (fun _ s3 => wpAny (model prog w) A (tests c0 v) (fun yes s4 =>
            if yes = true then wpAny (model prog w) A (eval b1 v) (fun z s5 => wpAny (model prog w) A (pyIter z) (fun i1 s6 =>
              codeAny (model prog w) A (.compStart (two e a0 b0 c0 a1 b1 c1 sc ps) 1 i1 acc v) (fun r s' => match r with
                | .ok _ => ∃ k, k < m ∧ J k s'
                | .error _ => False) s6) (Out prog w A v R) s5) (Out prog w A v R) s4
            else ∃ k, k < m ∧ J k s4) (Out prog w A v R) s3) (Out prog w A v R) s2) (Out prog w A v R) s1) (Out prog w A v R) s)
    (m : Nat) (h : J m s) : codeAny (model prog w) A (.compLoop (two e a0 b0 c0 a1 b1 c1 sc ps) 0 it acc v) R s := by
  refine codeAny_loop rfl J (fun m s hJ => ?_) m h
  show wpAny _ A ((compTurn (two e a0 b0 c0 a1 b1 c1 sc ps) 0 it acc v).onRaise (fun x => do noteFrame x v; theTreesLotGoes x)) _ _ s
  rw [two_outer]
  refine wpAny_noted (wpAny_bind (wpAny_standAt (wpAny_bind (wpAny_mono (turn m s hJ) (fun r s1 h1 => ?_) fun _ _ z => z))))
  cases r with
  | none => exact wpAny_pure h1
  | some y =>
    refine wpAny_bind (wpAny_mono h1 (fun _ s2 h2 => wpAny_bind (wpAny_mono h2 (fun _ s3 h3 => wpAny_bind (wpAny_mono h3 (fun yes s4 h4 => ?_) fun _ _ z => z)) fun _ _ z => z)) fun _ _ z => z)
    cases yes with
    | false => exact wpAny_pure ⟨rfl, h4⟩
    | true =>
      refine wpAny_bind (wpAny_mono h4 (fun z s5 h5 => wpAny_bind (wpAny_standAt (wpAny_bind (wpAny_of_eq (plain z) (wpAny_bind (wpAny_holding (wpAny_mono h5 (fun i1 s6 h6 => ?_) fun _ _ z => z))))))) fun _ _ z => z)
      refine wpAny_bind (wpAny_runOwn ?_)
      rw [Around.mark_none]
      refine codeAny_mono h6 fun r s' hr => ?_
      cases r with
      | error x => exact hr.elim
      | ok f =>
        first
          | exact wpAny_pure ⟨rfl, hr⟩
          | exact wpAny_bind (wpAny_pure (wpAny_pure ⟨rfl, hr⟩))
theorem loop_inner (J : Nat → Shared → Prop)
    (turn : ∀ m s, J m s → wpAny (model prog w) A (pyNext it) (fun r s1 => match r with
      | none => R (.ok .next) s1
      | some y => wpAny (model prog w) A (letOwnedTupleGo a1 it y) (fun _ s2 => wpAny (model prog w) A (assign a1 v y) (fun _ s3 => wpAny (model prog w) A (tests c1 v) (fun yes s4 =>
            if yes = true then wpAny (model prog w) A (eval e v) (fun z s5 => wpAny (model prog w) A (call (.builtin "set.add") [acc, z]) (fun _ s6 => ∃ k, k < m ∧ J k s6) (Out prog w A v R) s5) (Out prog w A v R) s4
            else ∃ k, k < m ∧ J k s4) (Out prog w A v R) s3) (Out prog w A v R) s2) (Out prog w A v R) s1) (Out prog w A v R) s)
    (m : Nat) (h : J m s) : codeAny (model prog w) A (.compLoop (two e a0 b0 c0 a1 b1 c1 sc ps) 1 it acc v) R s := by
  refine codeAny_loop rfl J (fun m s hJ => ?_) m h
  show wpAny _ A ((compTurn (two e a0 b0 c0 a1 b1 c1 sc ps) 1 it acc v).onRaise (fun x => do noteFrame x v; theTreesLotGoes x)) _ _ s
  rw [two_inner]
  refine wpAny_noted (wpAny_bind (wpAny_standAt (wpAny_bind (wpAny_mono (turn m s hJ) (fun r s1 h1 => ?_) fun _ _ z => z))))
  cases r with
  | none => exact wpAny_pure h1
  | some y =>
    refine wpAny_bind (wpAny_mono h1 (fun _ s2 h2 => wpAny_bind (wpAny_mono h2 (fun _ s3 h3 => wpAny_bind (wpAny_mono h3 (fun yes s4 h4 => ?_) fun _ _ z => z)) fun _ _ z => z)) fun _ _ z => z)
    cases yes with
    | false => exact wpAny_pure ⟨rfl, h4⟩
    | true => exact wpAny_bind (wpAny_bind (wpAny_mono h4 (fun z s5 h5 => wpAny_bind (wpAny_standAt (wpAny_bind (wpAny_mono h5 (fun _ s6 h6 => wpAny_pure (wpAny_pure ⟨rfl, h6⟩)) fun _ _ z => z)))) fun _ _ z => z))
theorem start_inner (h0 : codeAny (model prog w) A (.compLoop (two e a0 b0 c0 a1 b1 c1 sc ps) 1 it acc v) R s)
    (h : wpAny (model prog w) A (pyIter it) (fun it' s' => codeAny (model prog w) A (.compLoop (two e a0 b0 c0 a1 b1 c1 sc ps) 1 it' acc v) R s') (Out prog w A v R) s) :
    codeAny (model prog w) A (.compStart (two e a0 b0 c0 a1 b1 c1 sc ps) 1 it acc v) R s := by
  refine codeAny_of_tree ?_
  show wpAny _ _ ((compStart (two e a0 b0 c0 a1 b1 c1 sc ps) 1 it acc v).onRaise (fun x => do noteFrame x v; standAt theWindowsPlace)) _ _ s
  refine wpAny_notedAt ?_
  unfold compStart
  show wpAny _ _ (ask >>= _) _ _ s
  refine wpAny_bind (wpAny_askSetting (wpAny_ite ?_))
  split
  · first
      | exact wpAny_bind (wpAny_pure (wpAny_pure (And.intro rfl h0)))
      | exact wpAny_pure (And.intro rfl h0)
  · refine wpAny_bind (wpAny_rule ?_)
    show wpAny _ _ (standAt b1.pos >>= _) _ _ s
    exact wpAny_bind (wpAny_standAt (wpAny_bind (wpAny_mono h (fun it' s' h' => wpAny_pure (And.intro rfl h')) fun _ _ z => z)))
end

section
variable {X : Cx}
/-- {x for .. in .. if .. for x in .. if ..}: D the new set; behind the first source's store and tests the second source's own loop, from which Nx is reached -/
def tSc2 (P : Program) (w : World) (wi : TI) (g : TG) (tt : TT) (wi1 : TI) (g1 : TG) (tt1 : TT) (te : TE) (vs vs1 : List Nat) : TE := fun σ H Q => wi σ H fun J H1 => ∀ D, H1 D = none → ∃ W : Nat → Nat → Hp → Prop, (∃ m, W 0 m (upd H1 D (SetSO P w D (fun _ => false) 0))) ∧ ∀ i m H, W i m H →
  (J.stop i H ∧ Q (.ref D) H) ∨ (J.go i H ∧ ∃ Nx : Hp → Prop, (∀ H', Nx H' → ∃ m', m' < m ∧ W (i + 1) m' H') ∧ ∀ x H', J.yld i H x H' → g x (wipe σ vs) H' fun σ2 H2 => wipe σ2 vs = wipe σ vs ∧ tt σ2 H2 fun b H3 =>
    if b = true then wi1 σ2 H3 fun J1 H4 => ∃ W1 : Nat → Nat → Hp → Prop, (∃ m, W1 0 m H4) ∧ ∀ j k H, W1 j k H →
      (J1.stop j H ∧ Nx H) ∨ (J1.go j H ∧ ∃ Nx1 : Hp → Prop, (∀ H', Nx1 H' → ∃ k', k' < k ∧ W1 (j + 1) k' H') ∧ ∀ x H', J1.yld j H x H' → g1 x (wipe σ2 vs1) H' fun σ3 H5 => wipe σ3 vs1 = wipe σ2 vs1 ∧ tt1 σ3 H5 fun b H6 =>
        if b = true then te σ3 H6 fun y H7 => ∃ (z : Str) (S : Str → Bool) (n : Nat), y = .str z ∧ H7 D = some (SetSO P w D S n) ∧ n + 1 < scanBound ∧ Nx1 (upd H7 D (SetSO P w D (fun j => S j || decide (j = z)) (if S z = true then n else n + 1))) else Nx1 H6)
    else Nx H3)
theorem pe_sc2 {e a0 b0 a1 b1 : Expr} {c0 c1 : List Expr} {sc : Scope} {own : List (Str × Nat)} {vs1 : List Nat} {ps : Pos} {wi wi1 : TI} {g g1 : TG} {tt tt1 : TT} {te : TE} (hc : X.calm = true) (hN : X.N.Nodup) (hi : PI X a0 b0 wi) (ok : BlkOk X.N X.env.scope sc own) (hv : ∀ i ∈ vs1, i ∈ own.map (·.2))
    (hg : ∀ (s : Shared) (H : Hp) (C : Addr) (cl : List (Str × Addr)) (fp : List Addr), PG (X.blk s H sc (compEnvC sc cl C X.env) fp) a0 g) (ht : ∀ (s : Shared) (H : Hp) (C : Addr) (cl : List (Str × Addr)) (fp : List Addr), PTs (X.blk s H sc (compEnvC sc cl C X.env) fp) c0 tt) (hi1 : ∀ (s : Shared) (H : Hp) (C : Addr) (cl : List (Str × Addr)) (fp : List Addr), PI (X.blk s H sc (compEnvC sc cl C X.env) fp) a1 b1 wi1) (hg1 : ∀ (s : Shared) (H : Hp) (C : Addr) (cl : List (Str × Addr)) (fp : List Addr), PG (X.blk s H sc (compEnvC sc cl C X.env) fp) a1 g1) (ht1 : ∀ (s : Shared) (H : Hp) (C : Addr) (cl : List (Str × Addr)) (fp : List Addr), PTs (X.blk s H sc (compEnvC sc cl C X.env) fp) c1 tt1) (he : ∀ (s : Shared) (H : Hp) (C : Addr) (cl : List (Str × Addr)) (fp : List Addr), PE (X.blk s H sc (compEnvC sc cl C X.env) fp) e te)
    (plain : ∀ x, foldedSetIterable b0 X.env x = pure x := by intro _; rfl) (plain1 : ∀ env x, foldedSetIterable b1 env x = pure x := by intro _ _; rfl) : PE X (.SetComp e [⟨a0, b0, c0, 0⟩, ⟨a1, b1, c1, 0⟩] sc ps) (tSc2 X.prog X.w wi g tt wi1 g1 tt1 te (own.map (·.2)) vs1) := by
  refine ⟨fun pins s σ H Q I h => ?_⟩
  rw [PpSet.eval_SetComp]
  have cells : ∀ y ∈ sc.names, y.2 = .free → ∃ c, X.env.cells.lookup y.1 = some c := fun y hy z => (ok.free y hy z).elim (fun k => I.ok.has _ (.inl k)) fun k => I.ok.has _ (.inr k)
  refine wpAny_comprehension_free (use := none) rfl plain (closure_ok cells) ok.kind (fun y hy z => by rw [ok.uniq y hy, z]) (thn (hi.run pins s σ H _ I h) fun xv s1 hx => thn hx fun itv s2 got => ?_)
  obtain ⟨it, fp, tn, J, H2, rfl, I2, T, st2, f2, q⟩ := got
  refine PpSet.newSet_ok (newEnv_comp ?_)
  generalize hD : s2.heap.objs.size = D
  obtain ⟨W, ⟨m0, w0⟩, turn⟩ := q D (I2.hok.fresh (Nat.le_of_eq hD))
  -- the new set
  generalize hs3 : ({ s2 with heap := s2.heap.push { cls := .type "set", dict := none, data := .set #[] 0 (.fresh 0 0 (!X.w.params.followText "set-order")) } } : Shared) = s3
  generalize hH3 : upd H2 D (SetSO X.prog X.w D (fun _ => false) 0) = H3 at w0
  have I3 : Inv X pins σ H3 s3 := by
    rw [← hs3, ← hH3]
    refine I2.laid (t' := s2.toks) (fun b o z => Heap.get?_push_of_some _ z) (Nat.le_of_eq hD) ?_
    rw [← hD]
    exact setSO_new (setS_fresh X.prog X.w)
  have heap3 : s3.heap = s2.heap.push { cls := .type "set", dict := none, data := .set #[] 0 (.fresh 0 0 (!X.w.params.followText "set-order")) } := by rw [← hs3]
  have f3 : ∀ b ∈ fp, FpOk X pins H3 b ∧ b < s3.heap.objs.size := fun b hb => by
    obtain ⟨o, lies, _⟩ := T.obj _ _ st2 b hb
    have lt := Heap.lt_size lies
    refine ⟨⟨?_, (f2 b hb).2⟩, by rw [heap3, Heap.size_push]; exact Nat.lt_succ_of_lt lt⟩
    rw [← hH3, upd_ne (by rw [← hD]; exact Nat.ne_of_lt lt)]
    exact (f2 b hb).1
  have st3 : tn 0 s3.heap := T.keep _ _ _ st2 fun b _ o z => by rw [heap3]; exact Heap.get?_push_of_some _ z
  have I4 := block_start I3 ok hN f3
  show codeAny _ _ (.compStart (two e a0 b0 c0 a1 b1 c1 sc ps) 0 (.ref it) (.ref D) (compEnvC sc (cellsFrom (s3.heap.objs.size + 1) sc.names (cloFrom X.env.cells sc.names [])) s3.heap.objs.size X.env)) (compPost (model X.prog X.w) X.A X.xe none (EP X pins σ Q) (.ref D) s3.heap.objs.size) { s3 with heap := pushCells (s3.heap.push { cls := .type "dict", data := .dict #[] }) sc.names }
  generalize hcl : cellsFrom (s3.heap.objs.size + 1) sc.names (cloFrom X.env.cells sc.names []) = cl at I4 ⊢
  have pg := hg s3 H3 s3.heap.objs.size cl fp
  have pt := ht s3 H3 s3.heap.objs.size cl fp
  have pi1 := hi1 s3 H3 s3.heap.objs.size cl fp
  have pg1 := hg1 s3 H3 s3.heap.objs.size cl fp
  have pt1 := ht1 s3 H3 s3.heap.objs.size cl fp
  have pe := he s3 H3 s3.heap.objs.size cl fp
  generalize hce : compEnvC sc cl s3.heap.objs.size X.env = ce at I4 pg pt pi1 pg1 pt1 pe ⊢
  have cL : ce.locals = s3.heap.objs.size := by subst hce; rfl
  generalize hs4 : ({ s3 with heap := pushCells (s3.heap.push { cls := .type "dict", data := .dict #[] }) sc.names } : Shared) = s4 at I4 ⊢
  have st4 : tn 0 s4.heap := T.keep _ _ _ st3 fun b _ o z => by rw [← hs4]; exact pushCells_keeps _ _ _ _ (Heap.get?_push_of_some _ z)
  have steady : ∀ {τ : L2.St} {K' : Hp} {r : Shared}, Inv (X.blk s3 H3 sc ce fp) [] τ K' r → (∀ b ∈ fp, K' b = none) → ∀ b ∈ fp, FpOk (X.blk s3 H3 sc ce fp) [] K' b := fun {τ K' r} J' hn b hb =>
    ⟨hn b hb, (J'.ok.exf b hb).1, J'.ok.exfs b hb, .inl hb, fun x c z => (J'.ok.exf b hb).2 x c z, fun p hp => absurd (show p ∈ ([] : List (Addr × Obj)) ++ [] from hp) (by simp)⟩
  have loop : codeAny (model X.prog X.w) X.A (.compLoop (two e a0 b0 c0 a1 b1 c1 sc ps) 0 (.ref it) (.ref D) ce) (compPost (model X.prog X.w) X.A X.xe none (EP X pins σ Q) (.ref D) s3.heap.objs.size) s4 := by
    refine loop_outer (plain1 ce) (fun n r => ∃ i K', Inv (X.blk s3 H3 sc ce fp) [] (wipe σ (own.map (·.2))) K' r ∧ tn i r.heap ∧ (∀ b ∈ fp, K' b = none) ∧ W i n K') ?_ m0 ⟨0, H3, I4, st4, fun b hb => (f3 b hb).1.1, w0⟩
    rintro n s5 ⟨i, H5, I5, st5, n5, w5⟩
    rcases turn i n H5 w5 with ⟨stop, last⟩ | ⟨go, Nx, hNx, step⟩
    · refine thnF (T.done (X.blk s3 H3 sc ce fp) rfl rfl rfl hc i [] s5 _ H5 (fun _ _ => False) I5 (steady I5 n5) st5 stop) fun r s6 ⟨hr, I6⟩ => ?_
      subst hr
      have I7 : Inv X pins σ H5 s6 := I3.call' (ch := fp) I6.os I6.base I6.hok I6.bare fun b hb => ⟨(f3 b hb).1.2.2.2.1, (f3 b hb).1.2.1, (f3 b hb).1.2.2.2.2.1, (f3 b hb).1.2.2.2.2.2⟩
      have noC : H5 s3.heap.objs.size = none := by
        rw [← cL]
        exact I6.free
      obtain ⟨m, hn, _⟩ := I6.loc
      have hn : s6.heap.Ns ce.locals m := hn
      rw [cL] at hn
      obtain ⟨k0, k1, k2, k3, k4, k5⟩ := I3.fpOk (Nat.le_refl _) noC
      exact ⟨m, hn, fun h2 but => ⟨.ref D, H5, I7.turned (t' := s6.toks) (fun b o hb z => (but.2 b hb).trans z) k0 k1 k3 k4 k5, rfl, last⟩⟩
    · refine thnF (T.item (X.blk s3 H3 sc ce fp) rfl rfl rfl hc i [] s5 _ H5 (fun _ _ => False) I5 (steady I5 n5) st5 go) fun r s6 ⟨u, hr, h6⟩ => ?_
      subst hr
      refine thnF h6 fun _ s7 ⟨x, H7, I7, r7, y7, st7, n7⟩ => ?_
      have I7' := I7.pinned (steady I7 n7) (T.obj _ _ st7)
      refine thnF (pg.run _ s7 _ H7 x u _ I7' r7 (step x H7 y7)) fun _ s8 ⟨τ, H8, I8, w8, q8⟩ => ?_
      refine thnF (pt.run _ s8 τ H8 _ I8 q8) fun yes s9 ⟨H9, I9, q9⟩ => ?_
      -- how a turn of the outer loop ends
      have ends : ∀ {ρ : L2.St} {r : Shared} {K' : Hp}, Inv (X.blk s3 H3 sc ce fp) ([] ++ pinsAt fp s7.heap) ρ K' r → (wipe σ (own.map (·.2))).length = ρ.length → (∀ (j : Nat) z, (wipe σ (own.map (·.2)))[j]? = some (some z) → ρ[j]? = some (some z)) → Nx K' →
          ∃ m, m < n ∧ ∃ i K', Inv (X.blk s3 H3 sc ce fp) [] (wipe σ (own.map (·.2))) K' r ∧ tn i r.heap ∧ (∀ b ∈ fp, K' b = none) ∧ W i m K' := fun {ρ r K'} J' len know nx => by
        obtain ⟨m', lt, w'⟩ := hNx K' nx
        have held : ∀ b ∈ fp, ∀ o, s7.heap.get? b = some o → r.heap.get? b = some o ∧ K' b = none := fun b hb o z => by
          have q := J'.pin (b, o) (List.mem_append_right _ (List.mem_append_right _ (mem_pinsAt hb z)))
          exact ⟨q.1, q.2.1⟩
        refine ⟨m', lt, i + 1, K', (J'.unpinned (pins := [])).weak len know, T.keep _ _ _ st7 fun b hb o z => (held b hb o z).1, fun b hb => ?_, w'⟩
        obtain ⟨o, z, _⟩ := T.obj _ _ st7 b hb
        exact (held b hb o z).2
      have len8 : (wipe σ (own.map (·.2))).length = τ.length := by rw [← w8, wipe_length]
      have know8 : ∀ (j : Nat) z, (wipe σ (own.map (·.2)))[j]? = some (some z) → τ[j]? = some (some z) := fun j z q => by
        rw [← w8] at q
        exact (wipe_some q).1
      have know9 : ∀ (j : Nat) z, (wipe σ (own.map (·.2)))[j]? = some (some z) → (wipe τ vs1)[j]? = some (some z) := fun j z q => by
        rw [← w8] at q
        rw [wipe_out fun m => (wipe_some q).2 (hv j m)]
        exact (wipe_some q).1
      cases yes with
      | false => exact ends I9 len8 know8 q9
      | true =>
        rw [if_pos rfl] at q9 ⊢
        refine thnF (pi1.run _ s9 τ H9 _ I9 q9) fun xv s10 hx => thnF hx fun itv s11 h11 => ?_
        obtain ⟨it1, fp1, tn1, J1, H11, rfl, I11, T1, st11, f11, W1, ⟨m1, w1⟩, turn1⟩ := h11
        have steady1 : ∀ {K' : Hp}, (∀ b ∈ fp1, K' b = none) → ∀ b ∈ fp1, FpOk (X.blk s3 H3 sc ce fp) ([] ++ pinsAt fp s7.heap) K' b := fun hn b hb => ⟨hn b hb, (f11 b hb).2⟩
        have loop1 : codeAny (model X.prog X.w) X.A (.compLoop (two e a0 b0 c0 a1 b1 c1 sc ps) 1 (.ref it1) (.ref D) ce)
            (fun r s' => match r with
              | .ok _ => ∃ m, m < n ∧ ∃ i K', Inv (X.blk s3 H3 sc ce fp) [] (wipe σ (own.map (·.2))) K' s' ∧ tn i s'.heap ∧ (∀ b ∈ fp, K' b = none) ∧ W i m K'
              | .error _ => False) s11 := by
          refine loop_inner (fun k r => ∃ j K', Inv (X.blk s3 H3 sc ce fp) ([] ++ pinsAt fp s7.heap) (wipe τ vs1) K' r ∧ tn1 j r.heap ∧ (∀ b ∈ fp1, K' b = none) ∧ W1 j k K') ?_ m1 ⟨0, H11, I11.weak (wipe_length _ _) (fun j z q => (wipe_some q).1), st11, fun b hb => (f11 b hb).1, w1⟩
          rintro k s12 ⟨j, H12, I12, st12, n12, w12⟩
          rcases turn1 j k H12 w12 with ⟨stop1, nx1⟩ | ⟨go1, Nx1, hNx1, step1⟩
          · refine thnF (T1.done (X.blk s3 H3 sc ce fp) rfl rfl rfl hc j _ s12 (wipe τ vs1) H12 (fun _ _ => False) I12 (steady1 n12) st12 stop1) fun r s13 ⟨hr, I13⟩ => ?_
            subst hr
            exact ends I13 (len8.trans (wipe_length τ vs1).symm) know9 nx1
          · refine thnF (T1.item (X.blk s3 H3 sc ce fp) rfl rfl rfl hc j _ s12 (wipe τ vs1) H12 (fun _ _ => False) I12 (steady1 n12) st12 go1) fun r s13 ⟨u1, hr, h13⟩ => ?_
            subst hr
            refine thnF h13 fun _ s14 ⟨x1, H14, I14, r14, y14, st14, n14⟩ => ?_
            have I14' := I14.pinned (steady1 n14) (T1.obj _ _ st14)
            refine thnF (pg1.run _ s14 (wipe τ vs1) H14 x1 u1 _ I14' r14 (step1 x1 H14 y14)) fun _ s15 ⟨ρ, H15, I15, w15, q15⟩ => ?_
            refine thnF (pt1.run _ s15 ρ H15 _ I15 q15) fun yes1 s16 ⟨H16, I16, q16⟩ => ?_
            have ends1 : ∀ {r : Shared} {K' : Hp}, Inv (X.blk s3 H3 sc ce fp) (([] ++ pinsAt fp s7.heap) ++ pinsAt fp1 s14.heap) ρ K' r → Nx1 K' → ∃ m, m < k ∧ ∃ j K', Inv (X.blk s3 H3 sc ce fp) ([] ++ pinsAt fp s7.heap) (wipe τ vs1) K' r ∧ tn1 j r.heap ∧ (∀ b ∈ fp1, K' b = none) ∧ W1 j m K' := fun {r K'} J' nx => by
              obtain ⟨m', lt, w'⟩ := hNx1 K' nx
              have held : ∀ b ∈ fp1, ∀ o, s14.heap.get? b = some o → r.heap.get? b = some o ∧ K' b = none := fun b hb o z => by
                have q := J'.pin (b, o) (List.mem_append_right _ (List.mem_append_right _ (mem_pinsAt hb z)))
                exact ⟨q.1, q.2.1⟩
              refine ⟨m', lt, j + 1, K', J'.unpinned.weak (by rw [← w15, wipe_length]) (fun j z q => by rw [← w15] at q; exact (wipe_some q).1), T1.keep _ _ _ st14 fun b hb o z => (held b hb o z).1, fun b hb => ?_, w'⟩
              obtain ⟨o, z, _⟩ := T1.obj _ _ st14 b hb
              exact (held b hb o z).2
            cases yes1 with
            | false => exact ends1 I16 q16
            | true =>
              rw [if_pos rfl] at q16 ⊢
              refine thnF (pe.run _ s16 ρ H16 _ I16 q16) fun z s17 ⟨y, H17, I17, r17, x, S, c, hy, lies, room, nx⟩ => ?_
              subst hy
              obtain ⟨t0, rfl⟩ := (show ∃ t, z = Value.str x t from r17)
              exact addS_ok (X := X.blk s3 H3 sc ce fp) I17 lies room fun s18 I18 => ends1 I18 nx
        exact start_inner loop1 (T1.self X.A 0 _ _ _ st11 loop1)
  exact PpSet.codeAny_compStart_set loop (T.self X.A 0 _ _ _ st4 loop)
end
/-- any loop of a comprehension by an invariant -/
theorem it_walk {J : It} {n : Nat} {G : Hp → Prop} {Y : Nat → Hp → V → Hp → Prop} (w : Walk J n G Y) {H0 : Hp} {Fin : Hp → Prop} {Step : (Hp → Prop) → V → Hp → Prop} (Pv : Nat → Hp → Prop) (h0 : Pv 0 H0) (hG : ∀ i H, i ≤ n → Pv i H → G H)
    (hs : ∀ i x H H', i < n → Pv i H → Y i H x H' → Step (Pv (i + 1)) x H') (hd : ∀ H, Pv n H → Fin H) :
    ∃ W : Nat → Nat → Hp → Prop, (∃ m, W 0 m H0) ∧ ∀ i m H, W i m H → (J.stop i H ∧ Fin H) ∨ (J.go i H ∧ ∃ Nx : Hp → Prop, (∀ H', Nx H' → ∃ m', m' < m ∧ W (i + 1) m' H') ∧ ∀ x H', J.yld i H x H' → Step Nx x H') := by
  refine ⟨fun i m H => m = n - i ∧ i ≤ n ∧ Pv i H, ⟨n, (Nat.sub_zero n).symm, Nat.zero_le _, h0⟩, ?_⟩
  rintro i m H ⟨hm, hi, p⟩
  subst hm
  have q := hG i H hi p
  cases Nat.lt_or_ge i n with
  | inl lt => exact .inr ⟨w.goes i H lt q, Pv (i + 1), (fun H' p' => ⟨n - (i + 1), by omega, rfl, lt, p'⟩), fun x H' y => hs i x H H' lt p (w.yields i H x H' lt q y)⟩
  | inr ge =>
    have e : i = n := Nat.le_antisymm hi ge
    subst e
    exact .inl ⟨w.stops H q, hd H p⟩
end PX
/-! xs != []; xs.extend(a tuple); d.update(another dict). -/
namespace PX
open PySem PySem.Spec PyProof.Rows L2
/-! ### xs != [] -/
section
open PySem.SeqAt AutoSeq1 MeetsSeq MeetsSeq2 MeetsSeq3 SeqRoads2
theorem ne_apart {prog : Program} {w : World} (l b : Addr) (items items2 : Array Value) (n n2 : Nat) (apart : (items.size != items2.size) = true) :
    MeetsIn prog w (Builtin.«list.__ne__» ⟨[.ref l, .ref b], []⟩)
      (fun _ R s => s.heap.get? l = some { cls := .type "list", dict := none, data := .seq items n, slots := #[] } ∧ s.heap.get? b = some { cls := .type "list", dict := none, data := .seq items2 n2, slots := #[] } ∧ R (.ok (.ret (.bool true))) s) := by
  intro A R s h
  obtain ⟨hp, g, d, tk, os⟩ := s
  obtain ⟨hl, hb, h⟩ := h
  have f3 := AutoSeq1.sub_list_list
  wp_walk using wpAny_loadPart' hl, wpAny_loadPart' hb
  exact h
end
def rNeNil : R2 := fun x y H Q => ∃ (a b : Addr) (xs : List V), x = .ref a ∧ y = .ref b ∧ H a = some (.lst xs) ∧ H b = some (.lst []) ∧ Q (.bl (!xs.isEmpty)) H
theorem op_neNil {X : Cx} (hu : X.A.units + 64 < cLine) : OpR X (compareOp .NotEq) rNeNil := by
  intro pins s σ H x y v u Q I rx ry h
  obtain ⟨a, b, xs, rfl, rfl, ha, hb, q⟩ := h
  cases xs with
  | nil => exact op_neD hu pins s σ H (.ref a) (.ref b) v u Q I rx ry ⟨.list [], .list [], .lst (SqL.of ha) .nil, .lst (SqL.of hb) .nil, by rfl, by rfl, q⟩
  | cons x r =>
    obtain rfl : v = Value.ref a := rx
    obtain rfl : u = Value.ref b := ry
    obtain ⟨z, its, n, r1, l1, e1⟩ := I.lstM ha
    obtain ⟨z2, its2, n2, r2, l2, e2⟩ := I.lstM hb
    have ta : s.TypeIs (.ref a) "list" := ⟨_, e1, rfl⟩
    have tb : s.TypeIs (.ref b) "list" := ⟨_, e2, rfl⟩
    have apart : (its.toArray.size != its2.toArray.size) = true := by
      cases r1
      cases r2
      rfl
    show wpAny _ _ (richCompare .NotEq (.ref a) (.ref b)) _ _ s
    exact wpAny_richCompare_same_room (op := .NotEq) ta tb F.slot_list_ne (call_meetsIn F.slot_list_ne ta F.entry_list_ne (F.args_list_ne_2 _ _) (ne_apart a b its.toArray its2.toArray n n2 apart)
      ⟨e1, e2, show Value.bool true ≠ Value.notImplemented ∧ EP X pins σ Q (.bool true) s from ⟨(fun x => nomatch x), ⟨.bl true, H, I, rfl, q⟩⟩⟩) (by omega)
/-! ### xs.extend(ys), ys a list or a tuple -/
def rExtendA (K : PySem.W.Frag) : V → List V → Hp → VK → Prop := fun x vs H Q => ∃ (l b : Addr) (xs zs : List V), x = .ref l ∧ vs = [.ref b] ∧ H l = some (.lst xs) ∧ SqT K H b zs ∧ xs.length + zs.length ≤ sizeLine ∧ Q .non (upd H l (.lst (xs ++ zs)))
theorem extend_tup {prog : Program} {w : World} {A : Around} {E : Value → Shared → Prop} {s : Shared} {l b : Addr} {old new : Array Value} {n : Nat} {Q : Value → Shared → Prop} (atL : s.heap.get? l = some { cls := .type "list", data := .seq old n }) (atB : IsTup s.heap b new)
    (few : old.size + new.size ≤ sizeLine) (h : Q .none { s with heap := s.heap.update l (Obj.mapSeq fun x => x ++ new) }) : wpAny (model prog w) A (call (.builtin "list.extend") [.ref l, .ref b]) Q E s := by
  have isL := PySem.IsL.isList atL
  obtain ⟨ob, hob, cb, nb, db⟩ := atB
  refine wpAny_call_entry F.slot_list_extend isL.typeIs F.entry_list_extend ?_ (F.args_list_extend_2 _ _)
  unfold Builtin.«list.extend»
  refine wpAny_bind (wpAny_pure ?_)
  unfold Builtin.List.listExtendWith
  refine wpAny_bind (wpAny_typeOf (T := "tuple") ⟨ob, hob, cb⟩ ?_)
  rw [if_pos (show (Builtin.List.listSameRef (.ref l) (.ref b) || Value.type "tuple" == Value.type "list" || Value.type "tuple" == Value.type "tuple") = true by
    rw [show (Value.type "tuple" == Value.type "tuple") = true by decide, Bool.or_true])]
  refine wpAny_bind (listItems_at hob db (wpAny_bind (listItems_at atL rfl ?_)))
  rw [if_neg (show ¬ (!old.isEmpty && Builtin.List.listTooLong (old.size + new.size)) = true by rw [notLongL few, Bool.and_false]; exact Bool.false_ne_true)]
  refine wpAny_bind (wpAny_updateSeq (hz := Nat.le_trans (Nat.le_add_right _ _) few) (_hz' := by show (old ++ new).size ≤ _; rw [Array.size_append]; omega) atL rfl ?_)
  exact wpAny_pure ⟨_, rfl, h⟩
theorem mt_extendA {X : Cx} : MtM X "list.extend" (rExtendA X.K) := by
  intro pins s σ H x vs v us Q I rx rv h
  obtain ⟨l, b, xs, zs, rfl, rfl, hH, hB, hz, q⟩ := h
  obtain rfl : v = Value.ref l := rx
  obtain ⟨u, rfl, ru⟩ := rv.one
  obtain rfl : u = Value.ref b := ru
  obtain ⟨z, its, n, r, hl, e⟩ := I.lstM hH
  obtain ⟨its2, r2, e2, z2⟩ := I.tuple hB
  have len2 := r2.length
  refine extend_tup e e2 (by rw [List.size_toArray, List.size_toArray]; omega) ?_
  refine ⟨.non, _, I.lset (its' := its ++ its2) (t' := s.toks) hH e (by simp) (r.append r2) ?_, rfl, q⟩
  rw [List.length_append]
  omega
/-! ### d.update(e) -/
def rDUpd : V → List V → Hp → VK → Prop := fun x vs H Q => ∃ (d o : Addr) (ks ls : List (Key × V)), x = .ref d ∧ vs = [.ref o] ∧ d ≠ o ∧ H d = some (.dK ks) ∧ H o = some (.dK ls) ∧ ks.length + ls.length ≤ sizeLine ∧ Q .non (upd H d (.dK (mergeK ks ls)))
theorem mt_dupdate {X : Cx} : MtR X "dict.update" rDUpd := by
  intro pins s σ H x vs v us Q I rx rv h
  obtain ⟨d, o, ks, ls, rfl, rfl, apart, hd, ho, few, q⟩ := h
  obtain rfl : v = Value.ref d := rx
  obtain ⟨u, rfl, ru⟩ := rv.one
  obtain rfl : u = Value.ref o := ru
  obtain ⟨z1, s1, vs1, rel1, dd1⟩ := dk_of I.hok hd
  obtain ⟨z2, s2, vs2, rel2, dd2⟩ := dk_of I.hok ho
  have len1 := rel1.length
  have len2 := rel2.length
  refine call_meetsIn F.slot_dict_update dd1.typeIs F.entry_dict_update (F.args_dict_update_2 _ _) (meets_dict_update (mixKind X.prog X.w) d o apart s2) ⟨vs1, vs2, dd1, dd2, by omega, fun h' dd' _ but => ?_⟩
  have there : ∃ q, h'.get? d = some q := let ⟨q, _, _, hq, _⟩ := dd'; ⟨q, hq⟩
  have small : (mergeK ks ls).length ≤ sizeLine := Nat.le_trans (length_mergeK ls ks) few
  exact ⟨.non, _, d_write (t' := s.toks) I (by rw [hd]; exact True.intro) but there (dk_new small s1 (KV.merge rel2 rel1) dd'), rfl, q⟩
end PX
/-! defs with *args alone, called with plain arguments. -/
namespace PX
open PySem PySem.Spec PyProof.Rows L2
section
variable {X : Cx} {CX : CXT} {k : Nat} {f : Addr} {sp : Sp} {E : XK} {x : Str} {p pos : Pos} {e : Expr} {es : List Expr} {t : TA}
/-- f(e, ..) by a promise about all arguments -/
def tCallR (sp : Sp) (E : XK) (t : TA) : TE := fun σ H Q => t σ H fun vs H1 => sp vs H1 Q E
theorem pe_callR (F : FnR X.prog X.w X.K X.mg X.base CX k f sp) (hr : Room k X.A) (hg : Gl X x) (hm : X.mg x = some (.ref f)) (hk : PySem.W.keepIn X.K (.ref f) = true) (hx : Passes CX X E) (ha : PA X (e :: es) t)
    (hdb : (x == ("__debug__" : Str)) = false := by decide) (he : starEach (e :: es) X.env = (false, eval e X.env) :: starEach es X.env := by rfl) (hpl : (backTo pos (starEach es X.env)).any (·.1) = false := by rfl) :
    PE X (.Call (.Name x p) (e :: es) [] pos) (tCallR sp E t) := by
  refine ⟨fun pins s σ H Q I h => wpAny_Call_Name_kw (ld_glob I hg hm ?_ hdb)⟩
  exact PySem.W.callWith_K (h₀ := X.base) I.ok.mod.kin hk (thn (ha.run pos pins s σ H _ I h) fun us s1 ⟨vs, H1, I1, r, q⟩ => ⟨I1.kIn, wpAny_call (run_fnR F hr hx I1 r q)⟩) he hpl
theorem pe_callR0 (F : FnR X.prog X.w X.K X.mg X.base CX k f sp) (hr : Room k X.A) (hg : Gl X x) (hm : X.mg x = some (.ref f)) (hk : PySem.W.keepIn X.K (.ref f) = true) (hx : Passes CX X E) (hdb : (x == ("__debug__" : Str)) = false := by decide) :
    PE X (.Call (.Name x p) [] [] pos) (tCallR sp E tNil) := by
  refine ⟨fun pins s σ H Q I h => wpAny_Call_Name_kw (ld_glob I hg hm ?_ hdb)⟩
  exact PySem.W.callWith_K0 I.kIn hk (wpAny_call (run_fnR (us := []) F hr hx I .nil h))
end
section
variable {P : Program} {w : World} {K : PySem.W.Frag} {mg : Str → Option Value} {base : Heap}
/-- a def f(*v) by its body -/
theorem okStar {x qual pv : Str} {st : Stmt} {f : Addr} {fd : FuncData} {N : List Str} {k : Nat} {sp : Sp} (F : Fun K x qual st f fd) (S : FnScope N [pv] (defScope st))
    (hb0 : ∀ (kV doc pm : Value) (an : Option Addr) (cdv ct : Value), bindArgs (PySem.W.fnOf x qual (defArgs st) (defBody st) (defScope st) .none kV doc pm an cdv ct) ⟨[], []⟩ = (newTuple [] >>= fun t => pure [(pv, t)]))
    (hb1 : ∀ (kV doc pm : Value) (an : Option Addr) (cdv ct u : Value) (us : List Value), bindArgs (PySem.W.fnOf x qual (defArgs st) (defBody st) (defScope st) .none kV doc pm an cdv ct) ⟨u :: us, []⟩ = (newTuple (u :: us) >>= fun t => pure [(pv, t)]))
    (hbody : ∀ (cdv : Value) (A : Around) (outer : List Env) (s : Shared) (H : Hp) (vs : List V) (Q : VK) (E : XK), Room k (A.deeper (envOfC qual (defScope st) s.heap.objs.size f cdv)) → sp vs H Q E →
      ∃ t, PSs (cxOf CX0 P w K mg base N qual (defScope st) f cdv A outer s H E).nox (defBody st) t ∧ t { nx := fun _ H' => Q .non H', rt := Q } (start N vs) H) :
    FnR P w K mg base CX0 (k + 1) f (fun vs H Q E => vs.length ≤ sizeLine ∧ ∀ p, H p = none → sp [V.ref p] (upd H p (.tup vs)) Q E) := by
  obtain ⟨oc, od, kV, doc, pm, an, cdv, ct, osl, rfl, lk, hcd⟩ := F.ex
  have G := StX.fn_star (P := P) (w := w) (mg := mg) (base := base) (CX := CX0) (k := k) (sp := sp) (ps := []) (pv := pv) lk hcd S StX.cxUp_none (fun us rest h => by
    obtain rfl : us = [] := List.length_eq_zero_iff.mp h
    cases rest with
    | nil => exact hb0 kV doc pm an cdv ct
    | cons u r => exact hb1 kV doc pm an cdv ct u r) fun A outer s H vs Q E hr hs => by
      obtain ⟨t, h, q⟩ := hbody cdv A outer s H vs Q E hr hs
      exact ⟨t, h.nox, q⟩
  exact G.imp fun vs H Q E h => ⟨[], vs, rfl, rfl, h.1, h.2⟩
end
end PX
/-! enumerate(a tuple). -/
namespace PX
open PySem PySem.Spec PyProof.Rows L2
theorem meets_enum1 {v : Value} {o : Obj} {H : Heap → Prop} (B : Begins v o H) : Meets (Builtin.«enumerate.__new__» ⟨[.type "enumerate", v], []⟩) (fun _ R s => H s.heap ∧
      R (.ok (.ret (.ref (s.heap.push o).objs.size))) { s with heap := (s.heap.push o).push { cls := .type "enumerate", data := .fields #[.none, .bool false, .ref s.heap.objs.size, rawInt 0, .none, .none] } }) :=
  .of_wp fun prog w A R s h => by
    obtain ⟨hp, g, d, tk, os⟩ := s
    obtain ⟨h1, h⟩ := h
    have hsub := sub_enumerate
    have go : ∀ {A' : Around} {E : Value → Shared → Prop} {Q : Value → Shared → Prop}, Q (.ref hp.objs.size) ⟨hp.push o, g, d, tk, os⟩ → wpAny (model prog w) A' (pyIter v) Q E ⟨hp, g, d, tk, os⟩ := fun q => B.iter prog w _ _ ⟨hp, g, d, tk, os⟩ _ h1 q
    wp_walk using go
    refine wpAny_stack_any fun st => wpAny_pure ?_
    split
    · rename_i c _ _ _ _ _
      cases (c == Value.type "enumerate") <;> (wp_walk using go; exact ⟨_, rfl, h⟩)
    · wp_walk using go
      exact ⟨_, rfl, h⟩
theorem enum_tup {prog : Program} {w : World} {A : Around} {E : Value → Shared → Prop} {s : Shared} {t : Addr} {items : Array Value} {Q : Value → Shared → Prop} (hT : s.heap.IsTuple t items)
    (h : ∀ h', IsEnum h' (s.heap.objs.size + 1) s.heap.objs.size 0 .none → h'.IsTupleIter s.heap.objs.size t 0 → (∀ b o, s.heap.get? b = some o → h'.get? b = some o) → Q (.ref (s.heap.objs.size + 1)) { s with heap := h' }) :
    wpAny (model prog w) A (call (.type "enumerate") [.ref t]) Q E s := by
  refine callType_new F.called_enumerate (by decide) (F.typeCall_enumerate_1 _) (F.newCall_enumerate_1 _) (fun obj => F.args_object_init_2 obj _) F.entry_enumerate_new (meets_enum1 (begins_tuple t items)) ⟨hT, ?_⟩
  have hz : (s.heap.push { cls := .type "tuple_iterator", data := .fields #[.ref t, .int 0 0] }).objs.size = s.heap.objs.size + 1 := Heap.size_push ..
  show _ ∧ _
  rw [hz]
  have lies := Heap.get?_push_size (s.heap.push { cls := .type "tuple_iterator", data := .fields #[.ref t, .int 0 0] }) (o := { cls := .type "enumerate", data := .fields #[.none, .bool false, .ref s.heap.objs.size, rawInt 0, .none, .none] }) rfl
  rw [hz] at lies
  exact ⟨⟨_, lies, rfl⟩, h _ lies ⟨_, Heap.get?_push_of_some _ (Heap.get?_push_size _ rfl), rfl, rfl⟩ fun b o x => Heap.get?_push_of_some _ (Heap.get?_push_of_some _ x)⟩

/-- the tuple at a, each item in a new pair -/
def IteT (K : PySem.W.Frag) (a : Addr) : It :=
  ⟨fun i H => ∃ (xs : List V) (x : V), SqT K H a xs ∧ xs[i]? = some x, fun i H v H' => ∃ T x, v = .ref T ∧ H T = none ∧ H' = upd H T (.tup [.int (i : Nat), x]) ∧ ∀ xs, SqT K H a xs → xs[i]? = some x, fun i H => ∃ xs : List V, SqT K H a xs ∧ xs.length ≤ i⟩
theorem turn_enumT {P : Program} {w : World} {K : PySem.W.Frag} {elts : List Expr} {kk : Nat} {tpos : Pos} (a e it : Addr) :
    Turn P w K (.Tuple elts kk tpos) (IteT K a) [e, it] e (fun i h => (∃ old, IsEnum h e it ((i : Nat) : Int) old) ∧ h.IsTupleIter it a i ∧ e ≠ it) where
  mem := by simp
  obj := fun i h st b hb => by
    obtain ⟨⟨old, lies⟩, ⟨o, ho, hc, hd⟩, _⟩ := st
    rcases (by simpa using hb : b = e ∨ b = it) with z | z
    · rw [z]
      exact ⟨_, lies, fun v q => nomatch q⟩
    · rw [z]
      exact ⟨o, ho, fun v q => by rw [hd] at q; cases q⟩
  keep := fun i h h' st k => by
    obtain ⟨⟨old, lies⟩, hi, apart⟩ := st
    exact ⟨⟨old, k e (by simp) _ lies⟩, hi.at fun o q => k it (by simp) o q, apart⟩
  item := by
    intro X hP hw hK hc i pins s σ H E I hf st hg
    subst hP hw hK
    obtain ⟨⟨old, lies⟩, iter, apart⟩ := st
    obtain ⟨xs, x, hq, hx⟩ := hg
    obtain ⟨its, rv, tp, hz⟩ := I.tuple hq
    obtain ⟨u, hu, ru⟩ := rv.get hx
    have lo := Heap.lt_size lies
    have lt : it < s.heap.objs.size := by
      obtain ⟨_, q, _⟩ := iter
      exact Heap.lt_size q
    have hae : a ≠ e := fun z => by
      obtain ⟨o, ho, hcl, _⟩ := tp
      rw [z, lies] at ho
      cases ho
      exact absurd (Value.type.inj hcl) (by decide)
    have hai : a ≠ it := fun z => by
      obtain ⟨o, ho, hcl, _⟩ := tp
      obtain ⟨o', ho', hcl', _⟩ := iter
      rw [z, ho'] at ho
      cases ho
      rw [hcl'] at hcl
      exact absurd (Value.type.inj hcl) (by decide)
    have size : i < its.toArray.size := by
      have := (List.getElem?_eq_some_iff.mp hu).1
      simpa using this
    refine wpAny_pyNext_enum_itemC (Draws.tuple (A := X.A.in1) (I.ok.hd hc) it a hai its.toArray) lies ⟨iter, tp⟩ size apart (by simp [apart, hae.symm]) fun y h' tk hy ho st' hT hsz hk => ?_
    obtain rfl : y = u := by
      have := hy.symm.trans (by simpa using hu : its.toArray[i]? = some u)
      exact Option.some.inj this
    refine ⟨_, rfl, wpAny_letOwnedTupleGo_enum (s := { s with heap := h', toks := tk + 1 }) ho fun h2 he2 but => ?_⟩
    have new2 : h2.get? s.heap.objs.size = some { cls := .type "tuple", data := .seq #[.int i tk, y] } := (but.2 _ (Nat.ne_of_gt lo)).trans hT
    have new : ObjOk X.prog X.w (upd H s.heap.objs.size (.tup [.int (i : Nat), x])) h2 s.heap.objs.size (.tup [.int (i : Nat), x]) := ⟨by show 2 ≤ sizeLine; decide, [.int i tk, y], .cons ⟨_, rfl⟩ (.cons ru .nil), ⟨_, new2, rfl, _, rfl⟩⟩
    have I1 : Inv X pins σ (upd H s.heap.objs.size (.tup [.int (i : Nat), x])) { s with heap := h2, toks := tk + 1 } :=
      I.turnedNew (ch := [e, it]) (fun b ob hb q => (but.2 b (fun z => hb (by simp [z]))).trans (hk b ob (fun z => hb (by simp [z])) (fun z => hb (by simp [z])) q)) hf (Nat.le_refl _) new
    refine ⟨.ref s.heap.objs.size, _, I1, rfl, ⟨_, x, rfl, I.hok.fresh (Nat.le_refl _), rfl, fun ys hy2 => by rw [I.tuple_inj hy2 hq]; exact hx⟩, ⟨⟨y, ?_⟩, st'.1.at fun o q => (but.2 it apart.symm).trans q, apart⟩, fun b hb => ?_⟩
    · have z : ((i + 1 : Nat) : Int) = (i : Int) + 1 := by omega
      rw [z]
      exact he2
    · have less : b < s.heap.objs.size := by
        rcases (by simpa using hb : b = e ∨ b = it) with z | z
        · rw [z]; exact lo
        · rw [z]; exact lt
      rw [upd_ne (Nat.ne_of_lt less)]
      exact (hf b hb).1
  done := by
    intro X hP hw hK hc i pins s σ H E I hf st hg
    subst hP hw hK
    obtain ⟨⟨old, lies⟩, iter, apart⟩ := st
    obtain ⟨xs, hq, hx⟩ := hg
    obtain ⟨its, rv, tp, hz⟩ := I.tuple hq
    obtain ⟨k0, k1, k2, k3, k4, k5⟩ := hf it (by simp)
    have len := rv.length
    have none_at : its.toArray[i]? = none := by
      have : its.length ≤ i := by omega
      simpa using this
    unfold pyNext
    have ty : s.TypeIs (.ref e) "enumerate" := ⟨_, lies, rfl⟩
    refine wpAny_bind (wpAny_attempt (wpAny_callSpecial?_slot (name := Str.ofString "__next__") ty F.slot_enumerate_next (wpAny_call_entry F.slot_enumerate_next ty F.entry_enumerate_next ?_ (F.args_enumerate_next_1 _))))
    show wpAny _ _ (field (.ref e) 2 >>= _) _ _ _
    refine wpAny_bind (wpAny_field lies rfl (x := .ref it) rfl (wpAny_bind (wpAny_nextOf_tuple_end (I.ok.hd hc) iter tp none_at fun h' x ext stop => ?_)))
    obtain ⟨o, ho, hcl⟩ := stop
    refine wpAny_bind (wpAny_isInstance (T := "StopIteration") (b := true) ⟨o, ho, hcl⟩ isSubtype_stop ?_)
    exact wpAny_pure ⟨rfl, I.turned (t' := s.toks) (fun b o hb q => ext b o hb q) k0 k1 k3 k4 k5⟩
  self := fun A i s Q E st h => by
    obtain ⟨⟨_, lies⟩, _⟩ := st
    exact wpAny_pyIter_enum lies h
def iEnumT (K : PySem.W.Frag) (ta : TA) : TI := fun σ H R => ta σ H fun vs H1 => ∃ a xs, vs = [.ref a] ∧ SqT K H1 a xs ∧ R (IteT K a) H1
theorem pi_enumT {X : Cx} {e : Expr} {ta : TA} {p pos tpos : Pos} {elts : List Expr} {kk : Nat} (hg : Gl X "enumerate") (hm : X.mg "enumerate" = none) (ha : PA X [e] ta) (hs : starEach [e] X.env = [(false, eval e X.env)] := by rfl) :
    PI X (.Tuple elts kk tpos) (.Call (.Name "enumerate" p) [e] [] pos) (iEnumT X.K ta) := by
  refine ⟨fun pins s σ H R I h => Call_ (ld_blt I hg hm boot_enumerate (PyProof.Rows.callWith_type1 (thn (ha.run pos pins s σ H _ I h) fun us s1 ⟨vs, H1, I1, r1, a, xs, ex, hq, q⟩ => ?_) hs rfl))⟩
  subst ex
  obtain ⟨u, rfl, ru⟩ := vals1 r1
  obtain rfl : u = Value.ref a := ru
  obtain ⟨its, rv, tp, hz⟩ := I1.tuple hq
  refine enum_tup tp fun h' lies iter hk => wpAny_pyIter_enum lies ?_
  have I2 : Inv X pins σ H1 { s1 with heap := h' } := I1.kept (t' := s1.toks) hk
  refine ⟨s1.heap.objs.size + 1, [s1.heap.objs.size + 1, s1.heap.objs.size], _, _, H1, rfl, I2, turn_enumT a (s1.heap.objs.size + 1) s1.heap.objs.size, ⟨⟨.none, lies⟩, iter, Nat.succ_ne_self _⟩, fun b hb => ?_, q⟩
  have above : s1.heap.objs.size ≤ b := by
    rcases (by simpa using hb : b = s1.heap.objs.size + 1 ∨ b = s1.heap.objs.size) with z | z
    · rw [z]; exact Nat.le_add_right _ _
    · rw [z]; exact Nat.le_refl _
  exact I1.fpOk above (I1.hok.fresh above)
theorem walk_enumT {K : PySem.W.Frag} {a : Addr} {xs : List V} : Walk (IteT K a) xs.length (fun H => SqT K H a xs) (YPair (fun i => some (.int (i : Nat))) (fun i => xs[i]?)) := by
  refine ⟨fun i _ hi q => ⟨xs, xs[i], q, by simp [hi]⟩, fun _ q => ⟨xs, q, Nat.le_refl _⟩, fun i H v H' _ q y => ?_⟩
  obtain ⟨T, x, h1, h2, h3, h4⟩ := y
  exact ⟨T, .int (i : Nat), x, h1, h2, h3, rfl, h4 xs q⟩
end PX
/-! sorted(d.items()), d a dict of ints. -/
namespace PX
open PySem PySem.Spec PyProof.Rows L2
def rItemsK : V → List V → Hp → VK → Prop := fun x xs H Q => ∃ (a : Addr) (kvs : List (Key × V)), x = .ref a ∧ xs = [] ∧ H a = some (.dK kvs) ∧ ∀ p, H p = none → Q (.ref p) (upd H p (DX.itemsO p a))
theorem mt_itemsK {X : Cx} : MtR X "dict.items" rItemsK := by
  intro pins s σ H x xs v us Q I rx rxs h
  obtain ⟨a, kvs, rfl, rfl, ha, q⟩ := h
  obtain rfl : v = Value.ref a := rx
  cases rxs
  obtain ⟨z, hd, vs, kv, o, es, ep, ho, hx, hdat, _⟩ := dk_of I.hok ha
  refine DT.callItems (es := es) (ep := ep) hd ⟨o, ho, hx, hdat⟩ ?_
  have fresh : H s.heap.objs.size = none := I.hok.fresh (Nat.le_refl _)
  exact ⟨.ref s.heap.objs.size, _, I.laid (t' := s.toks) (o := DX.itemsO s.heap.objs.size a) (fun b u e => Heap.get?_push_of_some _ e) (Nat.le_refl _) (DX.itemsO_ok (Heap.get?_push_size _ rfl)), rfl, q _ fresh⟩
def addrOf : Value → Addr
  | .ref b => b
  | _ => 0
theorem tab_get {l : Tab} {vs : List (Key × Value)} (kv : KV (tab l) vs) {j : Nat} {p : Key × Value} (h : vs[j]? = some p) : ∃ z, l[j]? = some z ∧ p.1 = Sum.inl z.1 ∧ ∃ t, p.2 = Value.int z.2 t := by
  unfold KV at kv
  have len : (tab l).length = vs.length := Paired.length kv
  have lt := (List.getElem?_eq_some_iff.mp h).1
  rw [tab_len] at len
  obtain ⟨z, hz⟩ : ∃ z, l[j]? = some z := ⟨l[j], List.getElem?_eq_getElem (by omega)⟩
  have hz2 : (tab l)[j]? = some (kI z) := by rw [show tab l = l.map kI from rfl, List.getElem?_map, hz] <;> rfl
  obtain ⟨q, hq, r1, r2⟩ := LiI.paired_get kv hz2
  rw [h] at hq
  cases hq
  exact ⟨z, hz, r1.symm, r2⟩
theorem pairs_get {P : Program} {w : World} : ∀ {es : List DictEntry} {vs : List (Key × Value)}, Pairs (mixKind P w) es vs → es.length = vs.length ∧ ∀ {j : Nat} {e : DictEntry}, es[j]? = some e → ∃ p, vs[j]? = some p ∧ (mixKind P w).is p.1 e.key = true ∧ e.val = p.2
  | _, _, .nil => ⟨rfl, fun h => nomatch h⟩
  | _, _, .cons h1 h2 r => by
    obtain ⟨len, get⟩ := pairs_get r
    refine ⟨congrArg (· + 1) len, fun {j e} h => ?_⟩
    cases j with
    | zero =>
      have z := Option.some.inj h
      subst z
      exact ⟨_, rfl, h1, h2⟩
    | succ j => exact get h
/-- sorted(a view of the items) -/
def rSortIt : List V → Hp → VK → Prop := fun vs H Q => ∃ (p a : Addr) (l : Tab), vs = [.ref p] ∧ H p = some (DX.itemsO p a) ∧ H a = some (.dK (tab l)) ∧ l.length ≤ 1000 ∧
  ∀ (H' : Hp) (r : Addr) (ts : List Addr) (l' : Tab), (∀ b o, H b = some o → H' b = some o) → H r = none → H' r = some (.lst (ts.map V.ref)) → ts.length = l'.length →
    (∀ (j : Nat) (t : Addr) (z : Int × Int), ts[j]? = some t → l'[j]? = some z → H' t = some (.tup [.int z.1, .int z.2])) → l'.Perm l → l'.Pairwise (fun x y => x.1 ≤ y.1) → Q (.ref r) H'
theorem cr_sortIt {X : Cx} (hc : X.calm = true) : CallR X (.builtin "sorted") rSortIt := by
  intro pins s σ H xs us Q I r h
  obtain ⟨p, a, l, rfl, hp, ha, few, q⟩ := h
  obtain rfl := Vals.ref1 r
  have view : s.heap.IsItemsView p a := (I.hok p _ hp).1
  obtain ⟨z, hd, vs, kv, o, es, ep, ho, hx, hdat, keys, pairs, nd0⟩ := dk_of I.hok ha
  have hh : X.A.handled = none := I.ok.hd hc
  obtain ⟨len1, get1⟩ := pairs_get pairs
  have len2 : (tab l).length = vs.length := Paired.length kv
  rw [tab_len] at len2
  rw [Array.length_toList] at len1
  refine DT.sortedI (es := es) (ep := ep) hh view ⟨o, ho, hx, hdat⟩ (by rw [sizeLine_eq]; omega) fun h1 tk as hk lt lenA made => ?_
  have lak : as.length = l.length := by omega
  have nd : as.Nodup := List.Pairwise.imp (fun h => Nat.ne_of_lt h) made.rise
  -- the pairs that were made
  have pr : ∀ (j : Nat) (b : Addr), as[j]? = some b → ∃ (z : Int × Int) (t u : Tok), l[j]? = some z ∧ h1.get? b = some { cls := .type "tuple", data := .seq #[.int z.1 t, .int z.2 u] } := by
    intro j b hj
    obtain ⟨en, he, hg⟩ := made.pairs j b hj
    obtain ⟨pq, hpq, is, val⟩ := get1 (j := j) (e := en) (by rw [Array.getElem?_toList]; exact he)
    obtain ⟨z, hz, k1, u, k2⟩ := tab_get kv hpq
    rw [k1] at is
    obtain ⟨t, hkey⟩ : ∃ t, en.key = Value.int z.1 t := by
      rcases keyIs_shape (show keyIs (Sum.inl z.1 : Key) en.key = true from is) with ⟨i, t, e1, e2⟩ | ⟨x, t, e1, e2⟩
      · cases e1
        exact ⟨t, e2⟩
      · cases e1
    exact ⟨z, t, u, hz, by rw [hg, hkey, val, k2]⟩
  have ndz : ((as.zip l).map (·.1)).Nodup := by
    rw [List.map_fst_zip (by omega)]
    exact nd
  let kz : Addr → Int × Int := fun b => (getL (as.zip l) b).getD (0, 0)
  have kzAt : ∀ (j : Nat) (b : Addr) (z : Int × Int), as[j]? = some b → l[j]? = some z → kz b = z := fun j b z hb hz => by
    have m : (b, z) ∈ as.zip l := List.mem_of_getElem? (List.getElem?_zip_eq_some.mpr ⟨hb, hz⟩)
    show (getL (as.zip l) b).getD (0, 0) = z
    rw [getL_of_mem ndz m] <;> rfl
  have mapKz : as.map kz = l := by
    refine List.ext_getElem? fun j => ?_
    rw [List.getElem?_map]
    cases hb : as[j]? with
    | none =>
      have := List.getElem?_eq_none_iff.mp hb
      exact (List.getElem?_eq_none_iff.mpr (by omega)).symm
    | some b =>
      obtain ⟨z, _, _, hz, _⟩ := pr j b hb
      rw [hz]
      exact congrArg some (kzAt j b z hb hz)
  -- the heap of the sort
  have atL : (h1.push { cls := .type "list", data := .seq (as.map Value.ref).toArray }).get? h1.objs.size = some (seqObj "list" (as.map Value.ref).toArray 0) := Heap.get?_push_size _ rfl
  have up : ∀ b o, h1.get? b = some o → (h1.push { cls := .type "list", data := .seq (as.map Value.ref).toArray }).get? b = some o := fun b o e => Heap.get?_push_of_some _ e
  have ne1 : ∀ b o, h1.get? b = some o → b ≠ h1.objs.size := fun b o e => Nat.ne_of_lt (Heap.lt_size e)
  generalize h1.push { cls := .type "list", data := .seq (as.map Value.ref).toArray } = h2 at atL up ⊢
  have isPair : ∀ v ∈ as.map Value.ref, Srt.IsPair h2 v (kz (addrOf v)).1 (kz (addrOf v)).2 := fun v hv => by
    obtain ⟨b, hb, rfl⟩ := List.mem_map.mp hv
    obtain ⟨j, hj⟩ := List.mem_iff_getElem?.mp hb
    obtain ⟨z, t, u, hz, hg⟩ := pr j b hj
    rw [show kz (addrOf (.ref b)) = z from kzAt j b z hj hz]
    exact ⟨b, _, t, u, 0, rfl, up _ _ hg, rfl, rfl⟩
  refine wpAny_call_entry PyProof.Rows.slot_list_sort ⟨_, atL, rfl⟩ PyProof.Rows.entry_list_sort (SrtO.list_sort_ord (s := { s with heap := h2, toks := tk }) (SrtO.swo_lex fun v => kz (addrOf v)) atL (by rw [List.length_map, sizeLine_eq]; omega) (fun two => ?_) fun out srt stb => ⟨.none, rfl, ?_⟩) (PyProof.Rows.args_list_sort _)
  · refine SrtO.pairs_sortableO (s := { s with heap := h2, toks := tk }) (by omega) isPair fun o e => ?_
    have e2 := e.symm.trans atL
    cases e2
    exact fun c => absurd (Value.type.inj c) (by decide)
  · show EP X pins σ Q (.ref h1.objs.size) { s with heap := sortedHeap h2 h1.objs.size (as.map Value.ref) out.toArray, toks := tk }
    have isRef : ∀ v ∈ out, v = Value.ref (addrOf v) := fun v hv => by
      obtain ⟨b, _, rfl⟩ := List.mem_map.mp (stb.perm.mem_iff.mp hv)
      rfl
    have outs : (out.map addrOf).map Value.ref = out := by
      rw [List.map_map]
      exact (List.map_congr_left fun v hv => (isRef v hv).symm).trans (List.map_id _)
    have permA : (out.map addrOf).Perm as := by
      have e := stb.perm.map addrOf
      rw [List.map_map] at e
      exact e.trans (by rw [show (as.map (addrOf ∘ Value.ref)) = as from List.map_id _])
    have permL : ((out.map addrOf).map kz).Perm l := by
      have e := permA.map kz
      rw [mapKz] at e
      exact e
    have rises : ((out.map addrOf).map kz).Pairwise (fun x y => x.1 ≤ y.1) := by
      rw [List.map_map, List.pairwise_map]
      refine List.Pairwise.imp (fun {v u} h => ?_) srt
      have no := SrtO.lexB_no.mp h
      show (kz (addrOf v)).1 ≤ (kz (addrOf u)).1
      omega
    have keepF : ∀ b o, b ≠ h1.objs.size → h2.get? b = some o → (sortedHeap h2 h1.objs.size (as.map Value.ref) out.toArray).get? b = some o := fun b o hb e => (PyProof.Rows.sortedHeap_old hb (Heap.lt_size e)).trans e
    have keepS : ∀ b o, s.heap.get? b = some o → (sortedHeap h2 h1.objs.size (as.map Value.ref) out.toArray).get? b = some o := fun b o e => keepF b o (ne1 _ _ (hk b o e)) (up _ _ (hk b o e))
    obtain ⟨eF, atF⟩ := PyProof.Rows.sortedHeap_at (vs := as.map Value.ref) (out := out.toArray) atL
    have I1 : Inv X pins σ H { s with heap := sortedHeap h2 h1.objs.size (as.map Value.ref) out.toArray, toks := tk } := I.kept (t' := tk) keepS
    have fresh : H h1.objs.size = none := I.hok.fresh (Nat.le_of_lt lt)
    have lenT : (out.map addrOf).length = l.length := by
      rw [permA.length_eq]
      exact lak
    have rv : Vals ((out.map addrOf).map V.ref) out := by
      have e := LiI.vals_refs (out.map addrOf)
      rw [outs] at e
      exact e
    have I2 : Inv X pins σ (upd H h1.objs.size (.lst ((out.map addrOf).map V.ref))) { s with heap := sortedHeap h2 h1.objs.size (as.map Value.ref) out.toArray, toks := tk } :=
      I1.take (h' := sortedHeap h2 h1.objs.size (as.map Value.ref) out.toArray) (t' := tk) (fun b ob _ e => e) (I.fpOk (Nat.le_of_lt lt) fresh) ⟨by rw [List.length_map, lenT, sizeLine_eq]; omega, out, eF, rv, atF⟩
    obtain ⟨H2, I3, g, qt⟩ := DX.takeT (P := fun b ws => ∃ (j : Nat) (z : Int × Int), as[j]? = some b ∧ l[j]? = some z ∧ ws = [.int z.1, .int z.2]) I as _ I2 nd fun b hb => by
      obtain ⟨j, hj⟩ := List.mem_iff_getElem?.mp hb
      obtain ⟨z, t, u, hz, hg⟩ := pr j b hj
      have above : s.heap.objs.size ≤ b := Nat.le_of_lt (made.above b hb)
      refine ⟨above, ?_, [.int z.1, .int z.2], ⟨j, z, hj, hz, rfl⟩, fun H3 => ⟨by show 2 ≤ sizeLine; decide, [.int z.1 t, .int z.2 u], .cons ⟨_, rfl⟩ (.cons ⟨_, rfl⟩ .nil), ⟨_, keepF _ _ (ne1 _ _ hg) (up _ _ hg), rfl, 0, rfl⟩⟩⟩
      rw [upd_ne (ne1 _ _ hg)]
      exact I.hok.fresh above
    have gr : ∀ b o, H b = some o → H2 b = some o := fun b o e => g b o (by rw [upd_ne (ne_of_none e fresh)]; exact e)
    refine ⟨.ref h1.objs.size, H2, I3, rfl, q H2 h1.objs.size (out.map addrOf) ((out.map addrOf).map kz) gr fresh (g _ _ upd_same) (List.length_map ..).symm (fun j t z ht hz => ?_) permL rises⟩
    rw [List.getElem?_map, ht] at hz
    cases hz
    obtain ⟨ws, ⟨i, z, i1, i2, rfl⟩, hH⟩ := qt t (permA.mem_iff.mp (List.mem_of_getElem? ht))
    rw [show kz t = z from kzAt i t z i1 i2]
    exact hH
end PX
/-! Rules: trees over names, and how one stands in a heap. -/
namespace PX
open PySem PySem.Spec PyProof.Rows L2
inductive RT where
  | base (n : Str)
  | op (w : Str) (ps : List RT)
mutual
def RT.flat : RT → List Str
  | .base n => [n]
  | .op w ps => w :: flats ps
def flats : List RT → List Str
  | [] => []
  | p :: r => p.flat ++ flats r
end
mutual
def RT.text : RT → Str
  | .base n => n
  | .op w ps => w ++ "(" ++ PySem.Txt.join ", " (texts ps) ++ ")"
def texts : List RT → List Str
  | [] => []
  | p :: r => p.text :: texts r
end
mutual
def RT.bases : RT → List Str
  | .base n => [n]
  | .op _ ps => basesL ps
def basesL : List RT → List Str
  | [] => []
  | p :: r => p.bases ++ basesL r
end
mutual
/-- no less than the text's length and the number of nodes -/
def RT.wt : RT → Nat
  | .base n => n.length + 1
  | .op w ps => w.length + 3 + wts ps
def wts : List RT → Nat
  | [] => 0
  | p :: r => p.wt + 2 + wts r
end
theorem texts_len : ∀ ps : List RT, (texts ps).length = ps.length
  | [] => rfl
  | p :: r => congrArg (· + 1) (texts_len r)
mutual
theorem RT.text_le : ∀ r : RT, r.text.length ≤ r.wt
  | .base n => by
    simp only [RT.text, RT.wt]
    omega
  | .op w ps => by
    have h := texts_le ps
    have j : (PySem.Txt.join ", " (texts ps)).length ≤ wts ps := by
      show (Builtin.Str.glued ", " (texts ps)).length ≤ _
      rw [StrLaws.glued_eq_join]
      have z := StrLaws.join_length_le ", " (texts ps)
      have e2 : ((", " : String) : Str).length = 2 := rfl
      rw [e2] at z
      omega
    simp only [RT.text, RT.wt, strLen_append]
    have e1 : (("(" : String) : Str).length = 1 := rfl
    have e3 : ((")" : String) : Str).length = 1 := rfl
    omega
theorem texts_le : ∀ ps : List RT, ((texts ps).map (·.length)).sum + (texts ps).length * 2 ≤ wts ps
  | [] => Nat.le_refl _
  | p :: r => by
    have h1 := RT.text_le p
    have h2 := texts_le r
    simp only [texts, wts, List.map_cons, List.sum_cons, List.length_cons, Nat.add_mul]
    omega
end
mutual
theorem RT.flat_le : ∀ r : RT, r.flat.length ≤ r.wt
  | .base n => by
    simp only [RT.flat, RT.wt, List.length_singleton]
    omega
  | .op w ps => by
    have h := flats_le ps
    simp only [RT.flat, RT.wt, List.length_cons]
    omega
theorem flats_le : ∀ ps : List RT, (flats ps).length ≤ wts ps
  | [] => Nat.le_refl _
  | p :: r => by
    have h1 := RT.flat_le p
    have h2 := flats_le r
    simp only [flats, wts, List.length_append]
    omega
end
theorem len_wts : ∀ ps : List RT, ps.length ≤ wts ps
  | [] => Nat.le_refl _
  | p :: r => by
    have h := len_wts r
    simp only [wts, List.length_cons]
    omega
/-- the fields of a rule -/
def fR (op : Str) (nm : V) (t f : Addr) (tx : Str) (b : Addr) : List (Str × V) := putF "base_names" (.ref b) (putF "written" (.str tx) (putF "flat" (.ref f) (putF "operands" (.ref t) (putF "name" nm (putF "operation" (.str op) [])))))
section
variable {op : Str} {nm : V} {t f : Addr} {tx : Str} {b : Addr}
theorem fR_operation : (fR op nm t f tx b).lookup ("operation" : Str) = some (.str op) := by rfl
theorem fR_name : (fR op nm t f tx b).lookup ("name" : Str) = some nm := by rfl
theorem fR_operands : (fR op nm t f tx b).lookup ("operands" : Str) = some (.ref t) := by rfl
theorem fR_flat : (fR op nm t f tx b).lookup ("flat" : Str) = some (.ref f) := by rfl
theorem fR_written : (fR op nm t f tx b).lookup ("written" : Str) = some (.str tx) := by rfl
theorem fR_base_names : (fR op nm t f tx b).lookup ("base_names" : Str) = some (.ref b) := by rfl
end
/-- the names of some rules: sorted, each once -/
structure NamesOk (ns all : List Str) : Prop where
  srt : sortedS ns = true
  nd : ns.Nodup
  mem : ∀ x, x ∈ ns ↔ x ∈ all
mutual
/-- at a stands the rule -/
def RuleAt (C : Addr) (H : Hp) : RT → Addr → Prop
  | .base n, a => ∃ dx t f b : Addr, H a = some (.ins C dx (fR "base" (.str n) t f n b)) ∧ H t = some (.tup []) ∧ H f = some (.tup [.str n]) ∧ H b = some (.tup [.str n])
  | .op w ps, a => ∃ (dx t f b : Addr) (ls : List Addr) (ns : List Str), H a = some (.ins C dx (fR w .non t f (RT.op w ps).text b)) ∧ H t = some (.tup (ls.map V.ref)) ∧ RulesAt C H ps ls ∧ H f = some (.tup ((w :: flats ps).map V.str)) ∧ H b = some (.tup (ns.map V.str)) ∧ NamesOk ns (basesL ps)
def RulesAt (C : Addr) (H : Hp) : List RT → List Addr → Prop
  | [], ls => ls = []
  | p :: ps, ls => ∃ (a : Addr) (r : List Addr), ls = a :: r ∧ RuleAt C H p a ∧ RulesAt C H ps r
end
mutual
theorem RuleAt.same {C : Addr} {H H' : Hp} (s : Same H H') : ∀ (r : RT) (a : Addr), RuleAt C H r a → RuleAt C H' r a
  | .base n, a, h => by
    obtain ⟨dx, t, f, b, h1, h2, h3, h4⟩ := h
    exact ⟨dx, t, f, b, s _ _ h1, s _ _ h2, s _ _ h3, s _ _ h4⟩
  | .op w ps, a, h => by
    obtain ⟨dx, t, f, b, ls, ns, h1, h2, h3, h4, h5, h6⟩ := h
    exact ⟨dx, t, f, b, ls, ns, s _ _ h1, s _ _ h2, RulesAt.same s ps ls h3, s _ _ h4, s _ _ h5, h6⟩
theorem RulesAt.same {C : Addr} {H H' : Hp} (s : Same H H') : ∀ (ps : List RT) (ls : List Addr), RulesAt C H ps ls → RulesAt C H' ps ls
  | [], _, h => h
  | p :: ps, _, h => by
    obtain ⟨a, r, e, h1, h2⟩ := h
    exact ⟨a, r, e, RuleAt.same s p a h1, RulesAt.same s ps r h2⟩
end
theorem RulesAt.len {C : Addr} {H : Hp} : ∀ {ps : List RT} {ls : List Addr}, RulesAt C H ps ls → ls.length = ps.length
  | [], _, h => by
    rw [show _ = [] from h] <;> rfl
  | p :: ps, _, h => by
    obtain ⟨a, r, rfl, h1, h2⟩ := h
    exact congrArg (· + 1) h2.len
theorem RulesAt.get {C : Addr} {H : Hp} : ∀ {ps : List RT} {ls : List Addr}, RulesAt C H ps ls → ∀ {i : Nat} {a : Addr}, ls[i]? = some a → ∃ r, ps[i]? = some r ∧ RuleAt C H r a
  | [], _, h, i, a, e => by
    rw [show _ = [] from h] at e
    cases e
  | p :: ps, _, h, i, a, e => by
    obtain ⟨a0, r, rfl, h1, h2⟩ := h
    cases i with
    | zero =>
      cases e
      exact ⟨p, rfl, h1⟩
    | succ i => exact h2.get e
/-- what every rule has -/
theorem RuleAt.fields {C : Addr} {H : Hp} {r : RT} {a : Addr} (h : RuleAt C H r a) : ∃ (op : Str) (nm : V) (dx t f b : Addr) (ns : List Str), H a = some (.ins C dx (fR op nm t f r.text b)) ∧ H f = some (.tup (r.flat.map V.str)) ∧ H b = some (.tup (ns.map V.str)) ∧ NamesOk ns r.bases := by
  cases r with
  | base n =>
    obtain ⟨dx, t, f, b, h1, h2, h3, h4⟩ := h
    exact ⟨_, _, dx, t, f, b, [n], h1, h3, h4, rfl, by simp, fun x => Iff.rfl⟩
  | op w ps =>
    obtain ⟨dx, t, f, b, ls, ns, h1, h2, h3, h4, h5, h6⟩ := h
    exact ⟨_, _, dx, t, f, b, ns, h1, h4, h5, h6⟩
theorem basesL_mem {x : Str} : ∀ {ps : List RT}, x ∈ basesL ps ↔ ∃ p ∈ ps, x ∈ p.bases
  | [] => by simp [basesL]
  | p :: r => by
    simp only [basesL, List.mem_append, List.mem_cons, basesL_mem (ps := r)]
    constructor
    · rintro (h | ⟨q, h1, h2⟩)
      · exact ⟨p, .inl rfl, h⟩
      · exact ⟨q, .inr h1, h2⟩
    · rintro ⟨q, rfl | h1, h2⟩
      · exact .inl h2
      · exact .inr ⟨q, h1, h2⟩
theorem flats_append : ∀ (l : List RT) (r : RT), flats (l ++ [r]) = flats l ++ r.flat
  | [], r => by simp [flats]
  | p :: l, r => by
    rw [List.cons_append]
    simp only [flats]
    rw [flats_append l r, List.append_assoc]
theorem texts_append : ∀ (l : List RT) (r : RT), texts (l ++ [r]) = texts l ++ [r.text]
  | [], r => by simp [texts]
  | p :: l, r => by
    rw [List.cons_append]
    simp only [texts]
    rw [texts_append l r, List.cons_append]
theorem wts_take : ∀ (ps : List RT) (i : Nat), wts (ps.take i) ≤ wts ps
  | [], _ => by simp [wts]
  | p :: r, 0 => Nat.zero_le _
  | p :: r, i + 1 => by
    have := wts_take r i
    rw [List.take_succ_cons]
    simp only [wts]
    omega
theorem join_le_wts (ps : List RT) : (PySem.Txt.join ", " (texts ps)).length ≤ wts ps := by
  have h := texts_le ps
  show (Builtin.Str.glued ", " (texts ps)).length ≤ _
  rw [StrLaws.glued_eq_join]
  have z := StrLaws.join_length_le ", " (texts ps)
  have e2 : ((", " : String) : Str).length = 2 := rfl
  rw [e2] at z
  omega
/-! ### the parts of a rule, each behind its own parts -/
def RT.kids : RT → List RT
  | .base _ => []
  | .op _ ps => ps
mutual
def RT.subs : RT → List RT
  | .base n => [.base n]
  | .op w ps => subsL ps ++ [.op w ps]
def subsL : List RT → List RT
  | [] => []
  | p :: r => p.subs ++ subsL r
end
theorem RT.subs_kids (r : RT) : r.subs = subsL r.kids ++ [r] := by
  cases r <;> rfl
theorem subsL_append : ∀ (l m : List RT), subsL (l ++ m) = subsL l ++ subsL m
  | [], m => rfl
  | p :: l, m => by
    rw [List.cons_append]
    simp only [subsL]
    rw [subsL_append l m, List.append_assoc]
theorem subsL_one (r : RT) : subsL [r] = r.subs := by simp [subsL]
theorem RulesAt.append {C : Addr} {H : Hp} : ∀ {ps qs : List RT} {ls ms : List Addr}, RulesAt C H ps ls → RulesAt C H qs ms → RulesAt C H (ps ++ qs) (ls ++ ms)
  | [], _, _, _, h, g => by
    rw [show _ = [] from h]
    exact g
  | p :: ps, _, _, _, h, g => by
    obtain ⟨a, r, rfl, h1, h2⟩ := h
    exact ⟨a, _, rfl, h1, h2.append g⟩
theorem RulesAt.one {C : Addr} {H : Hp} {r : RT} {a : Addr} (h : RuleAt C H r a) : RulesAt C H [r] [a] := ⟨a, [], rfl, h, rfl⟩
theorem RulesAt.snoc {C : Addr} {H : Hp} : ∀ {ps : List RT} {ls : List Addr}, RulesAt C H ps ls → ps ≠ [] → ∃ ps' r ls' x, ps = ps' ++ [r] ∧ ls = ls' ++ [x] ∧ RulesAt C H ps' ls' ∧ RuleAt C H r x
  | [], _, _, n => absurd rfl n
  | [p], _, h, _ => by
    obtain ⟨a, r, rfl, h1, h2⟩ := h
    rw [show r = [] from h2]
    exact ⟨[], p, [], a, rfl, rfl, rfl, h1⟩
  | p :: q :: ps, _, h, _ => by
    obtain ⟨a, r, rfl, h1, h2⟩ := h
    obtain ⟨ps', r', ls', x, e1, e2, g1, g2⟩ := h2.snoc (by simp)
    exact ⟨p :: ps', r', a :: ls', x, by rw [e1] <;> rfl, by rw [e2] <;> rfl, ⟨a, ls', rfl, h1, g1⟩, g2⟩
theorem RulesAt.rev {C : Addr} {H : Hp} : ∀ {ps : List RT} {ls : List Addr}, RulesAt C H ps ls → RulesAt C H ps.reverse ls.reverse
  | [], _, h => by
    rw [show _ = [] from h]
    exact rfl
  | p :: ps, _, h => by
    obtain ⟨a, r, rfl, h1, h2⟩ := h
    rw [List.reverse_cons, List.reverse_cons]
    exact h2.rev.append (.one h1)
def RT.word : RT → Str
  | .base _ => "base"
  | .op w _ => w
/-- a rule's word and parts -/
theorem RuleAt.parts {C : Addr} {H : Hp} {r : RT} {a : Addr} (h : RuleAt C H r a) : ∃ (nm : V) (dx t f b : Addr) (ls : List Addr), H a = some (.ins C dx (fR r.word nm t f r.text b)) ∧ H t = some (.tup (ls.map V.ref)) ∧ RulesAt C H r.kids ls := by
  cases r with
  | base n =>
    obtain ⟨dx, t, f, b, h1, h2, h3, h4⟩ := h
    exact ⟨_, dx, t, f, b, [], h1, h2, rfl⟩
  | op w ps =>
    obtain ⟨dx, t, f, b, ls, ns, h1, h2, h3, h4, h5, h6⟩ := h
    exact ⟨_, dx, t, f, b, ls, h1, h2, h3⟩
theorem len_subsL : ∀ ps : List RT, ps.length ≤ (subsL ps).length
  | [] => Nat.le_refl _
  | p :: r => by
    have h := len_subsL r
    have h2 : 1 ≤ p.subs.length := by
      rw [RT.subs_kids, List.length_append, List.length_singleton]
      exact Nat.le_add_left _ _
    simp only [subsL, List.length_append, List.length_cons]
    omega
end PX
/-! What the words do to tables, in plain lists. -/
namespace PX
open PySem PySem.Spec PyProof.Rows L2
def mergeT (l m : Tab) : Tab := m.foldl (fun acc p => putL acc p.1 p.2) l
def fillT (l m : Tab) : Tab := m.foldl (fun acc p => if hasL acc p.1 = true then acc else acc ++ [p]) l
def moveT (l m : Tab) : Tab := m.foldl (fun acc p => match getL acc p.1 with | some v => dropL acc p.1 ++ [(p.1, v)] | none => acc) l
theorem mergeK_tab : ∀ (m l : Tab), mergeK (tab l) (tab m) = tab (mergeT l m)
  | [], l => rfl
  | p :: m, l => by
    show mergeK (putK (tab l) (Sum.inl p.1 : Key) (.int p.2)) (tab m) = _
    rw [putK_tab, mergeK_tab m]
    rfl
theorem dropK_tab (l : Tab) (k : Int) : dropK (tab l) (Sum.inl k : Key) = tab (dropL l k) := by
  unfold dropK dropL tab
  rw [List.filter_map]
  congr 1
  refine List.filter_congr fun p _ => ?_
  by_cases e : p.1 = k
  · simp [Function.comp, kI, e]
  · simp [Function.comp, kI, e]
theorem mergeT_len (m : Tab) : ∀ l : Tab, (mergeT l m).length ≤ l.length + m.length := by
  induction m with
  | nil => intro l; exact Nat.le_refl _
  | cons p m ih =>
    intro l
    have h := ih (putL l p.1 p.2)
    have h2 := putL_length l p.1 p.2
    show (mergeT (putL l p.1 p.2) m).length ≤ _
    rw [List.length_cons]
    omega
theorem TabOk.merge {l m : Tab} (h : TabOk l) (g : TabOk m) : TabOk (mergeT l m) := by
  have sm := g.sm
  clear g
  induction m generalizing l with
  | nil => exact h
  | cons p m ih => exact ih (h.put (sm p List.mem_cons_self).1 (sm p List.mem_cons_self).2) fun q hq => sm q (List.mem_cons_of_mem _ hq)
theorem fillT_len (m : Tab) : ∀ l : Tab, (fillT l m).length ≤ l.length + m.length := by
  induction m with
  | nil => intro l; exact Nat.le_refl _
  | cons p m ih =>
    intro l
    show (fillT (if hasL l p.1 = true then l else l ++ [p]) m).length ≤ _
    have h := ih (if hasL l p.1 = true then l else l ++ [p])
    have h2 : (if hasL l p.1 = true then l else l ++ [p]).length ≤ l.length + 1 := by
      split
      · omega
      · rw [List.length_append]; exact Nat.le_refl _
    rw [List.length_cons]
    omega
theorem TabOk.snoc {l : Tab} (h : TabOk l) {p : Int × Int} (n : p.1 ∉ l.map (·.1)) (g : Num p.1 ∧ Num p.2) : TabOk (l ++ [p]) := by
  rw [show l ++ [p] = putL l p.1 p.2 from (putL_new p.2 n).symm]
  exact h.put g.1 g.2
theorem TabOk.fill {l m : Tab} (h : TabOk l) (g : TabOk m) : TabOk (fillT l m) := by
  have sm := g.sm
  clear g
  induction m generalizing l with
  | nil => exact h
  | cons p m ih =>
    refine ih ?_ fun q hq => sm q (List.mem_cons_of_mem _ hq)
    show TabOk (if hasL l p.1 = true then l else l ++ [p])
    by_cases e : hasL l p.1 = true
    · rw [if_pos e]
      exact h
    · rw [if_neg e]
      exact h.snoc (fun z => e (hasL_iff.mpr z)) (sm p List.mem_cons_self)
theorem dropL_keys {l : Tab} {k : Int} : k ∉ (dropL l k).map (·.1) := fun z => by
  obtain ⟨p, hp, e⟩ := List.mem_map.mp z
  have := (List.mem_filter.mp hp).2
  exact (of_decide_eq_true this) e
theorem TabOk.drop {l : Tab} (h : TabOk l) (k : Int) : TabOk (dropL l k) := ⟨h.nd.sublist (List.filter_sublist.map _), fun p hp => h.sm p (List.mem_filter.mp hp).1⟩
theorem moveT_ok {l : Tab} (h : TabOk l) (p : Int × Int) : TabOk (match getL l p.1 with | some v => dropL l p.1 ++ [(p.1, v)] | none => l) := by
  cases e : getL l p.1 with
  | none => exact h
  | some v => exact (h.drop p.1).snoc dropL_keys (h.sm (p.1, v) (mem_of_getL e))
theorem TabOk.move {l m : Tab} (h : TabOk l) : TabOk (moveT l m) := by
  induction m generalizing l with
  | nil => exact h
  | cons p m ih => exact ih (moveT_ok h p)
theorem drop_len {l : Tab} {k v : Int} (nd : (l.map (·.1)).Nodup) (e : getL l k = some v) : (dropL l k).length + 1 ≤ l.length := by
  have hm := mem_of_getL e
  have : (dropL l k).length < l.length := by
    unfold dropL
    rw [← List.countP_eq_length_filter]
    exact Nat.lt_of_le_of_ne (List.countP_le_length) fun z => by
      have all := List.countP_eq_length.mp z (k, v) hm
      exact (of_decide_eq_true all) rfl
  omega
theorem moveT_len {m : Tab} : ∀ {l : Tab}, TabOk l → (moveT l m).length ≤ l.length := by
  induction m with
  | nil => intro l _; exact Nat.le_refl _
  | cons p m ih =>
    intro l h
    refine Nat.le_trans (ih (moveT_ok h p)) ?_
    show List.length (match getL l p.1 with | some v => dropL l p.1 ++ [(p.1, v)] | none => l) ≤ _
    cases e : getL l p.1 with
    | none => exact Nat.le_refl _
    | some v =>
      show (dropL l p.1 ++ [(p.1, v)]).length ≤ _
      rw [List.length_append]
      exact drop_len h.nd e
theorem mergeT_take {l m : Tab} {i : Nat} {p : Int × Int} (h : m[i]? = some p) : mergeT l (m.take (i + 1)) = putL (mergeT l (m.take i)) p.1 p.2 := by
  unfold mergeT
  rw [take_next h, List.foldl_append]
  rfl
theorem fillT_take {l m : Tab} {i : Nat} {p : Int × Int} (h : m[i]? = some p) : fillT l (m.take (i + 1)) = if hasL (fillT l (m.take i)) p.1 = true then fillT l (m.take i) else fillT l (m.take i) ++ [p] := by
  unfold fillT
  rw [take_next h, List.foldl_append]
  rfl
theorem moveT_take {l m : Tab} {i : Nat} {p : Int × Int} (h : m[i]? = some p) : moveT l (m.take (i + 1)) = match getL (moveT l (m.take i)) p.1 with | some v => dropL (moveT l (m.take i)) p.1 ++ [(p.1, v)] | none => moveT l (m.take i) := by
  unfold moveT
  rw [take_next h, List.foldl_append]
  rfl
end PX
/-! Lists of tables, and the result of one word for them. -/
namespace PX
open PySem PySem.Spec PyProof.Rows L2
theorem upd_two {H : Hp} {a b : Addr} {o u : HO} (n : a ≠ b) : upd (upd H a o) b u = upd (upd H b u) a o := by
  funext c
  by_cases e : c = a
  · rw [e, upd_same, upd_ne n, upd_same]
  · rw [upd_ne e]
    by_cases z : c = b
    · rw [z, upd_same, upd_same]
    · rw [upd_ne z, upd_ne z, upd_ne e]
/-- dicts at addresses -/
structure DsAt (H : Hp) (ds : List Addr) (ls : List Tab) : Prop where
  len : ds.length = ls.length
  at_ : ∀ (i : Nat) (d : Addr) (l : Tab), ds[i]? = some d → ls[i]? = some l → H d = some (.dK (tab l))
theorem DsAt.same {H H' : Hp} {ds : List Addr} {ls : List Tab} (h : DsAt H ds ls) (s : Same H H') : DsAt H' ds ls := ⟨h.len, fun i d l a b => s _ _ (h.at_ i d l a b)⟩
theorem DsAt.get {H : Hp} {ds : List Addr} {ls : List Tab} (h : DsAt H ds ls) {i : Nat} {d : Addr} (e : ds[i]? = some d) : ∃ l, ls[i]? = some l ∧ H d = some (.dK (tab l)) := by
  have hi := (List.getElem?_eq_some_iff.mp e).1
  rw [h.len] at hi
  exact ⟨ls[i], List.getElem?_eq_getElem hi, h.at_ i d _ e (List.getElem?_eq_getElem hi)⟩
def mergeAll (ls : List Tab) : Tab := ls.foldl mergeT []
def sumLen : List Tab → Nat
  | [] => 0
  | l :: r => l.length + sumLen r
theorem sumLen_append : ∀ a b : List Tab, sumLen (a ++ b) = sumLen a + sumLen b
  | [], b => by simp [sumLen]
  | l :: a, b => by
    have := sumLen_append a b
    simp only [List.cons_append, sumLen]
    omega
theorem sumLen_take (ls : List Tab) (i : Nat) : sumLen (ls.take i) ≤ sumLen ls := by
  have := sumLen_append (ls.take i) (ls.drop i)
  rw [List.take_append_drop] at this
  omega
theorem mergeAll_take {ls : List Tab} {i : Nat} {l : Tab} (h : ls[i]? = some l) : mergeAll (ls.take (i + 1)) = mergeT (mergeAll (ls.take i)) l := by
  unfold mergeAll
  rw [take_next h, List.foldl_append]
  rfl
theorem mergeAll_len (ls : List Tab) (i : Nat) : (mergeAll (ls.take i)).length ≤ sumLen (ls.take i) := by
  induction i with
  | zero => exact Nat.le_refl _
  | succ i ih =>
    cases e : ls[i]? with
    | none =>
      have z : ls.length ≤ i := by
        rcases Nat.lt_or_ge i ls.length with q | q
        · rw [List.getElem?_eq_getElem q] at e
          cases e
        · exact q
      rw [List.take_of_length_le z] at ih
      rw [List.take_of_length_le (Nat.le_succ_of_le z)]
      exact ih
    | some l =>
      rw [mergeAll_take e, take_next e, sumLen_append]
      have := mergeT_len l (mergeAll (ls.take i))
      show _ ≤ sumLen (ls.take i) + (l.length + 0)
      omega

/-! ### the result of one word -/
def sortT (l : Tab) : Tab := l.mergeSort fun x y => decide (x.1 ≤ y.1)
theorem sortT_perm (l : Tab) : (sortT l).Perm l := List.mergeSort_perm _ _
theorem sortT_sorted (l : Tab) : (sortT l).Pairwise fun x y => x.1 ≤ y.1 := by
  have h := List.pairwise_mergeSort (le := fun x y : Int × Int => decide (x.1 ≤ y.1)) (fun a b c h1 h2 => decide_eq_true (Int.le_trans (of_decide_eq_true h1) (of_decide_eq_true h2)))
    (fun a b => by
      rcases Int.le_total a.1 b.1 with z | z
      · rw [decide_eq_true z]; rfl
      · rw [decide_eq_true z, Bool.or_true]) l
  exact h.imp fun z => of_decide_eq_true z
theorem nodup_keys_eq {l : Tab} (nd : (l.map (·.1)).Nodup) {a b : Int × Int} (ha : a ∈ l) (hb : b ∈ l) (e : a.1 = b.1) : a = b := by
  have h1 := getL_of_mem nd ha
  have h2 := getL_of_mem nd hb
  rw [e, h2] at h1
  exact Prod.ext e (Option.some.inj h1).symm
theorem sort_eq {l m : Tab} (nd : (l.map (·.1)).Nodup) (p : m.Perm l) (s : m.Pairwise fun x y => x.1 ≤ y.1) : m = sortT l :=
  List.Perm.eq_of_pairwise (le := fun x y : Int × Int => x.1 ≤ y.1) (fun a b ha hb h1 h2 => nodup_keys_eq nd (p.mem_iff.mp ha) ((sortT_perm l).mem_iff.mp hb) (Int.le_antisymm h1 h2)) s (sortT_sorted l) (p.trans (sortT_perm l).symm)
def hd0 (ls : List Tab) : Tab := ls.headD []
def hd1 (ls : List Tab) : Tab := ls.tail.headD []
def combT (w : Str) (ls : List Tab) : Tab :=
  if w = "merged" then mergeAll ls
  else if w = "chained" then mergeAll ls.reverse
  else if w = "turned" then (hd0 ls).reverse
  else if w = "by_keys" then sortT (hd0 ls)
  else if w = "without" then (hd0 ls).filter fun p => !hasL (hd1 ls) p.1
  else if w = "kept" then (hd0 ls).filter fun p => hasL (hd1 ls) p.1
  else if w = "filled" then fillT (hd0 ls) (hd1 ls)
  else moveT (hd0 ls) (hd1 ls)
theorem sumLen_reverse (ls : List Tab) : sumLen ls.reverse = sumLen ls := by
  induction ls with
  | nil => rfl
  | cons l r ih =>
    rw [List.reverse_cons, sumLen_append, ih]
    simp only [sumLen]
    omega
theorem mergeAll_le (ls : List Tab) : (mergeAll ls).length ≤ sumLen ls := by
  have := mergeAll_len ls ls.length
  rw [List.take_length] at this
  exact this
theorem hd_len (ls : List Tab) : (hd0 ls).length + (hd1 ls).length ≤ sumLen ls := by
  match ls with
  | [] => exact Nat.le_refl _
  | [a] => exact Nat.le_refl _
  | a :: b :: r =>
    show a.length + b.length ≤ a.length + (b.length + sumLen r)
    omega
theorem hd0_ok {ls : List Tab} (h : ∀ l ∈ ls, TabOk l) : TabOk (hd0 ls) := by
  cases ls with
  | nil => exact ⟨List.nodup_nil, fun _ z => nomatch z⟩
  | cons a r => exact h a List.mem_cons_self
theorem hd1_ok {ls : List Tab} (h : ∀ l ∈ ls, TabOk l) : TabOk (hd1 ls) := by
  cases ls with
  | nil => exact ⟨List.nodup_nil, fun _ z => nomatch z⟩
  | cons a r => exact hd0_ok fun l hl => h l (List.mem_cons_of_mem _ hl)
theorem TabOk.perm {l m : Tab} (h : TabOk l) (p : m.Perm l) : TabOk m := ⟨(p.map _).nodup_iff.mpr h.nd, fun q hq => h.sm q (p.mem_iff.mp hq)⟩
theorem TabOk.filter {l : Tab} (h : TabOk l) (f : Int × Int → Bool) : TabOk (l.filter f) := ⟨h.nd.sublist (List.filter_sublist.map _), fun p hp => h.sm p (List.mem_filter.mp hp).1⟩
theorem mergeAll_ok {ls : List Tab} (h : ∀ l ∈ ls, TabOk l) : TabOk (mergeAll ls) := by
  unfold mergeAll
  have : ∀ (ls : List Tab) (acc : Tab), (∀ l ∈ ls, TabOk l) → TabOk acc → TabOk (ls.foldl mergeT acc) := by
    intro ls
    induction ls with
    | nil => intro acc _ g; exact g
    | cons a r ih => intro acc h g; exact ih _ (fun l hl => h l (List.mem_cons_of_mem _ hl)) (g.merge (h a List.mem_cons_self))
  exact this ls [] h ⟨List.nodup_nil, fun _ z => nomatch z⟩
theorem combT_ok (w : Str) {ls : List Tab} (h : ∀ l ∈ ls, TabOk l) : TabOk (combT w ls) := by
  have a := hd0_ok h
  have b := hd1_ok h
  unfold combT
  repeat' split
  · exact mergeAll_ok h
  · exact mergeAll_ok fun l hl => h l (List.mem_reverse.mp hl)
  · exact a.perm (List.reverse_perm _)
  · exact a.perm (sortT_perm _)
  · exact a.filter _
  · exact a.filter _
  · exact a.fill b
  · exact a.move
theorem combT_len (w : Str) {ls : List Tab} (h : ∀ l ∈ ls, TabOk l) : (combT w ls).length ≤ sumLen ls := by
  have a := hd0_ok h
  have e := hd_len ls
  unfold combT
  repeat' split
  · exact mergeAll_le ls
  · rw [← sumLen_reverse]
    exact mergeAll_le _
  · rw [List.length_reverse]
    omega
  · rw [(sortT_perm _).length_eq]
    omega
  · refine Nat.le_trans (List.length_filter_le ..) ?_
    omega
  · refine Nat.le_trans (List.length_filter_le ..) ?_
    omega
  · exact Nat.le_trans (fillT_len _ _) e
  · refine Nat.le_trans (moveT_len a) ?_
    omega
end PX
/-! What a rule's tree answers for tables, and the stack that walks through it. -/
namespace PX
open PySem PySem.Spec PyProof.Rows L2
mutual
/-- a rule stays where all but lists stays -/
theorem RuleAt.keep {C : Addr} {H H' : Hp} (s : ∀ b o, H b = some o → (∀ xs, o ≠ .lst xs) → H' b = some o) : ∀ (r : RT) (a : Addr), RuleAt C H r a → RuleAt C H' r a
  | .base n, a, h => by
    obtain ⟨dx, t, f, b, h1, h2, h3, h4⟩ := h
    exact ⟨dx, t, f, b, s _ _ h1 (fun _ z => nomatch z), s _ _ h2 (fun _ z => nomatch z), s _ _ h3 (fun _ z => nomatch z), s _ _ h4 (fun _ z => nomatch z)⟩
  | .op w ps, a, h => by
    obtain ⟨dx, t, f, b, ls, ns, h1, h2, h3, h4, h5, h6⟩ := h
    exact ⟨dx, t, f, b, ls, ns, s _ _ h1 (fun _ z => nomatch z), s _ _ h2 (fun _ z => nomatch z), RulesAt.keep s ps ls h3, s _ _ h4 (fun _ z => nomatch z), s _ _ h5 (fun _ z => nomatch z), h6⟩
theorem RulesAt.keep {C : Addr} {H H' : Hp} (s : ∀ b o, H b = some o → (∀ xs, o ≠ .lst xs) → H' b = some o) : ∀ (ps : List RT) (ls : List Addr), RulesAt C H ps ls → RulesAt C H' ps ls
  | [], _, h => h
  | p :: ps, _, h => by
    obtain ⟨a, r, e, h1, h2⟩ := h
    exact ⟨a, r, e, RuleAt.keep s p a h1, RulesAt.keep s ps r h2⟩
end
/-- the table of a name -/
def tabOf (sh : Sheets) (x : Str) : Tab := ((sh.find? fun s : Str × Addr × Tab => decide (s.1 = x)).map fun s => s.2.2).getD []
theorem sheet_there {sh : Sheets} {x : Str} (h : x ∈ sh.map (·.1)) : ∃ s ∈ sh, s.1 = x ∧ tabOf sh x = s.2.2 ∧ valV (sh.map kS) (Sum.inr x : Key) = some (.ref s.2.1) := by
  rw [valV_sheets]
  unfold tabOf
  cases e : sh.find? fun s : Str × Addr × Tab => decide (s.1 = x) with
  | some s => exact ⟨s, List.mem_of_find?_eq_some e, of_decide_eq_true (List.find?_some (p := fun s : Str × Addr × Tab => decide (s.1 = x)) e), rfl, rfl⟩
  | none =>
    obtain ⟨s, hs, rfl⟩ := List.mem_map.mp h
    exact absurd (decide_eq_true rfl) (List.find?_eq_none.mp e s hs)
mutual
def evalT (tb : Str → Tab) : RT → Tab
  | .base n => tb n
  | .op w ps => combT w (evalTs tb ps)
def evalTs (tb : Str → Tab) : List RT → List Tab
  | [] => []
  | p :: r => evalT tb p :: evalTs tb r
end
theorem evalTs_len (tb : Str → Tab) : ∀ ps : List RT, (evalTs tb ps).length = ps.length
  | [] => rfl
  | p :: r => congrArg (· + 1) (evalTs_len tb r)
def stepT (tb : Str → Tab) (stk : List Tab) : RT → List Tab
  | .base n => stk ++ [tb n]
  | .op w ps => stk.take (stk.length - ps.length) ++ [combT w (stk.drop (stk.length - ps.length))]
theorem step_on (tb : Str → Tab) (w : Str) (ps : List RT) (st ts : List Tab) (h : ts.length = ps.length) : stepT tb (st ++ ts) (.op w ps) = st ++ [combT w ts] := by
  have e : (st ++ ts).length - ps.length = st.length := by rw [List.length_append]; omega
  show (st ++ ts).take ((st ++ ts).length - ps.length) ++ [combT w ((st ++ ts).drop ((st ++ ts).length - ps.length))] = _
  rw [e, List.take_left, List.drop_left]
mutual
theorem run_subs (tb : Str → Tab) : ∀ (r : RT) (stk : List Tab), r.subs.foldl (stepT tb) stk = stk ++ [evalT tb r]
  | .base n, stk => rfl
  | .op w ps, stk => by
    rw [RT.subs_kids, List.foldl_append]
    show stepT tb ((subsL ps).foldl (stepT tb) stk) (.op w ps) = _
    rw [run_subsL tb ps stk, step_on _ _ _ _ _ (evalTs_len tb ps)]
    rfl
theorem run_subsL (tb : Str → Tab) : ∀ (ps : List RT) (stk : List Tab), (subsL ps).foldl (stepT tb) stk = stk ++ evalTs tb ps
  | [], stk => (List.append_nil stk).symm
  | p :: r, stk => by
    show (p.subs ++ subsL r).foldl (stepT tb) stk = _
    rw [List.foldl_append, run_subs tb p stk, run_subsL tb r, List.append_assoc]
    rfl
end
mutual
/-- where a node's turn comes, the stack ends with its parts' answers -/
theorem at_subs (tb : Str → Tab) : ∀ (r : RT) (pre : List RT) (x : RT) (post : List RT) (stk : List Tab), r.subs = pre ++ x :: post → ∃ st, pre.foldl (stepT tb) stk = st ++ evalTs tb x.kids
  | .base n, pre, x, post, stk, h => by
    have h : [RT.base n] = pre ++ x :: post := h
    cases pre with
    | nil =>
      obtain rfl : RT.base n = x := (List.cons.inj h).1
      exact ⟨stk, (List.append_nil stk).symm⟩
    | cons a q =>
      have := congrArg List.length h
      simp at this
  | .op w ps, pre, x, post, stk, h => by
    rw [RT.subs_kids] at h
    have h : subsL ps ++ [RT.op w ps] = pre ++ x :: post := h
    rcases List.append_eq_append_iff.mp h with ⟨q, e1, e2⟩ | ⟨q, e1, e2⟩
    · cases q with
      | nil =>
        rw [List.append_nil] at e1
        obtain rfl : RT.op w ps = x := (List.cons.inj e2).1
        rw [e1]
        exact ⟨stk, run_subsL tb ps stk⟩
      | cons a q =>
        have := congrArg List.length e2
        simp at this
    · cases q with
      | nil =>
        rw [List.append_nil] at e1
        obtain rfl : x = RT.op w ps := (List.cons.inj e2).1
        rw [← e1]
        exact ⟨stk, run_subsL tb ps stk⟩
      | cons a q =>
        obtain rfl : x = a := (List.cons.inj e2).1
        exact at_subsL tb ps pre x q stk e1
theorem at_subsL (tb : Str → Tab) : ∀ (ps : List RT) (pre : List RT) (x : RT) (post : List RT) (stk : List Tab), subsL ps = pre ++ x :: post → ∃ st, pre.foldl (stepT tb) stk = st ++ evalTs tb x.kids
  | [], pre, x, post, stk, h => by
    have := congrArg List.length h
    simp [subsL] at this
  | p :: r, pre, x, post, stk, h => by
    have h : p.subs ++ subsL r = pre ++ x :: post := h
    rcases List.append_eq_append_iff.mp h with ⟨q, e1, e2⟩ | ⟨q, e1, e2⟩
    · rw [e1, List.foldl_append]
      exact at_subsL tb r q x post _ e2
    · cases q with
      | nil =>
        rw [List.append_nil] at e1
        have e3 : subsL r = [] ++ x :: post := e2.symm
        obtain ⟨st, e⟩ := at_subsL tb r [] x post (pre.foldl (stepT tb) stk) e3
        exact ⟨st, e⟩
      | cons a q =>
        obtain rfl : x = a := (List.cons.inj e2).1
        exact at_subs tb p pre x q stk e1
end
/-! ### sizes -/
def leafs (tb : Str → Tab) : List RT → Nat
  | [] => 0
  | .base n :: r => (tb n).length + leafs tb r
  | .op _ _ :: r => leafs tb r
theorem leafs_append (tb : Str → Tab) : ∀ a b : List RT, leafs tb (a ++ b) = leafs tb a + leafs tb b
  | [], b => by simp [leafs]
  | .base n :: a, b => by
    have := leafs_append tb a b
    simp only [List.cons_append, leafs]
    omega
  | .op _ _ :: a, b => by
    have := leafs_append tb a b
    simp only [List.cons_append, leafs]
    omega
theorem step_ok {tb : Str → Tab} {stk : List Tab} {r : RT} (h : ∀ l ∈ stk, TabOk l) (b : ∀ n, r = .base n → TabOk (tb n)) : (∀ l ∈ stepT tb stk r, TabOk l) ∧ sumLen (stepT tb stk r) ≤ sumLen stk + leafs tb [r] := by
  cases r with
  | base n =>
    refine ⟨fun l hl => ?_, ?_⟩
    · rcases List.mem_append.mp hl with z | z
      · exact h l z
      · rw [List.mem_singleton.mp z]
        exact b n rfl
    · show sumLen (stk ++ [tb n]) ≤ _
      rw [sumLen_append]
      exact Nat.le_refl _
  | op w ps =>
    have hd : ∀ l ∈ stk.drop (stk.length - ps.length), TabOk l := fun l hl => h l (List.mem_of_mem_drop hl)
    refine ⟨fun l hl => ?_, ?_⟩
    · rcases List.mem_append.mp hl with z | z
      · exact h l (List.mem_of_mem_take z)
      · rw [List.mem_singleton.mp z]
        exact combT_ok w hd
    · show sumLen (stk.take (stk.length - ps.length) ++ [combT w (stk.drop (stk.length - ps.length))]) ≤ _
      have e := sumLen_append (stk.take (stk.length - ps.length)) (stk.drop (stk.length - ps.length))
      rw [List.take_append_drop] at e
      have c := combT_len w hd
      rw [sumLen_append]
      show _ + ((combT w _).length + 0) ≤ sumLen stk + 0
      omega
theorem run_ok {tb : Str → Tab} : ∀ (l : List RT) (stk : List Tab), (∀ t ∈ stk, TabOk t) → (∀ n, RT.base n ∈ l → TabOk (tb n)) → (∀ t ∈ l.foldl (stepT tb) stk, TabOk t) ∧ sumLen (l.foldl (stepT tb) stk) ≤ sumLen stk + leafs tb l ∧ (l.foldl (stepT tb) stk).length ≤ stk.length + l.length
  | [], stk, h, _ => ⟨h, Nat.le_refl _, Nat.le_refl _⟩
  | r :: l, stk, h, b => by
    obtain ⟨h1, h2⟩ := step_ok (tb := tb) (r := r) h fun n e => b n (by rw [e]; exact List.mem_cons_self)
    obtain ⟨g1, g2, g3⟩ := run_ok l (stepT tb stk r) h1 fun n hn => b n (List.mem_cons_of_mem _ hn)
    have e := leafs_append tb [r] l
    have len : (stepT tb stk r).length ≤ stk.length + 1 := by
      cases r with
      | base n => exact Nat.le_of_eq (List.length_append ..)
      | op w ps =>
        show (stk.take (stk.length - ps.length) ++ [_]).length ≤ _
        rw [List.length_append, List.length_take, List.length_singleton]
        omega
    refine ⟨g1, ?_, ?_⟩
    · show sumLen (l.foldl (stepT tb) (stepT tb stk r)) ≤ sumLen stk + leafs tb ([r] ++ l)
      omega
    · show (l.foldl (stepT tb) (stepT tb stk r)).length ≤ _
      rw [List.length_cons]
      omega
end PX
/-! The trees that a law grows: tuples of a word and parts. -/
namespace PX
open PySem PySem.Spec PyProof.Rows L2
/-- how many tables a word takes -/
def fitsW (w : Str) (n : Nat) : Prop := w = "merged" ∨ w = "chained" ∨ ((w = "turned" ∨ w = "by_keys") ∧ n = 1) ∨ ((w = "without" ∨ w = "kept" ∨ w = "filled" ∨ w = "moved") ∧ n = 2)
mutual
/-- at a stands the tree -/
def TreeAt (H : Hp) : RT → Addr → Prop
  | .base n, a => H a = some (.tup [.str "base", .str n])
  | .op w ps, a => ∃ (t : Addr) (ls : List Addr), H a = some (.tup [.str w, .ref t]) ∧ H t = some (.tup (ls.map V.ref)) ∧ TreesAt H ps ls
def TreesAt (H : Hp) : List RT → List Addr → Prop
  | [], ls => ls = []
  | p :: ps, ls => ∃ (a : Addr) (r : List Addr), ls = a :: r ∧ TreeAt H p a ∧ TreesAt H ps r
end
mutual
theorem TreeAt.keep {H H' : Hp} (s : ∀ b o, H b = some o → (∀ xs, o ≠ .lst xs) → H' b = some o) : ∀ (r : RT) (a : Addr), TreeAt H r a → TreeAt H' r a
  | .base n, a, h => s _ _ h (fun _ z => nomatch z)
  | .op w ps, a, h => by
    obtain ⟨t, ls, h1, h2, h3⟩ := h
    exact ⟨t, ls, s _ _ h1 (fun _ z => nomatch z), s _ _ h2 (fun _ z => nomatch z), TreesAt.keep s ps ls h3⟩
theorem TreesAt.keep {H H' : Hp} (s : ∀ b o, H b = some o → (∀ xs, o ≠ .lst xs) → H' b = some o) : ∀ (ps : List RT) (ls : List Addr), TreesAt H ps ls → TreesAt H' ps ls
  | [], _, h => h
  | p :: ps, _, h => by
    obtain ⟨a, r, e, h1, h2⟩ := h
    exact ⟨a, r, e, TreeAt.keep s p a h1, TreesAt.keep s ps r h2⟩
end
theorem TreesAt.len {H : Hp} : ∀ {ps : List RT} {ls : List Addr}, TreesAt H ps ls → ls.length = ps.length
  | [], _, h => by
    rw [show _ = [] from h] <;> rfl
  | p :: ps, _, h => by
    obtain ⟨a, r, rfl, h1, h2⟩ := h
    exact congrArg (· + 1) h2.len
theorem TreesAt.get {H : Hp} : ∀ {ps : List RT} {ls : List Addr}, TreesAt H ps ls → ∀ {i : Nat} {a : Addr}, ls[i]? = some a → ∃ r, ps[i]? = some r ∧ TreeAt H r a
  | [], _, h, i, a, e => by
    rw [show _ = [] from h] at e
    cases e
  | p :: ps, _, h, i, a, e => by
    obtain ⟨a0, r, rfl, h1, h2⟩ := h
    cases i with
    | zero =>
      cases e
      exact ⟨p, rfl, h1⟩
    | succ i => exact h2.get e
theorem TreesAt.add {H : Hp} : ∀ {ps : List RT} {ls : List Addr} {r : RT} {a : Addr}, TreesAt H ps ls → TreeAt H r a → TreesAt H (ps ++ [r]) (ls ++ [a])
  | [], _, r, a, h, g => by
    rw [show _ = [] from h]
    exact ⟨a, [], rfl, g, rfl⟩
  | p :: ps, _, r, a, h, g => by
    obtain ⟨a0, q, rfl, h1, h2⟩ := h
    exact ⟨a0, q ++ [a], rfl, h1, h2.add g⟩
/-- how such trees look: names among ns, no deeper than d, at most three parts -/
def RT.good (ns : List Str) : Nat → RT → Prop
  | _, .base n => n ∈ ns
  | 0, .op _ _ => False
  | d + 1, .op w ps => fitsW w ps.length ∧ ps.length ≤ 3 ∧ ∀ p ∈ ps, RT.good ns d p
/-- draws that a tree takes -/
def costT : Nat → Nat
  | 0 => 2
  | d + 1 => 2 + 3 * costT d
def nodesT : Nat → Nat
  | 0 => 1
  | d + 1 => 1 + 3 * nodesT d
def leafsT : Nat → Nat
  | 0 => 1
  | d + 1 => 3 * leafsT d
theorem leafsT_pos : ∀ d, 1 ≤ leafsT d
  | 0 => Nat.le_refl _
  | d + 1 => by
    have := leafsT_pos d
    show 1 ≤ 3 * leafsT d
    omega
theorem nodesT_pos (d : Nat) : 1 ≤ nodesT d := by
  cases d with
  | zero => exact Nat.le_refl _
  | succ d => exact Nat.le_add_right _ _
theorem subsL_bound {k : Nat} : ∀ ps : List RT, (∀ p ∈ ps, p.subs.length ≤ k) → (subsL ps).length ≤ ps.length * k
  | [], _ => Nat.zero_le _
  | p :: r, h => by
    have h1 := h p List.mem_cons_self
    have h2 := subsL_bound r fun q hq => h q (List.mem_cons_of_mem _ hq)
    simp only [subsL, List.length_append, List.length_cons, Nat.succ_mul]
    omega
theorem leafsL_bound {tb : Str → Tab} {k : Nat} : ∀ ps : List RT, (∀ p ∈ ps, leafs tb p.subs ≤ k) → leafs tb (subsL ps) ≤ ps.length * k
  | [], _ => Nat.zero_le _
  | p :: r, h => by
    have h1 := h p List.mem_cons_self
    have h2 := leafsL_bound r fun q hq => h q (List.mem_cons_of_mem _ hq)
    simp only [subsL, leafs_append, List.length_cons, Nat.succ_mul]
    omega
theorem mem_subsL {x : RT} : ∀ {ps : List RT}, x ∈ subsL ps → ∃ p ∈ ps, x ∈ p.subs
  | [], h => nomatch h
  | p :: r, h => by
    rcases List.mem_append.mp (show x ∈ p.subs ++ subsL r from h) with z | z
    · exact ⟨p, List.mem_cons_self, z⟩
    · obtain ⟨q, hq, hx⟩ := mem_subsL z
      exact ⟨q, List.mem_cons_of_mem _ hq, hx⟩
/-- what evaluate asks of a rule -/
structure Fine (ns : List Str) (k l : Nat) (r : RT) : Prop where
  cnt : r.subs.length ≤ k
  base : ∀ n, RT.base n ∈ r.subs → n ∈ ns
  fits : ∀ w ps, RT.op w ps ∈ r.subs → fitsW w ps.length
  leaf : ∀ (tb : Str → Tab) (m : Nat), (∀ n, (tb n).length ≤ m) → leafs tb r.subs ≤ l * m
theorem RT.good.fine {ns : List Str} : ∀ {d : Nat} {r : RT}, RT.good ns d r → Fine ns (nodesT d) (leafsT d) r
  | d, .base n, h => by
    have h : n ∈ ns := by cases d <;> exact h
    refine ⟨nodesT_pos d, fun x hx => ?_, fun w ps hx => ?_, fun tb m hm => ?_⟩
    · cases List.mem_singleton.mp (show RT.base x ∈ [RT.base n] from hx)
      exact h
    · cases List.mem_singleton.mp (show RT.op w ps ∈ [RT.base n] from hx)
    · have := hm n
      have p := leafsT_pos d
      show (tb n).length + 0 ≤ leafsT d * m
      have : 1 * m ≤ leafsT d * m := Nat.mul_le_mul_right m p
      omega
  | 0, .op _ _, h => h.elim
  | d + 1, .op w ps, h => by
    obtain ⟨h1, h2, h3⟩ := h
    have all : ∀ p ∈ ps, Fine ns (nodesT d) (leafsT d) p := fun p hp => (h3 p hp).fine
    refine ⟨?_, fun x hx => ?_, fun v qs hx => ?_, fun tb m hm => ?_⟩
    · have b := subsL_bound ps fun p hp => (all p hp).cnt
      have z : ps.length * nodesT d ≤ 3 * nodesT d := Nat.mul_le_mul_right _ h2
      show (subsL ps ++ [RT.op w ps]).length ≤ 1 + 3 * nodesT d
      rw [List.length_append, List.length_singleton]
      omega
    · rcases List.mem_append.mp (show RT.base x ∈ subsL ps ++ [RT.op w ps] from hx) with z | z
      · obtain ⟨p, hp, q⟩ := mem_subsL z
        exact (all p hp).base x q
      · cases List.mem_singleton.mp z
    · rcases List.mem_append.mp (show RT.op v qs ∈ subsL ps ++ [RT.op w ps] from hx) with z | z
      · obtain ⟨p, hp, q⟩ := mem_subsL z
        exact (all p hp).fits v qs q
      · cases List.mem_singleton.mp z
        exact h1
    · have b := leafsL_bound (tb := tb) ps fun p hp => (all p hp).leaf tb m hm
      have z : ps.length * (leafsT d * m) ≤ 3 * (leafsT d * m) := Nat.mul_le_mul_right _ h2
      show leafs tb (subsL ps ++ [RT.op w ps]) ≤ 3 * leafsT d * m
      rw [leafs_append, Nat.mul_assoc]
      show leafs tb (subsL ps) + 0 ≤ _
      omega
end PX
/-! xs[::c] for lists, c a literal. -/
namespace PX
open PySem PySem.Spec PyProof.Rows L2
/-- the places that xs[::c] takes -/
def stepIx (n : Nat) (c : Int) : List Nat := sliceRange (sliceBounds none none (some c) n).1 (sliceBounds none none (some c) n).2.1 (sliceBounds none none (some c) n).2.2
def pickS {α : Type} (xs : List α) (c : Int) : List α := (stepIx xs.length c).filterMap (xs[·]?)
theorem vals_at : ∀ {xs : List V} {its : List Value}, Vals xs its → ∀ j : Nat, (xs[j]? = none ∧ its[j]? = none) ∨ ∃ x v, xs[j]? = some x ∧ its[j]? = some v ∧ RelV x v
  | _, _, .nil, j => .inl ⟨rfl, rfl⟩
  | _, _, .cons r t, 0 => .inr ⟨_, _, rfl, rfl, r⟩
  | _, _, .cons r t, j + 1 => vals_at t j
theorem vals_pick {xs : List V} {its : List Value} (h : Vals xs its) : ∀ J : List Nat, Vals (J.filterMap (xs[·]?)) (J.filterMap (its[·]?))
  | [] => .nil
  | j :: J => by
    rw [List.filterMap_cons, List.filterMap_cons]
    rcases vals_at h j with ⟨a, b⟩ | ⟨x, v, a, b, r⟩
    · rw [a, b]
      exact vals_pick h J
    · rw [a, b]
      exact .cons r (vals_pick h J)
def tStepL (K : PySem.W.Frag) (te : TE) (c : Int) : TE := fun σ H Q => te σ H fun x H1 => ∃ a xs, x = .ref a ∧ SqL K H1 a xs ∧ ∀ p, H1 p = none → Q (.ref p) (upd H1 p (.lst (pickS xs c)))
section
variable {X : Cx}
theorem pe_stepL {e : Expr} {te : TE} {k : Nat} {c : Int} {p1 p3 pos : Pos} (he : PE X e te) (hc : c ≠ 0) : PE X (.Subscript e (.Slice none none (some (.Constant (.int c) k p1)) p3) pos) (tStepL X.K te c) := by
  refine ⟨fun pins s σ H Q I h => ?_⟩
  refine Subscript_ (thn (he.run pins s σ H _ I h) fun v s1 ⟨x, H1, I1, r1, q1⟩ => ?_)
  obtain ⟨a, xs, ex, hx, q⟩ := q1
  subst ex
  cases r1
  have hst : PO X (some (.Constant (.int c) k p1)) (tPart (tC (.int c))) := po_some pe_int
  refine wpAny_Slice (thn (po_none.run pins s1 σ H1 (fun o H2 => o = none ∧ H2 = H1) I1 ⟨rfl, rfl⟩) fun vl s2 ⟨l, H2, I2, pl, el, e2⟩ => ?_)
  subst el e2
  refine thn (po_none.run pins s2 σ H2 (fun o H3 => o = none ∧ H3 = H2) I2 ⟨rfl, rfl⟩) fun vu s3 ⟨u, H3, I3, pu, eu, e3⟩ => ?_
  subst eu e3
  refine thn (hst.run pins s3 σ H3 (fun o H4 => o = some c ∧ H4 = H3) I3 ⟨c, rfl, rfl, rfl⟩) fun vs s4 ⟨o, H4, I4, ps, eo, e4⟩ => ?_
  subst eo e4
  have I5 : Inv X pins σ H4 { s4 with heap := s4.heap.push { cls := .type "slice", data := .fields #[vl, vu, vs] } } := I4.kept (t' := s4.toks) fun b ob q => Heap.get?_push_of_some _ q
  obtain ⟨its, r, ht, hz⟩ := I5.list hx
  have hlen := r.length
  show wpAny (model X.prog X.w) X.A (subscriptTail e (.Slice none none (some (.Constant (.int c) k p1)) p3) (.ref a) (.ref s4.heap.objs.size)) (EP X pins σ Q) X.xe { s4 with heap := s4.heap.push { cls := .type "slice", data := .fields #[vl, vu, vs] } }
  refine tail_any (ops := [.ref a, .ref s4.heap.objs.size]) ht.isList.typeIs (PySem.slot_list_getitem.lookup) ?_ (by with_unfolding_all rfl)
  refine wpAny_getItem_list_slice ht.isList (Heap.IsSliceOf.new _ vl vu vs) pl pu ps (fun z => hc (Option.some.inj z)) ?_ (by rw [List.size_toArray]; omega)
  have ep : slicePick its.toArray none none (some c) = ((stepIx xs.length c).filterMap (its[·]?)).toArray := by
    unfold slicePick stepIx
    rw [List.size_toArray, hlen]
    congr 2
    funext j
    exact List.getElem?_toArray
  have small : (pickS xs c).length ≤ xs.length := by
    have h1 := slicePick_size_le its.toArray none none (some c)
    rw [ep, List.size_toArray, List.size_toArray, ← (vals_pick r (stepIx xs.length c)).length, ← hlen] at h1
    exact h1
  rw [ep]
  refine ⟨.ref _, _, I5.laid (t' := s4.toks) (o := .lst (pickS xs c)) (fun b ob q => Heap.get?_push_of_some _ q) (Nat.le_refl _) ?_, rfl, q _ (I5.hok.fresh (Nat.le_refl _))⟩
  exact ⟨Nat.le_trans small hz, _, 0, vals_pick r _, Heap.get?_push_size _ rfl⟩
end
theorem pickS_map {α β : Type} (f : α → β) (xs : List α) (c : Int) : pickS (xs.map f) c = (pickS xs c).map f := by
  unfold pickS
  rw [List.length_map, List.map_filterMap]
  congr 1
  funext j
  exact List.getElem?_map ..
theorem pickS_mem {α : Type} {xs : List α} {c : Int} {x : α} (h : x ∈ pickS xs c) : x ∈ xs := by
  obtain ⟨j, _, e⟩ := List.mem_filterMap.mp h
  exact List.mem_of_getElem? e
end PX
/-! A cut to keys goes through every word. -/
namespace PX
open PySem PySem.Spec PyProof.Rows L2
/-- a table cut to keys -/
def cutI (ks : List Int) (l : Tab) : Tab := l.filter fun p => decide (p.1 ∈ ks)
theorem cutI_ok {ks : List Int} {l : Tab} (h : TabOk l) : TabOk (cutI ks l) :=
  ⟨(h.nd.sublist (List.filter_sublist.map _)), fun p hp => h.sm p (List.mem_filter.mp hp).1⟩
section
variable {ks : List Int}
theorem cutI_append (l m : Tab) : cutI ks (l ++ m) = cutI ks l ++ cutI ks m := List.filter_append ..
theorem cutI_one_in {p : Int × Int} (h : p.1 ∈ ks) : cutI ks [p] = [p] := by simp [cutI, h]
theorem cutI_one_out {p : Int × Int} (h : p.1 ∉ ks) : cutI ks [p] = [] := by simp [cutI, h]
theorem cutI_cons (p : Int × Int) (l : Tab) : cutI ks (p :: l) = if p.1 ∈ ks then p :: cutI ks l else cutI ks l := by
  unfold cutI
  rw [List.filter_cons]
  by_cases h : p.1 ∈ ks
  · rw [if_pos (decide_eq_true h), if_pos h]
  · rw [if_neg (by rw [decide_eq_false h]; exact Bool.false_ne_true), if_neg h]
theorem cutI_has (l : Tab) (k : Int) : hasL (cutI ks l) k = true ↔ hasL l k = true ∧ k ∈ ks := by
  rw [hasL_iff, hasL_iff, List.mem_map, List.mem_map]
  constructor
  · rintro ⟨p, hp, rfl⟩
    obtain ⟨h1, h2⟩ := List.mem_filter.mp hp
    exact ⟨⟨p, h1, rfl⟩, of_decide_eq_true h2⟩
  · rintro ⟨⟨p, hp, rfl⟩, h⟩
    exact ⟨p, List.mem_filter.mpr ⟨hp, decide_eq_true h⟩, rfl⟩
theorem cutI_get (l : Tab) {k : Int} (h : k ∈ ks) : getL (cutI ks l) k = getL l k := by
  induction l with
  | nil => rfl
  | cons p l ih =>
    rw [cutI_cons]
    by_cases e : p.1 = k
    · rw [if_pos (by rw [e]; exact h)]
      unfold getL
      rw [List.find?_cons, List.find?_cons, decide_eq_true e]
    · by_cases z : p.1 ∈ ks
      · rw [if_pos z]
        unfold getL at ih ⊢
        rw [List.find?_cons, List.find?_cons, decide_eq_false e]
        exact ih
      · rw [if_neg z, ih]
        unfold getL
        rw [List.find?_cons, decide_eq_false e]
theorem cutI_get_out (l : Tab) {k : Int} (h : k ∉ ks) : getL (cutI ks l) k = none := by
  rw [getL_none]
  intro z
  exact h ((cutI_has l k).mp (hasL_iff.mpr z)).2
theorem cutI_put_in (l : Tab) {k v : Int} (h : k ∈ ks) : cutI ks (putL l k v) = putL (cutI ks l) k v := by
  by_cases g : hasL l k = true
  · have g2 := (cutI_has (ks := ks) l k).mpr ⟨g, h⟩
    unfold putL
    rw [if_pos g, if_pos g2]
    unfold cutI
    rw [List.filter_map]
    congr 1
    refine List.filter_congr fun p _ => ?_
    show decide ((if p.1 = k then (p.1, v) else p).1 ∈ ks) = decide (p.1 ∈ ks)
    split <;> rfl
  · have g2 : ¬ hasL (cutI ks l) k = true := fun z => g ((cutI_has l k).mp z).1
    unfold putL
    rw [if_neg g, if_neg g2, cutI_append, cutI_one_in (p := (k, v)) h]
theorem cutI_put_out (l : Tab) {k v : Int} (h : k ∉ ks) : cutI ks (putL l k v) = cutI ks l := by
  by_cases g : hasL l k = true
  · unfold putL
    rw [if_pos g]
    unfold cutI
    clear g
    induction l with
    | nil => rfl
    | cons p l ih =>
      rw [List.map_cons, List.filter_cons, List.filter_cons, ih]
      by_cases e : p.1 = k
      · rw [if_pos e]
        have z : decide (p.1 ∈ ks) = false := decide_eq_false (by rw [e]; exact h)
        show (if decide (p.1 ∈ ks) = true then _ else _) = _
        rw [z]
        rfl
      · rw [if_neg e]
  · unfold putL
    rw [if_neg g, cutI_append, cutI_one_out (p := (k, v)) h, List.append_nil]
theorem cutI_merge (m : Tab) : ∀ l : Tab, cutI ks (mergeT l m) = mergeT (cutI ks l) (cutI ks m) := by
  induction m with
  | nil => intro l; rfl
  | cons p m ih =>
    intro l
    show cutI ks (mergeT (putL l p.1 p.2) m) = _
    rw [ih, cutI_cons]
    by_cases h : p.1 ∈ ks
    · rw [if_pos h, cutI_put_in l h]
      rfl
    · rw [if_neg h, cutI_put_out l h]
theorem cutI_fill (m : Tab) : ∀ l : Tab, cutI ks (fillT l m) = fillT (cutI ks l) (cutI ks m) := by
  induction m with
  | nil => intro l; rfl
  | cons p m ih =>
    intro l
    show cutI ks (fillT (if hasL l p.1 = true then l else l ++ [p]) m) = _
    rw [ih, cutI_cons]
    by_cases h : p.1 ∈ ks
    · rw [if_pos h]
      show _ = fillT (if hasL (cutI ks l) p.1 = true then cutI ks l else cutI ks l ++ [p]) (cutI ks m)
      by_cases g : hasL l p.1 = true
      · rw [if_pos g, if_pos ((cutI_has l p.1).mpr ⟨g, h⟩)]
      · rw [if_neg g, if_neg fun z => g ((cutI_has l p.1).mp z).1, cutI_append, cutI_one_in h]
    · rw [if_neg h]
      by_cases g : hasL l p.1 = true
      · rw [if_pos g]
      · rw [if_neg g, cutI_append, cutI_one_out h, List.append_nil]
theorem cutI_drop (l : Tab) (k : Int) : cutI ks (dropL l k) = dropL (cutI ks l) k := by
  unfold cutI dropL
  rw [List.filter_filter, List.filter_filter]
  refine List.filter_congr fun p _ => ?_
  exact Bool.and_comm _ _
theorem cutI_drop_out (l : Tab) {k : Int} (h : k ∉ ks) : dropL (cutI ks l) k = cutI ks l := by
  unfold dropL
  refine List.filter_eq_self.mpr fun p hp => decide_eq_true fun e => h ?_
  rw [← e]
  exact of_decide_eq_true (List.mem_filter.mp hp).2
theorem cutI_move (m : Tab) : ∀ l : Tab, cutI ks (moveT l m) = moveT (cutI ks l) (cutI ks m) := by
  induction m with
  | nil => intro l; rfl
  | cons p m ih =>
    intro l
    show cutI ks (moveT (match getL l p.1 with | some v => dropL l p.1 ++ [(p.1, v)] | none => l) m) = _
    rw [ih, cutI_cons]
    by_cases h : p.1 ∈ ks
    · rw [if_pos h]
      show _ = moveT (match getL (cutI ks l) p.1 with | some v => dropL (cutI ks l) p.1 ++ [(p.1, v)] | none => cutI ks l) (cutI ks m)
      rw [cutI_get l h]
      cases getL l p.1 with
      | none => rfl
      | some v =>
        show moveT (cutI ks (dropL l p.1 ++ [(p.1, v)])) _ = moveT (dropL (cutI ks l) p.1 ++ [(p.1, v)]) _
        rw [cutI_append, cutI_drop, cutI_one_in (p := (p.1, v)) h]
    · rw [if_neg h]
      congr 1
      cases getL l p.1 with
      | none => rfl
      | some v =>
        show cutI ks (dropL l p.1 ++ [(p.1, v)]) = _
        rw [cutI_append, cutI_drop, cutI_one_out (p := (p.1, v)) h, List.append_nil, cutI_drop_out l h]
theorem cutI_reverse (l : Tab) : cutI ks l.reverse = (cutI ks l).reverse := List.filter_reverse ..
theorem cutI_sort {l : Tab} (nd : (l.map (·.1)).Nodup) : cutI ks (sortT l) = sortT (cutI ks l) :=
  sort_eq (nd.sublist (List.filter_sublist.map _)) ((sortT_perm l).filter _) ((sortT_sorted l).sublist List.filter_sublist)
theorem cutI_sub (l m : Tab) (f : Bool → Bool) : cutI ks (l.filter fun p => f (hasL m p.1)) = (cutI ks l).filter fun p => f (hasL (cutI ks m) p.1) := by
  unfold cutI
  rw [List.filter_filter, List.filter_filter]
  refine List.filter_congr fun p _ => ?_
  by_cases h : p.1 ∈ ks
  · have e : hasL (List.filter (fun p => decide (p.1 ∈ ks)) m) p.1 = hasL m p.1 := by
      rw [Bool.eq_iff_iff]
      exact (cutI_has m p.1).trans ⟨fun z => z.1, fun z => ⟨z, h⟩⟩
    rw [e, Bool.and_comm]
  · rw [decide_eq_false h, Bool.false_and, Bool.and_false]
theorem cutI_mergeAll (ls : List Tab) : cutI ks (mergeAll ls) = mergeAll (ls.map (cutI ks)) := by
  have : ∀ (ls : List Tab) (acc : Tab), cutI ks (ls.foldl mergeT acc) = (ls.map (cutI ks)).foldl mergeT (cutI ks acc) := by
    intro ls
    induction ls with
    | nil => intro acc; rfl
    | cons l r ih =>
      intro acc
      show cutI ks (r.foldl mergeT (mergeT acc l)) = (r.map (cutI ks)).foldl mergeT (mergeT (cutI ks acc) (cutI ks l))
      rw [ih, cutI_merge]
  exact this ls []
theorem hd0_map (ls : List Tab) : hd0 (ls.map (cutI ks)) = cutI ks (hd0 ls) := by cases ls <;> rfl
theorem hd1_map (ls : List Tab) : hd1 (ls.map (cutI ks)) = cutI ks (hd1 ls) := by
  cases ls with
  | nil => rfl
  | cons a r => exact hd0_map r
theorem cutI_comb (w : Str) {ls : List Tab} (h : ∀ l ∈ ls, TabOk l) : cutI ks (combT w ls) = combT w (ls.map (cutI ks)) := by
  have a := hd0_ok h
  unfold combT
  rw [hd0_map, hd1_map]
  repeat' split
  · exact cutI_mergeAll ls
  · rw [cutI_mergeAll, List.map_reverse]
  · exact cutI_reverse _
  · exact cutI_sort a.nd
  · exact cutI_sub _ _ not
  · exact cutI_sub _ _ id
  · exact cutI_fill _ _
  · exact cutI_move _ _
mutual
theorem evalT_ok {tb : Str → Tab} (h : ∀ n, TabOk (tb n)) : ∀ r : RT, TabOk (evalT tb r)
  | .base n => h n
  | .op w ps => combT_ok w (evalTs_ok h ps)
theorem evalTs_ok {tb : Str → Tab} (h : ∀ n, TabOk (tb n)) : ∀ ps : List RT, ∀ l ∈ evalTs tb ps, TabOk l
  | [], l, hl => nomatch hl
  | p :: r, l, hl => by
    rcases List.mem_cons.mp hl with e | z
    · rw [e]
      exact evalT_ok h p
    · exact evalTs_ok h r l z
end
mutual
/-- a whole result, cut to keys: the result for the tables that are cut to them -/
theorem cutI_eval {tb : Str → Tab} (h : ∀ n, TabOk (tb n)) : ∀ r : RT, evalT (fun n => cutI ks (tb n)) r = cutI ks (evalT tb r)
  | .base n => rfl
  | .op w ps => by
    show combT w (evalTs (fun n => cutI ks (tb n)) ps) = cutI ks (combT w (evalTs tb ps))
    rw [cutI_evals h ps, cutI_comb w (evalTs_ok h ps)]
theorem cutI_evals {tb : Str → Tab} (h : ∀ n, TabOk (tb n)) : ∀ ps : List RT, evalTs (fun n => cutI ks (tb n)) ps = (evalTs tb ps).map (cutI ks)
  | [] => rfl
  | p :: r => by
    show evalT (fun n => cutI ks (tb n)) p :: evalTs (fun n => cutI ks (tb n)) r = cutI ks (evalT tb p) :: (evalTs tb r).map (cutI ks)
    rw [cutI_eval h p, cutI_evals h r]
end
end
theorem flatInts (ks : List Int) : (ks.map V.int).all flatV = true := by
  rw [List.all_eq_true]
  intro v hv
  obtain ⟨k, _, rfl⟩ := List.mem_map.mp hv
  rfl
theorem inV_ints (k : Int) (ks : List Int) : inV (.int k) (ks.map V.int) = decide (k ∈ ks) := by
  unfold inV
  rw [List.any_map]
  induction ks with
  | nil => rfl
  | cons a r ih =>
    rw [List.any_cons, ih]
    have e : (((fun y => eqV y (V.int k)) ∘ V.int) a) = decide (a = k) := by
      show eqV (.int a) (.int k) = decide (a = k)
      unfold eqV
      first | rfl | simp
    rw [e]
    by_cases z : a = k
    · subst z; simp
    · have z' : ¬ k = a := fun q => z q.symm
      simp [z, z']
end PX
namespace PX
open PySem PySem.Spec PyProof.Rows L2
/-! ### lists of pairs of ints at addresses -/
def PairsAt (H : Hp) : List Addr → Tab → Prop
  | [], [] => True
  | t :: ts, p :: l => H t = some (.tup [.int p.1, .int p.2]) ∧ PairsAt H ts l
  | _, _ => False
theorem PairsAt.of {H : Hp} : ∀ {ts : List Addr} {l : Tab}, Paired (fun (t : Addr) (q : Key × V) => H t = some (.tup [kV q.1, q.2])) ts (tab l) → PairsAt H ts l
  | [], [], _ => True.intro
  | t :: ts, p :: l, h => by
    cases h with
    | cons a b => exact ⟨a, PairsAt.of b⟩
  | [], _ :: _, h => nomatch h
  | _ :: _, [], h => nomatch h
theorem PairsAt.to {H : Hp} : ∀ {ts : List Addr} {l : Tab}, PairsAt H ts l → Paired (fun (t : Addr) (q : Key × V) => H t = some (.tup [kV q.1, q.2])) ts (tab l)
  | [], [], _ => .nil
  | t :: ts, p :: l, h => .cons h.1 (PairsAt.to h.2)
  | [], _ :: _, h => h.elim
  | _ :: _, [], h => h.elim
theorem PairsAt.keep {H H' : Hp} (s : ∀ b o, H b = some o → (∀ xs, o ≠ .lst xs) → H' b = some o) : ∀ {ts : List Addr} {l : Tab}, PairsAt H ts l → PairsAt H' ts l
  | [], [], _ => True.intro
  | t :: ts, p :: l, h => ⟨s _ _ h.1 (fun _ z => nomatch z), PairsAt.keep s h.2⟩
  | [], _ :: _, h => h.elim
  | _ :: _, [], h => h.elim
theorem PairsAt.same {H H' : Hp} (s : Same H H') {ts : List Addr} {l : Tab} (h : PairsAt H ts l) : PairsAt H' ts l := PairsAt.keep (fun b o e _ => s b o e) h
theorem PairsAt.put {H : Hp} {p : Addr} {xs : List V} {o : HO} {ts : List Addr} {l : Tab} (h : PairsAt H ts l) (e : H p = some (.lst xs)) : PairsAt (upd H p o) ts l := PairsAt.keep (fun b u eb n => by
  rw [upd_ne fun z => by rw [z, e] at eb; exact n _ (Option.some.inj eb).symm]
  exact eb) h
theorem PairsAt.putF {H : Hp} {a : Addr} {o : HO} (n : ∀ xs, H a ≠ some (.tup xs)) : ∀ {ts : List Addr} {l : Tab}, PairsAt H ts l → PairsAt (upd H a o) ts l
  | [], [], _ => True.intro
  | t :: ts, p :: l, h => ⟨(upd_ne fun z => n _ (z ▸ h.1)).trans h.1, PairsAt.putF n h.2⟩
  | [], _ :: _, h => h.elim
  | _ :: _, [], h => h.elim
theorem PairsAt.len {H : Hp} : ∀ {ts : List Addr} {l : Tab}, PairsAt H ts l → ts.length = l.length
  | [], [], _ => rfl
  | _ :: _, _ :: _, h => congrArg (· + 1) (PairsAt.len h.2)
  | [], _ :: _, h => h.elim
  | _ :: _, [], h => h.elim
theorem PairsAt.get {H : Hp} : ∀ {ts : List Addr} {l : Tab}, PairsAt H ts l → ∀ {i : Nat} {t : Addr}, ts[i]? = some t → ∃ p, l[i]? = some p ∧ H t = some (.tup [.int p.1, .int p.2])
  | t :: ts, p :: l, h, 0, x, e => by
    cases e
    exact ⟨p, rfl, h.1⟩
  | t :: ts, p :: l, h, i + 1, x, e => PairsAt.get h.2 e
  | [], [], _, _, _, e => nomatch e
  | [], _ :: _, h, _, _, _ => h.elim
  | _ :: _, [], h, _, _, _ => h.elim
theorem PairsAt.append {H : Hp} : ∀ {ts : List Addr} {l : Tab} {us : List Addr} {m : Tab}, PairsAt H ts l → PairsAt H us m → PairsAt H (ts ++ us) (l ++ m)
  | [], [], _, _, _, h => h
  | t :: ts, p :: l, _, _, h, g => ⟨h.1, PairsAt.append h.2 g⟩
  | [], _ :: _, _, _, h, _ => h.elim
  | _ :: _, [], _, _, h, _ => h.elim
theorem PairsAt.one {H : Hp} {t : Addr} {p : Int × Int} (h : H t = some (.tup [.int p.1, .int p.2])) : PairsAt H [t] [p] := ⟨h, True.intro⟩
def pairD (p : Int × Int) : PyData := .tuple [.int p.1, .int p.2]
def pairsD (l : Tab) : PyData := .list (l.map pairD)
theorem pairs_all {K : PySem.W.Frag} {H : Hp} : ∀ {ts : List Addr} {l : Tab}, PairsAt H ts l → DpAll K H (ts.map V.ref) (l.map pairD)
  | [], [], _ => .nil
  | t :: ts, p :: l, h => .cons (.tup (SqT.of h.1) (.cons (.int p.1) (.cons (.int p.2) .nil))) (pairs_all h.2)
  | [], _ :: _, h => h.elim
  | _ :: _, [], h => h.elim
theorem pairs_dp {K : PySem.W.Frag} {H : Hp} {a : Addr} {ts : List Addr} {l : Tab} (e : H a = some (.lst (ts.map V.ref))) (h : PairsAt H ts l) : Dp K H (.ref a) (pairsD l) := .lst (SqL.of e) (pairs_all h)
theorem pairD_eqv (p : Int × Int) : PyData.eqv (pairD p) (pairD p) = true := by
  simp [pairD, PyData.eqv, PyData.eqvAll]
theorem pairs_eqvAll : ∀ l : Tab, PyData.eqvAll (l.map pairD) (l.map pairD) = true
  | [] => rfl
  | p :: r => by
    rw [List.map_cons, PyData.eqvAll, pairs_eqvAll r, pairD_eqv]
    rfl
theorem pairsD_eqv (l : Tab) : PyData.eqv (pairsD l) (pairsD l) = true := by
  unfold pairsD
  rw [PyData.eqv]
  exact pairs_eqvAll l
theorem pairs_layAll : ∀ l : Tab, PyData.canLayAll0 (l.map pairD) = true
  | [] => rfl
  | p :: r => by
    rw [List.map_cons, PyData.canLayAll0, pairs_layAll r]
    simp [pairD, PyData.canLay0, PyData.canLayAll0]
theorem pairsD_shaped (l : Tab) : SeqAt.shaped (pairsD l) = true := by
  unfold SeqAt.shaped
  rw [Bool.and_eq_true]
  refine ⟨?_, ?_⟩
  · unfold pairsD
    rw [PyData.canLay0]
    exact pairs_layAll l
  · have := depth_map pairD 1 l fun p _ => by simp [pairD, PyData.depth, PyData.depthAll]
    refine decide_eq_true ?_
    show PyData.depthAll _ + 1 ≤ 64
    omega
/-! ### tables by names -/
def getS (l : List (Str × Tab)) (x : Str) : Tab := ((l.find? fun s => decide (s.1 = x)).map fun s => s.2).getD []
theorem tabOf_get (sh : Sheets) (x : Str) : tabOf sh x = getS (sh.map fun s => (s.1, s.2.2)) x := by
  unfold tabOf getS
  rw [List.find?_map, Option.map_map]
  rfl
theorem getS_map (f : Tab → Tab) (hf : f [] = []) (sh : Sheets) (x : Str) : getS (sh.map fun s => (s.1, f s.2.2)) x = f (tabOf sh x) := by
  unfold tabOf getS
  rw [List.find?_map, Option.map_map]
  show (Option.map _ (sh.find? fun s : Str × Addr × Tab => decide (s.1 = x))).getD [] = _
  cases sh.find? fun s : Str × Addr × Tab => decide (s.1 = x) with
  | none => exact hf.symm
  | some s => rfl
theorem tabOf_of {sh : Sheets} {P : Tab → Prop} (h : ∀ s ∈ sh, P s.2.2) (h0 : P []) (x : Str) : P (tabOf sh x) := by
  unfold tabOf
  cases e : sh.find? fun s : Str × Addr × Tab => decide (s.1 = x) with
  | none => exact h0
  | some s => exact h s (List.mem_of_find?_eq_some e)
theorem evalT_len {tb : Str → Tab} (h : ∀ n, TabOk (tb n)) (r : RT) : (evalT tb r).length ≤ leafs tb r.subs := by
  have g := (run_ok r.subs [] (fun _ z => nomatch z) fun n _ => h n).2.1
  rw [run_subs] at g
  have e : sumLen ([] ++ [evalT tb r]) = (evalT tb r).length + 0 := rfl
  rw [e] at g
  have e2 : sumLen [] = 0 := rfl
  omega
end PX
/-! A dict of the written part, from texts to ints: walked over, asked, read. -/
namespace PX
open PySem PySem.Spec PyProof.Rows L2
/-- its entries -/
def EntAt (l : List DictEntry) (ks : List (Str × Int)) : Prop := Paired (fun (e : DictEntry) (k : Str × Int) => (∃ t, e.key = .str k.1 t) ∧ ∃ u, e.val = .int k.2 u) l ks
structure Ari (K : PySem.W.Frag) (w : World) (d : Addr) (ks : List (Str × Int)) : Prop where
  ex : ∃ (es : Array DictEntry) (n : Nat), KDict K w d es n ∧ EntAt es.toList ks
def ariV (ks : List (Str × Int)) (z : Str) : Option Int := (ks.find? fun k => decide (k.1 = z)).map (·.2)
theorem isStr_eq (x z : Str) (t : Tok) : (Value.str x t).isStr z = decide (x = z) := by
  show (x == z) = _
  by_cases h : x = z
  · subst h
    simp
  · rw [decide_eq_false h]
    exact beq_eq_false_iff_ne.mpr h
theorem ent_find {z : Str} : ∀ {l : List DictEntry} {ks : List (Str × Int)}, EntAt l ks →
    (∀ i, ariV ks z = some i → ∃ e u, l.find? (·.key.isStr z) = some e ∧ e.val = .int i u) ∧ (ariV ks z = none → l.find? (·.key.isStr z) = none) ∧ l.any (·.refKey) = false := by
  intro l ks h
  induction h with
  | nil => exact ⟨(fun i e => nomatch e), (fun _ => rfl), rfl⟩
  | @cons e k l ks hk hr ih =>
    obtain ⟨⟨t, ek⟩, u, ev⟩ := hk
    obtain ⟨i1, i2, i3⟩ := ih
    have rk : e.refKey = false := by simp [DictEntry.refKey, ek]
    by_cases c : k.1 = z
    · have hd : (e.key.isStr z) = true := by rw [ek, isStr_eq, decide_eq_true c]
      have av : ariV (k :: ks) z = some k.2 := by
        unfold ariV
        rw [List.find?_cons_of_pos (by exact decide_eq_true c)]
        rfl
      refine ⟨fun i e2 => ⟨e, u, List.find?_cons_of_pos (by exact hd), ?_⟩, fun e2 => ?_, ?_⟩
      · rw [av] at e2
        cases e2
        exact ev
      · rw [av] at e2
        cases e2
      · rw [List.any_cons, rk, i3]
        rfl
    · have hd : ¬ (e.key.isStr z) = true := by
        rw [ek, isStr_eq, decide_eq_false c]
        exact Bool.false_ne_true
      have av : ariV (k :: ks) z = ariV ks z := by
        unfold ariV
        rw [List.find?_cons_of_neg (by rw [decide_eq_false c]; exact Bool.false_ne_true)]
      rw [av, List.find?_cons_of_neg (by exact hd)]
      exact ⟨i1, i2, by rw [List.any_cons, rk, i3]; rfl⟩
theorem ari_ns {K : PySem.W.Frag} {w : World} {d : Addr} {es : Array DictEntry} {n : Nat} {ks : List (Str × Int)} (D : KDict K w d es n) (E : EntAt es.toList ks) (z : Str) :
    (∀ i, ariV ks z = some i → ∃ u, PySem.W.nsIn K d z = some (some (.int i u))) ∧ (ariV ks z = none → PySem.W.nsIn K d z = some none) := by
  obtain ⟨h1, h2, h3⟩ := ent_find (z := z) E
  constructor
  · intro i e
    obtain ⟨en, u, f, ev⟩ := h1 i e
    refine ⟨u, ?_⟩
    unfold PySem.W.nsIn
    rw [D.at_]
    show (match es.toList.find? (·.key.isStr z) with | some e => some (some e.val) | none => _) = _
    rw [f, ← ev]
  · intro e
    unfold PySem.W.nsIn
    rw [D.at_]
    show (match es.toList.find? (·.key.isStr z) with | some e => some (some e.val) | none => if es.toList.any (·.refKey) then none else some none) = _
    rw [h2 e, h3]
    rfl
section
variable {X : Cx} {d : Addr} {ks : List (Str × Int)}
def rInA (d : Addr) (ks : List (Str × Int)) : R2 := fun x y H Q => ∃ z : Str, x = .str z ∧ y = .ref d ∧ Q (.bl (ariV ks z).isSome) H
theorem op_in_ari (R : Ari X.K X.w d ks) : OpR X (compareOp .In) (rInA d ks) := by
  intro pins s σ H x y v u Q I rx ry h
  obtain ⟨z, rfl, rfl, q⟩ := h
  obtain ⟨es, n, D, E⟩ := R.ex
  obtain ⟨h1, h2⟩ := ari_ns D E z
  cases e : ariV ks z with
  | none =>
    rw [e] at q
    exact op_in_kd D pins s σ H _ _ v u Q I rx ry ⟨z, none, rfl, rfl, h2 e, q⟩
  | some i =>
    rw [e] at q
    obtain ⟨t, hn⟩ := h1 i e
    exact op_in_kd D pins s σ H _ _ v u Q I rx ry ⟨z, _, rfl, rfl, hn, q⟩
def rIxA (d : Addr) (ks : List (Str × Int)) : R2 := fun x y H Q => ∃ (z : Str) (i : Int), x = .ref d ∧ y = .str z ∧ ariV ks z = some i ∧ Q (.int i) H
theorem ix_ari (R : Ari X.K X.w d ks) : IxR X (rIxA d ks) := by
  intro value slice pins s σ H x y v u Q I rx ry h hs
  obtain ⟨z, i, rfl, rfl, e, q⟩ := h
  obtain ⟨es, n, D, E⟩ := R.ex
  obtain ⟨t, hn⟩ := (ari_ns D E z).1 i e
  have g := op_item_kd D pins s σ H _ _ v u Q I rx ry ⟨z, _, .int i, rfl, rfl, hn, ⟨t, rfl⟩, q⟩
  cases rx
  refine tail_any (kd_type D I) F.slot_dict_getitem.lookup g hs
/-- for k in d -/
def Ita (d : Addr) (ks : List (Str × Int)) : It := ⟨fun i _ => i < ks.length, fun i H x H' => H' = H ∧ ∃ k, ks[i]? = some k ∧ x = .str k.1, fun i _ => ks.length ≤ i⟩
theorem walk_ari : Walk (Ita d ks) ks.length (fun _ => True) (fun i H x H' => H' = H ∧ ∃ k, ks[i]? = some k ∧ x = .str k.1) :=
  ⟨fun _ _ hi _ => hi, fun _ _ => Nat.le_refl _, fun _ _ _ _ _ _ y => y⟩
def iAri (d : Addr) (ks : List (Str × Int)) (td : TE) : TI := fun σ H R => td σ H fun x H1 => x = .ref d ∧ R (Ita d ks) H1
theorem turn_ari {P : Program} {w : World} {K : PySem.W.Frag} {tg : Expr} {es : Array DictEntry} {n : Nat} (D : KDict K w d es n) (E : EntAt es.toList ks) (it : Addr) : Turn P w K tg (Ita d ks) [it] it (fun i h => h.IsKeyIter it d i ks.length n) where
  mem := List.mem_singleton.mpr rfl
  obj := fun i h st b hb => by
    obtain rfl : b = it := List.mem_singleton.mp hb
    obtain ⟨oi, e, c, dd⟩ := st
    refine ⟨oi, e, fun v z => ?_⟩
    rw [dd] at z
    cases z
  keep := fun i h h' st k => st.at fun oi e => k it (List.mem_singleton.mpr rfl) oi e
  item := by
    intro X hP hw hK hc i pins s σ H E2 I hf st hi
    subst hP hw hK
    obtain ⟨f0, f1, f2, f3, f4, f5⟩ := hf it (List.mem_singleton.mpr rfl)
    have hl : es.size = ks.length := by rw [← Array.length_toList]; exact Paired.length E
    obtain ⟨k, hk⟩ : ∃ k, ks[i]? = some k := ⟨ks[i], List.getElem?_eq_getElem hi⟩
    obtain ⟨en, hen, ⟨t, ek⟩, _⟩ : ∃ en, es[i]? = some en ∧ (∃ t, en.key = .str k.1 t) ∧ ∃ u, en.val = .int k.2 u := by
      have hi2 : i < es.toList.length := by rw [Array.length_toList, hl]; exact hi
      have he := List.getElem?_eq_getElem hi2
      obtain ⟨b, hb, h2⟩ := paired_get E he
      rw [hk] at hb
      cases hb
      exact ⟨_, by rw [← Array.getElem?_toList]; exact he, h2⟩
    refine next_key_item st (I.kIn _ _ D.at_) rfl hl hen fun h' st' sb => ?_
    have I1 : Inv X pins σ H { s with heap := h' } := I.turned (t' := s.toks) (fun b ob hb e => (sb.2 b hb).trans e) f0 f1 f3 f4 f5
    obtain ⟨oi, e, c, dd⟩ := id st'
    exact ⟨en.key, rfl, go_of (s := { s with heap := h' }) e c dd (by decide) ⟨.str k.1, H, I1, ⟨t, ek⟩, ⟨rfl, k, hk, rfl⟩, st', fun b hb => (hf b hb).1⟩⟩
  done := by
    intro X hP hw hK hc i pins s σ H E2 I hf st hi
    subst hP hw hK
    obtain ⟨f0, f1, f2, f3, f4, f5⟩ := hf it (List.mem_singleton.mpr rfl)
    have hl : es.size = ks.length := by rw [← Array.length_toList]; exact Paired.length E
    exact next_key_end (I.ok.hd hc) st (I.kIn _ _ D.at_) rfl hl hi fun h' eb => ⟨rfl, I.turned (t' := s.toks) (fun b ob hb e => eb b ob hb e) f0 f1 f3 f4 f5⟩
  self := fun A i s Q E st h => wpAny_pyIter_keyiter st h
theorem pi_ari {tg e : Expr} {td : TE} (R : Ari X.K X.w d ks) (he : PE X e td) : PI X tg e (iAri d ks td) := by
  refine ⟨fun pins s σ H R' I h => ?_⟩
  refine thn (he.run pins s σ H _ I h) fun u s1 z => ?_
  obtain ⟨x, H1, I1, rx, rfl, q⟩ := z
  cases rx
  obtain ⟨es, n, D, E⟩ := R.ex
  have hl : es.size = ks.length := by rw [← Array.length_toList]; exact Paired.length E
  refine iter_keys D.low (I1.kIn _ _ D.at_) ⟨rfl, rfl, rfl⟩ rfl (pi_one (tk := s1.toks) I1 _ (turn_ari D E _) ⟨_, Heap.get?_push_size _ rfl, rfl, ?_⟩ q)
  rw [hl]
  rfl
end
/-! ### xs[k], to be changed in place -/
def rGetN (K : PySem.W.Frag) : V → V → Hp → VK → Prop := fun o i H Q => ∃ (p : Addr) (xs : List V) (k : Nat) (v : V), o = .ref p ∧ i = .int (k : Nat) ∧ SqL K H p xs ∧ xs[k]? = some v ∧ Q v H
theorem get_list {X : Cx} : PGet X (rGetN X.K) := by
  intro pins s σ H o i ov iv Q I ro ri h
  obtain ⟨p, xs, k, v, rfl, rfl, hq, hv, q⟩ := h
  cases ro
  obtain ⟨t, rfl⟩ := ri
  obtain ⟨its, r, pl, hz⟩ := I.list hq
  obtain ⟨u, hu, ru⟩ := r.get hv
  have hl := r.length
  have hn := line63
  have hk : k < xs.length := (List.getElem?_eq_some_iff.mp hv).1
  exact wpAny_getItem_list pl.isList (by omega) (by omega) (by rw [Int.toNat_natCast]; simpa using hu) ⟨v, H, I, ru, q⟩
theorem atI_last {α : Type} (l : List α) (x : α) : atI (l ++ [x]) (-(1 : Int)) = some x := by
  unfold atI ixN
  rw [if_neg (by omega), if_pos (by rw [List.length_append, List.length_singleton]; omega)]
  show (l ++ [x])[(-(1 : Int) + ((l ++ [x]).length : Nat)).toNat]? = some x
  rw [show (-(1 : Int) + ((l ++ [x]).length : Nat)).toNat = l.length by rw [List.length_append, List.length_singleton]; omega, List.getElem?_append_right (Nat.le_refl _), Nat.sub_self]
  rfl
/-- one of two readings -/
theorem pe_either {X : Cx} {e : Expr} {t1 t2 : TE} (h1 : PE X e t1) (h2 : PE X e t2) : PE X e (fun σ H Q => t1 σ H Q ∨ t2 σ H Q) :=
  ⟨fun pins s σ H Q I h => h.elim (fun z => h1.run pins s σ H Q I z) fun z => h2.run pins s σ H Q I z⟩
end PX
/-! C.m(e, ..), m a staticmethod of the class at C. -/
namespace PX
open PySem PySem.Spec PyProof.Rows L2
structure SMet (K : PySem.W.Frag) (C : Addr) (mc : Value) (m : Str) (p g : Addr) : Prop where
  at_ : PySem.W.findCls K (.ref C) mc m = some (.get (.builtin "staticmethod.__get__") (.ref p) .none (.ref C))
  rc : ∃ rest, PySem.W.recIn K p "staticmethod" = some (.ref g :: rest)
def tSMeth (C : Addr) (sp : Sp) (E : XK) (ta : TE) (t : TA) : TE := fun σ H Q => ta σ H fun x H1 => x = .ref C ∧ t σ H1 fun vs H2 => sp vs H2 Q E
section
variable {X : Cx} {CX : CXT} {k : Nat} {C p g : Addr} {fd : FuncData} {ps : List Str} {mc : Value} {sp : Sp} {E : XK} {o e : Expr} {es : List Expr} {m : Str} {pos apos : Pos} {ta : TE} {t : TA} {pl : Sem Bool}
theorem pe_smeth (he : PE X o ta) (r : ClX.CRead X.K C mc) (c : SMet X.K C mc m p g) (F : FnOk X.prog X.w X.K X.mg X.base CX k g fd ps sp) (hr : Room k X.A) (hk : PySem.W.keepIn X.K (.ref g) = true) (hb : Binds X.K fd ps []) (hx : Passes CX X E) (ha : PA X (e :: es) t)
    (hst : starEach (e :: es) X.env = (false, eval e X.env) :: starEach es X.env := by rfl) (hpl : (backTo pos (starEach es X.env)).any (·.1) = false := by rfl)
    (ht : eval (.Call (.Attribute o m apos) (e :: es) [] pos) X.env = (do
      let v ← eval o X.env
      standAt apos.atName
      let (f, first) ← holding [v] (getMethod v m pl)
      callWith pos f first (backTo pos (starEach (e :: es) X.env)) (backToKw pos (keywordEach [] X.env))) := by rfl) :
    PE X (.Call (.Attribute o m apos) (e :: es) [] pos) (tSMeth C sp E ta t) := by
  constructor
  intro pins s σ H Q I h
  refine PySem.W.methodCall_KW (pl := pl) (thn (he.run pins s σ H _ I h) fun u s1 z => ?_) ht
  obtain ⟨x, H1, I1, rx, rfl, q⟩ := z
  cases rx
  obtain ⟨rest, hp⟩ := c.rc
  refine PySem.W.method_cls I1.kIn r.ga ?_
  refine PySem.W.cls_bind I1.kIn r.rd c.at_ (wpAny_call (PySem.W.sm_get (s := { s1 with toks := s1.toks + 1 }) I1.kIn hp (PySem.W.handed_on rfl ?_)))
  have I2 : Inv X pins σ H1 { s1 with toks := s1.toks + 1 } := I1.tok _
  refine PySem.W.callWith_K (first := []) (h₀ := X.base) I2.ok.mod.kin hk (thn (ha.run pos pins _ σ H1 _ I2 q) fun us s3 z => ?_) hst hpl
  obtain ⟨vs, H2, I3, rv, q2⟩ := z
  refine ⟨I3.kIn, ?_⟩
  have hv : Vals (vs ++ []) us := by rw [List.append_nil]; exact rv
  exact run_fn F hr hb .nil hx I3 rv (by rw [List.append_nil]; exact q2)
end
end PX
/-! tuples of texts as data (==) -/
namespace PX
open PySem PySem.Spec PyProof.Rows L2
def strsT (l : List Str) : PyData := .tuple (l.map .str)
theorem strsT_dp {K : PySem.W.Frag} {H : Hp} {a : Addr} {l : List Str} (h : SqT K H a (l.map V.str)) : Dp K H (.ref a) (strsT l) := .tup h (dps_map V.str PyData.str l fun k _ => .str k)
theorem strsT_all : ∀ l : List Str, PyData.eqvAll (l.map .str) (l.map .str) = true
  | [] => rfl
  | k :: r => by
    rw [List.map_cons, PyData.eqvAll, strsT_all r]
    simp [PyData.eqv]
theorem strsT_eqv (l : List Str) : PyData.eqv (strsT l) (strsT l) = true := by
  unfold strsT
  rw [PyData.eqv]
  exact strsT_all l
theorem strsT_lay : ∀ l : List Str, (∀ x ∈ l, PyData.strOk x = true) → PyData.canLayAll0 (l.map .str) = true
  | [], _ => rfl
  | k :: r, h => by
    rw [List.map_cons, PyData.canLayAll0, strsT_lay r fun x hx => h x (List.mem_cons_of_mem _ hx)]
    simp [PyData.canLay0, h k List.mem_cons_self]
theorem strsT_shaped {l : List Str} (h : ∀ x ∈ l, PyData.strOk x = true) : SeqAt.shaped (strsT l) = true := by
  unfold SeqAt.shaped
  rw [Bool.and_eq_true]
  refine ⟨?_, ?_⟩
  · unfold strsT
    rw [PyData.canLay0]
    exact strsT_lay l h
  · have := depth_map PyData.str 0 l fun k _ => Nat.le_refl _
    refine decide_eq_true ?_
    show PyData.depthAll _ + 1 ≤ 64
    omega
def strsL (l : List Str) : PyData := .list (l.map .str)
theorem strsL_dp {K : PySem.W.Frag} {H : Hp} {a : Addr} {l : List Str} (h : SqL K H a (l.map V.str)) : Dp K H (.ref a) (strsL l) := .lst h (dps_map V.str PyData.str l fun k _ => .str k)
theorem strsL_eqv (l : List Str) : PyData.eqv (strsL l) (strsL l) = true := by
  unfold strsL
  rw [PyData.eqv]
  exact strsT_all l
theorem strsL_shaped {l : List Str} (h : ∀ x ∈ l, PyData.strOk x = true) : SeqAt.shaped (strsL l) = true := by
  unfold SeqAt.shaped
  rw [Bool.and_eq_true]
  refine ⟨?_, ?_⟩
  · unfold strsL
    rw [PyData.canLay0]
    exact strsT_lay l h
  · have := depth_map PyData.str 0 l fun k _ => Nat.le_refl _
    refine decide_eq_true ?_
    show PyData.depthAll _ + 1 ≤ 64
    omega
theorem strsL_nil (l : List Str) : PyData.eqv (strsL l) (strsL []) = decide (l = []) := by
  unfold strsL
  rw [PyData.eqv]
  cases l with
  | nil => rfl
  | cons x r =>
    rw [List.map_cons, List.map_nil, PyData.eqvAll, decide_eq_false (by simp)]
/-- texts of low signs -/
def lowS (x : Str) : Prop := ∀ c ∈ x.cps.toList, c ≤ 127
theorem lowS.ok {x : Str} (h : lowS x) : PyData.strOk x = true := by
  unfold PyData.strOk
  rw [← Array.all_toList, List.all_eq_true]
  intro c hc
  have := h c hc
  exact decide_eq_true (by omega)
end PX
/-! Calls of built-ins whose readings name K, for blocks of comprehensions. -/
namespace PX
open PySem PySem.Spec PyProof.Rows L2
def rLenK (K : PySem.W.Frag) : List V → Hp → VK → Prop := fun xs H Q => ∃ p ys, xs = [.ref p] ∧ (SqL K H p ys ∨ SqT K H p ys) ∧ Q (.int ys.length) H
def rListK (K : PySem.W.Frag) : List V → Hp → VK → Prop := fun xs H Q => ∃ p ys, xs = [.ref p] ∧ (SqL K H p ys ∨ SqT K H p ys) ∧ ∀ l, H l = none → Q (.ref l) (upd H l (.lst ys))
def rTupK (K : PySem.W.Frag) : List V → Hp → VK → Prop := fun xs H Q => ∃ p ys, xs = [.ref p] ∧ ((SqL K H p ys ∧ ∀ l, H l = none → Q (.ref l) (upd H l (.tup ys))) ∨ (SqT K H p ys ∧ Q (.ref p) H))
section
variable {X : Cx}
theorem call_lenK : CallR X (.builtin "len") (rLenK X.K) := call_len_seq
theorem call_listK : CallR X (.type "list") (rListK X.K) := call_list_of
theorem call_tupK : CallR X (.type "tuple") (rTupK X.K) := call_tuple_of
end
end PX
namespace PX
open PySem PySem.Spec PyProof.Rows L2
/-! ### how large a rule is: nodes, leaves, signs -/
structure Fit (ns : List Str) (k l z : Nat) (r : RT) : Prop where
  fine : Fine ns k l r
  wt : r.wt ≤ z
  bs : ∀ x ∈ r.bases, x ∈ ns
theorem good_up {ns : List Str} : ∀ {d : Nat} {r : RT}, RT.good ns d r → RT.good ns (d + 1) r
  | 0, .base n, h => h
  | d + 1, .base n, h => h
  | 0, .op _ _, h => h.elim
  | d + 1, .op w ps, h => ⟨h.1, h.2.1, fun p hp => good_up (h.2.2 p hp)⟩
theorem good_le {ns : List Str} {d e : Nat} {r : RT} (h : d ≤ e) (g : RT.good ns d r) : RT.good ns e r := by
  induction h with
  | refl => exact g
  | step _ ih => exact good_up ih
theorem Fit.op {ns : List Str} {w : Str} {ps : List RT} {k l z : Nat} (hw : fitsW w ps.length) (hl : w.length ≤ 7) (h : ∀ p ∈ ps, ∃ a b c, Fit ns a b c p) (hk : (subsL ps).length + 1 ≤ k) (hlf : ∀ (tb : Str → Tab) (m : Nat), (∀ n, (tb n).length ≤ m) → leafs tb (subsL ps) ≤ l * m) (hz : 10 + wts ps ≤ z) : Fit ns k l z (.op w ps) := by
  refine ⟨⟨?_, ?_, ?_, ?_⟩, ?_, ?_⟩
  · show (subsL ps ++ [RT.op w ps]).length ≤ k
    rw [List.length_append, List.length_singleton]
    exact hk
  · intro n hn
    rcases List.mem_append.mp (show RT.base n ∈ subsL ps ++ [RT.op w ps] from hn) with y | y
    · obtain ⟨p, hp, hx⟩ := mem_subsL y
      obtain ⟨_, _, _, f⟩ := h p hp
      exact f.fine.base n hx
    · cases List.mem_singleton.mp y
  · intro v qs hn
    rcases List.mem_append.mp (show RT.op v qs ∈ subsL ps ++ [RT.op w ps] from hn) with y | y
    · obtain ⟨p, hp, hx⟩ := mem_subsL y
      obtain ⟨_, _, _, f⟩ := h p hp
      exact f.fine.fits v qs hx
    · cases List.mem_singleton.mp y
      exact hw
  · intro tb m hm
    show leafs tb (subsL ps ++ [RT.op w ps]) ≤ l * m
    rw [leafs_append]
    exact hlf tb m hm
  · show w.length + 3 + wts ps ≤ z
    omega
  · intro x hx
    obtain ⟨p, hp, hb⟩ := basesL_mem.mp (show x ∈ basesL ps from hx)
    obtain ⟨_, _, _, f⟩ := h p hp
    exact f.bs x hb
theorem Fit.op2 {ns : List Str} {w : Str} {r1 r2 : RT} {k1 l1 z1 k2 l2 z2 : Nat} (f1 : Fit ns k1 l1 z1 r1) (f2 : Fit ns k2 l2 z2 r2) (hw : fitsW w 2) (hl : w.length ≤ 7) : Fit ns (k1 + k2 + 1) (l1 + l2) (z1 + z2 + 14) (.op w [r1, r2]) := by
  have e : subsL [r1, r2] = r1.subs ++ (r2.subs ++ []) := rfl
  refine Fit.op hw hl (fun p hp => ?_) ?_ (fun tb m hm => ?_) ?_
  · rcases List.mem_cons.mp hp with y | y
    · subst y
      exact ⟨_, _, _, f1⟩
    · rw [List.mem_singleton.mp y]
      exact ⟨_, _, _, f2⟩
  · have a := f1.fine.cnt
    have b := f2.fine.cnt
    rw [e, List.append_nil, List.length_append]
    omega
  · have a := f1.fine.leaf tb m hm
    have b := f2.fine.leaf tb m hm
    rw [e, List.append_nil, leafs_append, Nat.add_mul]
    omega
  · have a := f1.wt
    have b := f2.wt
    have c : wts [r1, r2] = (r1.wt + 2) + ((r2.wt + 2) + 0) := rfl
    omega
theorem Fit.op1 {ns : List Str} {w : Str} {r1 : RT} {k1 l1 z1 : Nat} (f1 : Fit ns k1 l1 z1 r1) (hw : fitsW w 1) (hl : w.length ≤ 7) : Fit ns (k1 + 1) l1 (z1 + 12) (.op w [r1]) := by
  have e : subsL [r1] = r1.subs ++ [] := rfl
  refine Fit.op hw hl (fun p hp => ?_) ?_ (fun tb m hm => ?_) ?_
  · rw [List.mem_singleton.mp hp]
    exact ⟨_, _, _, f1⟩
  · have a := f1.fine.cnt
    rw [e, List.append_nil]
    omega
  · rw [e, List.append_nil]
    exact f1.fine.leaf tb m hm
  · have a := f1.wt
    have c : wts [r1] = (r1.wt + 2) + 0 := rfl
    omega
theorem Fit.op3 {ns : List Str} {w : Str} {r1 r2 r3 : RT} {k1 l1 z1 k2 l2 z2 k3 l3 z3 : Nat} (f1 : Fit ns k1 l1 z1 r1) (f2 : Fit ns k2 l2 z2 r2) (f3 : Fit ns k3 l3 z3 r3) (hw : fitsW w 3) (hl : w.length ≤ 7) : Fit ns (k1 + k2 + k3 + 1) (l1 + l2 + l3) (z1 + z2 + z3 + 16) (.op w [r1, r2, r3]) := by
  have e : subsL [r1, r2, r3] = r1.subs ++ (r2.subs ++ (r3.subs ++ [])) := rfl
  refine Fit.op hw hl (fun p hp => ?_) ?_ (fun tb m hm => ?_) ?_
  · rcases List.mem_cons.mp hp with y | y
    · subst y
      exact ⟨_, _, _, f1⟩
    · rcases List.mem_cons.mp y with y | y
      · subst y
        exact ⟨_, _, _, f2⟩
      · rw [List.mem_singleton.mp y]
        exact ⟨_, _, _, f3⟩
  · have a := f1.fine.cnt
    have b := f2.fine.cnt
    have c := f3.fine.cnt
    rw [e, List.append_nil, List.length_append, List.length_append]
    omega
  · have a := f1.fine.leaf tb m hm
    have b := f2.fine.leaf tb m hm
    have c := f3.fine.leaf tb m hm
    rw [e, List.append_nil, leafs_append, leafs_append, Nat.add_mul, Nat.add_mul]
    omega
  · have a := f1.wt
    have b := f2.wt
    have c := f3.wt
    have g : wts [r1, r2, r3] = (r1.wt + 2) + ((r2.wt + 2) + ((r3.wt + 2) + 0)) := rfl
    omega
theorem Fit.op0 (ns : List Str) {w : Str} (hw : fitsW w 0) (hl : w.length ≤ 7) : Fit ns 1 0 10 (.op w []) :=
  Fit.op hw hl (fun p hp => nomatch hp) (Nat.le_refl _) (fun tb m _ => Nat.zero_le _) (Nat.le_refl _)
theorem Fit.mono {ns : List Str} {k l z k' l' z' : Nat} {r : RT} (f : Fit ns k l z r) (hk : k ≤ k') (hl : l ≤ l') (hz : z ≤ z') : Fit ns k' l' z' r :=
  ⟨⟨Nat.le_trans f.fine.cnt hk, f.fine.base, f.fine.fits, fun tb m hm => Nat.le_trans (f.fine.leaf tb m hm) (Nat.mul_le_mul_right m hl)⟩, Nat.le_trans f.wt hz, f.bs⟩
/-- the answer of an evaluation is in order -/
theorem Fit.ans {ns : List Str} {k l z : Nat} {r : RT} (f : Fit ns k l z r) {sh : Sheets} {m : Nat} (hok : ∀ s ∈ sh, TabOk s.2.2) (hlen : ∀ s ∈ sh, s.2.2.length ≤ m) : TabOk (evalT (tabOf sh) r) ∧ (evalT (tabOf sh) r).length ≤ l * m := by
  have ok : ∀ n, TabOk (tabOf sh n) := fun n => tabOf_of (P := TabOk) hok TabOk.nil n
  have few : ∀ n, (tabOf sh n).length ≤ m := fun n => tabOf_of (P := fun l => l.length ≤ m) hlen (Nat.zero_le _) n
  exact ⟨evalT_ok ok r, Nat.le_trans (evalT_len ok r) (f.fine.leaf _ _ few)⟩
end PX
/-! own special methods: len(x), str(x), by a def of the class -/
namespace PX
open PySem PySem.Spec PyProof.Rows L2
section
variable {X : Cx} {CX : CXT} {k : Nat} {C f : Addr} {fd : FuncData} {ps : List Str} {sp : Sp} {E : XK}
/-- the method runs, one builtin further in -/
theorem own_run {pins : List (Addr × Obj)} {σ : L2.St} {H : Hp} {s : Shared} {Q : VK} {us : List Value} {vs : List V} {Er : Value → Shared → Prop} {B : Around} (hB : Room k B) (eB : Env0 X.prog X.w X.K X.mg X.base B X.stack s H) (F : FnOk X.prog X.w X.K X.mg X.base CX k f fd ps sp) (hb : Binds X.K fd ps []) (hx : Passes CX X.nox E)
    (I : Inv X pins σ H s) (r : Vals vs us) (h : sp vs H Q E) : wpAny (model X.prog X.w) B (call (.ref f) us) (EP X pins σ Q) Er s := by
  have hl : us.length = ps.length := r.length.symm.trans (F.len _ _ _ _ h)
  have hz := hb s us I.kIn (by rw [List.append_nil]; exact hl)
  rw [List.append_nil] at hz
  refine wpAny_call (codeAny_mono (F.run B X.stack s H ⟨us, []⟩ us vs Q E hB eB hz r h) fun res s' hq => ?_)
  match res, hq with
  | .error er, hq => exact (hx pins σ H s er s' (I.wish _) hq).elim
  | .ok (.ret u), hq => exact I.after hq
  | .ok .next, hq => exact hq.elim
  | .ok .brk, hq => exact hq.elim
  | .ok .cont, hq => exact hq.elim
/-- the class's method, bound at the instance -/
structure OwnM (K : PySem.W.Frag) (C : Addr) (nm : Str) (f : Addr) : Prop where
  at_ : PySem.W.findIn K (.ref C) nm = some (some (.ref f))
  fn : PySem.W.isFn K (.ref f) = true
theorem own_special {pins : List (Addr × Obj)} {σ : L2.St} {H : Hp} {s : Shared} {Q : VK} {R : Option Value → Shared → Prop} {nm : Str} {a dx : Addr} {fs : List (Str × V)} {us : List Value} {vs : List V} {Er : Value → Shared → Prop} {B : Around} (hB : Room k B) (eB : Env0 X.prog X.w X.K X.mg X.base B X.stack s H)
    (M : OwnM X.K C nm f) (F : FnOk X.prog X.w X.K X.mg X.base CX k f fd ps sp) (hb : Binds X.K fd ps []) (hx : Passes CX X.nox E) (I : Inv X pins σ H s) (ea : H a = some (.ins C dx fs)) (r : Vals vs us) (h : sp (.ref a :: vs) H Q E)
    (back : ∀ u s', EP X pins σ Q u s' → R (some u) s') : wpAny (model X.prog X.w) B (callSpecial? (.ref a) nm us) R Er s := by
  obtain ⟨mA, O, _⟩ := ins_get I.hok ea
  obtain ⟨od, J, _⟩ := O.look
  exact PySem.W.special_fn I.kIn J M.at_ (beq_iff_eq.mp M.fn) (wpAny_mono (own_run (vs := .ref a :: vs) hB eB F hb hx I (.cons rfl r) h) (fun u s' z => back u s' z) fun _ _ z => z)
/-- len(x) -/
theorem call_lenC (M : OwnM X.K C "__len__" f) (F : FnOk X.prog X.w X.K X.mg X.base CX k f fd ps sp) (hr : Room (k + 1) X.A) (hb : Binds X.K fd ps []) (hx : Passes CX X.nox E) :
    CallR X (.builtin "len") (fun xs H Q => ∃ (a dx : Addr) (fs : List (Str × V)), xs = [.ref a] ∧ H a = some (.ins C dx fs) ∧ sp [.ref a] H (fun v H' => ∃ n : Int, v = .int n ∧ 0 ≤ n ∧ n < 2 ^ 63 ∧ Q (.int n) H') E) := by
  intro pins s σ H xs us Q I r h
  obtain ⟨a, dx, fs, rfl, ea, q⟩ := h
  obtain ⟨u0, rfl, rx⟩ := vals1 r
  cases rx
  refine Calls.call_function_entry PySem.kind_len PySem.plain_len PySem.entry_len (PySem.args_len1 _) ?_
  unfold Builtin.«len»
  refine wpAny_bind (m := oneArg "len" _) (wpAny_pure (wpAny_bind (m := callSpecial? (.ref a) (Str.ofString "__len__")) ?_))
  refine own_special hr.in1 I.env0.in1 M F hb hx I ea .nil q fun u s' ⟨v, H', I', rv, n, ev, n0, n1, qn⟩ => ?_
  subst ev
  obtain ⟨t, rfl⟩ := rv
  refine wpAny_bind (wpAny_holding (wpAny_pure (wpAny_bind (wpAny_letGo ?_))))
  show wpAny _ _ (if n < 0 then _ else _) _ _ _
  rw [if_neg (Int.not_lt.mpr n0)]
  show wpAny _ _ (if 2 ^ 63 ≤ n then _ else _) _ _ _
  rw [if_neg (Int.not_le.mpr n1)]
  exact wpAny_bind (wpAny_mkInt (wpAny_pure ⟨_, rfl, .int n, H', I'.tok _, ⟨_, rfl⟩, qn⟩))
end
end PX
/-! str(x) and x == y by own methods; != of two tuples whose items are equal by an own ==; t[::-1] of a tuple. -/
namespace PX
open PySem PySem.Spec PyProof.Rows L2
section
variable {X : Cx} {CX : CXT} {k : Nat} {C f : Addr} {fd : FuncData} {ps : List Str} {sp : Sp} {E : XK}
/-- str(x) -/
theorem call_strC (M : OwnM X.K C "__str__" f) (F : FnOk X.prog X.w X.K X.mg X.base CX k f fd ps sp) (hr : Room (k + 2) X.A) (hb : Binds X.K fd ps []) (hx : Passes CX X.nox E) :
    CallR X (.type "str") (fun xs H Q => ∃ (a dx : Addr) (fs : List (Str × V)), xs = [.ref a] ∧ H a = some (.ins C dx fs) ∧ sp [.ref a] H (fun v H' => ∃ z : Str, v = .str z ∧ Q (.str z) H') E) := by
  intro pins s σ H xs us Q I r h
  obtain ⟨a, dx, fs, rfl, ea, q⟩ := h
  obtain ⟨u0, rfl, rx⟩ := vals1 r
  cases rx
  obtain ⟨mA, O, _⟩ := ins_get I.hok ea
  obtain ⟨od, J, _⟩ := O.look
  refine PySem.W.kso_call (Nat.lt_of_le_of_lt (Nat.le_add_right _ 0) hr.in1.in1.units0) I.kIn J M.at_ M.fn ?_
  refine wpAny_mono (own_run (vs := [.ref a]) hr.in1.in1 I.env0.in1.in1 F hb hx I (.cons rfl .nil) q) (fun u s' z => ?_) fun _ _ z => z
  obtain ⟨v, H', I', rv, y, ev, q'⟩ := z
  subst ev
  obtain ⟨t, rfl⟩ := rv
  exact ⟨.str y, H', I', ⟨t, rfl⟩, q'⟩
/-- x == y of two instances of the class -/
def rEqC (C : Addr) (sp : Sp) (E : XK) : R2 := fun x y H Q => ∃ (a b dx dy : Addr) (fs gs : List (Str × V)), x = .ref a ∧ y = .ref b ∧ H a = some (.ins C dx fs) ∧ H b = some (.ins C dy gs) ∧ sp [.ref a, .ref b] H (fun v H' => ∃ c : Bool, v = .bl c ∧ Q (.bl c) H') E
theorem op_eqC (M : OwnM X.K C "__eq__" f) (F : FnOk X.prog X.w X.K X.mg X.base CX k f fd ps sp) (hr : Room k X.A) (hb : Binds X.K fd ps []) (hx : Passes CX X.nox E) : OpR X (compareOp .Eq) (rEqC C sp E) := by
  intro pins s σ H x y v u Q I rx ry h
  obtain ⟨a, b, dx, dy, fs, gs, rfl, rfl, ea, eb, q⟩ := h
  cases rx
  cases ry
  obtain ⟨mA, O, _⟩ := ins_get I.hok ea
  obtain ⟨od, J, _⟩ := O.look
  obtain ⟨mB, O2, _⟩ := ins_get I.hok eb
  obtain ⟨od2, J2, _⟩ := O2.look
  obtain ⟨m, hF⟩ := I.fr
  refine PySem.W.cmp_K (op := .Eq) (tb := .ref C) hr.units0 hF I.ok.mod.kin J J2.type (by simp [PySem.W.notFirst]) M.at_ M.fn ?_
  refine wpAny_mono (own_run (vs := [.ref a, .ref b]) hr I.env0 F hb hx I (.cons rfl (.cons rfl .nil)) q) (fun z s' zz => ?_) fun _ _ zz => zz
  obtain ⟨w2, H', I', rw', c, ec, q'⟩ := zz
  subst ec
  cases rw'
  exact ⟨.bl c, H', I', rfl, q'⟩
end
/-! ### != of tuples -/
section
variable {prog : Program} {w : World} {A : Around} {E : Value → Shared → Prop}
theorem ne_tuples {R : Result → Shared → Prop} (l b : Addr) (us vs : Array Value) (n n2 : Nat) (dd dd2 : Option Addr) (sl sl2 : Array (Option Value)) (same : us.size = vs.size) (J : Nat → Shared → Prop)
    (each : ∀ i (h1 : i < us.size) (h2 : i < vs.size) s, J i s → wpAny (model prog w) A.in1 (eqBool us[i] vs[i]) (fun r s' => r = true ∧ J (i + 1) s') (fun e s' => R (.error e) s') s)
    (out : ∀ s, J us.size s → R (.ok (.ret (.bool false))) s) {s : Shared} (at1 : s.heap.get? l = some { cls := .type "tuple", dict := dd, data := .seq us n, slots := sl }) (at2 : s.heap.get? b = some { cls := .type "tuple", dict := dd2, data := .seq vs n2, slots := sl2 }) (j0 : J 0 s) :
    wpAny (model prog w) A.in1 (Builtin.«tuple.__ne__» ⟨[.ref l, .ref b], []⟩) (GQ.FinOf prog w A R) (fun e s' => R (.error e) s') s := by
  have subT := AutoSeq1.sub_tuple_tuple
  have len : (us.toList.zip vs.toList).length = us.size := by simp [same]
  have keep0 := j0
  obtain ⟨hp, g, d, tk, os⟩ := s
  wp_walk using AutoSeq1.wpAny_loadPart' at1, AutoSeq1.wpAny_loadPart' at2, wpAny_forIn_list _ (fun left acc s' => acc.1 = none ∧ ∃ i, left = (us.toList.zip vs.toList).drop i ∧ i ≤ us.size ∧ J i s') _
  case turn =>
    rintro ⟨y, x⟩ left acc s' ⟨hacc, i, cut, hi, hJ⟩
    have inside : i < (us.toList.zip vs.toList).length := by
      rcases Nat.lt_or_ge i (us.toList.zip vs.toList).length with q | q
      · exact q
      · rw [List.drop_of_length_le q] at cut; cases cut
    have i1 : i < us.size := len ▸ inside
    have i2 : i < vs.size := same ▸ i1
    rw [List.drop_eq_getElem_cons inside] at cut
    injection cut with pair tail
    have ey : y = us[i] := by have := congrArg Prod.fst pair; simpa using this
    have ex : x = vs[i] := by have := congrArg Prod.snd pair; simpa using this
    subst ey ex
    refine wpAny_bind (wpAny_mono (each i i1 i2 s' hJ) (fun r s2 z => ?_) fun _ _ z => z)
    obtain ⟨er, z⟩ := z
    subst er
    wp_walk
    exact ⟨rfl, i + 1, tail, i1, z⟩
  case fin =>
    rintro ⟨b1, b2⟩ s' ⟨hacc, i, cut, hi, hJ⟩
    simp only at hacc
    subst hacc
    have over : us.size ≤ i := by
      rcases Nat.lt_or_ge i (us.toList.zip vs.toList).length with q | q
      · rw [List.drop_eq_getElem_cons q] at cut; cases cut
      · exact len ▸ q
    have ei : i = us.size := by omega
    have done := out s' (ei ▸ hJ)
    wp_walk
    simpa [Builtin.Tuple.tupleCompareSizes, same] using done
  case h =>
    exact ⟨rfl, 0, rfl, Nat.zero_le _, keep0⟩
end
section
variable {X : Cx} {n : Nat} {D : Eqv}
/-- x != y of two tuples, equal item by item -/
def rNeTG (K : PySem.W.Frag) (D : Eqv) : R2 := fun x y H Q => DTup K D x y H ∧ ∀ H', Ext H H' → Q (.bl false) H'
theorem op_neTG (hD : Mon D) (h : EqG X n D) (hr : Room (n + 1) X.A) : OpR X (compareOp .NotEq) (rNeTG X.K D) := by
  intro pins s σ H x y v u Q I rx ry hq
  obtain ⟨⟨a, b, xs, ys, rfl, rfl, ha, hb, p⟩, q⟩ := hq
  cases rx
  cases ry
  obtain ⟨its, r, e, z⟩ := I.tuple ha
  obtain ⟨its2, r2, e2, z2⟩ := I.tuple hb
  have same : its.toArray.size = its2.toArray.size := by rw [List.size_toArray, List.size_toArray, ← r.length, ← r2.length]; exact p.1
  obtain ⟨⟨c1, d1, dat1, sl1⟩, o1, hc1, m1, hd1⟩ := id e
  obtain ⟨⟨c2, d2, dat2, sl2⟩, o2, hc2, m2, hd2⟩ := id e2
  simp only at hc1 hd1 hc2 hd2
  subst hc1 hd1 hc2 hd2
  show wpAny (model X.prog X.w) X.A (richCompare .NotEq (.ref a) (.ref b)) (EP X pins σ Q) X.xe s
  refine wpAny_richCompare_same_room (op := .NotEq) ⟨_, o1, rfl⟩ ⟨_, o2, rfl⟩ PySem.F.slot_tuple_ne (GQ.call_here PySem.F.slot_tuple_ne ⟨_, o1, rfl⟩ PySem.F.entry_tuple_ne (PySem.F.args_tuple_ne_2 _ _) ?_) hr.units0
  refine ne_tuples (R := wants (fun v s' => v ≠ .notImplemented ∧ EP X pins σ Q v s') X.xe) a b its.toArray its2.toArray m1 m2 d1 d2 sl1 sl2 same (fun _ s' => LoopI X pins σ H s') (fun i h1 h2 s' l => turnG hD h ⟨hr, rfl⟩ p r r2 i h1 h2 s' l) (fun s' l => ?_) o1 o2 ⟨H, I, Ext.rfl'⟩
  obtain ⟨H', I', x'⟩ := l
  exact ⟨(fun z => nomatch z), .bl false, H', I', rfl, q H' x'⟩
end
/-! ### t[::-1] -/
section
variable {prog : Program} {w : World} {A : Around} {E : Value → Shared → Prop} {s : Shared}
theorem sliceApplied_back {sl : Addr} {vl vu vs : Value} {n : Nat} {Q : Int × Int × Nat → Shared → Prop} (hs : s.heap.IsSliceOf sl vl vu vs) (pl : IsPart vl none) (pu : IsPart vu none) (pv : IsPart vs (some (-1)))
    (h : Q ((n : Int) - 1, -1, n) s) : wpAny (model prog w) A (Builtin.Slice.sliceApplied (.ref sl) (pure (n : Int))) Q E s := by
  obtain ⟨os, atS, clsS, datS⟩ := id hs
  unfold Builtin.Slice.sliceApplied Builtin.Slice.sliceFields
  refine wpAny_bind (wpAny_bind (wpAny_field atS datS (x := vl) rfl (wpAny_bind (wpAny_field atS datS (x := vu) rfl (wpAny_bind (wpAny_field atS datS (x := vs) rfl (wpAny_pure ?_)))))))
  refine wpAny_bind (HT.slicePart_ pv ?_)
  show wpAny _ _ (if ((-1 : Int) == 0) = true then _ else _) _ _ s
  rw [if_neg (by decide)]
  refine wpAny_bind (HT.slicePart_ pl (wpAny_bind (HT.slicePart_ pu (wpAny_bind (wpAny_pure ?_)))))
  have e1 : Builtin.Slice.sliceAdjust none none (-1) (n : Int) = ((n : Int) - 1, -1) := by
    unfold Builtin.Slice.sliceAdjust
    simp
  have e2 : Builtin.Slice.slicePlaces ((n : Int) - 1) (-1) (-1) = n := by
    unfold Builtin.Slice.slicePlaces
    have no : ¬ ((-1 : Int) > 0) := by decide
    simp only [no, if_false]
    rw [show (-(-1) : Int) = 1 by decide, Int.ediv_one]
    split <;> omega
  show wpAny _ _ (match Builtin.Slice.sliceAdjust none none (-1) (n : Int) with | (lo, hi) => pure (lo, (-1 : Int), Builtin.Slice.slicePlaces lo hi (-1))) _ _ s
  rw [e1]
  show wpAny _ _ (pure ((n : Int) - 1, (-1 : Int), Builtin.Slice.slicePlaces ((n : Int) - 1) (-1) (-1))) _ _ s
  rw [e2]
  exact wpAny_pure h
theorem pick_back (xs : Array Value) : ((List.range xs.size).filterMap fun (m : Nat) => xs[(((xs.size : Nat) : Int) - 1 + (m : Int) * (-1)).toNat]?).toArray = xs.toList.reverse.toArray := by
  rw [← PySem.W.krv_pick xs]
  unfold slicePick
  rw [PySem.W.krv_bounds]
  show _ = ((sliceRange ((xs.size : Int) - 1) (-1) (-1)).filterMap (xs[·]?)).toArray
  rw [PySem.W.krv_sliceRange, List.filterMap_map]
  congr 2
  funext m
  have e : (((xs.size : Nat) : Int) - 1 + (m : Int) * (-1)).toNat = xs.size - 1 - m := by omega
  rw [e]
  rfl
theorem getItem_tuple_back {t sl : Addr} {items : Array Value} {vl vu vs : Value} {Q : Value → Shared → Prop} (ht : IsTup s.heap t items) (hs : s.heap.IsSliceOf sl vl vu vs) (pl : IsPart vl none) (pu : IsPart vu none) (pv : IsPart vs (some (-1)))
    (h : Q (.ref s.heap.objs.size) { s with heap := s.heap.push { cls := .type "tuple", data := .seq items.toList.reverse.toArray } }) (hsz : items.size ≤ sizeLine) : wpAny (model prog w) A (getItem (.ref t) (.ref sl)) Q E s := by
  have fits : sizeOk (.seq items.toList.reverse.toArray) := by
    show items.toList.reverse.toArray.size ≤ sizeLine
    rw [List.size_toArray, List.length_reverse, Array.length_toList]
    exact hsz
  obtain ⟨os, atS, clsS, datS⟩ := id hs
  have isS : s.TypeIs (.ref sl) "slice" := ⟨os, atS, clsS⟩
  unfold getItem
  try with_reducible refine wpAny_holding ?_
  first | refine wpAny_bind (wpAny_pure ?_) | skip
  refine wpAny_bind (wpAny_sequenceKey ht.typeIs (by decide) ?_)
  refine wpAny_bind (wpAny_callSpecial?_slot (name := Str.ofString "__getitem__") ht.typeIs PyProof.Rows.slot_tuple_getitem (wpAny_call_entry PyProof.Rows.slot_tuple_getitem ht.typeIs entry_tuple_getitem ?_ (args_tuple_getitem _ _)))
  show wpAny _ _ (Builtin.Tuple.tupleItemsOf (.ref t) >>= _) _ _ s
  refine wpAny_bind (tupleItemsOf_ ht ?_)
  refine wpAny_bind (wpAny_typeOf isS ?_)
  rw [if_pos (by decide)]
  refine wpAny_bind (sliceApplied_back hs pl pu pv ?_)
  have notWhole : ¬ ((((items.size : Nat) : Int) - 1 == 0 && (-1 : Int) == 1 && items.size == items.size) = true) := by
    rw [show ((-1 : Int) == 1) = false from rfl, Bool.and_false, Bool.false_and]
    exact Bool.false_ne_true
  show wpAny _ _ (if ((((items.size : Nat) : Int) - 1 == 0 && (-1 : Int) == 1 && items.size == items.size) = true) then _ else _) _ _ s
  rw [if_neg notWhole, pick_back]
  first
    | exact wpAny_bind (m := Builtin.Tuple.tupleExact _) (wpAny_newObj_type (wpAny_pure ⟨_, rfl, wpAny_pure h⟩) fits)
    | exact wpAny_bind (m := Builtin.Tuple.tupleExact _) (wpAny_newObj_type (wpAny_bind (wpAny_pure (wpAny_pure ⟨_, rfl, wpAny_pure h⟩))) fits)
    | exact wpAny_bind (wpAny_bind (m := Builtin.Tuple.tupleExact _) (wpAny_newObj_type (wpAny_pure (wpAny_pure ⟨_, rfl, wpAny_pure h⟩)) fits))
    | exact wpAny_bind (wpAny_bind (m := Builtin.Tuple.tupleExact _) (wpAny_newObj_type (wpAny_pure ⟨_, rfl, wpAny_pure h⟩) fits))
end
def tRevT (K : PySem.W.Frag) (te : TE) : TE := fun σ H Q => te σ H fun x H1 => ∃ (a : Addr) (xs : List V), x = .ref a ∧ SqT K H1 a xs ∧ ∀ p, H1 p = none → Q (.ref p) (upd H1 p (.tup xs.reverse))
theorem pe_revT {X : Cx} {e : Expr} {te : TE} {k : Nat} {p1 p2 p3 pos : Pos} (he : PE X e te) : PE X (.Subscript e (.Slice none none (some (.UnaryOp .USub (.Constant (.int 1) k p1) p2)) p3) pos) (tRevT X.K te) := by
  refine ⟨fun pins s σ H Q I h => ?_⟩
  refine Subscript_ (thn (he.run pins s σ H _ I h) fun v s1 ⟨x, H1, I1, r1, got⟩ => ?_)
  obtain ⟨a, xs, rfl, hx, q⟩ := got
  cases r1
  have step : PO X (some (.UnaryOp .USub (.Constant (.int 1) k p1) p2)) (tPart (tUn (rU fun i => .int (-i)) (tC (.int 1)))) := po_some (pe_un un_neg pe_int)
  refine wpAny_Slice (thn (po_none.run pins s1 σ H1 (fun o H2 => o = none ∧ H2 = H1) I1 ⟨rfl, rfl⟩) fun vl s2 ⟨l, H2, I2, pl, ⟨el, e2⟩⟩ => ?_)
  subst el e2
  refine thn (po_none.run pins s2 σ H2 (fun o H3 => o = none ∧ H3 = H2) I2 ⟨rfl, rfl⟩) fun vu s3 ⟨u, H3, I3, pu, ⟨eu, e3⟩⟩ => ?_
  subst eu e3
  refine thn (step.run pins s3 σ H3 (fun o H4 => o = some (-1) ∧ H4 = H3) I3 ⟨1, rfl, -1, rfl, rfl, rfl⟩) fun vs s4 ⟨o, H4, I4, pv, ⟨eo, e4⟩⟩ => ?_
  subst eo e4
  have I5 : Inv X pins σ H4 { s4 with heap := s4.heap.push { cls := .type "slice", data := .fields #[vl, vu, vs] } } := I4.kept (t' := s4.toks) fun b ob z => Heap.get?_push_of_some _ z
  obtain ⟨its, r, ht, hz⟩ := I5.tuple hx
  have len := r.length
  show wpAny (model X.prog X.w) X.A (subscriptTail e (.Slice none none (some (.UnaryOp .USub (.Constant (.int 1) k p1) p2)) p3) (.ref a) (.ref s4.heap.objs.size)) (EP X pins σ Q) X.xe { s4 with heap := s4.heap.push { cls := .type "slice", data := .fields #[vl, vu, vs] } }
  refine tail_any (ops := [.ref a, .ref s4.heap.objs.size]) ht.typeIs (PyProof.Rows.slot_tuple_getitem.lookup) ?_ (by with_unfolding_all rfl)
  refine getItem_tuple_back ht (Heap.IsSliceOf.new _ vl vu vs) pl pu pv ?_ (by rw [List.size_toArray]; omega)
  refine ⟨.ref _, _, I5.laid (t' := s4.toks) (o := .tup xs.reverse) (fun b ob z => Heap.get?_push_of_some _ z) (Nat.le_refl _) ?_, rfl, q _ (I5.hok.fresh (Nat.le_refl _))⟩
  exact ⟨by rw [List.length_reverse]; exact hz, _, r.reverse, IsTup.new _ _⟩
end PX
/-! C.m(x=e), m a staticmethod of the class at C; == of two tuples whose items are equal by an own ==. -/
namespace PX
open PySem PySem.Spec PyProof.Rows L2
/-- one value by its keyword -/
def sw1 {α : Type} : List α → List α → List α
  | [], [a] => [a]
  | _, _ => []
theorem kb_one {K : PySem.W.Frag} {x qual : Str} {st : Stmt} {f : Addr} {fd : FuncData} {p1 : Str} (F : Fun K x qual st f fd)
    (h : ∀ (kV doc pm : Value) (an : Option Addr) (cdv ct a : Value), bindArgs (PySem.W.fnOf x qual (defArgs st) (defBody st) (defScope st) .none kV doc pm an cdv ct) ⟨[], [(p1, a)]⟩ = pure [(p1, a)]) :
    KBinds K fd [p1] [p1] sw1 sw1 := by
  obtain ⟨oc, od, kV, doc, pm, an, cdv, ct, osl, rfl, lk, hcd⟩ := F.ex
  refine ⟨fun s us ws _ hl => ?_, fun {vs us zs ws} r z => ?_⟩
  · match us, ws, hl with
    | [], [a], _ => exact .of_eq (h kV doc pm an cdv ct a)
  · cases r with
    | nil =>
      cases z with
      | nil => exact .nil
      | cons a z =>
        cases z with
        | nil => exact .cons a .nil
        | cons b z => exact .nil
    | cons a r => exact .nil
def tSMethK (C : Addr) (sp : Sp) (E : XK) (ta : TE) (t : TA) : TE := fun σ H Q => ta σ H fun x H1 => x = .ref C ∧ t σ H1 fun zs H2 => sp (sw1 [] zs) H2 Q E
section
variable {X : Cx} {CX : CXT} {k : Nat} {C p g : Addr} {fd : FuncData} {ps ks : List Str} {mc : Value} {sp : Sp} {E : XK} {o : Expr} {m : Str} {pos apos : Pos} {ta : TE} {tk : TA} {pl : Sem Bool} {kws : List Keyword}
theorem pe_smethK (he : PE X o ta) (r : ClX.CRead X.K C mc) (c : SMet X.K C mc m p g) (F : FnOk X.prog X.w X.K X.mg X.base CX k g fd ps sp) (hr : Room k X.A) (hk : PySem.W.keepIn X.K (.ref g) = true) (hb : KBinds X.K fd ps ks sw1 sw1) (hx : Passes CX X E) (hkw : PK X kws tk)
    (hall : (backToKw pos (keywordEach kws X.env)).all (·.1.isSome) = true := by rfl) (hks : (backToKw pos (keywordEach kws X.env)).filterMap (·.1) = ks := by rfl)
    (hpl : ((backTo pos (starEach [] X.env)).any (·.1) || (backToKw pos (keywordEach kws X.env)).any (·.1.isNone)) = false := by rfl)
    (ht : eval (.Call (.Attribute o m apos) [] kws pos) X.env = (do
      let v ← eval o X.env
      standAt apos.atName
      let (f, first) ← holding [v] (getMethod v m pl)
      callWith pos f first (backTo pos (starEach [] X.env)) (backToKw pos (keywordEach kws X.env))) := by rfl) :
    PE X (.Call (.Attribute o m apos) [] kws pos) (tSMethK C sp E ta tk) := by
  constructor
  intro pins s σ H Q I h
  refine PySem.W.methodCall_KW (pl := pl) (thn (he.run pins s σ H _ I h) fun u s1 z => ?_) ht
  obtain ⟨x, H1, I1, rx, rfl, q⟩ := z
  cases rx
  obtain ⟨rest, hp⟩ := c.rc
  refine PySem.W.method_cls I1.kIn r.ga ?_
  refine PySem.W.cls_bind I1.kIn r.rd c.at_ (wpAny_call (PySem.W.sm_get (s := { s1 with toks := s1.toks + 1 }) I1.kIn hp (PySem.W.handed_on rfl ?_)))
  have I2 : Inv X pins σ H1 { s1 with toks := s1.toks + 1 } := I1.tok _
  refine PySem.W.callWith_KW0 (h₀ := X.base) I2.ok.mod.kin hk hall ?_ hpl
  refine thn (hkw.run pos pins _ σ H1 _ I2 q) fun ws s3 z => ?_
  obtain ⟨zs, H2, I3, rz, q2⟩ := z
  refine ⟨I3.kIn, ?_⟩
  rw [hks]
  exact run_fnk (us := []) (vs := []) F hr hb hx I3 .nil rz q2
end
section
variable {prog : Program} {w : World} {A : Around} {E : Value → Shared → Prop}
theorem eq_tuples {R : Result → Shared → Prop} (l b : Addr) (us vs : Array Value) (n n2 : Nat) (dd dd2 : Option Addr) (sl sl2 : Array (Option Value)) (same : us.size = vs.size) (J : Nat → Shared → Prop)
    (each : ∀ i (h1 : i < us.size) (h2 : i < vs.size) s, J i s → wpAny (model prog w) A.in1 (eqBool us[i] vs[i]) (fun r s' => r = true ∧ J (i + 1) s') (fun e s' => R (.error e) s') s)
    (out : ∀ s, J us.size s → R (.ok (.ret (.bool true))) s) {s : Shared} (at1 : s.heap.get? l = some { cls := .type "tuple", dict := dd, data := .seq us n, slots := sl }) (at2 : s.heap.get? b = some { cls := .type "tuple", dict := dd2, data := .seq vs n2, slots := sl2 }) (j0 : J 0 s) :
    wpAny (model prog w) A.in1 (Builtin.«tuple.__eq__» ⟨[.ref l, .ref b], []⟩) (GQ.FinOf prog w A R) (fun e s' => R (.error e) s') s := by
  have subT := AutoSeq1.sub_tuple_tuple
  have len : (us.toList.zip vs.toList).length = us.size := by simp [same]
  have keep0 := j0
  obtain ⟨hp, g, d, tk, os⟩ := s
  wp_walk using AutoSeq1.wpAny_loadPart' at1, AutoSeq1.wpAny_loadPart' at2, wpAny_forIn_list _ (fun left acc s' => acc.1 = none ∧ ∃ i, left = (us.toList.zip vs.toList).drop i ∧ i ≤ us.size ∧ J i s') _
  case turn =>
    rintro ⟨y, x⟩ left acc s' ⟨hacc, i, cut, hi, hJ⟩
    have inside : i < (us.toList.zip vs.toList).length := by
      rcases Nat.lt_or_ge i (us.toList.zip vs.toList).length with q | q
      · exact q
      · rw [List.drop_of_length_le q] at cut; cases cut
    have i1 : i < us.size := len ▸ inside
    have i2 : i < vs.size := same ▸ i1
    rw [List.drop_eq_getElem_cons inside] at cut
    injection cut with pair tail
    have ey : y = us[i] := by have := congrArg Prod.fst pair; simpa using this
    have ex : x = vs[i] := by have := congrArg Prod.snd pair; simpa using this
    subst ey ex
    refine wpAny_bind (wpAny_mono (each i i1 i2 s' hJ) (fun r s2 z => ?_) fun _ _ z => z)
    obtain ⟨er, z⟩ := z
    subst er
    wp_walk
    exact ⟨rfl, i + 1, tail, i1, z⟩
  case fin =>
    rintro ⟨b1, b2⟩ s' ⟨hacc, i, cut, hi, hJ⟩
    simp only at hacc
    subst hacc
    have over : us.size ≤ i := by
      rcases Nat.lt_or_ge i (us.toList.zip vs.toList).length with q | q
      · rw [List.drop_eq_getElem_cons q] at cut; cases cut
      · exact len ▸ q
    have ei : i = us.size := by omega
    have done := out s' (ei ▸ hJ)
    wp_walk
    simpa [Builtin.Tuple.tupleCompareSizes, same] using done
  case h =>
    exact ⟨rfl, 0, rfl, Nat.zero_le _, keep0⟩
end
section
variable {X : Cx} {n : Nat} {D : Eqv}
/-- x == y of two tuples, equal item by item -/
def rEqTG (K : PySem.W.Frag) (D : Eqv) : R2 := fun x y H Q => DTup K D x y H ∧ ∀ H', Ext H H' → Q (.bl true) H'
theorem op_eqTG (hD : Mon D) (h : EqG X n D) (hr : Room (n + 1) X.A) : OpR X (compareOp .Eq) (rEqTG X.K D) := by
  intro pins s σ H x y v u Q I rx ry hq
  obtain ⟨⟨a, b, xs, ys, rfl, rfl, ha, hb, p⟩, q⟩ := hq
  cases rx
  cases ry
  obtain ⟨its, r, e, z⟩ := I.tuple ha
  obtain ⟨its2, r2, e2, z2⟩ := I.tuple hb
  have same : its.toArray.size = its2.toArray.size := by rw [List.size_toArray, List.size_toArray, ← r.length, ← r2.length]; exact p.1
  obtain ⟨⟨c1, d1, dat1, sl1⟩, o1, hc1, m1, hd1⟩ := id e
  obtain ⟨⟨c2, d2, dat2, sl2⟩, o2, hc2, m2, hd2⟩ := id e2
  simp only at hc1 hd1 hc2 hd2
  subst hc1 hd1 hc2 hd2
  show wpAny (model X.prog X.w) X.A (richCompare .Eq (.ref a) (.ref b)) (EP X pins σ Q) X.xe s
  refine wpAny_richCompare_same_room (op := .Eq) ⟨_, o1, rfl⟩ ⟨_, o2, rfl⟩ PySem.F.slot_tuple_eq (GQ.call_here PySem.F.slot_tuple_eq ⟨_, o1, rfl⟩ PySem.F.entry_tuple_eq (PySem.F.args_tuple_eq_2 _ _) ?_) hr.units0
  refine eq_tuples (R := wants (fun v s' => v ≠ .notImplemented ∧ EP X pins σ Q v s') X.xe) a b its.toArray its2.toArray m1 m2 d1 d2 sl1 sl2 same (fun _ s' => LoopI X pins σ H s') (fun i h1 h2 s' l => turnG hD h ⟨hr, rfl⟩ p r r2 i h1 h2 s' l) (fun s' l => ?_) o1 o2 ⟨H, I, Ext.rfl'⟩
  obtain ⟨H', I', x'⟩ := l
  exact ⟨(fun z => nomatch z), .bl true, H', I', rfl, q H' x'⟩
end
end PX
/-! x != y of two instances whose class has an own __eq__ and no __ne__. -/
namespace PX
open PySem PySem.Spec PyProof.Rows L2
open PySem.W (findIn isFn mroIn)
section
variable {M : Model} {prog : Program} {w : World} {A : Around} {E : Value → Shared → Prop} {s : Shared} {K : PySem.W.Frag} {x C f : Addr} {ox : Obj} {od : Option Obj} {name : Str} {b : Value} {args : List Value}
/-- a special method that is a builtin -/
theorem special_B {i : String} {Q : Option Value → Shared → Prop} (X : K.In s.heap) (I : PySem.W.InstAt s.heap x ox C od) (hs : findIn K (.ref C) name = some (some (.builtin i))) (hb : ∀ z, bindSpecial (.builtin i) z = pure (.builtin i, [z]))
    (h : wpAny M A (call (.builtin i) (.ref x :: args)) (fun v => Q (some v)) E s) : wpAny M A (callSpecialIfBound? (.ref x) name args) Q E s := by
  have last : wpAny M A (call (.builtin i) ([Value.ref x] ++ args) >>= fun v => pure (some v)) Q E s := by
    refine wpAny_bind (wpAny_mono h ?_ fun _ _ z => z)
    intro v s' z
    exact wpAny_pure z
  unfold callSpecialIfBound? bindSpecialIfBound?
  refine wpAny_holding ?_
  refine wpAny_bind (wpAny_bind (wpAny_bind (I.type.here ?_)))
  refine (PySem.W.looks_findIn X hs).here ?_
  simp only [hb]
  refine wpAny_bind ?_
  refine wpAny_askSetting (wpAny_ite ?_)
  have get : wpAny M A (pure (Value.builtin i, [Value.ref x]) >>= fun r => call r.1 (r.2 ++ args) >>= fun v => pure (some v)) Q E s := wpAny_bind (wpAny_pure last)
  split
  · exact wpAny_bind (wpAny_pure (wpAny_pure last))
  · exact wpAny_tryCatch (wpAny_bind (wpAny_pure (wpAny_pure last)))
/-- object.__ne__ asks the own __eq__ -/
theorem ne_asks {y : Value} {Q : Fin → Shared → Prop} (X : K.In s.heap) (I : PySem.W.InstAt s.heap x ox C od) (hs : findIn K (.ref C) "__eq__" = some (some (.ref f))) (hf : isFn K (.ref f) = true) (hu : A.units < cLine)
    (h : wpAny (model prog w) A (call (.ref f) [.ref x, y]) (fun v s' => ∃ c, v = .bool c ∧ Q (.done (.ret (.bool (!c)))) s') E s) : wpAny (model prog w) A (Builtin.«object.__ne__» ⟨[.ref x, y], []⟩) Q E s := by
  unfold Builtin.«object.__ne__»
  refine wpAny_bind (m := slotArgs "__ne__" 1 _) (wpAny_pure ?_)
  refine wpAny_bind (wpAny_cRoomFor hu ?_)
  refine wpAny_bind (m := callSpecialIfBound? (.ref x) (Str.ofString "__eq__") [y]) (PySem.W.ifBound_K X I hs hf (wpAny_mono h ?_ fun _ _ z => z))
  rintro v s' ⟨c, rfl, q⟩
  refine wpAny_bind (m := truthy (.bool c)) (wpAny_truthy_bool ?_)
  exact wpAny_pure q
end
section
variable {X : Cx} {CX : CXT} {k : Nat} {C f : Addr} {fd : FuncData} {ps : List Str} {sp : Sp} {E : XK}
/-- x != y of two instances of the class -/
def rNeC (C : Addr) (sp : Sp) (E : XK) : R2 := fun x y H Q => ∃ (a b dx dy : Addr) (fs gs : List (Str × V)), x = .ref a ∧ y = .ref b ∧ H a = some (.ins C dx fs) ∧ H b = some (.ins C dy gs) ∧ sp [.ref a, .ref b] H (fun v H' => ∃ c : Bool, v = .bl c ∧ Q (.bl !c) H') E
theorem op_neC (M : OwnM X.K C "__eq__" f) (hne : findIn X.K (.ref C) "__ne__" = some (some (.builtin "object.__ne__"))) (hm : mroIn X.K C (.type "object") = some true)
    (F : FnOk X.prog X.w X.K X.mg X.base CX k f fd ps sp) (hr : Room (k + 1) X.A) (hb : Binds X.K fd ps []) (hx : Passes CX X.nox E) : OpR X (compareOp .NotEq) (rNeC C sp E) := by
  intro pins s σ H x y v u Q I rx ry h
  obtain ⟨a, b, dx, dy, fs, gs, rfl, rfl, ea, eb, q⟩ := h
  cases rx
  cases ry
  obtain ⟨mA, O, _⟩ := ins_get I.hok ea
  obtain ⟨od, J, _⟩ := O.look
  obtain ⟨mB, O2, _⟩ := ins_get I.hok eb
  obtain ⟨od2, J2, _⟩ := O2.look
  have X0 := I.kIn
  have isO : PySem.W.Looks (model X.prog X.w) s.heap (isInstance (.ref a) (.type "object")) true := J.type.andThen (PySem.W.looks_mroIn X0 hm)
  have body : wpAny (model X.prog X.w) X.A.in1 (Builtin.«object.__ne__» ⟨[.ref a, .ref b], []⟩) (fun r s' => ∃ c : Bool, r = .done (.ret (.bool c)) ∧ EP X pins σ Q (.bool c) s') X.xe s := by
    refine ne_asks X0 J M.at_ M.fn (hr.in1).units0 ?_
    refine wpAny_mono (own_run (vs := [.ref a, .ref b]) hr.in1 I.env0.in1 F hb hx I (.cons rfl (.cons rfl .nil)) q) (fun z s' zz => ?_) fun _ _ zz => zz
    obtain ⟨w2, H', I', rw', c, ec, q'⟩ := zz
    subst ec
    cases rw'
    exact ⟨c, rfl, _, rfl, .bl !c, H', I', rfl, q'⟩
  have one : wpAny (model X.prog X.w) X.A (tryCompare (.ref a) "__ne__" (.ref b)) (fun r s' => ∃ z, r = some z ∧ EP X pins σ Q z s') X.xe s := by
    unfold tryCompare
    refine wpAny_bind (special_B X0 J hne PySem.F.cmp_object.ne.bind (wpAny_call (codeAny_call_builtin PySem.F.cmp_object.ne.plain PySem.F.cmpEntry_ne ?_)))
    refine PySem.W.check_slot PySem.F.cmpKind_ne PySem.F.cmpSplit_ne isO (PySem.F.cmpArgs_ne _ _) ?_
    refine wpAny_mono body (fun r s' z => ?_) fun _ _ z => z
    obtain ⟨c, rfl, z⟩ := z
    first
      | exact ⟨_, rfl, z⟩
      | exact wpAny_pure ⟨_, rfl, z⟩
      | exact ⟨_, rfl, wpAny_pure ⟨_, rfl, z⟩⟩
      | exact ⟨_, rfl, wpAny_pure (wpAny_pure ⟨_, rfl, z⟩)⟩
      | (show False; trace_state; done)
  show wpAny _ _ (richCompare .NotEq (.ref a) (.ref b)) _ _ s
  unfold richCompare
  rw [oneThing_ref]
  refine wpAny_holding ?_
  refine wpAny_bind (wpAny_cRoomFor hr.units0 ?_)
  refine wpAny_bind (J.type.here ?_)
  refine wpAny_bind (J2.type.here ?_)
  have same : (Value.ref C != Value.ref C) = false := by simp
  rw [same]
  refine wpAny_bind (wpAny_pure ?_)
  refine wpAny_bind (wpAny_mono one (fun r s' z => ?_) fun _ _ z => z)
  obtain ⟨v, rfl, z⟩ := z
  exact wpAny_pure z
end
end PX
/-! set(a list of texts), any number of them. -/
namespace PX
open PySem PySem.Spec PyProof.Rows L2
section
variable {P : Program} {w : World} {A : Around} {R : Result → Shared → Prop} {I : Addr} {fp wr : List Addr} {G : Array GenState → Array GenState → Prop} {n : Nat} {Pv : Nat → Value → Prop} {St : Nat → Shared → Prop}
/-- what stands in the set behind i turns -/
def InTxt (P : Program) (w : World) (h : Heap) (S : Addr) (xs : List Str) (i : Nat) : Prop := ∃ (M : Str → Bool) (m : Nat), SetG (txtKind P w) h S M m ∧ m ≤ i ∧ ∀ k, M k = true ↔ k ∈ xs.take i
theorem fill_txts (W : WalksS P w A.in1 I fp wr G n Pv St) (S : Addr) (off : S ∉ fp) (xs : List Str) (len : xs.length = n) (few : xs.length < 64) (each : ∀ i v, Pv i v → ∃ x t, xs[i]? = some x ∧ v = .str x t) :
    ∀ (k i : Nat) (s : Shared), n - i = k → i ≤ n → St i s → InTxt P w s.heap S xs i →
      (∀ s', Moved (S :: wr) G s s' → InTxt P w s'.heap S xs n → R (.ok (.ret .none)) s') →
      codeAny (model P w) A (.builtin "set.update.loop" ⟨[.ref S, .ref I], []⟩) R s := by
  have offW : S ∉ wr := fun z => off (W.sub _ z)
  have more : ∀ b ∈ wr, b ∈ S :: wr := fun b z => List.mem_cons_of_mem _ z
  intro k
  induction k with
  | zero =>
    intro i s ek le st at_ fin
    obtain rfl : i = n := by omega
    refine codeAny_builtin PyProof.Rows.F.entry_set_update_loop ?_
    rw [Around.under_plainId PyProof.Rows.F.plain_set_update_loop _]
    show wpAny _ A.in1 (pyNext (.ref I) >>= _) _ _ s
    refine wpAny_bind (W.done s _ _ st fun s' mv => ?_)
    show wpAny _ A.in1 (ret Value.none) _ _ s'
    obtain ⟨M, m, g, lm, hM⟩ := at_
    exact wpAny_pure (fin s' (mv.mono more) ⟨M, m, g.keep fun o e => mv.heap S o offW e, lm, hM⟩)
  | succ k ih =>
    intro i s ek le st at_ fin
    have lt : i < n := by omega
    refine codeAny_builtin PyProof.Rows.F.entry_set_update_loop ?_
    rw [Around.under_plainId PyProof.Rows.F.plain_set_update_loop _]
    show wpAny _ A.in1 (pyNext (.ref I) >>= _) _ _ s
    refine wpAny_bind (W.item i s _ _ lt st fun v s' pv st' mv => ?_)
    obtain ⟨x, t, hx, rfl⟩ := each i v pv
    obtain ⟨M, m, g, lm, hM⟩ := at_
    have g' : SetG (txtKind P w) s'.heap S M m := g.keep fun o e => mv.heap S o offW e
    have hk : (txtKind P w).is x (.str x t) = true := strKind_is P w x t
    show wpAny _ A.in1 (holding [Value.str x t] (setAdd S (.str x t)) >>= _) _ _ s'
    refine wpAny_bind (wpAny_holding ?_)
    unfold setAdd
    refine wpAny_holding ?_
    refine wpAny_bind ((txtKind P w).pyHash hk ?_)
    refine setG_addH (s := { s' with toks := s'.toks + 1 }) hk rfl g' (by unfold scanBound; omega) fun h' but g2 => ?_
    have next : InTxt P w h' S xs (i + 1) := by
      refine ⟨_, _, g2, by split <;> omega, fun j => ?_⟩
      have e : xs.take (i + 1) = xs.take i ++ [x] := by
        rw [List.take_add_one, hx]
        rfl
      rw [Bool.or_eq_true, hM, e, List.mem_append, List.mem_singleton, decide_eq_true_iff]
    refine wpAny_pure ⟨plainId_quiet PyProof.Rows.F.plain_set_update_loop _, ih (i + 1) _ (by omega) lt (W.frame _ s' _ _ st' (Nat.le_succ _) fun b hb o e => ?_) next fun s'' mv2 at2 => ?_⟩
    · rw [but.2 b (fun z : b = S => off (by rw [← z]; exact hb))]
      exact e
    · refine fin s'' (Moved.trans W.gtrans ((mv.mono more).then_heap (Nat.le_succ _) fun b o hb e => ?_) mv2) at2
      rw [but.2 b (fun z : b = S => hb (by rw [z]; exact List.mem_cons_self))]
      exact e
end
section
variable {P : Program} {w : World} {A : Around} {E : Value → Shared → Prop} {s : Shared}
theorem call_set_txts {l : Addr} {items : Array Value} {xs : List Str} {Q : Value → Shared → Prop} (hh : A.handled = none) (hl : s.heap.IsList l items) (hi : PyProof.Rows.StrsAre items.toList xs) (few : xs.length < 64)
    (h : ∀ (h' : Heap) (tk : Nat), InTxt P w h' s.heap.objs.size xs xs.length → (∀ b o, s.heap.get? b = some o → h'.get? b = some o) → Q (.ref s.heap.objs.size) { s with heap := h', toks := tk }) :
    wpAny (model P w) A (call (.type "set") [.ref l]) Q E s := by
  obtain ⟨c, tl, hmro⟩ := PySem.F.called_set.mro
  have hmade := PySem.F.called_set.made
  have hsub := PySem.F.called_set.sub
  refine wpAny_call (codeAny_of_tree ?_)
  show wpAny _ _ (callAny (.type "set") _) _ _ _
  refine wpAny_pure ⟨Code.quiet_builtin _ (by decide +kernel), codeAny_builtin PySem.F.entry_type_call ?_⟩
  rw [Around.under_plain (weight_type_call_type "set" [.ref l] []) rfl]
  have h1 := PySem.F.called_set.notType
  have h2 := PySem.F.called_set.canCreate
  have hct := PySem.F.typeCall_set_1 (.ref l)
  repeat (any_goals (first | assumption | wp_step))
  refine codeAny_mono (code_set_led1 (.ref l) (E := E) (Q₁ := fun obj s₁ => obj = .ref s.heap.objs.size ∧ s₁ = { s with heap := s.heap.push { cls := .type "set", dict := none, data := .set #[] 0 (.fresh 0 0 (!w.params.followText "set-order")) } }) ⟨rfl, rfl⟩) fun r s₁ hr => ?_
  cases r with
  | error e => exact hr
  | ok fl =>
    cases fl with
    | ret obj =>
      obtain ⟨rfl, rfl⟩ := hr
      have hS : (s.heap.push { cls := .type "set", dict := none, data := .set #[] 0 (.fresh 0 0 (!w.params.followText "set-order")) }).get? s.heap.objs.size = some { cls := .type "set", dict := none, data := .set #[] 0 (.fresh 0 0 (!w.params.followText "set-order")) } := Heap.get?_push_size _ rfl
      have hT : Shared.TypeIs { s with heap := s.heap.push { cls := .type "set", dict := none, data := .set #[] 0 (.fresh 0 0 (!w.params.followText "set-order")) } } (.ref s.heap.objs.size) "set" := ⟨_, hS, rfl⟩
      have hli := PySem.F.called_set.init.lookup
      have hbi := PySem.F.called_set.init.bind (.ref s.heap.objs.size)
      repeat (any_goals (first | assumption | wp_step))
      refine codeAny_mono (codeAny_call_builtin (R := wants (fun r s₂ => r = .none ∧ ∃ h' tk, s₂ = { s with heap := h', toks := tk } ∧ InTxt P w h' s.heap.objs.size xs xs.length ∧ (∀ b o, s.heap.get? b = some o → h'.get? b = some o)) E) PySem.F.called_set.init.plain PySem.F.entry_set_init (check_set_init_1 hT ?_)) fun r₂ s₂ hr₂ => ?_
      · obtain ⟨ol, hol, hcl, nl, hdl⟩ := hl
        obtain ⟨ocls, odict, odata, oslots⟩ := ol
        simp only at hcl hdl
        subst hcl; subst hdl
        have hol' : (s.heap.push { cls := .type "set", dict := none, data := .set #[] 0 (.fresh 0 0 (!w.params.followText "set-order")) }).get? l = some { cls := .type "list", dict := odict, data := .seq items nl, slots := oslots } := Heap.get?_push_of_some _ hol
        have hsls := PySem.F.sub_list_set
        have hslf := PySem.F.sub_list_frozenset
        have hne : (Value.type "list" == Value.type "dict") = false := by decide
        have hl1 : (s.heap.push { cls := .type "set", dict := none, data := .set #[] 0 (.fresh 0 0 (!w.params.followText "set-order")) }).IsList l items := ⟨_, hol', rfl, nl, rfl⟩
        unfold Builtin.«set.__init__» noKeywords Builtin.Frozenset.updateFrom
        generalize hPI : pyIter = PI
        wp_walk
        subst hPI
        refine wpAny_pyIter_list hl1 ?_
        refine wpAny_bind (wpAny_runValue ?_)
        have lS : l < s.heap.objs.size := Heap.lt_size hol
        have calm3 : A.in1.in1.in1.handled = none := by simp [hh]
        have lI : l ≠ (s.heap.push { cls := .type "set", dict := none, data := .set #[] 0 (.fresh 0 0 (!w.params.followText "set-order")) }).objs.size := by
          rw [Heap.size_push]
          exact Nat.ne_of_lt (Nat.lt_succ_of_lt lS)
        have off : s.heap.objs.size ∉ [(s.heap.push { cls := .type "set", dict := none, data := .set #[] 0 (.fresh 0 0 (!w.params.followText "set-order")) }).objs.size, l] := by
          rw [Heap.size_push]
          simp only [List.mem_cons, List.mem_singleton, List.not_mem_nil, or_false, not_or]
          exact ⟨Nat.ne_of_lt (Nat.lt_succ_self _), Nat.ne_of_gt lS⟩
        have len : xs.length = items.size := by rw [← StrsAre.len_eq hi, Array.length_toList]
        have each : ∀ (i : Nat) (v : Value), items[i]? = some v → ∃ x t, xs[i]? = some x ∧ v = .str x t := fun i v hv => by
          have hv' : items.toList[i]? = some v := by rw [Array.getElem?_toList]; exact hv
          have hlt : i < xs.length := by rw [len]; exact (Array.getElem?_eq_some_iff.mp hv).1
          obtain ⟨t, ht⟩ := StrsAre.at hi (List.getElem?_eq_getElem hlt)
          rw [hv'] at ht
          exact ⟨_, t, List.getElem?_eq_getElem hlt, Option.some.inj ht⟩
        refine fill_txts ((Walks.list calm3 _ l lI items).toS) s.heap.objs.size off xs len few each (items.size - 0) 0 _ (by omega) (Nat.zero_le _) ⟨⟨_, Heap.get?_push_size _ rfl, rfl, rfl⟩, (hl1.push _)⟩ ?start ?fin
        case start =>
          have g0 := setS_fresh P (h := s.heap) w
          exact ⟨_, 0, g0.keep fun o e => Heap.get?_push_of_some _ e, Nat.le_refl _, fun k => ⟨(fun z => nomatch z), fun z => by simp at z⟩⟩
        case fin =>
          intro s' mv at_
          obtain ⟨h', g', d', tk', os'⟩ := s'
          have eg : g' = s.gens := mv.gens
          have ed : d' = s.drawn := mv.drawn
          have eo : os' = s.os := mv.os
          subst eg; subst ed; subst eo
          show wpAny _ _ _ _ _ _
          refine wpAny_pure ?_
          show wpAny _ _ (ret Value.none) _ _ _
          refine wpAny_pure ⟨rfl, h', tk', rfl, by rw [len]; exact at_, fun b o e => ?_⟩
          have b1 : b ≠ s.heap.objs.size := Nat.ne_of_lt (Heap.lt_size e)
          have b2 : b ≠ (s.heap.push { cls := .type "set", dict := none, data := .set #[] 0 (.fresh 0 0 (!w.params.followText "set-order")) }).objs.size := by
            rw [Heap.size_push]
            exact Nat.ne_of_lt (Nat.lt_succ_of_lt (Heap.lt_size e))
          exact mv.heap b o (by simp only [List.mem_cons, List.mem_singleton, List.not_mem_nil, or_false, not_or]; exact ⟨b1, b2⟩) (Heap.get?_push_of_some _ (Heap.get?_push_of_some _ e))
      · cases r₂ with
        | error e => exact hr₂
        | ok fl₂ =>
          cases fl₂ with
          | ret r =>
            obtain ⟨rfl, h', tk, rfl, at_, keeps⟩ := hr₂
            repeat (any_goals (first | assumption | wp_step))
            exact h _ _ at_ keeps
          | _ => exact hr₂.elim
    | _ => exact hr.elim
end
/-- set(xs), xs a list of texts -/
def rSetTxt (K : PySem.W.Frag) (P : Program) (w : World) : List V → Hp → VK → Prop := fun vs H Q => ∃ (l : Addr) (xs : List Str), vs = [V.ref l] ∧ SqL K H l (xs.map V.str) ∧ xs.length < 64 ∧
  ∀ (a : Addr) (M : Str → Bool) (m : Nat), H a = none → m ≤ xs.length → (∀ k, M k = true ↔ k ∈ xs) → Q (.ref a) (upd H a (SetSO P w a M m))
theorem cr_setTxt {X : Cx} (hc : X.calm = true) : CallR X (.type "set") (rSetTxt X.K X.prog X.w) := by
  intro pins s σ H vs us Q I r h
  obtain ⟨l, xs, rfl, hl, few, q⟩ := h
  rw [Vals.ref1 r]
  obtain ⟨its, rv, pl, hz⟩ := I.list hl
  have hn : H s.heap.objs.size = none := I.hok.fresh (Nat.le_refl _)
  refine call_set_txts (P := X.prog) (w := X.w) (I.ok.hd hc) pl.isList (by simpa using strsAre_of rv) few fun h' tk at_ k => ?_
  obtain ⟨M, m, g, lm, hM⟩ := at_
  rw [List.take_length] at hM
  exact ⟨.ref s.heap.objs.size, upd H s.heap.objs.size (SetSO X.prog X.w s.heap.objs.size M m), I.laid (t' := tk) k (Nat.le_refl _) (setSO_new g), rfl, q _ M m hn lm hM⟩
end PX
/-! repr of a text and by an own method; sorted texts are determined by what they are. -/
namespace PX
open PySem PySem.Spec PyProof.Rows L2
section
variable {X : Cx} {CX : CXT} {k : Nat} {C f : Addr} {fd : FuncData} {ps : List Str} {sp : Sp} {E : XK}
theorem call_reprS : CallR X (.builtin "repr") (fun xs H Q => ∃ z : Str, xs = [.str z] ∧ (reprText z).length ≤ sizeLine ∧ Q (.str (reprText z)) H) := by
  intro pins s σ H xs us Q I r h
  obtain ⟨z, rfl, hz, q⟩ := h
  obtain ⟨u, rfl, t, rfl⟩ := vals1 r
  exact PySem.P.repr_of_str ⟨.str _, H, I.tok _, ⟨_, rfl⟩, q⟩ hz
/-- repr(x) by the class's own method -/
theorem call_reprC (M : OwnM X.K C "__repr__" f) (F : FnOk X.prog X.w X.K X.mg X.base CX k f fd ps sp) (hr : Room (k + 1) X.A) (hb : Binds X.K fd ps []) (hx : Passes CX X.nox E) :
    CallR X (.builtin "repr") (fun xs H Q => ∃ (a dx : Addr) (fs : List (Str × V)), xs = [.ref a] ∧ H a = some (.ins C dx fs) ∧ sp [.ref a] H (fun v H' => ∃ z : Str, v = .str z ∧ Q (.str z) H') E) := by
  intro pins s σ H xs us Q I r h
  obtain ⟨a, dx, fs, rfl, ea, q⟩ := h
  obtain ⟨u0, rfl, rx⟩ := vals1 r
  cases rx
  obtain ⟨mA, O, _⟩ := ins_get I.hok ea
  obtain ⟨od, J, _⟩ := O.look
  obtain ⟨m, hF⟩ := I.fr
  refine PySem.W.repr_K hr.in1.units0 hF I.ok.mod.kin J M.at_ M.fn ?_
  refine wpAny_mono (own_run (vs := [.ref a]) hr.in1 I.env0.in1 F hb hx I (.cons rfl .nil) q) (fun u s' z => ?_) fun _ _ z => z
  obtain ⟨v, H', I', rv, y, ev, q'⟩ := z
  subst ev
  obtain ⟨t, rfl⟩ := rv
  exact ⟨.str y, H', I', ⟨t, rfl⟩, q'⟩
end
/-! ### the order of texts -/
abbrev leS (a b : Str) : Prop := a.cps.toList ≤ b.cps.toList
theorem leS_of {a b : Str} (h : ltCps b.cps.toList a.cps.toList = false) : leS a b := by
  rw [ltCps_eq, decide_eq_false_iff_not] at h
  exact List.not_lt.mp h
theorem rising_pw : ∀ (l : List Str) (p : Str), risingS p l = true → (p :: l).Pairwise leS
  | [], p, _ => List.pairwise_singleton _ _
  | x :: r, p, h => by
    have h : (!ltCps x.cps.toList p.cps.toList && risingS x r) = true := h
    rw [Bool.and_eq_true, Bool.not_eq_true'] at h
    have ih := rising_pw r x h.2
    refine List.pairwise_cons.mpr ⟨fun y hy => ?_, ih⟩
    have px := leS_of h.1
    rcases List.mem_cons.mp hy with e | z
    · rw [e]
      exact px
    · exact List.le_trans px ((List.pairwise_cons.mp ih).1 y z)
theorem sorted_pw {l : List Str} (h : sortedS l = true) : l.Pairwise leS := by
  cases l with
  | nil => exact .nil
  | cons x r => exact rising_pw r x h
theorem str_ext {a b : Str} (h : a.cps.toList = b.cps.toList) : a = b := by
  obtain ⟨x⟩ := a
  obtain ⟨y⟩ := b
  exact congrArg Str.mk (Array.toList_inj.mp h)
theorem sorted_uniq {xs ys : List Str} (h1 : sortedS xs = true) (h2 : sortedS ys = true) (n1 : xs.Nodup) (n2 : ys.Nodup) (m : ∀ x, x ∈ xs ↔ x ∈ ys) : xs = ys := by
  have p : xs.Perm ys := (List.perm_ext_iff_of_nodup n1 n2).mpr m
  exact List.Perm.eq_of_pairwise (le := leS) (fun a b _ _ q1 q2 => str_ext (List.le_antisymm q1 q2)) (sorted_pw h1) (sorted_pw h2) p
theorem NamesOk.uniq {a b l : List Str} (h1 : NamesOk a l) (h2 : NamesOk b l) : a = b := sorted_uniq h1.srt h2.srt h1.nd h2.nd fun x => (h1.mem x).trans (h2.mem x).symm
/-! ### repr of words and of tuples of words -/
def wordB (x : Str) : Bool := decide (x.length ≤ 20) && signsD (.str x)
theorem word_repr {x : Str} (h : wordB x = true) : (reprText x).length ≤ sizeLine := by
  unfold wordB at h
  rw [Bool.and_eq_true, decide_eq_true_eq] at h
  have := shown_le (.str x) rfl h.2
  have e : (PyData.str x).shown = reprText x := rfl
  rw [e] at this
  have c : costD (.str x) = 10 * x.length + 2 := rfl
  rw [sizeLine_eq]
  omega
theorem words_facts {K : PySem.W.Frag} {a : Addr} {ns : List Str} {H : Hp} (hq : SqT K H a (ns.map V.str)) (hw : ∀ x ∈ ns, wordB x = true) (few : ns.length ≤ 1000) :
    Dp K H (.ref a) (.tuple (ns.map .str)) ∧ (PyData.tuple (ns.map .str)).showable = true ∧ (PyData.tuple (ns.map .str)).hasDict = false ∧ (PyData.tuple (ns.map .str)).depth ≤ 60 ∧ (PyData.tuple (ns.map .str)).shown.length ≤ sizeLine := by
  have all : ∀ l : List Str, DpAll K H (l.map V.str) (l.map PyData.str) := by
    intro l
    induction l with
    | nil => exact .nil
    | cons x r ih => exact .cons (.str x) ih
  have cost : costL (ns.map PyData.str) ≤ ns.length * (202 + 2) := cost_map PyData.str 202 ns fun x hx => by
    have := hw x hx
    unfold wordB at this
    rw [Bool.and_eq_true, decide_eq_true_eq] at this
    show 10 * x.length + 2 ≤ 202
    omega
  have h1 : (PyData.tuple (ns.map .str)).showable = true := by
    show PyData.showableAll _ = true
    exact showable_map _ ns fun x hx => rfl
  have h2 : signsD (PyData.tuple (ns.map .str)) = true := by
    show signsL _ = true
    exact signs_map _ ns fun x hx => by
      have := hw x hx
      unfold wordB at this
      rw [Bool.and_eq_true] at this
      exact this.2
  refine ⟨.tup hq (all ns), h1, ?_, ?_, ?_⟩
  · show PyData.hasDictAll _ = false
    exact nodict_map _ ns fun x _ => rfl
  · have := depth_map PyData.str 0 ns fun x _ => Nat.le_refl _
    show PyData.depthAll _ + 1 ≤ 60
    omega
  · have s := shown_le _ h1 h2
    have c : costD (PyData.tuple (ns.map .str)) = costL (ns.map PyData.str) + 3 := rfl
    have : ns.length * (202 + 2) ≤ 1000 * (202 + 2) := Nat.mul_le_mul_right _ few
    rw [sizeLine_eq]
    omega
/-! ### zip of two tuples -/
theorem walk_zipT {K : PySem.W.Frag} {a b : Addr} {xs ys : List V} (hl : xs.length = ys.length) : Walk (RZ.ItzT K a b) xs.length (fun H => SqT K H a xs ∧ SqT K H b ys) (YPair (fun i => xs[i]?) (fun i => ys[i]?)) := by
  refine ⟨fun i _ hi q => ⟨xs, ys, xs[i], ys[i]'(hl ▸ hi), q.1, q.2, by simp [hi], by simp [← hl, hi]⟩, fun _ q => ⟨xs, ys, q.1, q.2, .inl (Nat.le_refl _)⟩, fun i H v H' _ q y => ?_⟩
  obtain ⟨T, x, y, h1, h2, h3, h4, h5⟩ := y
  exact ⟨T, x, y, h1, h2, h3, h4 xs q.1, h5 ys q.2⟩
end PX
namespace PX
open PySem PySem.Spec PyProof.Rows L2
/-! ### rules in the place of names -/
mutual
def substR (ρ : Str → Option RT) : RT → RT
  | .base n => (ρ n).getD (.base n)
  | .op w ps => .op w (substRs ρ ps)
def substRs (ρ : Str → Option RT) : List RT → List RT
  | [] => []
  | p :: r => substR ρ p :: substRs ρ r
end
variable {ρ : Str → Option RT}
theorem substRs_len : ∀ ps : List RT, (substRs ρ ps).length = ps.length
  | [] => rfl
  | p :: r => congrArg (· + 1) (substRs_len r)
theorem substRs_map : ∀ ps : List RT, substRs ρ ps = ps.map (substR ρ)
  | [] => rfl
  | p :: r => congrArg (substR ρ p :: ·) (substRs_map r)
/-- the tables with the results of the rules under their names -/
def besideT (ρ : Str → Option RT) (tb : Str → Tab) (n : Str) : Tab := ((ρ n).map (evalT tb)).getD (tb n)
mutual
theorem eval_subst (tb : Str → Tab) : ∀ r : RT, evalT tb (substR ρ r) = evalT (besideT ρ tb) r
  | .base n => by
    show evalT tb ((ρ n).getD (.base n)) = besideT ρ tb n
    unfold besideT
    cases ρ n with
    | none => rfl
    | some q => rfl
  | .op w ps => by
    show combT w (evalTs tb (substRs ρ ps)) = combT w (evalTs (besideT ρ tb) ps)
    rw [eval_substs tb ps]
theorem eval_substs (tb : Str → Tab) : ∀ ps : List RT, evalTs tb (substRs ρ ps) = evalTs (besideT ρ tb) ps
  | [] => rfl
  | p :: r => by
    show evalT tb (substR ρ p) :: evalTs tb (substRs ρ r) = evalT (besideT ρ tb) p :: evalTs (besideT ρ tb) r
    rw [eval_subst tb p, eval_substs tb r]
end
/-! ### the stack of replaced -/
def pushS (ρ : Str → Option RT) (stk : List RT) : RT → List RT
  | .base n => stk ++ [(ρ n).getD (.base n)]
  | .op w ps => stk.take (stk.length - ps.length) ++ [.op w (stk.drop (stk.length - ps.length))]
theorem push_on (w : Str) (ps : List RT) (st ts : List RT) (h : ts.length = ps.length) : pushS ρ (st ++ ts) (.op w ps) = st ++ [.op w ts] := by
  have e : (st ++ ts).length - ps.length = st.length := by rw [List.length_append]; omega
  show (st ++ ts).take ((st ++ ts).length - ps.length) ++ [RT.op w ((st ++ ts).drop ((st ++ ts).length - ps.length))] = _
  rw [e, List.take_left, List.drop_left]
mutual
theorem push_subs : ∀ (r : RT) (stk : List RT), r.subs.foldl (pushS ρ) stk = stk ++ [substR ρ r]
  | .base n, stk => rfl
  | .op w ps, stk => by
    rw [RT.subs_kids, List.foldl_append]
    show pushS ρ ((subsL ps).foldl (pushS ρ) stk) (.op w ps) = _
    rw [push_subsL ps stk, push_on _ _ _ _ (substRs_len ps)]
    rfl
theorem push_subsL : ∀ (ps : List RT) (stk : List RT), (subsL ps).foldl (pushS ρ) stk = stk ++ substRs ρ ps
  | [], stk => (List.append_nil stk).symm
  | p :: r, stk => by
    show (p.subs ++ subsL r).foldl (pushS ρ) stk = _
    rw [List.foldl_append, push_subs p stk, push_subsL r, List.append_assoc]
    rfl
end
mutual
theorem at_push : ∀ (r : RT) (pre : List RT) (x : RT) (post : List RT) (stk : List RT), r.subs = pre ++ x :: post → ∃ st, pre.foldl (pushS ρ) stk = st ++ substRs ρ x.kids
  | .base n, pre, x, post, stk, h => by
    match pre, (show [RT.base n] = pre ++ x :: post from h) with
    | [], h =>
      cases h
      exact ⟨stk, (List.append_nil stk).symm⟩
    | a :: q, h =>
      have := congrArg List.length h
      simp at this
  | .op w ps, pre, x, post, stk, h => by
    rw [RT.subs_kids] at h
    rcases List.append_eq_append_iff.mp (show subsL ps ++ [RT.op w ps] = pre ++ x :: post from h) with ⟨q, e1, e2⟩ | ⟨q, e1, e2⟩
    · match q, e1, e2 with
      | [], e1, e2 =>
        rw [List.append_nil] at e1
        obtain rfl : RT.op w ps = x := (List.cons.inj e2).1
        exact ⟨stk, e1 ▸ push_subsL ps stk⟩
      | a :: q, e1, e2 =>
        have := congrArg List.length e2
        simp at this
    · match q, e1, e2 with
      | [], e1, e2 =>
        rw [List.append_nil] at e1
        obtain rfl : x = RT.op w ps := (List.cons.inj e2).1
        exact ⟨stk, e1 ▸ push_subsL ps stk⟩
      | a :: q, e1, e2 =>
        obtain rfl : x = a := (List.cons.inj e2).1
        exact at_pushL ps pre x q stk e1
theorem at_pushL : ∀ (ps : List RT) (pre : List RT) (x : RT) (post : List RT) (stk : List RT), subsL ps = pre ++ x :: post → ∃ st, pre.foldl (pushS ρ) stk = st ++ substRs ρ x.kids
  | [], pre, x, post, stk, h => by
    have := congrArg List.length h
    simp [subsL] at this
  | p :: r, pre, x, post, stk, h => by
    rcases List.append_eq_append_iff.mp (show p.subs ++ subsL r = pre ++ x :: post from h) with ⟨q, e1, e2⟩ | ⟨q, e1, e2⟩
    · rw [e1, List.foldl_append]
      exact at_pushL r q x post _ e2
    · match q, e1, e2 with
      | [], e1, e2 =>
        rw [List.append_nil] at e1
        obtain ⟨st, e⟩ := at_pushL r [] x post (pre.foldl (pushS ρ) stk) e2.symm
        exact ⟨st, e⟩
      | a :: q, e1, e2 =>
        obtain rfl : x = a := (List.cons.inj e2).1
        exact at_push p pre x q stk e1
end
/-! ### sizes -/
/-- the rules that come in are small -/
structure SmallR (ns : List Str) (K Z : Nat) (ρ : Str → Option RT) : Prop where
  k1 : 1 ≤ K
  z1 : 1 ≤ Z
  nodes : ∀ n q, ρ n = some q → q.subs.length ≤ K
  wt : ∀ n q, ρ n = some q → q.wt ≤ Z
  bs : ∀ n q, ρ n = some q → ∀ x ∈ q.bases, x ∈ ns
  base : ∀ n q, ρ n = some q → ∀ x, RT.base x ∈ q.subs → x ∈ ns
  fits : ∀ n q, ρ n = some q → ∀ w ps, RT.op w ps ∈ q.subs → fitsW w ps.length
mutual
theorem subst_nodes {ns : List Str} {K Z : Nat} (S : SmallR ns K Z ρ) : ∀ r : RT, (substR ρ r).subs.length ≤ r.subs.length * K
  | .base n => by
    show ((ρ n).getD (.base n)).subs.length ≤ 1 * K
    have k1 := S.k1
    cases e : ρ n with
    | none =>
      show 1 ≤ 1 * K
      omega
    | some q =>
      have := S.nodes n q e
      show q.subs.length ≤ 1 * K
      omega
  | .op w ps => by
    have h := subst_nodesL S ps
    have k1 := S.k1
    show (subsL (substRs ρ ps) ++ [RT.op w (substRs ρ ps)]).length ≤ (subsL ps ++ [RT.op w ps]).length * K
    rw [List.length_append, List.length_append, List.length_singleton, List.length_singleton, Nat.add_mul]
    omega
theorem subst_nodesL {ns : List Str} {K Z : Nat} (S : SmallR ns K Z ρ) : ∀ ps : List RT, (subsL (substRs ρ ps)).length ≤ (subsL ps).length * K
  | [] => Nat.zero_le _
  | p :: r => by
    have h1 := subst_nodes S p
    have h2 := subst_nodesL S r
    show ((substR ρ p).subs ++ subsL (substRs ρ r)).length ≤ (p.subs ++ subsL r).length * K
    rw [List.length_append, List.length_append, Nat.add_mul]
    omega
end
mutual
theorem subst_wt {ns : List Str} {K Z : Nat} (S : SmallR ns K Z ρ) : ∀ r : RT, (substR ρ r).wt ≤ r.wt * Z
  | .base n => by
    show ((ρ n).getD (.base n)).wt ≤ (n.length + 1) * Z
    have z1 := S.z1
    have h : 1 * Z ≤ (n.length + 1) * Z := Nat.mul_le_mul_right Z (by omega)
    cases e : ρ n with
    | none =>
      show n.length + 1 ≤ (n.length + 1) * Z
      exact Nat.le_mul_of_pos_right _ z1
    | some q =>
      have := S.wt n q e
      show q.wt ≤ _
      omega
  | .op w ps => by
    have h := subst_wtL S ps
    have z1 := S.z1
    have h2 : w.length + 3 ≤ (w.length + 3) * Z := Nat.le_mul_of_pos_right _ z1
    show w.length + 3 + wts (substRs ρ ps) ≤ (w.length + 3 + wts ps) * Z
    rw [Nat.add_mul]
    omega
theorem subst_wtL {ns : List Str} {K Z : Nat} (S : SmallR ns K Z ρ) : ∀ ps : List RT, wts (substRs ρ ps) ≤ wts ps * Z
  | [] => Nat.zero_le _
  | p :: r => by
    have h1 := subst_wt S p
    have h2 := subst_wtL S r
    have z1 := S.z1
    show (substR ρ p).wt + 2 + wts (substRs ρ r) ≤ (p.wt + 2 + wts r) * Z
    rw [Nat.add_mul, Nat.add_mul]
    omega
end
mutual
theorem subst_bases {ns : List Str} {K Z : Nat} (S : SmallR ns K Z ρ) : ∀ r : RT, (∀ x ∈ r.bases, x ∈ ns) → ∀ x ∈ (substR ρ r).bases, x ∈ ns
  | .base n, h, x, hx => by
    have hx : x ∈ ((ρ n).getD (.base n)).bases := hx
    cases e : ρ n with
    | none =>
      rw [e] at hx
      exact h x hx
    | some q =>
      rw [e] at hx
      exact S.bs n q e x hx
  | .op w ps, h, x, hx => subst_basesL S ps h x hx
theorem subst_basesL {ns : List Str} {K Z : Nat} (S : SmallR ns K Z ρ) : ∀ ps : List RT, (∀ x ∈ basesL ps, x ∈ ns) → ∀ x ∈ basesL (substRs ρ ps), x ∈ ns
  | [], _, x, hx => nomatch hx
  | p :: r, h, x, hx => by
    rcases List.mem_append.mp (show x ∈ (substR ρ p).bases ++ basesL (substRs ρ r) from hx) with z | z
    · exact subst_bases S p (fun y hy => h y (List.mem_append_left _ hy)) x z
    · exact subst_basesL S r (fun y hy => h y (List.mem_append_right _ hy)) x z
end
mutual
theorem subst_mem : ∀ (r : RT) (x : RT), x ∈ (substR ρ r).subs → (∃ n q, ρ n = some q ∧ x ∈ q.subs) ∨ (∃ n, x = .base n ∧ RT.base n ∈ r.subs) ∨ ∃ w ps, x = .op w (substRs ρ ps) ∧ RT.op w ps ∈ r.subs
  | .base n, x, hx => by
    have hx : x ∈ ((ρ n).getD (.base n)).subs := hx
    cases e : ρ n with
    | none =>
      rw [e] at hx
      exact .inr (.inl ⟨n, List.mem_singleton.mp hx, List.mem_cons_self⟩)
    | some q =>
      rw [e] at hx
      exact .inl ⟨n, q, e, hx⟩
  | .op w ps, x, hx => by
    rcases List.mem_append.mp (show x ∈ subsL (substRs ρ ps) ++ [RT.op w (substRs ρ ps)] from hx) with z | z
    · rcases subst_memL ps x z with h | ⟨n, h1, h2⟩ | ⟨v, qs, h1, h2⟩
      · exact .inl h
      · exact .inr (.inl ⟨n, h1, List.mem_append_left _ h2⟩)
      · exact .inr (.inr ⟨v, qs, h1, List.mem_append_left _ h2⟩)
    · exact .inr (.inr ⟨w, ps, List.mem_singleton.mp z, List.mem_append_right _ List.mem_cons_self⟩)
theorem subst_memL : ∀ (ps : List RT) (x : RT), x ∈ subsL (substRs ρ ps) → (∃ n q, ρ n = some q ∧ x ∈ q.subs) ∨ (∃ n, x = .base n ∧ RT.base n ∈ subsL ps) ∨ ∃ w qs, x = .op w (substRs ρ qs) ∧ RT.op w qs ∈ subsL ps
  | [], x, hx => nomatch hx
  | p :: r, x, hx => by
    rcases List.mem_append.mp (show x ∈ (substR ρ p).subs ++ subsL (substRs ρ r) from hx) with z | z
    · rcases subst_mem p x z with h | ⟨n, h1, h2⟩ | ⟨v, qs, h1, h2⟩
      · exact .inl h
      · exact .inr (.inl ⟨n, h1, List.mem_append_left _ h2⟩)
      · exact .inr (.inr ⟨v, qs, h1, List.mem_append_left _ h2⟩)
    · rcases subst_memL r x z with h | ⟨n, h1, h2⟩ | ⟨v, qs, h1, h2⟩
      · exact .inl h
      · exact .inr (.inl ⟨n, h1, List.mem_append_right _ h2⟩)
      · exact .inr (.inr ⟨v, qs, h1, List.mem_append_right _ h2⟩)
end
theorem leafs_le (tb : Str → Tab) (m : Nat) (h : ∀ n, (tb n).length ≤ m) : ∀ l : List RT, leafs tb l ≤ l.length * m
  | [] => Nat.zero_le _
  | .base n :: r => by
    have := leafs_le tb m h r
    have := h n
    simp only [leafs, List.length_cons, Nat.succ_mul]
    omega
  | .op _ _ :: r => by
    have := leafs_le tb m h r
    simp only [leafs, List.length_cons, Nat.succ_mul]
    omega
theorem Fit.subst {ns : List Str} {K Z k l z : Nat} {r : RT} (S : SmallR ns K Z ρ) (f : Fit ns k l z r) : Fit ns (k * K) (k * K) (z * Z) (substR ρ r) := by
  have hn : (substR ρ r).subs.length ≤ k * K := Nat.le_trans (subst_nodes S r) (Nat.mul_le_mul_right K f.fine.cnt)
  refine ⟨⟨hn, fun n hx => ?_, fun w ps hx => ?_, fun tb m hm => Nat.le_trans (leafs_le tb m hm _) (Nat.mul_le_mul_right m hn)⟩, Nat.le_trans (subst_wt S r) (Nat.mul_le_mul_right Z f.wt), subst_bases S r f.bs⟩
  · rcases subst_mem r _ hx with ⟨y, q, h1, h2⟩ | ⟨y, h1, h2⟩ | ⟨v, qs, h1, h2⟩
    · exact S.base y q h1 n h2
    · cases h1
      exact f.fine.base n h2
    · cases h1
  · rcases subst_mem r _ hx with ⟨y, q, h1, h2⟩ | ⟨y, h1, h2⟩ | ⟨v, qs, h1, h2⟩
    · exact S.fits y q h1 w ps h2
    · cases h1
    · cases h1
      rw [substRs_len]
      exact f.fine.fits w qs h2
mutual
theorem subs_wt : ∀ (r x : RT), x ∈ r.subs → x.wt ≤ r.wt
  | .base n, x, h => by
    rw [List.mem_singleton.mp (show x ∈ [RT.base n] from h)]
    exact Nat.le_refl _
  | .op w ps, x, h => by
    rcases List.mem_append.mp (show x ∈ subsL ps ++ [RT.op w ps] from h) with z | z
    · have := subsL_wt ps x z
      show x.wt ≤ w.length + 3 + wts ps
      omega
    · rw [List.mem_singleton.mp z]
      exact Nat.le_refl _
theorem subsL_wt : ∀ (ps : List RT) (x : RT), x ∈ subsL ps → x.wt ≤ wts ps
  | [], x, h => nomatch h
  | p :: r, x, h => by
    rcases List.mem_append.mp (show x ∈ p.subs ++ subsL r from h) with z | z
    · have := subs_wt p x z
      show x.wt ≤ p.wt + 2 + wts r
      omega
    · have := subsL_wt r x z
      show x.wt ≤ p.wt + 2 + wts r
      omega
end
mutual
theorem subs_bases : ∀ (r x : RT), x ∈ r.subs → ∀ y ∈ x.bases, y ∈ r.bases
  | .base n, x, h, y, hy => by
    rw [List.mem_singleton.mp (show x ∈ [RT.base n] from h)] at hy
    exact hy
  | .op w ps, x, h, y, hy => by
    rcases List.mem_append.mp (show x ∈ subsL ps ++ [RT.op w ps] from h) with z | z
    · exact subsL_bases ps x z y hy
    · rw [List.mem_singleton.mp z] at hy
      exact hy
theorem subsL_bases : ∀ (ps : List RT) (x : RT), x ∈ subsL ps → ∀ y ∈ x.bases, y ∈ basesL ps
  | [], x, h, _, _ => nomatch h
  | p :: r, x, h, y, hy => by
    rcases List.mem_append.mp (show x ∈ p.subs ++ subsL r from h) with z | z
    · exact List.mem_append_left _ (subs_bases p x z y hy)
    · exact List.mem_append_right _ (subsL_bases r x z y hy)
end
mutual
theorem flat_subs : ∀ r : RT, r.flat.length = r.subs.length
  | .base n => rfl
  | .op w ps => by
    have h := flats_subs ps
    show (w :: flats ps).length = (subsL ps ++ [RT.op w ps]).length
    rw [List.length_cons, List.length_append, h]
    rfl
theorem flats_subs : ∀ ps : List RT, (flats ps).length = (subsL ps).length
  | [] => rfl
  | p :: r => by
    show (p.flat ++ flats r).length = (p.subs ++ subsL r).length
    rw [List.length_append, List.length_append, flat_subs p, flats_subs r]
end
mutual
/-- what a rule weighs, by its nodes -/
theorem wt_nodes {ns : List Str} (hn : ∀ n ∈ ns, n.length ≤ 6) : ∀ r : RT, (∀ x ∈ r.bases, x ∈ ns) → (∀ w ps, RT.op w ps ∈ r.subs → w.length ≤ 7) → r.wt + 2 ≤ r.subs.length * 14
  | .base n, h, _ => by
    have := hn n (h n List.mem_cons_self)
    show n.length + 1 + 2 ≤ 1 * 14
    omega
  | .op w ps, h, hw => by
    have h1 := wt_nodesL hn ps h fun v qs hq => hw v qs (List.mem_append_left _ hq)
    have h2 := hw w ps (List.mem_append_right _ List.mem_cons_self)
    show w.length + 3 + wts ps + 2 ≤ (subsL ps ++ [RT.op w ps]).length * 14
    rw [List.length_append, List.length_singleton, Nat.add_mul]
    omega
theorem wt_nodesL {ns : List Str} (hn : ∀ n ∈ ns, n.length ≤ 6) : ∀ ps : List RT, (∀ x ∈ basesL ps, x ∈ ns) → (∀ w qs, RT.op w qs ∈ subsL ps → w.length ≤ 7) → wts ps ≤ (subsL ps).length * 14
  | [], _, _ => Nat.zero_le _
  | p :: r, h, hw => by
    have h1 := wt_nodes hn p (fun x hx => h x (List.mem_append_left _ hx)) fun v qs hq => hw v qs (List.mem_append_left _ hq)
    have h2 := wt_nodesL hn r (fun x hx => h x (List.mem_append_right _ hx)) fun v qs hq => hw v qs (List.mem_append_right _ hq)
    show p.wt + 2 + wts r ≤ (p.subs ++ subsL r).length * 14
    rw [List.length_append, Nat.add_mul]
    omega
end
end PX
/-! Own exception classes over any built-in one, whose __init__ calls the built-in's and sets fields: made, to be raised. -/
namespace PX
open PySem PySem.Spec PyProof.Rows L2
/-- what is known of the built-in class above -/
structure BaseX (B newId initId : String) (bmB : List Value) : Prop where
  ini : ∀ {prog : Program} {w : World} {A : Around} {R : Result → Shared → Prop} {h : Heap} {g : Array GenState} {d : Drawn} {t : Nat} {os : OsState} {nm q : Str} {C N : Addr} {bs bm : List Value} {hdct : Bool} {sn : List Str} {sub : List Value} {ab : Bool} {col : Option Bool} {dd : Option Addr} {k0 k1 k2 k3 k5 : Option Value}
    (_ : ∀ X : String, bm.contains (.type X) = bmB.contains (.type X)) {e t0 : Addr} {rest : List Value} (_ : h.get? C = some (excClassObj nm q C N bs bm hdct sn sub ab col dd k0 k1 k2 k3 k5 newId)) (_ : h.get? e = some (PySem.HandSPX.excO C t0)) (_ : rest.length ≤ sizeLine)
    (_ : ∀ h' t1, (∀ b o, b ≠ e → h.get? b = some o → h'.get? b = some o) → h'.get? e = some (PySem.HandSPX.excO C t1) → R (.ok (.ret .none)) ⟨h', g, d, t, os⟩), codeAny (model prog w) A (.call (.builtin initId) ⟨.ref e :: rest, []⟩) R ⟨h, g, d, t, os⟩
  own : ∀ {prog : Program} {w : World} {A : Around} {R : Result → Shared → Prop} {h : Heap} {g : Array GenState} {d : Drawn} {t : Nat} {os : OsState} {nm q : Str} {C N : Addr} {bs bm : List Value} {hdct : Bool} {sn : List Str} {sub : List Value} {ab : Bool} {col : Option Bool} {dd : Option Addr} {k0 k1 k2 k3 k5 : Option Value}
    (_ : ∀ X : String, bm.contains (.type X) = bmB.contains (.type X)) {rest : List Value} {fI : Addr} (_ : h.get? C = some (excClassObj nm q C N bs bm hdct sn sub ab col dd k0 k1 k2 k3 k5 newId))
    (_ : PySem.W.Looks (model prog w) h (typeLookup (.ref C) "__init__") (some (.ref fI))) (_ : ∀ self, PySem.W.Looks (model prog w) h (bindSpecial (.ref fI) self) (.ref fI, [self])) (_ : rest.length ≤ sizeLine)
    (_ : codeAny (model prog w) (A.under (.builtin "type.__call__" ⟨.ref C :: rest, []⟩)) (.call (.ref fI) ⟨.ref (h.objs.size + 1) :: rest, []⟩) (PySem.W.InitBack (h.objs.size + 1) R) ⟨(h.push (PySem.W.kdv_tup rest)).push (PySem.HandSPX.excO C h.objs.size), g, d, t, os⟩),
    codeAny (model prog w) A (.call (.ref C) ⟨rest, []⟩) R ⟨h, g, d, t, os⟩
  store : StoreFacts B bmB "object.__setattr__" "object"
  typ : typeOf (.type B) = pure (.type "type")
  stub : Manifest.isStub B = false
theorem BaseX.of {B newId initId : String} {bmB : List Value} (F : ExcBaseFacts B newId initId bmB) (S : StoreFacts B bmB "object.__setattr__" "object") (T : typeOf (.type B) = pure (.type "type")) (st : Manifest.isStub B = false) : BaseX B newId initId bmB :=
  ⟨by intros _ _ _ _ _ _ _ _ _ _ _ _ _ _ _ _ _ _ _ _ _ _ _ _ _ _ hT _ _ _ hC he hr hq; exact PySem.HandSPX.init_base F hT hC he hr hq, by intros _ _ _ _ _ _ _ _ _ _ _ _ _ _ _ _ _ _ _ _ _ _ _ _ _ _ hT _ _ hC hi hb hr hq; exact PySem.HandSPX.call_own F hT hC hi hb hr hq, S, T, st⟩
/-- what the written part says of the class -/
structure OwnX (K : PySem.W.Frag) (C : Addr) (B newId : String) (bmB : List Value) : Prop where
  ini : PySem.W.excInitIn K C bmB newId = true
  over : PySem.W.excOver K C bmB = true
  hasD : PySem.W.hasDictIn K C = true
  sa : PySem.W.findIn K (.ref C) "__setattr__" = some (some (.builtin "object.__setattr__"))
  exC : PySem.W.subIn K (.ref C) (.type "BaseException") = some true
  tyC : PySem.W.typeIn K (.ref C) = some (.type "type")
  kC : PySem.W.keepIn K (.ref C) = true
section
open Builtin Builtin.ObjectAttr
variable {prog : Program} {w : World} {A : Around} {E : Value → Shared → Prop} {R : Result → Shared → Prop} {hp : Heap} {g : Array GenState} {d : Drawn} {t : Nat} {os : OsState} {K : PySem.W.Frag} {x C : Addr} {B : String} {bmB : List Value}
theorem cls_hasD (h : PySem.W.hasDictIn K C = true) : ∃ cd, PySem.W.clsIn K C = some cd ∧ cd.hasDict = true := PySem.W.any_some h
theorem set_first {name : Str} {tk : Tok} {v : Value} {fv : Array Value} (SF : StoreFacts B bmB "object.__setattr__" "object") (X : K.In hp) (hx : hp.get? x = some { cls := .ref C, data := .fields fv }) (ho : PySem.W.excOver K C bmB = true) (hd : PySem.W.hasDictIn K C = true) (ht : PySem.W.takerIn K C name = some none)
    (hq : ∀ h' tk' dx, (∀ b o, b ≠ x → hp.get? b = some o → h'.get? b = some o) → hp.objs.size ≤ dx → dx ≠ x → h'.get? x = some { cls := .ref C, dict := some dx, data := .fields fv } → h'.Ns1 dx (fun y => if y = name then some v else none) → R (.ok (.ret .none)) ⟨h', g, d, tk', os⟩) :
    codeAny (model prog w) A (.call (.builtin "object.__setattr__") ⟨[.ref x, .str name tk, v], []⟩) R ⟨hp, g, d, t, os⟩ := by
  have xs : x ≠ hp.objs.size := Nat.ne_of_lt (Heap.lt_size hx)
  obtain ⟨cd, hc, has⟩ := cls_hasD hd
  have look : PySem.W.Looks (model prog w) hp (classData C) cd := PySem.W.looks_clsIn X hc
  refine PySem.W.osa_openX (s := ⟨hp, g, d, t, os⟩) (od := none) SF X ⟨hx, rfl, rfl, trivial⟩ ho ht fun b => ?_
  show wpAny _ _ (storeInOwnDict (.ref x) (.ref C) (.str name tk) name v b) _ _ _
  obtain ⟨nm, bs, mro, ns, qn, hasDict, sn, sb, ab, col, del⟩ := cd
  dsimp only at has
  subst has
  unfold storeInOwnDict ownDictForStores
  repeat (first | with_reducible refine PySem.HandSPX.store_in_new ?_ ?_ | with_reducible refine wpAny_loadPart_at hx ?_ | with_reducible refine look.at ?_ | wp_step)
  · exact ⟨_, #[], _, (Heap.get?_update_ne _ _ _ _ xs.symm).trans (Heap.get?_push_at rfl rfl), rfl, fun e he => absurd he (by simp), fun _ => rfl⟩
  · intro h' tk' hn same
    have hx1 : (hp.push { cls := .type "dict", data := .dict #[] }).get? x = some { cls := .ref C, data := .fields fv } := Heap.get?_push_of_some _ hx
    refine hq h' tk' hp.objs.size (fun b o nb e => ?_) (Nat.le_refl _) xs.symm ?_ hn
    · exact (same.2 b (Nat.ne_of_lt (Heap.lt_size e))).trans ((Heap.get?_update_ne _ _ _ _ nb).trans (Heap.get?_push_of_some _ e))
    · exact (same.2 x xs).trans (Heap.get?_update_self _ hx1 rfl)
theorem set_next {dx : Addr} {name : Str} {tk : Tok} {v : Value} {fv : Array Value} {m0 : Str → Option Value} {nl : List Str} (SF : StoreFacts B bmB "object.__setattr__" "object") (X : K.In hp) (hx : hp.get? x = some { cls := .ref C, dict := some dx, data := .fields fv }) (hns : hp.Ns1 dx m0) (hw : Within m0 nl) (hz : nl.length ≤ 1000)
    (ho : PySem.W.excOver K C bmB = true) (hd : PySem.W.hasDictIn K C = true) (ht : PySem.W.takerIn K C name = some none)
    (hq : ∀ h' tk', (∀ b o, b ≠ dx → hp.get? b = some o → h'.get? b = some o) → h'.Ns1 dx (fun y => if y = name then some v else m0 y) → R (.ok (.ret .none)) ⟨h', g, d, tk', os⟩) :
    codeAny (model prog w) A (.call (.builtin "object.__setattr__") ⟨[.ref x, .str name tk, v], []⟩) R ⟨hp, g, d, t, os⟩ := by
  obtain ⟨oD, esD, epD, hoD, hdD, _⟩ := hns.count hw
  obtain ⟨cd, hc, has⟩ := cls_hasD hd
  have look : PySem.W.Looks (model prog w) hp (classData C) cd := PySem.W.looks_clsIn X hc
  refine PySem.W.osa_openX (s := ⟨hp, g, d, t, os⟩) (od := some oD) SF X ⟨hx, rfl, rfl, hoD⟩ ho ht fun b => ?_
  show wpAny _ _ (storeInOwnDict (.ref x) (.ref C) (.str name tk) name v b) _ _ _
  obtain ⟨nm, bs, mro, ns, qn, hasDict, sn, sb, ab, col, del⟩ := cd
  dsimp only at has
  subst has
  unfold storeInOwnDict ownDictForStores
  repeat (first | with_reducible refine PySem.OEX.store_in_old hns hw hz ?_ | with_reducible refine wpAny_loadPart_at hx ?_ | with_reducible refine look.at ?_ | wp_step)
  intro h' tk' hn same
  exact hq h' tk' (fun b o nb e => (same.2 b nb).trans e) hn
end
section
variable {X : Cx} {pins : List (Addr × Obj)} {σ : L2.St} {H : Hp} {s : Shared} {a C dx : Addr} {f : Str} {y : V} {u : Value} {fs : List (Str × V)} {Q : Unit → Shared → Prop} {E : Value → Shared → Prop} {A : Around} {B newId initId : String} {bmB : List Value}
/-- self.f = y, the first field -/
theorem fld_first (BX : BaseX B newId initId bmB) (T : OwnX X.K C B newId bmB) (I : Inv X pins σ H s) (e : H a = some (exo a C none)) (hno : PySem.W.takerIn X.K C f = some none) (ry : RelV y u)
    (h : ∀ dx s', H dx = none → dx ≠ a → Inv X pins σ (upd (upd H dx (exd dx [(f, y)])) a (exo a C (some dx))) s' → Q () s') : wpAny (model X.prog X.w) A (setAttr (.ref a) f u) Q E s := by
  obtain ⟨t1, ho⟩ := exo_at I.hok e
  obtain ⟨hp, g, d, t, os⟩ := s
  refine PySem.W.set_plain I.kIn (ox := { cls := .ref C, dict := none, data := .fields #[.ref t1, .none, .none, .none, .bool false, .none] }) (od := none) ⟨ho, rfl, rfl, trivial⟩ T.sa ?_
  refine set_first BX.store I.kIn ho T.over T.hasD hno (fun h' tk' dx k dn dne hx hn => ?_)
  have newD : H dx = none := I.hok.fresh dn
  have old : ∀ {b : Addr} {o : Obj}, hp.get? b = some o → b ≠ dx := fun {b o} q => Nat.ne_of_lt (Nat.lt_of_lt_of_le (Heap.lt_size q) dn)
  have nota : ∀ {b : Addr}, H b = none → b ≠ a := fun {b} n z => by
    rw [z, e] at n
    cases n
  have step : Un X.fs [] H (upd (upd H dx (exd dx [(f, y)])) a (exo a C (some dx))) hp h' := {
    keep := fun b o q n _ _ => k b o (nota n) q
    slot := fun b o q n _ _ => ⟨o.slots, k b o (nota n) q⟩
    free := fun b o q n _ => by rw [upd_ne (nota n), upd_ne (old q)]; exact n
    there := fun b o q _ => by
      by_cases hb : b = a
      · exact ⟨_, by rw [hb]; exact hx⟩
      · exact ⟨o, k b o hb q⟩
    tups := fun b xs q => by rw [upd_ne (at_ne e q exo_tup), upd_ne (ne_of_none q newD)]; exact q
    frzs := fun b o v q => by rw [upd_ne (at_ne e q exo_frz), upd_ne (ne_of_none q newD)]; exact q
    tbls := fun b ps q => ⟨#[], by rw [upd_ne (at_ne e q exo_tbl), upd_ne (ne_of_none q newD), q]; simp⟩ }
  refine h dx _ newD dne (I.un (t' := tk') step fun b o q => ?_)
  by_cases hb : b = a
  · subst hb
    rw [upd_same] at q
    cases q
    exact exo_ok hx
  · rw [upd_ne hb] at q
    by_cases hd : b = dx
    · subst hd
      rw [upd_same] at q
      cases q
      exact exd_ok hn (relO_put (fs := []) ry fun g => True.intro)
    · rw [upd_ne hd] at q
      refine (I.hok b o q).stay (fun c v hc z => ?_) (fun c hc => ?_) fun c xs hc => ?_
      · have ca : c ≠ a := by
          rcases hc with hc | hc
          · rw [hc]
            exact hb
          · exact at_ne e hc exo_own
        exact k c v ca z
      · rw [upd_ne (at_ne e hc exo_own), upd_ne (ne_of_none hc newD)]
        exact hc
      · rw [upd_ne (at_ne e hc exo_tup), upd_ne (ne_of_none hc newD)]
        exact hc
/-- self.f = y, a further field -/
theorem fld_next (BX : BaseX B newId initId bmB) (T : OwnX X.K C B newId bmB) (I : Inv X pins σ H s) (e : H a = some (exo a C (some dx))) (ed : H dx = some (exd dx fs)) (hl : fs.length ≤ 900) (hno : PySem.W.takerIn X.K C f = some none) (ry : RelV y u)
    (h : ∀ s', Inv X pins σ (upd H dx (exd dx ((f, y) :: fs))) s' → Q () s') : wpAny (model X.prog X.w) A (setAttr (.ref a) f u) Q E s := by
  obtain ⟨t1, ho⟩ := exo_at I.hok e
  obtain ⟨mA, hns, rel⟩ := exd_at I.hok ed
  have hw := within_of rel
  obtain ⟨hp, g, d, t, os⟩ := s
  obtain ⟨oD, _, _, hoD, _, _⟩ := hns.count hw
  refine PySem.W.set_plain I.kIn (ox := { cls := .ref C, dict := some dx, data := .fields #[.ref t1, .none, .none, .none, .bool false, .none] }) (od := some oD) ⟨ho, rfl, rfl, hoD⟩ T.sa ?_
  refine set_next BX.store I.kIn ho hns hw (by rw [List.length_map]; omega) T.over T.hasD hno (fun h' tk' k hn => ?_)
  have there : ∃ o, h'.get? dx = some o := by
    obtain ⟨o, _, _, e', _⟩ := hn
    exact ⟨o, e'⟩
  exact h _ (I.write (t' := tk') (x := dx) (e := dx) (o := exd dx ((f, y) :: fs)) (by rw [ed]; exact True.intro) (.inl rfl) k there (exd_ok hn (relO_put ry rel)))
/-- B.__init__(self, ..): nothing of it is told -/
theorem base_init {us : List Value} {Q : Value → Shared → Prop} (BX : BaseX B newId initId bmB) (T : OwnX X.K C B newId bmB) (I : Inv X pins σ H s) (e : H a = some (exo a C none)) (hl : us.length ≤ sizeLine) (h : ∀ s', Inv X pins σ H s' → Q .none s') :
    wpAny (model X.prog X.w) A (call (.builtin initId) (.ref a :: us)) Q E s := by
  obtain ⟨nm, N, q, bs, bm, hdct, sn, sub, ab, col, dd, k0, k1, k2, k3, k5, hC, hT⟩ := PySem.W.excInit_of I.kIn T.ini
  obtain ⟨t1, ho⟩ := exo_at I.hok e
  obtain ⟨hp, g, d, t, os⟩ := s
  refine wpAny_call (BX.ini hT hC ho hl fun h' t2 k hx => ?_)
  have J := I.write (t' := t) (x := a) (e := a) (o := exo a C none) (by rw [e]; exact True.intro) (.inl rfl) k ⟨_, hx⟩ (exo_ok hx)
  have same : upd H a (exo a C none) = H := by
    funext b
    by_cases hb : b = a
    · rw [hb, upd_same, e]
    · rw [upd_ne hb]
  rw [same] at J
  exact h _ J
end
/-! ### readings and rules -/
/-- B.__init__(self, ..) -/
def tInitX (K : PySem.W.Frag) (B newId : String) (bmB : List Value) (ta : TA) : TE := fun σ H Q => ta σ H fun vs H1 => ∃ (a C : Addr) (ws : List V), vs = .ref a :: ws ∧ ws.length ≤ 1000 ∧ OwnX K C B newId bmB ∧ H1 a = some (exo a C none) ∧ Q .non H1
/-- self.f = e -/
def tSetX (K : PySem.W.Frag) (B newId : String) (bmB : List Value) (f : Str) (to te : TE) : TS := fun D σ H => te σ H fun y H1 => to σ H1 fun x H2 => ∃ a C : Addr, x = .ref a ∧ OwnX K C B newId bmB ∧ PySem.W.takerIn K C f = some none ∧
  ((H2 a = some (exo a C none) ∧ ∀ dx, H2 dx = none → dx ≠ a → D.nx σ (upd (upd H2 dx (exd dx [(f, y)])) a (exo a C (some dx)))) ∨
    ∃ (dx : Addr) (fs : List (Str × V)), H2 a = some (exo a C (some dx)) ∧ H2 dx = some (exd dx fs) ∧ fs.length ≤ 900 ∧ D.nx σ (upd H2 dx (exd dx ((f, y) :: fs))))
section
variable {X : Cx} {o e : Expr} {es : List Expr} {to te : TE} {ta : TA} {f : Str} {p p' p1 p2 pos : Pos} {B newId initId : String} {bmB : List Value} {x : Str}
theorem pe_initX {pl : Sem Bool} (BX : BaseX B newId initId bmB) (hg : Gl X x) (hm : X.mg x = none) (hv : bootBuiltins x = some (.type B)) (vV : PySem.W.findCls X.K (.type B) (.type "type") "__init__" = some (.val (.builtin initId))) (hand : PySem.W.handedIn (.builtin initId) = true) (ha : PA X (e :: es) ta)
    (hn : x ≠ "__name__" := by decide) (hdb : (x == ("__debug__" : Str)) = false := by decide)
    (hc : eval (.Call (.Attribute (.Name x p1) "__init__" p2) (e :: es) [] pos) X.env = (do
      let ov ← eval (.Name x p1) X.env
      standAt p2.atName
      let (f, first) ← holding [ov] (getMethod ov "__init__" pl)
      callWith pos f first (backTo pos (starEach (e :: es) X.env)) (backToKw pos (keywordEach [] X.env))) := by rfl)
    (he : starEach (e :: es) X.env = (false, eval e X.env) :: starEach es X.env := by rfl) (hpl : (backTo pos (starEach es X.env)).any (·.1) = false := by rfl) :
    PE X (.Call (.Attribute (.Name x p1) "__init__" p2) (e :: es) [] pos) (tInitX X.K B newId bmB ta) := by
  refine ⟨fun pins s σ H Q I h => ?_⟩
  refine PySem.W.methodCall_KW (ld_blt I hg hm hv ?_ hn hdb) hc
  obtain ⟨m, fr⟩ := I.fr
  refine PySem.W.method_type fr I.ok.mod.kin BX.typ BX.stub vV hand ?_
  show wpAny _ _ (callWith pos (Value.builtin initId) [] (backTo pos (starEach (e :: es) X.env)) []) _ _ _
  refine PyProof.Rows.callWith_method1 (thn (ha.run pos pins _ σ H _ (I.tok _) h) fun us s1 ⟨vs, H1, I1, r1, a, C, ws, ev, hl, T, ea, q⟩ => ?_) he hpl
  subst ev
  cases r1 with
  | @cons _ u0 _ ur ra rw' =>
    obtain rfl : u0 = Value.ref a := ra
    have hlen : ur.length ≤ sizeLine := by
      rw [← Paired.length rw', sizeLine_eq]
      omega
    exact base_init BX T I1 ea hlen fun s' J => ⟨.non, H1, J, rfl, q⟩
theorem ps_setX (BX : BaseX B newId initId bmB) (ho : PE X o to) (he : PE X e te) (hs : swapsWith e (some (.Attribute o f p')) pos.line X.env = pure false := by rfl) : PS X (.Assign [.Attribute o f p'] e pos) (tSetX X.K B newId bmB f to te) := by
  refine ⟨fun pins s σ H D I h => ?_⟩
  refine plainObj_wpAny_Assign_Attribute (thn (he.run pins s σ H _ I h) fun v s1 ⟨y, H1, I1, r1, q1⟩ => thn (ho.run pins s1 σ H1 _ I1 q1) fun u s2 ⟨x, H2, I2, r2, a, C, ex, T, hno, q⟩ => ?_) hs
  subst ex
  obtain rfl : u = Value.ref a := r2
  rcases q with ⟨ea, q⟩ | ⟨dx, fs, ea, ed, hl, q⟩
  · exact fld_first BX T I2 ea hno r1 fun dx s' n ne J => ⟨σ, _, J, q dx n ne⟩
  · exact fld_next BX T I2 ea ed hl hno r1 fun s' J => ⟨σ, _, J, q⟩
theorem pmk_own_init {CX : CXT} {C fI : Addr} {k : Nat} {fd : FuncData} {ps : List Str} {sp : Sp} {ds : List Value} {dvs : List V} (BX : BaseX B newId initId bmB) (T : OwnX X.K C B newId bmB) (iC : PySem.W.findIn X.K (.ref C) "__init__" = some (some (.ref fI))) (tI : PySem.W.typeIn X.K (.ref fI) = some (.type "function"))
    (F1 : FnOk X.prog X.w X.K X.mg X.base CX k fI fd ps sp) (hr : Room (k + 1) X.A) (hb : Binds X.K fd ps ds) (hd : Vals dvs ds) (hx : Passes CX X (fun _ _ _ => False)) (hg : Gl X x) (hm : X.mg x = some (.ref C)) (ha : PA X (e :: es) ta)
    (hdb : (x == ("__debug__" : Str)) = false := by decide) (he : starEach (e :: es) X.env = (false, eval e X.env) :: starEach es X.env := by rfl) (hpl : (backTo pos (starEach es X.env)).any (·.1) = false := by rfl) :
    PMk X (.Call (.Name x p) (e :: es) [] pos) (tMkO C sp dvs ta) := by
  intro pins s σ H Q I h
  refine wpAny_Call_Name_kw (ld_glob I hg hm ?_ hdb)
  refine PySem.W.callWith_K (h₀ := X.base) I.ok.mod.kin T.kC (thn (ha.run pos pins s σ H _ I h) fun us s1 ⟨vs, H1, I1, r1, hz, q1⟩ => ⟨I1.kIn, ?_⟩) he hpl
  show wpAny _ _ (call (.ref C) us) _ _ _
  obtain ⟨nm, N, q, bs, bm, hdct, sn, sub, ab, col, dd, k0, k1, k2, k3, k5, hC, hT⟩ := PySem.W.excInit_of I1.kIn T.ini
  obtain ⟨hp, g, dr, tk, os⟩ := s1
  have up : hp.objs.size ≤ hp.objs.size + 1 := Nat.le_succ _
  have new : H1 (hp.objs.size + 1) = none := I1.hok.fresh up
  have got := q1 (hp.objs.size + 1) new
  have kk : ∀ b o, hp.get? b = some o → ((hp.push (PySem.W.kdv_tup us)).push (PySem.HandSPX.excO C hp.objs.size)).get? b = some o := fun b o e => Heap.get?_push_of_some _ (Heap.get?_push_of_some _ e)
  have hget : ((hp.push (PySem.W.kdv_tup us)).push (PySem.HandSPX.excO C hp.objs.size)).get? (hp.objs.size + 1) = some (PySem.HandSPX.excO C hp.objs.size) := by heap_get
  have I2 : Inv X pins σ (upd H1 (hp.objs.size + 1) (exo (hp.objs.size + 1) C none)) ⟨(hp.push (PySem.W.kdv_tup us)).push (PySem.HandSPX.excO C hp.objs.size), g, dr, tk, os⟩ :=
    I1.laid (t' := tk) (a := hp.objs.size + 1) (o := exo (hp.objs.size + 1) C none) (h' := (hp.push (PySem.W.kdv_tup us)).push (PySem.HandSPX.excO C hp.objs.size)) kk up (exo_ok hget)
  have r2 : Vals (V.ref (hp.objs.size + 1) :: (vs ++ dvs)) (Value.ref (hp.objs.size + 1) :: (us ++ ds)) := .cons rfl (r1.append hd)
  have hl : (Value.ref (hp.objs.size + 1) :: us ++ ds).length = ps.length := by
    have e := r2.length
    rw [F1.len _ _ _ _ got] at e
    exact e.symm
  have hus : us.length ≤ sizeLine := by
    rw [← Paired.length r1, sizeLine_eq]
    omega
  refine wpAny_call (BX.own hT hC (PySem.W.looks_findIn I1.kIn iC) (fun self => PySem.W.bind_fn I1.kIn self tI) hus
    (codeAny_mono (F1.run _ X.stack _ _ ⟨Value.ref (hp.objs.size + 1) :: us, []⟩ (Value.ref (hp.objs.size + 1) :: (us ++ ds)) _ _ (fun _ _ _ => False) (hr.make C us []) (I2.env0.make C us []) (hb _ (Value.ref (hp.objs.size + 1) :: us) I2.kIn hl) r2 got) fun r s' back => ?_))
  cases r with
  | error er => exact hx pins σ _ _ er s' I2 back
  | ok fl =>
    cases fl with
    | ret u =>
      obtain ⟨v, H2, os2, bare2, un2, hok2, rv, ev, d, fs, ea, ed, hd1, q2⟩ := back
      subst ev
      obtain ⟨h2, g2, d2, t2, os'⟩ := s'
      exact ⟨rv, mk_end (raises_own T.exC T.tyC) I1 up kk un2 hok2 os2 bare2 ea ed hd1 q2⟩
    | next => exact False.elim back
    | brk => exact False.elim back
    | cont => exact False.elim back
end
/-! ### the built-in classes -/
abbrev bmOverflow : List Value := [.type "OverflowError", .type "ArithmeticError", .type "Exception", .type "BaseException", .type "object"]
theorem baseOverflow : BaseX "OverflowError" "OverflowError.__new__" "OverflowError.__init__" bmOverflow := .of PySem.F.excBase_OverflowError PySem.F.store_OverflowError (by kernel_rfl) (by decide +kernel)
abbrev bmRuntime : List Value := [.type "RuntimeError", .type "Exception", .type "BaseException", .type "object"]
theorem baseRuntime : BaseX "RuntimeError" "RuntimeError.__new__" "RuntimeError.__init__" bmRuntime := .of PySem.F.excBase_RuntimeError PySem.F.store_RuntimeError (by kernel_rfl) (by decide +kernel)
abbrev bmLookup : List Value := [.type "LookupError", .type "Exception", .type "BaseException", .type "object"]
theorem baseLookup : BaseX "LookupError" "LookupError.__new__" "LookupError.__init__" bmLookup := .of PySem.F.excBase_LookupError PySem.F.store_LookupError (by kernel_rfl) (by decide +kernel)
abbrev bmIndex : List Value := [.type "IndexError", .type "LookupError", .type "Exception", .type "BaseException", .type "object"]
theorem baseIndex : BaseX "IndexError" "IndexError.__new__" "IndexError.__init__" bmIndex := .of PySem.F.excBase_IndexError PySem.F.store_IndexError (by kernel_rfl) (by decide +kernel)
abbrev bmValue : List Value := [.type "ValueError", .type "Exception", .type "BaseException", .type "object"]
theorem baseValue : BaseX "ValueError" "ValueError.__new__" "ValueError.__init__" bmValue := .of PySem.F.excBase_ValueError PySem.F.store_ValueError (by kernel_rfl) (by decide +kernel)
/-! ### KeyError: its __new__ is LookupError's -/
section
open Builtin Builtin.ObjectAttr
abbrev bmKey : List Value := [.type "KeyError", .type "LookupError", .type "Exception", .type "BaseException", .type "object"]
theorem store_Key : StoreFacts "KeyError" bmKey "object.__setattr__" "object" where
  mro := by kernel_rfl
  slot := .of (owner := "object") (n := "__setattr__") (by rw [typeLookup_type, builtinLookup_eq_fast]; kernel_rfl) (by decide +kernel) (by decide +kernel) (by decide +kernel)
    (by first | exact .inl (by decide +kernel) | exact .inr (by decide +kernel)) (by rw [isSubtype_type]; kernel_rfl)
  entry := PySem.F.store_LookupError.entry
  kind := by decide +kernel
  split := by decide +kernel
  hasOwner := by decide +kernel
  args := fun a b c => by unfold argsOk; kernel_rfl
  passes := fun self => by kernel_rfl
variable {M : Model} {prog : Program} {w : World} {A : Around} {E : Value → Shared → Prop} {R : Result → Shared → Prop} {h : Heap} {g : Array GenState} {d : Drawn} {t : Nat} {os : OsState}
variable {nm q : Str} {C N : Addr} {bs bm : List Value} {hdct : Bool} {sn : List Str} {sub : List Value} {ab : Bool} {col : Option Bool} {dd : Option Addr} {k0 k1 k2 k3 k5 : Option Value}
theorem key_check_new (hT : ∀ X : String, bm.contains (.type X) = bmKey.contains (.type X)) {rest : List Value} {Q : Unit → Shared → Prop}
    (hC : h.get? C = some (excClassObj nm q C N bs bm hdct sn sub ab col dd k0 k1 k2 k3 k5 "LookupError.__new__")) (hq : Q () ⟨h, g, d, t, os⟩) : wpAny M A (checkBuiltinCall "LookupError.__new__" ⟨.ref C :: rest, []⟩) Q E ⟨h, g, d, t, os⟩ := by
  have F := PySem.F.excBase_LookupError
  have hcont : (Value.ref C :: bm).contains (.type "LookupError") = true := by rw [List.contains_cons, hT, show bmKey.contains (.type "LookupError") = true by decide +kernel, Bool.or_true]
  have hstar := F.noStar
  simp only [checkBuiltinCall, F.newKind, F.newSplit, F.newRow]
  repeat (first | refine wpAny_loadPart_at hC ?_ | (refine wpAny_isSubtype_exc hC ?_; rw [hcont]) | refine wpAny_staticBase_exc hC ?_ | refine wpAny_madeBy_exc hC ?_ | simp only [bne_self_eq_false, Bool.false_eq_true, if_false] | wp_step)
  exact hq
theorem key_check_init (hT : ∀ X : String, bm.contains (.type X) = bmKey.contains (.type X)) {e : Addr} {oe : Obj} {rest : List Value} {Q : Unit → Shared → Prop}
    (hC : h.get? C = some (excClassObj nm q C N bs bm hdct sn sub ab col dd k0 k1 k2 k3 k5 "LookupError.__new__")) (he : h.get? e = some oe) (hcls : oe.cls = .ref C) (hq : Q () ⟨h, g, d, t, os⟩) :
    wpAny M A (checkBuiltinCall "KeyError.__init__" ⟨.ref e :: rest, []⟩) Q E ⟨h, g, d, t, os⟩ := by
  have F := PyProof.Rows.excClass_KeyError
  have hcB : (Value.ref C :: bm).contains (.type "KeyError") = true := by rw [List.contains_cons, hT, show bmKey.contains (.type "KeyError") = true by decide +kernel, Bool.or_true]
  have hshort := F.notStar
  simp only [checkBuiltinCall, F.initKind, F.initSplit, F.initSig]
  repeat (first | (with_reducible refine wpAny_loadPart_at he ?_; rw [hcls]) | with_reducible refine wpAny_loadPart_at hC ?_ | (with_reducible refine wpAny_isSubtype_exc hC ?_; rw [hcB]) | wp_step)
  refine wpAny_onRaise ?_
  rw [show ∀ (a b : String) (n : Nat), Bind.check ⟨.positional, "*", "KeyError", .self, [⟨"args", .varPos, false⟩]⟩ a b n (List.map (fun x => x.fst) ({ pos := Value.ref e :: rest } : Args).kw) = pure () from
    fun a b n => check_star_args _ _ _ _ _ _]
  exact wpAny_pure hq
theorem key_new (hT : ∀ X : String, bm.contains (.type X) = bmKey.contains (.type X)) {rest : List Value}
    (hC : h.get? C = some (excClassObj nm q C N bs bm hdct sn sub ab col dd k0 k1 k2 k3 k5 "LookupError.__new__"))
    (hq : R (.ok (.ret (.ref (h.objs.size + 1)))) ⟨(h.push { cls := .type "tuple", data := .seq rest.toArray }).push
      { cls := .ref C, data := .fields #[.ref h.objs.size, .none, .none, .none, .bool false, .none] }, g, d, t, os⟩) (hrest : rest.length ≤ sizeLine) :
    codeAny (model prog w) A (.builtin "LookupError.__new__" ⟨.ref C :: rest, []⟩) R ⟨h, g, d, t, os⟩ := by
  have F := PySem.F.excBase_LookupError
  have hends := F.ends
  have hcB : (Value.ref C :: bm).contains (.type "LookupError") = true := by rw [List.contains_cons, hT, show bmKey.contains (.type "LookupError") = true by decide +kernel, Bool.or_true]
  have hcA : (Value.ref C :: bm).contains (.type "AttributeError") = false := by rw [List.contains_cons, hT, show bmKey.contains (.type "AttributeError") = false by decide +kernel]; rfl
  have hcN : (Value.ref C :: bm).contains (.type "NameError") = false := by rw [List.contains_cons, hT, show bmKey.contains (.type "NameError") = false by decide +kernel]; rfl
  refine codeAny_builtinAt F.entry ?_
  unfold Builtin.«BaseException.__new__»
  refine PySem.wpAt_bind ?_
  show PySem.wpAt _ _ _ (stack >>= _) _ _ _
  refine PySem.wpAt_bind (PySem.wpAt_stack fun p below => PySem.wpAt_of_wpAny ?_)
  wp_walk
  refine PySem.wpAt_of_wpAny ?_
  rw [F.owner]
  repeat (first | with_reducible refine wpAny_madeHere_exc F.canon hC ?_ | with_reducible refine wpAny_loadPart_at hC ?_ | (with_reducible refine wpAny_isSubtype_exc hC ?_; first | rw [hcB] | rw [hcA] | rw [hcN]) | wp_step)
  show R _ _
  rw [Heap.size_push]
  exact hq
theorem key_type_call (hT : ∀ X : String, bm.contains (.type X) = bmKey.contains (.type X)) {rest : List Value} {fI : Addr} {Q : Fin → Shared → Prop}
    (hC : h.get? C = some (excClassObj nm q C N bs bm hdct sn sub ab col dd k0 k1 k2 k3 k5 "LookupError.__new__"))
    (hi : PySem.W.Looks (model prog w) h (typeLookup (.ref C) "__init__") (some (.ref fI))) (hb : ∀ self, PySem.W.Looks (model prog w) h (bindSpecial (.ref fI) self) (.ref fI, [self])) (hrest : rest.length ≤ sizeLine)
    (hq : codeAny (model prog w) A (.call (.ref fI) ⟨.ref (h.objs.size + 1) :: rest, []⟩)
      (fun r s' => match r with | .ok (.ret v) => v = .none ∧ Q (.done (.ret (.ref (h.objs.size + 1)))) s' | .ok _ => False | .error e => E e s')
      ⟨(h.push (PySem.W.kdv_tup rest)).push (PySem.HandSPX.excO C h.objs.size), g, d, t, os⟩) :
    wpAny (model prog w) A (Builtin.«type.__call__» ⟨.ref C :: rest, []⟩) Q E ⟨h, g, d, t, os⟩ := by
  have F := PySem.F.excBase_LookupError
  repeat (first | with_reducible refine wpAny_loadPart_at hC ?_ | with_reducible refine wpAny_madeBy_exc hC ?_ | wp_step)
  refine codeAny_call_builtin_code (Code.quiet_builtin _ F.quiet) (key_check_new hT hC ?_)
  refine key_new hT hC ?_ hrest
  show wpAny _ _ _ _ _ _
  have k : ∀ b o, h.get? b = some o → ((h.push (PySem.W.kdv_tup rest)).push (PySem.HandSPX.excO C h.objs.size)).get? b = some o := fun b o e => Heap.get?_push_of_some _ (Heap.get?_push_of_some _ e)
  have hC₁ := k _ _ hC
  have hget : ((h.push (PySem.W.kdv_tup rest)).push (PySem.HandSPX.excO C h.objs.size)).get? (h.objs.size + 1) = some (PySem.HandSPX.excO C h.objs.size) := by heap_get
  have hcC : (Value.ref C :: bm).contains (.ref C) = true := by simp
  have i1 := hi.keeps k
  have b1 := (hb (.ref (h.objs.size + 1))).keeps k
  unfold isInstance
  repeat (first | with_reducible refine wpAny_loadPart_at hget ?_ | (with_reducible refine wpAny_isSubtype_exc hC₁ ?_; rw [hcC]) | wp_step)
  show wpAny _ _ (typeLookup (.ref C) _) _ _ _
  refine i1.at ?_
  refine wpAny_holding (wpAny_bind (b1.at ?_))
  refine wpAny_bind (wpAny_call (codeAny_mono hq fun r s' z => ?_))
  rcases r with e | (v | _ | _ | _) <;> first | exact z | exact z.elim | skip
  obtain ⟨rfl, z⟩ := z
  first
    | exact wpAny_pure (wpAny_pure z)
    | (wp_walk; exact z)
theorem baseKey : BaseX "KeyError" "LookupError.__new__" "KeyError.__init__" bmKey where
  ini := fun {prog w A R h g d t os nm q C N bs bm hdct sn sub ab col dd k0 k1 k2 k3 k5} hT {e t0 rest} hC he hr hq => by
    refine codeAny_call_builtin PyProof.Rows.excClass_KeyError.init.plain PyProof.Rows.excClass_KeyError.initEntry (key_check_init hT hC he rfl ?_)
    wp_walk
    show R _ _
    refine hq _ h.objs.size (fun b o hb ho => ?_) ?_
    rotate_left
    · rw [Heap.get?_update_self _ (Heap.get?_push_of_some _ he) rfl]
      rfl
    · rw [Heap.get?_update_other _ _ (Ne.symm hb)]
      exact Heap.get?_push_of_some _ ho
  own := fun {prog w A R h g d t os nm q C N bs bm hdct sn sub ab col dd k0 k1 k2 k3 k5} hT {rest fI} hC hi hb hr hq => by
    have f1 := tc_lookup
    have f2 := tc_bind (.ref C)
    have hTy : (⟨h, g, d, t, os⟩ : Shared).TypeIs (.ref C) "type" := ⟨_, hC, rfl⟩
    refine codeAny_of_tree ?_
    show wpAny _ _ (callAny (.ref C) _) _ _ _
    repeat (any_goals (first | assumption | with_reducible refine wpAny_loadPart_at hC ?_ | wp_step))
    refine ⟨rfl, ?_⟩
    refine codeAny_call_builtin_at (Code.quiet_builtin _ (by decide +kernel)) entry_typeCall (wpAny_check_type_call_sub hC (key_type_call hT hC hi hb hr ?_))
    refine codeAny_mono hq fun r s' z => ?_
    rcases r with e | (v | _ | _ | _) <;> exact z
  store := store_Key
  typ := by kernel_rfl
  stub := by decide +kernel
end
end PX
/-! Defs that raise own exceptions with one field. -/
namespace PX
open PySem PySem.Spec PyProof.Rows L2
/-- what a callee lets out goes out of a def that raises -/
theorem passE {X : Cx} {E : XK} (hs : X.stack = X.env :: X.outer) (hf : X.env.frame = some X.env.locals) (hex : X.ex = []) {E₁ : Value → Shared → Prop}
    (hx : X.xe = fun e s' => wpAny (model X.prog X.w) X.A (leaving X.env e) (fun _ s'' => L2.CX X.prog X.w X.outer X.H_0 X.s_0 E e s'') E₁ s') : Passes (L2.CX X.prog X.w) X E :=
  fun pins σ H s e s' I c => passes_call (takes_of hs hf hex hx) (fun _ _ _ _ h => h) pins σ H s e s' I c
/-- the promise of an own __init__ that sets one field -/
def spX1 (C : Addr) (f : Str) : Sp := fun vs H Q _ => ∃ (a : Addr) (v : V), vs = [.ref a, v] ∧ H a = some (exo a C none) ∧ ∀ dx, H dx = none → dx ≠ a → Q .non (upd (upd H dx (exd dx [(f, v)])) a (exo a C (some dx)))
/-- C(e), to be raised: its dict is new -/
def tMkX (C : Addr) (f : Str) (ta : TA) : L2.St → Hp → XK → Prop := fun σ H Q => ta σ H fun vs H1 => ∃ v, vs = [v] ∧ ∀ d, H1 d = none → Q (.ref C) (some d) (upd H1 d (.xd [(f, v)]))
section
variable {X : Cx} {e : Expr} {ta : TA} {f x : Str} {p pos : Pos} {C fI : Addr} {B newId initId : String} {bmB : List Value}
theorem pmk_x1 {CX : CXT} {k : Nat} {fd : FuncData} {ps : List Str} (BX : BaseX B newId initId bmB) (T : OwnX X.K C B newId bmB) (iC : PySem.W.findIn X.K (.ref C) "__init__" = some (some (.ref fI))) (tI : PySem.W.typeIn X.K (.ref fI) = some (.type "function"))
    (F1 : FnOk X.prog X.w X.K X.mg X.base CX k fI fd ps (spX1 C f)) (hr : Room (k + 1) X.A) (hb : Binds X.K fd ps []) (hx : Passes CX X (fun _ _ _ => False)) (hg : Gl X x) (hm : X.mg x = some (.ref C)) (ha : PA X [e] ta)
    (hdb : (x == ("__debug__" : Str)) = false := by decide) (he : starEach (e :: []) X.env = (false, eval e X.env) :: starEach [] X.env := by rfl) (hpl : (backTo pos (starEach [] X.env)).any (·.1) = false := by rfl) :
    PMk X (.Call (.Name x p) [e] [] pos) (tMkX C f ta) := by
  have cut : PA X [e] (fun σ H Q => ∃ R, ta σ H R ∧ ∀ vs H', R vs H' → Q vs H') := ⟨fun pos pins s σ H Q I ⟨R, h, k⟩ => thn (ha.run pos pins s σ H R I h) fun us s1 ⟨vs, H1, I1, r, q⟩ => ⟨vs, H1, I1, r, k vs H1 q⟩⟩
  have M := pmk_own_init (p := p) (pos := pos) BX T iC tI F1 hr hb .nil hx hg hm cut hdb he hpl
  intro pins s σ H Q I h
  refine M pins s σ H Q I ⟨_, h, fun vs H1 ⟨v, ev, q⟩ => ?_⟩
  · subst ev
    refine ⟨by show 1 ≤ 1000; decide, fun a na => ?_⟩
    refine ⟨a, v, rfl, upd_same, fun dx n ne => ⟨rfl, dx, [(f, v)], upd_same, ?_, ?_, ?_⟩⟩
    · rw [upd_ne ne, upd_same]
    · rw [upd_ne ne] at n
      exact n
    · rw [upd_ne ne] at n
      have z : upd (del (upd (upd (upd H1 a (exo a C none)) dx (exd dx [(f, v)])) a (exo a C (some dx))) a) dx (.xd [(f, v)]) = upd H1 dx (.xd [(f, v)]) := by
        funext b
        by_cases hb : b = dx
        · rw [hb, upd_same, upd_same]
        · rw [upd_ne hb, upd_ne hb]
          by_cases hc : b = a
          · rw [hc, del_same, na]
          · rw [del_ne hc, upd_ne hc, upd_ne hb, upd_ne hc]
      rw [z]
      exact q dx n
end
section
variable {P : Program} {w : World} {K : PySem.W.Frag} {mg : Str → Option Value} {base : Heap}
/-- a def f(*v) by its body, which may raise -/
theorem okStarX {x qual pv : Str} {st : Stmt} {f : Addr} {fd : FuncData} {N : List Str} {k : Nat} {sp : Sp} (F : Fun K x qual st f fd) (S : FnScope N [pv] (defScope st))
    (hb0 : ∀ (kV doc pm : Value) (an : Option Addr) (cdv ct : Value), bindArgs (PySem.W.fnOf x qual (defArgs st) (defBody st) (defScope st) .none kV doc pm an cdv ct) ⟨[], []⟩ = (newTuple [] >>= fun t => pure [(pv, t)]))
    (hb1 : ∀ (kV doc pm : Value) (an : Option Addr) (cdv ct u : Value) (us : List Value), bindArgs (PySem.W.fnOf x qual (defArgs st) (defBody st) (defScope st) .none kV doc pm an cdv ct) ⟨u :: us, []⟩ = (newTuple (u :: us) >>= fun t => pure [(pv, t)]))
    (hbody : ∀ (cdv : Value) (A : Around) (outer : List Env) (s : Shared) (H : Hp) (vs : List V) (Q : VK) (E : XK), Room k (A.deeper (envOfC qual (defScope st) s.heap.objs.size f cdv)) → sp vs H Q E →
      ∃ t, PSs (cxOf (L2.CX P w) P w K mg base N qual (defScope st) f cdv A outer s H E) (defBody st) t ∧ t { nx := fun _ H' => Q .non H', rt := Q } (start N vs) H) :
    FnR P w K mg base (L2.CX P w) (k + 1) f (fun vs H Q E => vs.length ≤ sizeLine ∧ ∀ p, H p = none → sp [V.ref p] (upd H p (.tup vs)) Q E) := by
  obtain ⟨oc, od, kV, doc, pm, an, cdv, ct, osl, rfl, lk, hcd⟩ := F.ex
  have G := StX.fn_star (P := P) (w := w) (mg := mg) (base := base) (CX := L2.CX P w) (k := k) (sp := sp) (ps := []) (pv := pv) lk hcd S StX.cxUp (fun us rest h => by
    obtain rfl : us = [] := List.length_eq_zero_iff.mp h
    cases rest with
    | nil => exact hb0 kV doc pm an cdv ct
    | cons u r => exact hb1 kV doc pm an cdv ct u r) fun A outer s H vs Q E hr hs => by
      exact hbody cdv A outer s H vs Q E hr hs
  exact G.imp fun vs H Q E h => ⟨[], vs, rfl, rfl, h.1, h.2⟩
end
/-- an error of the class at S is what «except S» names -/
theorem exm_self {K : PySem.W.Frag} {S : Addr} (h1 : PySem.W.subIn K (.ref S) (.type "BaseException") = some true) (h2 : PySem.W.isClsIn K S = true) (h3 : PySem.W.typeIn K (.ref S) = some (.type "type")) (h4 : PySem.W.subIn K (.ref S) (.ref S) = some true) :
    PySem.W.exmOne K (.ref S) (.ref S) = some true := by
  have e1 : (PySem.W.subIn K (.ref S) (.type "BaseException") == some true) = true := by rw [h1] <;> rfl
  have e2 : ((PySem.W.clsIn K S).isSome && PySem.W.typeIn K (.ref S) == some (.type "type")) = true := by
    rw [show (PySem.W.clsIn K S).isSome = true from h2, h3] <;> rfl
  show (if (PySem.W.subIn K (.ref S) (.type "BaseException") == some true) = true then (if ((PySem.W.clsIn K S).isSome && PySem.W.typeIn K (.ref S) == some (.type "type")) = true then PySem.W.subIn K (.ref S) (.ref S) else none) else none) = some true
  rw [if_pos e1, if_pos e2]
  exact h4
/-- what a law's text says of an own exception with one field -/
structure XOne (K : PySem.W.Frag) (C fI : Addr) (B newId initId : String) (bmB : List Value) (f : Str) : Prop where
  own : OwnX K C B newId bmB
  iC : PySem.W.findIn K (.ref C) "__init__" = some (some (.ref fI))
  tI : PySem.W.typeIn K (.ref fI) = some (.type "function")
  tk : PySem.W.takerIn K C f = some none
  nf : PySem.W.findIn K (.ref C) f = some none
  vI : PySem.W.findCls K (.type B) (.type "type") "__init__" = some (.val (.builtin initId))
  xf : XfC K C
  ex : PySem.W.exmOne K (.ref C) (.ref C) = some true
end PX
/-! Lambdas handed to a def: the heap but for the table of code objects; the head of such a law. -/
namespace PX
open PySem PySem.Spec PyProof.Rows L2 LamX
/-- a def whose code object stands at c -/
structure FunC (K : PySem.W.Frag) (x qual : Str) (st : Stmt) (f c : Addr) (fd : FuncData) : Prop where
  ex : ∃ (oc : Value) (od : Option Addr) (kV doc pm : Value) (an : Option Addr) (ct : Value) (osl : Array (Option Value)),
    fd = PySem.W.fnOf x qual (defArgs st) (defBody st) (defScope st) .none kV doc pm an (.ref c) ct ∧ K.lookup f = some ⟨oc, od, .func fd, osl⟩ ∧ PySem.W.codeIn K (.ref c) qual = true
section
variable {P : Program} {w : World} {K : PySem.W.Frag} {mg : Str → Option Value} {base : Heap}
theorem okGC {x qual : Str} {st : Stmt} {f c : Addr} {fd : FuncData} {N ps : List Str} {k : Nat} {sp : Sp} (F : FunC K x qual st f c fd) (S : FnScope N ps (defScope st)) (many : ∀ vs H Q E, sp vs H Q E → vs.length = ps.length)
    (hb : ∀ (A : Around) (outer : List Env) (s : Shared) (H : Hp) (vs : List V) (Q : VK) (E : XK), Room k (A.deeper (envOfC qual (defScope st) s.heap.objs.size f (.ref c))) → NoG A → sp vs H Q E →
      ∃ t, PSs (cxOf CX0 P w K mg base N qual (defScope st) f (.ref c) A outer s H E).nox (defBody st) t ∧ t { nx := fun _ H' => Q .non H', rt := Q } (start N vs) H) : FnG P w K mg base CX0 (k + 1) f fd ps sp := by
  obtain ⟨oc, od, kV, doc, pm, an, ct, osl, rfl, lk, hcd⟩ := F.ex
  refine fnG_of lk hcd S many fun A outer s H vs Q E hr hg hs => ?_
  obtain ⟨t, h, q⟩ := hb A outer s H vs Q E hr hg hs
  exact ⟨t, h.nox, q⟩
/-- what never raises, of a def that may raise -/
theorem FnOk.calm {k : Nat} {f : Addr} {fd : FuncData} {ps : List Str} {sp : Sp} (F : FnOk P w K mg base (L2.CX P w) k f fd ps sp) : FnOk P w K mg base CX0 k f fd ps (fun vs H Q _ => sp vs H Q fun _ _ _ => False) := by
  refine ⟨fun vs H Q _ h => F.len vs H Q _ h, fun A outer s H args us vs Q E hr e0 hb r h => ?_⟩
  refine codeAny_mono (F.run A outer s H args us vs Q (fun _ _ _ => False) hr e0 hb r h) fun r s' z => ?_
  match r, z with
  | .error e, z =>
    obtain ⟨_, _, _, _, _, _, _, _, _, _, _, _, _, _, _, z⟩ := z
  | .ok .next, z => exact z
  | .ok .brk, z => exact z
  | .ok .cont, z => exact z
  | .ok (.ret u), z => exact z
end
/-- what is asked of a code object, asked of it alone -/
theorem codeHd_by {K : PySem.W.Frag} {c P : Addr} {o : Obj} (hk : K.lookup c = some o) (h : PySem.W.codeHdIn [(c, o)] c P = true) : PySem.W.codeHdIn K c P = true := by
  have e : List.lookup c [(c, o)] = some o := by simp [List.lookup]
  unfold PySem.W.codeHdIn at h ⊢
  rw [e] at h
  rw [hk]
  exact h
/-! ### the head -/
theorem law_callT {P : Program} {w : World} {K : PySem.W.Frag} {mg mb : Str → Option Value} {CX : CXT} {k : Nat} {fa a c T : Addr} {fd : FuncData} {x : Str} {sp : Sp} {s₁ : Shared} {vs : List Value} {ns : List Int}
    (KX : K.In s₁.heap) (hns : s₁.heap.Ns mainGlobals mg) (hb : s₁.heap.Ns builtinsNs mb) (hbb : ∀ x : Str, x ≠ "__name__" → mb x = bootBuiltins x) (hlim : s₁.heap.NoLimit) (hg : s₁.gens = #[])
    (hTab : s₁.heap.get? T = some { cls := .none, data := .fields #[] }) (nTab : K.lookup T = none) (hCode : PySem.W.CodeHd s₁.heap c T)
    (hmain : ∃ (bm : Addr) (ob : Obj), mg "__builtins__" = some (.ref bm) ∧ bm ≠ builtinsNs ∧ s₁.heap.get? bm = some ob ∧ ob.cls = .type "module" ∧ ob.dict = some builtinsNs ∧ ob.data = .plain)
    (ha : s₁.heap.get? a = some { cls := .type "list", data := .seq vs.toArray }) (hi : IntsAre vs ns) (hl : ns.length ≤ sizeLine) (hr : Room k callerA)
    (F : ∀ base : Heap, K.In base → base.Ns mainGlobals mg → TabB base mg c T → FnG P w K mg base CX k fa fd [x] sp) (hbind : ∀ (s : Shared) (u : Value), BindsTo s fd ⟨[u], []⟩ [(x, u)])
    (hsp : ∀ H : Hp, H T = some (.tbl #[]) → SqL K H a (ns.map V.int) → sp [.ref a] H (fun v _ => v = .bl true) fun _ _ _ => False)
    (hCX : ∀ H e s', CX [] H s₁ (fun _ _ _ => False) e s' → False) :
    codeAny (model P w) callerA (.call (.ref fa) ⟨[.ref a], []⟩) (fun r s' => r = .ok (.ret (.bool true)) ∧ OldK s₁.heap s'.heap ∧ s'.os = s₁.os ∧ AllBare s'.gens) s₁ := by
  have rv := vals_ints hi
  have lenV := hi.length
  have aT : a ≠ T := fun z => by
    rw [z, hTab] at ha
    cases (show Data.fields #[] = Data.seq vs.toArray _ from congrArg Obj.data (Option.some.inj ha))
  have main : ∀ H : Hp, H T = some (.tbl #[]) → (∀ b, H b = none ∨ b = T ∨ ∃ o xs, H b = some (.frz o (.lst xs))) → SqL K H a (ns.map V.int) → HOk P w H s₁.heap → (∀ b, H b ≠ none → b = a ∨ b = T) → (H a ≠ none → K.lookup a = none) →
      codeAny (model P w) callerA (.call (.ref fa) ⟨[.ref a], []⟩) (fun r s' => r = .ok (.ret (.bool true)) ∧ OldK s₁.heap s'.heap ∧ s'.os = s₁.os ∧ AllBare s'.gens) s₁ := by
    intro H hT hO hS hok hA hK
    have free_of : ∀ {b : Addr} {o : Obj}, s₁.heap.get? b = some o → (∀ n, o.data ≠ .seq vs.toArray n) → o.data ≠ .fields #[] → H b = none := fun {b o} e n1 n2 => by
      cases q : H b with
      | none => rfl
      | some u =>
        rcases hA b (by rw [q]; exact fun y => nomatch y) with z | z
        · rw [z, ha] at e
          cases e
          exact (n1 _ rfl).elim
        · rw [z, hTab] at e
          cases e
          exact (n2 rfl).elim
    have at_ : ∀ {b : Addr} {o : Obj}, s₁.heap.get? b = some o → (∀ n, o.data ≠ .seq vs.toArray n) → o.data ≠ .fields #[] → (hidT s₁.heap H).get? b = some o := fun e n1 n2 => hidT_get e (free_of e n1 n2)
    have nsT : ∀ {b : Addr} {m : Str → Option Value}, s₁.heap.Ns b m → (hidT s₁.heap H).Ns b m := fun {b m} z => by
      obtain ⟨o, es, ep, e, d, r⟩ := z
      exact ⟨o, es, ep, at_ e (fun n z => by rw [d] at z; cases z) (fun z => by rw [d] at z; cases z), d, r⟩
    have hKb : K.In (hidT s₁.heap H) := fun b o e => hidT_get (KX b o e) (by
      cases q : H b with
      | none => rfl
      | some u =>
        rcases hA b (by rw [q]; exact fun y => nomatch y) with e' | e'
        · rw [e'] at e q
          rw [hK (by rw [q]; exact fun y => nomatch y)] at e
          cases e
        · rw [e', nTab] at e
          cases e)
    have hM : Mod K mg (hidT s₁.heap H) := ⟨hKb, nsT hns, ⟨mb, nsT hb, hbb⟩, by obtain ⟨mc, h1, h2⟩ := hlim; exact ⟨mc, nsT h1, h2⟩⟩
    have gT : mainGlobals ≠ T := fun z => by
      obtain ⟨o, es, ep, e, d, _⟩ := hns
      rw [z, hTab] at e
      cases e
      cases d
    have hTB : TabB (hidT s₁.heap H) mg c T := by
      refine ⟨?_, ?_, gT⟩
      · obtain ⟨o, us, v1, v2, v3, v4, v5, v6, v7, e1, r1, r2, r3, r4⟩ := hCode
        refine ⟨o, us, v1, v2, v3, v4, v5, v6, v7, at_ e1 (fun n z => by rw [r2] at z; cases z) (fun z => ?_), r1, r2, r3, r4⟩
        rw [r2] at z
        injection z with z
        rw [z] at r3
        cases r3
      · obtain ⟨bm, ob, b1, b2, b3, b4, b5, b6⟩ := hmain
        refine ⟨bm, ob, b1, b2, fun z => ?_, fun z => ?_, at_ b3 (fun n z => by rw [b6] at z; cases z) (fun z => by rw [b6] at z; cases z), b4, b5, b6⟩
        · obtain ⟨o, es, ep, e, d, _⟩ := hns
          rw [z, e] at b3
          cases b3
          rw [d] at b6
          cases b6
        · rw [z, hTab] at b3
          cases b3
          cases b6
    have e0 : Env0 P w K mg (hidT s₁.heap H) callerA [] s₁ H := ⟨rfl, hM, fun b o e => of_hidT e, Nat.le_of_eq (hidT_size _ _), True.intro, fun b hb => absurd (show b ∈ ([] : List Addr) from hb) List.not_mem_nil, hok, .of_eq hg⟩
    refine codeAny_mono ((F _ hKb (nsT hns) hTB).goes callerA [] s₁ H ⟨[.ref a], []⟩ [.ref a] [.ref a] _ _ hr rfl e0 (hbind s₁ (.ref a)) (.cons rfl .nil) (hsp H hT hS)) fun r s' h => ?_
    match r, h with
    | .error e, h => exact (hCX H e s' h).elim
    | .ok .next, h => exact False.elim h
    | .ok .brk, h => exact False.elim h
    | .ok .cont, h => exact False.elim h
    | .ok (.ret u), h =>
      obtain ⟨v, H', os, bare, un, hok', r', q⟩ := h
      obtain rfl : v = V.bl true := q
      obtain rfl : u = Value.bool true := r'
      obtain ⟨more, zT⟩ := un.tbls T #[] hT
      have newT : s'.heap.get? T = some { cls := .none, data := .fields more } := by
        have := hok' T _ zT
        rw [Array.empty_append] at this
        exact this
      have stay : ∀ b o, b ≠ T → s₁.heap.get? b = some o → s'.heap.get? b = some o := fun b o nb e => by
        rcases hO b with z | z | ⟨ob, xs, z⟩
        · exact un.keep b o e z (fun y => absurd (show b ∈ ([] : List Addr) from y) List.not_mem_nil) List.not_mem_nil
        · exact absurd z nb
        · have e1 := (hok b _ z).1
          have e2 := (hok' b _ (un.frzs b ob _ z)).1
          rw [e] at e1
          cases e1
          exact e2
      refine ⟨rfl, ⟨fun b o e => ?_, fun b o e => ?_⟩, os, bare⟩
      · by_cases nb : b = T
        · subst nb
          rw [hTab] at e
          cases e
          exact .inr (.inl ⟨(hCode.tab hTab).isCodeTable, rfl, #[], more, rfl, by rw [Array.empty_append]; exact newT⟩)
        · exact .inl (stay b o nb e)
      · by_cases nb : b = T
        · subst nb
          exact ⟨_, newT⟩
        · exact ⟨o, stay b o nb e⟩
  cases hk : K.lookup a with
  | some o =>
    have e := KX a o hk
    rw [ha] at e
    cases e
    refine main (fun b => if b = T then some (.tbl #[]) else none) (if_pos rfl) (fun b => ?_) (.inr ⟨_, vs.toArray, _, hk, rfl, rfl, rfl, by rw [List.size_toArray, lenV]; exact hl, by simpa using rv⟩) (fun b u z => ?_) (fun b z => ?_) fun z => absurd (if_neg aT) z
    · by_cases hb : b = T
      · exact .inr (.inl hb)
      · exact .inl (if_neg hb)
    · by_cases hb : b = T
      · have z' := (if_pos hb).symm.trans z
        cases z'
        subst hb
        exact hTab
      · have z' := (if_neg hb).symm.trans z
        cases z'
    · by_cases hb : b = T
      · exact .inr hb
      · exact absurd (if_neg hb) z
  | none =>
    refine main (fun b => if b = a then some (.frz { cls := .type "list", data := .seq vs.toArray } (.lst (ns.map V.int))) else if b = T then some (.tbl #[]) else none) ((if_neg aT.symm).trans (if_pos rfl)) (fun b => ?_) (.inl (.inr ⟨{ cls := .type "list", data := .seq vs.toArray }, if_pos rfl⟩)) (fun b u z => ?_) (fun b z => ?_) fun _ => hk
    · by_cases hb : b = a
      · exact .inr (.inr ⟨_, _, if_pos hb⟩)
      · by_cases hb2 : b = T
        · exact .inr (.inl hb2)
        · exact .inl ((if_neg hb).trans (if_neg hb2))
    · by_cases hb : b = a
      · have z' := (if_pos hb).symm.trans z
        cases z'
        subst hb
        exact ⟨ha, by rw [List.length_map]; exact hl, vs, _, rv, ha⟩
      · have z1 := (if_neg hb).symm.trans z
        by_cases hb2 : b = T
        · have z' := (if_pos hb2).symm.trans z1
          cases z'
          subst hb2
          exact hTab
        · have z' := (if_neg hb2).symm.trans z1
          cases z'
    · by_cases hb : b = a
      · exact .inl hb
      · by_cases hb2 : b = T
        · exact .inr hb2
        · exact absurd ((if_neg hb).trans (if_neg hb2)) z
theorem walkT {l : PySem.W.OpenLaw} {n k : Nat} {q : Program} {loose : List Str} {XP : (Str → Option Value) → Heap → Prop} {YP : World → Heap → Prop} {d : DefRec} {K : Params → PySem.W.Frag} {CX : World → CXT} {sp : World → Addr → Sp} {x : Str}
    (hn : l.most = some n) (hn2 : n ≤ sizeLine) (hdf : d.params.defaults = []) (hr : Room k callerA) (hrec : ((recsOf q).any fun e => e.name == d.name) = true)
    (hY : ∀ (w : World) (h : Heap), YP w h → (K w.params).In h)
    (F : ∀ (w : World) (mg : Str → Option Value) (fa : Addr) (h : Heap), (K w.params).In h → h.Ns mainGlobals mg → mg d.name = some (.ref fa) →
      ∃ (fd : FuncData) (c T : Addr) (e : Value) (dd : Option Addr) (sl : Array (Option Value)), (∀ (s : Shared) (u : Value), BindsTo s fd ⟨[u], []⟩ [(x, u)]) ∧ (K w.params).lookup fa = some ⟨e, dd, .func fd, sl⟩ ∧ fd.code = .ref c ∧ PySem.W.codeHdIn (K w.params) c T = true ∧ (K w.params).lookup T = none ∧
        ∀ base : Heap, (K w.params).In base → base.Ns mainGlobals mg → TabB base mg c T → FnG l.prog w (K w.params) mg base (CX w) k fa fd [x] (sp w T))
    (hsp : ∀ (w : World) (T : Addr) (H : Hp) (a : Addr) (ns : List Int), ns.length ≤ n → H T = some (.tbl #[]) → SqL (K w.params) H a (ns.map V.int) → sp w T [.ref a] H (fun v _ => v = .bl true) fun _ _ _ => False)
    (hCX : ∀ (w : World) (H : Hp) (s : Shared) (e : Value) (s' : Shared), CX w [] H s (fun _ _ _ => False) e s' → False) :
    PySem.W.WalkO q loose XP YP l.row.toRowW d [] (fun f vs => PySem.call f vs) := by
  refine Att.attach_callB hn hdf fun w s₀ s₁ mg mb fa o pm cd doc a vs ns G Y ho hd hcd hmg hobj hints hlen hbits hg => ?_
  have KX := hY w _ Y
  obtain ⟨fd, c, T, e, dd, sl, hb, hlk, hfc, hch, nT, hF⟩ := F w mg fa _ KX G.T.g hmg
  have hC := PySem.W.codeHd_of_K KX hch
  obtain ⟨dL, hm, hname⟩ := List.any_eq_true.mp hrec
  obtain ⟨a', o', fd', c', P', h1, h2, h3, h4, h5, ⟨oc, vc, e1, _, e3, e4⟩, hP⟩ := G.T.tab dL hm
  rw [show dL.name = d.name from beq_iff_eq.mp hname, hmg] at h1
  cases h1
  rw [KX _ _ hlk] at h2
  cases h2
  cases h3
  rw [hfc] at h4
  cases h4
  have eT : P' = T := by
    obtain ⟨o2, us, _, _, _, _, _, _, _, f1, _, f3, f4, _⟩ := hC
    rw [e1] at f1
    cases f1
    rw [e3] at f3
    cases f3
    rw [e4] at f4
    cases f4
    rfl
  subst eT
  exact law_callT KX G.T.g G.T.b G.T.builtins G.T.nolimit hg hP nT hC G.T.bmain hobj hints (Nat.le_trans hlen hn2) hr hF hb (fun H hH hS => hsp w P' H a ns hlen hH hS) fun H e s' => hCX w H s₁ e s'
/-! ### the call -/
section
variable {X : Cx}
/-- x(lambda: body), x a def of the module -/
theorem pe_lamF {x a : Str} {st : Stmt} {g c P : Addr} {fd : FuncData} {Ng : List Str} {k : Nat} {params : Arguments} {body : Expr} {scope : Scope} {t : XK → TE} {TT : (XK → Hp → VK → Prop) → Hp → VK → Prop} {p lpos pos : Pos}
    (F : Fun X.K x x st g fd) (hm : X.mg x = some (.ref g)) (hb : L2.Binds X.K fd [a] []) (Sg : FnScope Ng [a] (defScope st)) (hNg : Ng[0]? = some a) (hva : Vis (defScope st) a)
    (hG : ∀ cdg : Value, GivesTo X Ng x (defScope st) g cdg (defBody st) a (X.env.qual ++ "<lambda>") TT) (TB : TabB X.base X.mg c P) (hcode : X.env.code = .ref c) (hg : Gl X x) (hr : Room (k + 2) X.A) (L : LamS X.env.scope scope) (hdef : defaultsOf params X.env = ([], []))
    (hbind : ∀ (q : Str) (cl : List (Str × Addr)) (pm cv ctv : Value), bindArgs (PySem.W.kla_fn "<lambda>" q params body scope cl pm cv ctv) ⟨[], []⟩ = pure [])
    (hbody : ∀ (A : Around) (outer : List Env) (s : Shared) (H : Hp) (E : XK) (f c' : Addr), Room k (A.deeper (lamEnv X scope s.heap.objs.size f c')) → PE (lamCx X A outer s H E scope f c') body (t E))
    (hdb : (x == ("__debug__" : Str)) = false := by decide) (hd : (a == ("__debug__" : Str)) = false := by decide) (hcd : (a == ("__classdict__" : Str)) = false := by decide) :
    PE X (.Call (.Name x p) [.Lambda params body scope lpos] [] pos) (tLam [(P, X.env.qual ++ "<lambda>")] TT t) := by
  obtain ⟨oc, od, kV, doc, pm, an, cdv, ct, osl, rfl, lk, hcd2⟩ := F.ex
  exact pe_lamcall hg hm F.kp lk hcd2 hb Sg hNg hva (hG cdv) TB hcode (List.mem_singleton.mpr rfl) (fun q hq _ => by rw [List.mem_singleton.mp hq]) hr L hdef hbind hbody hdb hd hcd
end
/-- the slots are as many as the names -/
theorem takesLen {Z : Cx} {W : WX} (tk : Takes Z W) : Takes Z (fun cls d σ H => σ.length = Z.N.length → W cls d σ H) := fun u s' ⟨a, B, sI, pins, σ, H, cls, d, e, I, nb, up, sky, na, os, ag, w⟩ =>
  tk u s' ⟨a, B, sI, pins, σ, H, cls, d, e, I, nb, up, sky, na, os, ag, w I.len⟩
/-- a(), a the lambda that was handed in, in a try -/
theorem pe_actW {Z : Cx} {W : WX} {f c' : Addr} {q a : Str} {tl : XK → Hp → VK → Prop} {pn : List (Addr × Obj)} {xe : Value → Shared → Prop} {p1 p2 : Pos}
    (act : ∀ (W : WX) (pn : List (Addr × Obj)) (xe : Value → Shared → Prop) (E : XK) (p1 p2 : Pos), Takes (Z.tr pn xe) W → (∀ cls d σ' H', E cls d H' → W cls d σ' H') →
      PE (Z.tr pn xe) (.Call (.Name a p1) [] [] p2) (fun σZ HZ Q => σZ[0]? = some (some (.ref f)) ∧ HZ c' = some (CodeO c' q) ∧ tl E HZ Q)) (tk : Takes (Z.tr pn xe) W) :
    PE (Z.tr pn xe) (.Call (.Name a p1) [] [] p2) (fun σZ HZ Q => ∃ Ech : XK, (∀ (cls : Value) (d : Option Addr) (σ' : L2.St) (H' : Hp), σ'.length = Z.N.length → Ech cls d H' → W cls d σ' H') ∧ σZ[0]? = some (some (.ref f)) ∧ HZ c' = some (CodeO c' q) ∧ tl Ech HZ Q) :=
  ⟨fun pins s σ H Q I ⟨Ech, hW, h1, h2, h3⟩ => (act _ pn xe Ech p1 p2 (takesLen tk) (fun cls d σ' H' e l => hW cls d σ' H' l e)).run pins s σ H Q I ⟨h1, h2, h3⟩⟩
/-! ### heaps but for the tables -/
theorem ExtN.gr {H H1 H2 : Hp} {p : Addr} (e : ExtN H H1) (g : Gr p H1 H2) (hp : H p = none) : ExtN H H2 := fun b o h n => g _ _ (ne_of_none h hp) (e b o h n)
theorem ExtN.same {H H1 H2 : Hp} (e : ExtN H H1) (s : Same H1 H2) : ExtN H H2 := fun b o h n => s _ _ (e b o h n)
theorem Tabs.keep {T : List (Addr × Str)} {H H' : Hp} (t : Tabs T H) (s : ∀ b o, H b = some o → (∀ xs, o ≠ .lst xs) → H' b = some o) : Tabs T H' := fun p hp => by
  obtain ⟨ps, h1, h2, h3⟩ := t p hp
  refine ⟨ps, s _ _ h1 (fun _ z => nomatch z), h2, fun pos cv hc => ?_⟩
  obtain ⟨c, e1, e2⟩ := h3 pos cv hc
  exact ⟨c, e1, s _ _ e2 fun xs z => by unfold CodeO at z; cases z⟩
/-- what is no list and no table stays -/
abbrev KeepN (H H' : Hp) : Prop := ∀ b o, H b = some o → (∀ xs, o ≠ .lst xs) → (∀ ps, o ≠ .tbl ps) → H' b = some o
mutual
theorem RuleAt.keepN {C : Addr} {H H' : Hp} (s : KeepN H H') : ∀ (r : RT) (a : Addr), RuleAt C H r a → RuleAt C H' r a
  | .base n, a, h => by
    obtain ⟨dx, t, f, b, h1, h2, h3, h4⟩ := h
    exact ⟨dx, t, f, b, s _ _ h1 (fun _ z => nomatch z) (fun _ z => nomatch z), s _ _ h2 (fun _ z => nomatch z) (fun _ z => nomatch z), s _ _ h3 (fun _ z => nomatch z) (fun _ z => nomatch z), s _ _ h4 (fun _ z => nomatch z) (fun _ z => nomatch z)⟩
  | .op w ps, a, h => by
    obtain ⟨dx, t, f, b, ls, ns, h1, h2, h3, h4, h5, h6⟩ := h
    exact ⟨dx, t, f, b, ls, ns, s _ _ h1 (fun _ z => nomatch z) (fun _ z => nomatch z), s _ _ h2 (fun _ z => nomatch z) (fun _ z => nomatch z), RulesAt.keepN s ps ls h3, s _ _ h4 (fun _ z => nomatch z) (fun _ z => nomatch z), s _ _ h5 (fun _ z => nomatch z) (fun _ z => nomatch z), h6⟩
theorem RulesAt.keepN {C : Addr} {H H' : Hp} (s : KeepN H H') : ∀ (ps : List RT) (ls : List Addr), RulesAt C H ps ls → RulesAt C H' ps ls
  | [], _, h => h
  | p :: ps, _, h => by
    obtain ⟨a, r, e, h1, h2⟩ := h
    exact ⟨a, r, e, RuleAt.keepN s p a h1, RulesAt.keepN s ps r h2⟩
end
theorem ExtN.keepN {H H' : Hp} (e : ExtN H H') : KeepN H H' := fun b o h _ n => e b o h n
/-- weaker facts suffice -/
theorem FnOk.weaken {P : Program} {w : World} {K : PySem.W.Frag} {mg : Str → Option Value} {base : Heap} {CX : CXT} {k : Nat} {f : Addr} {fd : FuncData} {ps : List Str} {sp sp' : Sp} (F : FnOk P w K mg base CX k f fd ps sp) (h : ∀ vs H Q E, sp' vs H Q E → sp vs H Q E) : FnOk P w K mg base CX k f fd ps sp' :=
  ⟨fun vs H Q E z => F.len vs H Q E (h _ _ _ _ z), fun A outer s H args us vs Q E hr e0 hb r z => F.run A outer s H args us vs Q E hr e0 hb r (h _ _ _ _ z)⟩
end PX
/-! A def with a star parameter, called by a local name. -/
namespace PX
open PySem PySem.Spec PyProof.Rows L2
def tCallLR (i : Nat) (f : Addr) (sp : Sp) (E : XK) (t : TA) : TE := fun σ H Q => σ[i]? = some (some (.ref f)) ∧ t σ H fun vs H1 => sp vs H1 Q E
section
variable {X : Cx} {CX : CXT} {k i : Nat} {f : Addr} {sp : Sp} {E : XK} {x : Str} {p pos : Pos} {e : Expr} {es : List Expr} {t : TA}
theorem pe_callLR (F : FnR X.prog X.w X.K X.mg X.base CX k f sp) (hr : Room k X.A) (hN : X.N[i]? = some x) (hv : Vis X.env.scope x) (hk : PySem.W.keepIn X.K (.ref f) = true) (hx : Passes CX X E) (ha : PA X (e :: es) t)
    (hdb : (x == ("__debug__" : Str)) = false := by decide) (hcd : (x == ("__classdict__" : Str)) = false := by decide)
    (he : starEach (e :: es) X.env = (false, eval e X.env) :: starEach es X.env := by rfl) (hpl : (backTo pos (starEach es X.env)).any (·.1) = false := by rfl) : PE X (.Call (.Name x p) (e :: es) [] pos) (tCallLR i f sp E t) := by
  refine ⟨fun pins s σ H Q I h => ?_⟩
  obtain ⟨hs, ht⟩ := h
  refine wpAny_Call_Name_kw (thn ((pe_var (pos := p) hN hv hdb hcd).run pins s σ H (fun v H1 => v = .ref f ∧ H1 = H) I ⟨.ref f, hs, rfl, rfl⟩) fun u s1 ⟨v, H1, I1, r1, q1⟩ => ?_)
  obtain ⟨rfl, rfl⟩ := q1
  cases r1
  refine PySem.W.callWith_K (h₀ := X.base) I.ok.mod.kin hk (thn (ha.run pos pins s1 σ _ _ I1 ht) fun us s2 ⟨vs, H2, I2, r, q⟩ => ⟨I2.kIn, ?_⟩) he hpl
  exact wpAny_call (run_fnR F hr hx I2 r q)
end
theorem u65 {k : Nat} {A : Around} (r : L2.Room k A) : A.units + 65 < cLine := by
  have := r.un
  omega
end PX
/-! == and != between an instance whose class has an own __eq__ and a value of a kind of Python's own. -/
namespace PX
open PySem PySem.Spec PyProof.Rows L2
open PySem.W (findIn isFn mroIn subIn)
/-- a value of a kind of Python's own, with the name of its type -/
inductive OddV (K : PySem.W.Frag) (H : Hp) : V → String → Prop where
  | non : OddV K H .non "NoneType"
  | bl (b : Bool) : OddV K H (.bl b) "bool"
  | int (i : Int) : OddV K H (.int i) "int"
  | str (x : Str) : OddV K H (.str x) "str"
  | lst {a : Addr} {xs : List V} (e : SqL K H a xs) : OddV K H (.ref a) "list"
  | tup {a : Addr} {xs : List V} (e : SqT K H a xs) : OddV K H (.ref a) "tuple"
section
variable {prog : Program} {w : World} {A : Around} {E : Value → Shared → Prop} {s : Shared} {Q : Value → Shared → Prop}
theorem oddDec_none {a : Addr} (h : Q .notImplemented s) : wpAny (model prog w) A (call (.builtin "NoneType.__eq__") [.none, .ref a]) Q E s := by
  refine GQ.call_here PySem.F.slot_NoneType_eq rfl PySem.F.entry_NoneType_eq (PySem.F.args_NoneType_eq_2 _ _) ?_
  obtain ⟨hp, g, d, tk, os⟩ := s
  wp_walk
  exact h
theorem oddDec_list {l : Addr} {b : Value} {dd : Option Addr} {items : Array Value} {n : Nat} {sl : Array (Option Value)} (hl : s.heap.get? l = some { cls := .type "list", dict := dd, data := .seq items n, slots := sl })
    (hb : PySem.W.Looks (model prog w) s.heap (isInstance b (.type "list")) false) (h : Q .notImplemented s) : wpAny (model prog w) A (call (.builtin "list.__eq__") [.ref l, b]) Q E s := by
  refine GQ.call_here PySem.F.slot_list_eq ⟨_, hl, rfl⟩ PySem.F.entry_list_eq (PySem.F.args_list_eq_2 _ _) ?_
  obtain ⟨hp, g, d, tk, os⟩ := s
  wp_walk using hb.here
  exact h
theorem oddDec_tuple {l : Addr} {b : Value} {dd : Option Addr} {items : Array Value} {n : Nat} {sl : Array (Option Value)} (hl : s.heap.get? l = some { cls := .type "tuple", dict := dd, data := .seq items n, slots := sl })
    (hb : PySem.W.Looks (model prog w) s.heap (isInstance b (.type "tuple")) false) (h : Q .notImplemented s) : wpAny (model prog w) A (call (.builtin "tuple.__eq__") [.ref l, b]) Q E s := by
  refine GQ.call_here PySem.F.slot_tuple_eq ⟨_, hl, rfl⟩ PySem.F.entry_tuple_eq (PySem.F.args_tuple_eq_2 _ _) ?_
  obtain ⟨hp, g, d, tk, os⟩ := s
  wp_walk using hb.here
  exact h
theorem oddDec_str {a C dx : Addr} {x : Str} {t : Tok} (ho : s.heap.get? a = some (PySem.W.instObj C dx)) (h : Q .notImplemented s) : wpAny (model prog w) A (call (.builtin "str.__eq__") [.str x t, .ref a]) Q E s := by
  refine GQ.call_here PySem.F.slot_str_eq rfl PySem.F.entry_str_eq (PySem.F.args_str_eq_2 _ _) ?_
  obtain ⟨hp, g, d, tk, os⟩ := s
  unfold PySem.W.instObj at ho
  wp_walk using wpAny_loadPart' ho
  exact h
theorem oddDec_int {a C dx : Addr} {i : Int} {t : Tok} (ho : s.heap.get? a = some (PySem.W.instObj C dx)) (h : Q .notImplemented s) : wpAny (model prog w) A (call (.builtin "int.__eq__") [.int i t, .ref a]) Q E s := by
  refine GQ.call_here PySem.F.slot_int_eq rfl PySem.F.entry_int_eq (PySem.F.args_int_eq_2 _ _) ?_
  obtain ⟨hp, g, d, tk, os⟩ := s
  unfold PySem.W.instObj at ho
  wp_walk using wpAny_loadPart' ho
  exact h
theorem oddDec_bool {a C dx : Addr} {b : Bool} (ho : s.heap.get? a = some (PySem.W.instObj C dx)) (h : Q .notImplemented s) : wpAny (model prog w) A (call (.builtin "int.__eq__") [.bool b, .ref a]) Q E s := by
  refine GQ.call_here PySem.F.slot_bool_eq rfl PySem.F.entry_int_eq (PySem.F.args_int_eq_2 _ _) ?_
  obtain ⟨hp, g, d, tk, os⟩ := s
  unfold PySem.W.instObj at ho
  wp_walk using wpAny_loadPart' ho
  exact h
end
/-- what the class is to the kinds of Python's own -/
structure OddC (K : PySem.W.Frag) (C : Addr) : Prop where
  s1 : subIn K (.ref C) (.type "NoneType") = some false
  s2 : subIn K (.ref C) (.type "bool") = some false
  s3 : subIn K (.ref C) (.type "int") = some false
  s4 : subIn K (.ref C) (.type "str") = some false
  s5 : subIn K (.ref C) (.type "list") = some false
  s6 : subIn K (.ref C) (.type "tuple") = some false
theorem OddC.sub {K : PySem.W.Frag} {C : Addr} {H : Hp} {v : V} {t : String} (h : OddC K C) (o : OddV K H v t) : subIn K (.ref C) (.type t) = some false := by
  cases o with
  | non => exact h.s1
  | bl _ => exact h.s2
  | int _ => exact h.s3
  | str _ => exact h.s4
  | lst _ => exact h.s5
  | tup _ => exact h.s6
theorem odd_first {K : PySem.W.Frag} {C : Addr} {H : Hp} {v : V} {t : String} (o : OddV K H v t) : PySem.W.notFirst K C (.type t) = true := by
  cases o <;> rfl
theorem OddV.tyx {K : PySem.W.Frag} {H : Hp} {v : V} {t : String} (o : OddV K H v t) : TyX K H v (.type t) := by
  cases o with
  | non => exact .base .non
  | bl _ => exact .base (.bl _)
  | int _ => exact .base (.int _)
  | str _ => exact .base (.str _)
  | lst e =>
    rcases e with (e | ⟨o, e⟩) | ⟨o, its, n, e, c, _⟩
    · exact .base (.lst e)
    · exact .base (.frz e)
    · exact .kList e c
  | tup e =>
    rcases e with (e | ⟨o, e⟩) | ⟨o, its, n, e, c, _⟩
    · exact .base (.tup e)
    · exact .fTuple e
    · exact .kTuple e c
section
variable {X : Cx} {pins : List (Addr × Obj)} {σ : L2.St} {H : Hp} {s : Shared}
theorem odd_looks {v : V} {u : Value} {t : String} (I : Inv X pins σ H s) (rx : RelV v u) (o : OddV X.K H v t) : PySem.W.Looks (model X.prog X.w) s.heap (typeOf u) (.type t) := by
  obtain ⟨P, Z, p, _⟩ := kit_of I rx o.tyx
  exact Z.ty _ _ I.kIn p
theorem odd_is {v : V} {u : Value} {t : String} (I : Inv X pins σ H s) (rx : RelV v u) (o : OddV X.K H v t) : s.TypeIs u t := by
  cases o with
  | non => cases (show u = Value.none from rx); rfl
  | bl y => cases (show u = Value.bool y from rx); rfl
  | int i => obtain ⟨t, q⟩ := (show ∃ t, u = Value.int i t from rx); cases q; rfl
  | str y => obtain ⟨t, q⟩ := (show ∃ t, u = Value.str y t from rx); cases q; rfl
  | @lst a xs e =>
    cases (show u = Value.ref a from rx)
    obtain ⟨its, r, ⟨o1, n, e1, c1, d1, dd⟩, hz⟩ := I.list e
    exact ⟨o1, e1, c1⟩
  | @tup a xs e =>
    cases (show u = Value.ref a from rx)
    obtain ⟨its, r, ⟨o1, e1, c1, _⟩, hz⟩ := I.tuple e
    exact ⟨o1, e1, c1⟩
/-- it leaves the comparison to the instance -/
theorem odd_declines {v : V} {u : Value} {t : String} {C a dx : Addr} {ox : Obj} {od : Option Obj} {A : Around} {E : Value → Shared → Prop} {Q : Option Value → Shared → Prop} (I : Inv X pins σ H s) (rx : RelV v u) (o : OddV X.K H v t) (hc : OddC X.K C)
    (ho : s.heap.get? a = some (PySem.W.instObj C dx)) (J : PySem.W.InstAt s.heap a ox C od) (h : Q none s) : wpAny (model X.prog X.w) A (tryCompare u "__eq__" (.ref a)) Q E s := by
  have hT := odd_is I rx o
  have isN : ∀ T : String, subIn X.K (.ref C) (.type T) = some false → PySem.W.Looks (model X.prog X.w) s.heap (isInstance (.ref a) (.type T)) false := fun T e => J.type.andThen (PySem.W.looks_subIn I.kIn e)
  cases o with
  | non =>
    cases (show u = Value.none from rx)
    exact wpAny_tryCompare_declines hT PySem.F.slot_NoneType_eq (oddDec_none ⟨rfl, h⟩)
  | bl y =>
    cases (show u = Value.bool y from rx)
    exact wpAny_tryCompare_declines hT PySem.F.slot_bool_eq (oddDec_bool ho ⟨rfl, h⟩)
  | int i =>
    obtain ⟨t, q⟩ := (show ∃ t, u = Value.int i t from rx)
    cases q
    exact wpAny_tryCompare_declines hT PySem.F.slot_int_eq (oddDec_int ho ⟨rfl, h⟩)
  | str y =>
    obtain ⟨t, q⟩ := (show ∃ t, u = Value.str y t from rx)
    cases q
    exact wpAny_tryCompare_declines hT PySem.F.slot_str_eq (oddDec_str ho ⟨rfl, h⟩)
  | @lst b xs e =>
    cases (show u = Value.ref b from rx)
    obtain ⟨its, r, ⟨⟨c1, d1, dat1, sl1⟩, n, e1, hc1, hd1, hdd⟩, hz⟩ := I.list e
    simp only at hc1 hd1 hdd
    subst hc1 hd1 hdd
    exact wpAny_tryCompare_declines hT PySem.F.slot_list_eq (oddDec_list e1 (isN _ hc.s5) ⟨rfl, h⟩)
  | @tup b xs e =>
    cases (show u = Value.ref b from rx)
    obtain ⟨its, r, ⟨⟨c1, d1, dat1, sl1⟩, e1, hc1, n, hdd⟩, hz⟩ := I.tuple e
    simp only at hc1 hdd
    subst hc1 hdd
    exact wpAny_tryCompare_declines hT PySem.F.slot_tuple_eq (oddDec_tuple e1 (isN _ hc.s6) ⟨rfl, h⟩)
end
section
variable {X : Cx} {CX : CXT} {k : Nat} {C f : Addr} {fd : FuncData} {ps : List Str} {sp : Sp} {E : XK}
/-- x == y, x an instance of the class, y of a kind of Python's own -/
def rEqO (K : PySem.W.Frag) (C : Addr) (sp : Sp) (E : XK) : R2 := fun x y H Q => ∃ (a dx : Addr) (fs : List (Str × V)) (t : String), x = .ref a ∧ H a = some (.ins C dx fs) ∧ OddV K H y t ∧ sp [.ref a, y] H (fun v H' => ∃ c : Bool, v = .bl c ∧ Q (.bl c) H') E
theorem op_eqO (M : OwnM X.K C "__eq__" f) (F : FnOk X.prog X.w X.K X.mg X.base CX k f fd ps sp) (hr : Room k X.A) (hb : Binds X.K fd ps []) (hx : Passes CX X.nox E) : OpR X (compareOp .Eq) (rEqO X.K C sp E) := by
  intro pins s σ H x y v u Q I rx ry h
  obtain ⟨a, dx, fs, t, rfl, ea, o, q⟩ := h
  cases rx
  obtain ⟨mA, O, _⟩ := ins_get I.hok ea
  obtain ⟨od, J, _⟩ := O.look
  obtain ⟨m, hF⟩ := I.fr
  refine PySem.W.cmp_K (op := .Eq) (tb := .type t) hr.units0 hF I.ok.mod.kin J (odd_looks I ry o) (odd_first o) M.at_ M.fn ?_
  refine wpAny_mono (own_run (vs := [.ref a, y]) hr I.env0 F hb hx I (.cons rfl (.cons ry .nil)) q) (fun z s' zz => ?_) fun _ _ zz => zz
  obtain ⟨w2, H', I', rw', c, ec, q'⟩ := zz
  subst ec
  cases rw'
  exact ⟨.bl c, H', I', rfl, q'⟩
/-- y == x, the other way round -/
def rEqOr (K : PySem.W.Frag) (C : Addr) (sp : Sp) (E : XK) : R2 := fun y x H Q => ∃ (a dx : Addr) (fs : List (Str × V)) (t : String), x = .ref a ∧ H a = some (.ins C dx fs) ∧ OddV K H y t ∧ sp [.ref a, y] H (fun v H' => ∃ c : Bool, v = .bl c ∧ Q (.bl c) H') E
theorem rich_odd {pins : List (Addr × Obj)} {s : Shared} {σ : L2.St} {H : Hp} {y : V} {v : Value} {t : String} {a dx : Addr} {fs : List (Str × V)} {Q : Value → Shared → Prop} (M : OwnM X.K C "__eq__" f) (hc : OddC X.K C) (hu : X.A.units < cLine) {A : Around} {E' : Value → Shared → Prop} (hA : A.units < cLine)
    (I : Inv X pins σ H s) (ry : RelV y v) (ea : H a = some (.ins C dx fs)) (o : OddV X.K H y t) (h : wpAny (model X.prog X.w) A (call (.ref f) [.ref a, v]) (fun z s' => ∃ c : Bool, z = .bool c ∧ Q (.bool c) s') E' s) :
    wpAny (model X.prog X.w) A (richCompare .Eq v (.ref a)) Q E' s := by
  obtain ⟨mA, O, _⟩ := ins_get I.hok ea
  obtain ⟨od, J, _⟩ := O.look
  have hT := odd_is I ry o
  have ho : s.heap.get? a = some (PySem.W.instObj C dx) := O.obj
  have one : wpAny (model X.prog X.w) A (tryCompare (.ref a) "__eq__" v) (fun r s' => ∃ c : Bool, r = some (.bool c) ∧ Q (.bool c) s') E' s := by
    unfold tryCompare
    refine wpAny_bind (PySem.W.ifBound_K I.kIn J M.at_ M.fn (wpAny_mono h (fun z s' hz => ?_) fun _ _ e => e))
    obtain ⟨c, rfl, q⟩ := hz
    exact wpAny_pure ⟨c, rfl, q⟩
  unfold richCompare
  rw [hT.oneThing_none]
  refine wpAny_holding ?_
  refine wpAny_bind (wpAny_cRoomFor hA ?_)
  refine wpAny_bind ((odd_looks I ry o).here ?_)
  refine wpAny_bind (J.type.here ?_)
  have ne : (Value.type t != Value.ref C) = true := rfl
  rw [ne]
  refine wpAny_bind ((PySem.W.looks_subIn I.kIn (hc.sub o)).here ?_)
  simp only [Bool.false_eq_true, if_false, Bool.not_false, if_true]
  refine wpAny_bind (odd_declines I ry o hc ho J ?_)
  refine wpAny_bind (wpAny_mono one (fun r s' z => ?_) fun _ _ e => e)
  obtain ⟨c, rfl, q⟩ := z
  exact wpAny_pure q
theorem op_eqOr (M : OwnM X.K C "__eq__" f) (hc : OddC X.K C) (F : FnOk X.prog X.w X.K X.mg X.base CX k f fd ps sp) (hr : Room k X.A) (hb : Binds X.K fd ps []) (hx : Passes CX X.nox E) : OpR X (compareOp .Eq) (rEqOr X.K C sp E) := by
  intro pins s σ H y x v u Q I ry rx h
  obtain ⟨a, dx, fs, t, rfl, ea, o, q⟩ := h
  cases rx
  refine rich_odd (s := s) (Q := EP X pins σ Q) M hc hr.units0 hr.units0 I ry ea o ?_
  refine wpAny_mono (own_run (vs := [.ref a, y]) hr I.env0 F hb hx I (.cons rfl (.cons ry .nil)) q) (fun z s' zz => ?_) fun _ _ zz => zz
  obtain ⟨w2, H', I', rw', c, ec, q'⟩ := zz
  subst ec
  cases rw'
  exact ⟨c, rfl, .bl c, H', I', rfl, q'⟩
/-- x != y, x an instance of the class, y of a kind of Python's own -/
def rNeO (K : PySem.W.Frag) (C : Addr) (sp : Sp) (E : XK) : R2 := fun x y H Q => ∃ (a dx : Addr) (fs : List (Str × V)) (t : String), x = .ref a ∧ H a = some (.ins C dx fs) ∧ OddV K H y t ∧ sp [.ref a, y] H (fun v H' => ∃ c : Bool, v = .bl c ∧ Q (.bl !c) H') E
theorem op_neO (M : OwnM X.K C "__eq__" f) (hne : findIn X.K (.ref C) "__ne__" = some (some (.builtin "object.__ne__"))) (hm : mroIn X.K C (.type "object") = some true)
    (F : FnOk X.prog X.w X.K X.mg X.base CX k f fd ps sp) (hr : Room (k + 1) X.A) (hb : Binds X.K fd ps []) (hx : Passes CX X.nox E) : OpR X (compareOp .NotEq) (rNeO X.K C sp E) := by
  intro pins s σ H x y v u Q I rx ry h
  obtain ⟨a, dx, fs, t, rfl, ea, o, q⟩ := h
  cases rx
  obtain ⟨mA, O, _⟩ := ins_get I.hok ea
  obtain ⟨od, J, _⟩ := O.look
  have X0 := I.kIn
  have isO : PySem.W.Looks (model X.prog X.w) s.heap (isInstance (.ref a) (.type "object")) true := J.type.andThen (PySem.W.looks_mroIn X0 hm)
  have body : wpAny (model X.prog X.w) X.A.in1 (Builtin.«object.__ne__» ⟨[.ref a, u], []⟩) (fun r s' => ∃ c : Bool, r = .done (.ret (.bool c)) ∧ EP X pins σ Q (.bool c) s') X.xe s := by
    refine ne_asks X0 J M.at_ M.fn (hr.in1).units0 ?_
    refine wpAny_mono (own_run (vs := [.ref a, y]) hr.in1 I.env0.in1 F hb hx I (.cons rfl (.cons ry .nil)) q) (fun z s' zz => ?_) fun _ _ zz => zz
    obtain ⟨w2, H', I', rw', c, ec, q'⟩ := zz
    subst ec
    cases rw'
    exact ⟨c, rfl, _, rfl, .bl !c, H', I', rfl, q'⟩
  have one : wpAny (model X.prog X.w) X.A (tryCompare (.ref a) "__ne__" u) (fun r s' => ∃ z, r = some z ∧ EP X pins σ Q z s') X.xe s := by
    unfold tryCompare
    refine wpAny_bind (special_B X0 J hne PySem.F.cmp_object.ne.bind (wpAny_call (codeAny_call_builtin PySem.F.cmp_object.ne.plain PySem.F.cmpEntry_ne ?_)))
    refine PySem.W.check_slot PySem.F.cmpKind_ne PySem.F.cmpSplit_ne isO (PySem.F.cmpArgs_ne _ _) ?_
    refine wpAny_mono body (fun r s' z => ?_) fun _ _ z => z
    obtain ⟨c, rfl, z⟩ := z
    first
      | exact ⟨_, rfl, z⟩
      | exact wpAny_pure ⟨_, rfl, z⟩
      | exact ⟨_, rfl, wpAny_pure ⟨_, rfl, z⟩⟩
      | exact ⟨_, rfl, wpAny_pure (wpAny_pure ⟨_, rfl, z⟩)⟩
  show wpAny _ _ (richCompare .NotEq (.ref a) u) _ _ s
  unfold richCompare
  rw [oneThing_ref]
  refine wpAny_holding ?_
  refine wpAny_bind (wpAny_cRoomFor hr.units0 ?_)
  refine wpAny_bind (J.type.here ?_)
  refine wpAny_bind ((odd_looks I ry o).here ?_)
  have ne : (Value.ref C != Value.type t) = true := rfl
  rw [ne]
  have sub : subIn X.K (.type t) (.ref C) = some false := by
    rcases Bool.or_eq_true_iff.mp (odd_first (C := C) o) with e | e
    · cases e
    · exact beq_iff_eq.mp e
  refine wpAny_bind ((PySem.W.looks_subIn X0 sub).here ?_)
  simp only [Bool.false_eq_true, if_false]
  refine wpAny_bind (wpAny_mono one (fun r s' z => ?_) fun _ _ z => z)
  obtain ⟨v, rfl, z⟩ := z
  exact wpAny_pure z
end
/-- either of two readings of an operator -/
theorem op_alt {X : Cx} {f : Value → Value → Sem Value} {r1 r2 : R2} (h1 : OpR X f r1) (h2 : OpR X f r2) : OpR X f (fun x y H Q => r1 x y H Q ∨ r2 x y H Q) := fun pins s σ H x y v u Q I rx ry h => h.elim (h1 pins s σ H x y v u Q I rx ry) (h2 pins s σ H x y v u Q I rx ry)
end PX
/-! x in l, where x is an instance whose class has an own __eq__. -/
namespace PX
open PySem PySem.Spec PyProof.Rows L2
open PySem.W (findIn isFn mroIn subIn)
open PySem.SeqAt PySem.MeetsSeq PySem.SeqRoads2
open PySem.AutoSeq1 (wpAny_loadPart')
section
variable {prog : Program} {w : World} {A : Around} {E : Value → Shared → Prop}
/-- what the loop asks at place i: the list, and its item compared -/
def StepJ (prog : Program) (w : World) (A : Around) (l : Addr) (N : Nat) (x : Value) (T : Shared → Prop) (Er : Value → Shared → Prop) (J : Nat → Shared → Prop) : Prop := ∀ i s, i ≤ N → J i s → ∃ (items : Array Value) (n : Nat) (dd : Option Addr) (sl : Array (Option Value)),
  s.heap.get? l = some { cls := .type "list", dict := dd, data := .seq items n, slots := sl } ∧ items.size = N ∧ ∀ h : i < items.size, wpAny (model prog w) A.in1 (eqBool items[i] x) (fun r s' => if r = true then T s' else J (i + 1) s') Er s
theorem contains_loopJ (l : Addr) (N : Nat) (x : Value) (R : Result → Shared → Prop) (J : Nat → Shared → Prop) (step : StepJ prog w A l N x (fun s' => R (.ok (.ret (.bool true))) s') (fun e s' => R (.error e) s') J)
    (out : ∀ s, J N s → R (.ok (.ret (.bool false))) s) (k : Nat) :
    ∀ (i : Nat) (s : Shared), N - i = k → i ≤ N → J i s → wpAny (model prog w) A.in1 (Builtin.«list.__contains__.loop» ⟨[.ref l, x, rawInt i], []⟩)
      (fun fin s' => match fin with | .done f => R (.ok f) s' | .again c' => c'.quiet = true ∧ codeAny (model prog w) A c' R s') (fun e s' => R (.error e) s') s := by
  induction k with
  | zero =>
    intro i s hk hi h
    obtain ⟨items, n, dd, sl, hl, hN, _⟩ := step i s hi h
    obtain rfl : i = items.size := by omega
    have ho := out s (hN ▸ h)
    obtain ⟨hp, g, d, tk, os⟩ := s
    wp_walk using wpAny_loadPart' hl
    have hn : items[((items.size : Nat) : Int).toNat]? = none := by simp
    rw [hn]
    wp_walk
    exact ho
  | succ k ih =>
    intro i s hk hi h
    obtain ⟨items, n, dd, sl, hl, hN, he⟩ := step i s hi h
    have hlt : i < items.size := by omega
    have he := he hlt
    obtain ⟨hp, g, d, tk, os⟩ := s
    wp_walk using wpAny_loadPart' hl
    have hs : items[((i : Nat) : Int).toNat]? = some items[i] := by simp [hlt]
    rw [hs]
    refine wpAny_bind (wpAny_mono he (fun r s' z => ?_) fun _ _ z => z)
    cases r with
    | true =>
      rw [if_pos rfl] at z
      wp_walk
      exact z
    | false =>
      rw [if_neg (by decide)] at z
      have hc : ((i : Int) + 1) = ((i + 1 : Nat) : Int) := by push_cast; rfl
      obtain ⟨hp, g, d, tk, os⟩ := s'
      wp_walk
      rw [hc]
      exact ⟨plainId_quiet plain_contains_loop _, codeAny_builtin entry_contains_loop (by
        rw [Around.under_plainId plain_contains_loop _]
        exact ih (i + 1) _ (by omega) (by omega) z)⟩
theorem list_containsJ (l : Addr) (N : Nat) (x : Value) (R : Result → Shared → Prop) (J : Nat → Shared → Prop) (step : StepJ prog w A l N x (fun s' => R (.ok (.ret (.bool true))) s') (fun e s' => R (.error e) s') J)
    (out : ∀ s, J N s → R (.ok (.ret (.bool false))) s) {s : Shared} (h : J 0 s) : wpAny (model prog w) A.in1 (Builtin.«list.__contains__» ⟨[.ref l, x], []⟩)
      (fun fin s' => match fin with | .done f => R (.ok f) s' | .again c' => c'.quiet = true ∧ codeAny (model prog w) A c' R s') (fun e s' => R (.error e) s') s := by
  obtain ⟨items, n, dd, sl, hl, _⟩ := step 0 s (Nat.zero_le _) h
  have go := contains_loopJ (A := A) l N x R J step out _ 0 s rfl (Nat.zero_le _) h
  obtain ⟨hp, g, d, tk, os⟩ := s
  wp_walk using wpAny_loadPart' hl
  exact ⟨plainId_quiet plain_contains_loop _, codeAny_builtin entry_contains_loop (by
    rw [Around.under_plainId plain_contains_loop _]
    exact go)⟩
theorem in_listJ (l : Addr) (N : Nat) (x : Value) (neg : Bool) {Q : Value → Shared → Prop} (J : Nat → Shared → Prop) (step : StepJ prog w A l N x (fun s' => Q (.bool (!neg)) s') E J)
    (out : ∀ s, J N s → Q (.bool neg) s) {s : Shared} (h : J 0 s) : wpAny (model prog w) A (compareOp (if neg then .NotIn else .In) x (.ref l)) Q E s := by
  obtain ⟨items, n, dd, sl, hl, _⟩ := step 0 s (Nat.zero_le _) h
  have hT : s.TypeIs (.ref l) "list" := ⟨_, hl, rfl⟩
  have go : wpAny (model prog w) A (call (.builtin "list.__contains__") [.ref l, x]) (fun v s' => ∃ b, v = .bool b ∧ Q (.bool (if neg then !b else b)) s') E s := by
    refine GQ.call_here F.slot_list_contains hT F.entry_list_contains (F.args_list_contains_2 _ _) ?_
    refine list_containsJ l N x (wants (fun v s' => ∃ b, v = .bool b ∧ Q (.bool (if neg then !b else b)) s') E) J (fun i s hi h => ?_) (fun s h => ?_) h
    · obtain ⟨items, n, dd, sl, hl, hN, he⟩ := step i s hi h
      refine ⟨items, n, dd, sl, hl, hN, fun hlt => ?_⟩
      refine wpAny_mono (he hlt) (fun r s' z => ?_) fun _ _ z => z
      cases r with
      | true =>
        rw [if_pos rfl] at z ⊢
        exact ⟨true, rfl, by cases neg <;> exact z⟩
      | false =>
        rw [if_neg (by decide)] at z ⊢
        exact z
    · exact ⟨false, rfl, by cases neg <;> exact out s h⟩
  cases neg with
  | true =>
    show wpAny _ A (do return .bool (!(← contains (.ref l) x))) Q E s
    refine wpAny_bind (wpAny_contains_slot hT F.slot_list_contains (wpAny_mono go (fun v s' hv => ?_) fun _ _ e => e))
    obtain ⟨b, rfl, hq⟩ := hv
    exact wpAny_truthy_bool (wpAny_pure hq)
  | false =>
    show wpAny _ A (do return .bool (← contains (.ref l) x)) Q E s
    refine wpAny_bind (wpAny_contains_slot hT F.slot_list_contains (wpAny_mono go (fun v s' hv => ?_) fun _ _ e => e))
    obtain ⟨b, rfl, hq⟩ := hv
    exact wpAny_truthy_bool (wpAny_pure hq)
end
/-- how two values are compared inside a builtin -/
def EqB (X : Cx) (req : R2) : Prop := ∀ (pins : List (Addr × Obj)) (s : Shared) (σ : L2.St) (H : Hp) (y x : V) (v u : Value) (Q : VK), Inv X pins σ H s → RelV y v → RelV x u → req y x H Q →
  wpAny (model X.prog X.w) X.A.in1 (eqBool v u) (fun b s' => ∃ H', Inv X pins σ H' s' ∧ Q (.bl b) H') X.xe s
/-- x in l, item by item -/
def inR (K : PySem.W.Frag) (p : Addr) (xs0 : List V) (req : R2) (x : V) : List V → Hp → (Bool → Hp → Prop) → Prop
  | [], H, Q => Q false H
  | y :: ys, H, Q => req y x H fun v H' => SqL K H' p xs0 ∧ ∃ b : Bool, v = .bl b ∧ if b = true then Q true H' else inR K p xs0 req x ys H' Q
def rInB (K : PySem.W.Frag) (req : R2) (neg : Bool) : R2 := fun x y H Q => ∃ (p : Addr) (xs : List V), y = .ref p ∧ SqL K H p xs ∧ inR K p xs req x xs H fun b H' => Q (.bl (if neg then !b else b)) H'
section
variable {X : Cx}
theorem op_inB {req : R2} (h : EqB X req) (neg : Bool) : OpR X (compareOp (if neg then .NotIn else .In)) (rInB X.K req neg) := by
  intro pins s σ H x y v u Q I rx ry hq
  obtain ⟨p, xs, rfl, hp, q⟩ := hq
  cases ry
  refine in_listJ p xs.length v neg (J := fun i s' => ∃ H', Inv X pins σ H' s' ∧ SqL X.K H' p xs ∧ inR X.K p xs req x (xs.drop i) H' fun b H' => Q (.bl (if neg then !b else b)) H') (fun i s' hi ⟨H', I', hp', q'⟩ => ?_) (fun s' ⟨H', I', _, q'⟩ => ?_) ⟨H, I, hp, q⟩
  · obtain ⟨its, rv, ⟨⟨c0, d0, dat0, sl0⟩, n0, e0, hc0, hd0, hdd0⟩, hz⟩ := I'.list hp'
    simp only at hc0 hd0 hdd0
    subst hc0 hd0 hdd0
    have hlen := rv.length
    refine ⟨its.toArray, n0, none, sl0, e0, by rw [List.size_toArray, hlen], fun hlt => ?_⟩
    have hlt1 : i < its.length := by simpa using hlt
    have hlt2 : i < xs.length := by omega
    rw [List.drop_eq_getElem_cons hlt2] at q'
    have rel : RelV xs[i] its[i] := by
      obtain ⟨u', e', r'⟩ := rv.get (List.getElem?_eq_getElem hlt2)
      rw [List.getElem?_eq_getElem hlt1] at e'
      cases e'
      exact r'
    refine wpAny_mono (h pins s' σ H' xs[i] x its.toArray[i] v _ I' (by simpa using rel) rx q') (fun r s2 z => ?_) fun _ _ z => z
    obtain ⟨H2, I2, hp2, b, eb, z⟩ := z
    cases eb
    cases r with
    | true =>
      rw [if_pos rfl] at z ⊢
      exact ⟨.bl !neg, H2, I2, rfl, by cases neg <;> exact z⟩
    | false =>
      rw [if_neg (by decide)] at z ⊢
      exact ⟨H2, I2, hp2, z⟩
  · rw [List.drop_length] at q'
    exact ⟨.bl neg, H', I', rfl, by cases neg <;> exact q'⟩
end
section
variable {X : Cx} {CX : CXT} {k : Nat} {C f : Addr} {fd : FuncData} {ps : List Str} {sp : Sp} {E : XK}
/-- inside a builtin: y == x, x an instance of the class, y another one or a value of a kind of Python's own -/
def rEqB (K : PySem.W.Frag) (C : Addr) (sp : Sp) (E : XK) : R2 := fun y x H Q => ∃ (b dy : Addr) (gs : List (Str × V)), x = .ref b ∧ H b = some (.ins C dy gs) ∧
  ((∃ (a dx : Addr) (fs : List (Str × V)), y = .ref a ∧ H a = some (.ins C dx fs) ∧ (a = b → Q (.bl true) H) ∧ (a ≠ b → sp [.ref a, .ref b] H (fun v H' => ∃ c : Bool, v = .bl c ∧ Q (.bl c) H') E)) ∨
    ∃ t : String, OddV K H y t ∧ sp [.ref b, y] H (fun v H' => ∃ c : Bool, v = .bl c ∧ Q (.bl c) H') E)
theorem eqBool_rich {prog : Program} {w : World} {A : Around} {Er : Value → Shared → Prop} {s : Shared} {v u : Value} {Q : Bool → Shared → Prop} (hne : (v == u) = false) (hf : ∀ x t, u ≠ .float x t)
    (h : wpAny (model prog w) A (richCompare .Eq v u) (fun z s' => ∃ r, z = .bool r ∧ Q r s') Er s) : wpAny (model prog w) A (eqBool v u) Q Er s := by
  unfold eqBool
  refine wpAny_holding ?_
  rw [hne]
  simp only [Bool.false_eq_true, if_false]
  have last : wpAny (model prog w) A (do truthOfDropped (← richCompare .Eq v u)) Q Er s := by
    refine wpAny_bind (wpAny_mono h (fun z s' hz => ?_) fun _ _ x => x)
    obtain ⟨r, rfl, q⟩ := hz
    exact wpAny_truthy_bool q
  cases v <;> cases u <;> first | exact last | exact absurd rfl (hf _ _)
theorem eqB_own (M : OwnM X.K C "__eq__" f) (hc : OddC X.K C) (F : FnOk X.prog X.w X.K X.mg X.base CX k f fd ps sp) (hr : Room (k + 1) X.A) (hb : Binds X.K fd ps []) (hx : Passes CX X.nox E) : EqB X (rEqB X.K C sp E) := by
  intro pins s σ H y x v u Q I ry rx h
  obtain ⟨b, dy, gs, rfl, eb, h⟩ := h
  cases rx
  rcases h with ⟨a, dx, fs, rfl, ea, same, other⟩ | ⟨t, o, q⟩
  · cases ry
    by_cases e : a = b
    · subst e
      unfold eqBool
      refine wpAny_holding ?_
      rw [show (Value.ref a == Value.ref a) = true from beq_self_eq_true _]
      simp only [if_true]
      first
        | exact wpAny_bind (wpAny_rule (wpAny_pure ⟨H, I, same rfl⟩))
        | exact wpAny_rule (wpAny_pure ⟨H, I, same rfl⟩)
    · refine GQ.eqBool_refG e ?_
      obtain ⟨mA, O, _⟩ := ins_get I.hok ea
      obtain ⟨od, J, _⟩ := O.look
      obtain ⟨mB, O2, _⟩ := ins_get I.hok eb
      obtain ⟨od2, J2, _⟩ := O2.look
      obtain ⟨m, hF⟩ := I.fr
      refine PySem.W.cmp_K (op := .Eq) (tb := .ref C) hr.in1.units0 hF I.ok.mod.kin J J2.type (by simp [PySem.W.notFirst]) M.at_ M.fn ?_
      refine wpAny_mono (own_run (vs := [.ref a, .ref b]) hr.in1 I.env0.in1 F hb hx I (.cons rfl (.cons rfl .nil)) (other e)) (fun z s' zz => ?_) fun _ _ zz => zz
      obtain ⟨w2, H', I', rw', c, ec, q'⟩ := zz
      subst ec
      cases rw'
      exact ⟨c, rfl, H', I', q'⟩
  · have hT := odd_is I ry o
    refine eqBool_rich ?_ (fun _ _ z => nomatch z) ?_
    · cases o with
      | non => cases (show v = Value.none from ry); rfl
      | bl y => cases (show v = Value.bool y from ry); rfl
      | int i => obtain ⟨t, q⟩ := (show ∃ t, v = Value.int i t from ry); cases q; rfl
      | str y => obtain ⟨t, q⟩ := (show ∃ t, v = Value.str y t from ry); cases q; rfl
      | @lst a xs e =>
        cases (show v = Value.ref a from ry)
        obtain ⟨mB, O2, _⟩ := ins_get I.hok eb
        obtain ⟨o1, e1, c1⟩ := hT
        refine beq_eq_false_iff_ne.mpr fun z => ?_
        cases z
        rw [O2.obj] at e1
        cases e1
        cases c1
      | @tup a xs e =>
        cases (show v = Value.ref a from ry)
        obtain ⟨mB, O2, _⟩ := ins_get I.hok eb
        obtain ⟨o1, e1, c1⟩ := hT
        refine beq_eq_false_iff_ne.mpr fun z => ?_
        cases z
        rw [O2.obj] at e1
        cases e1
        cases c1
    · refine rich_odd (Q := fun z s' => ∃ r, z = .bool r ∧ ∃ H', Inv X pins σ H' s' ∧ Q (.bl r) H') M hc hr.units0 hr.in1.units0 I ry eb o ?_
      refine wpAny_mono (own_run (vs := [.ref b, y]) hr.in1 I.env0.in1 F hb hx I (.cons rfl (.cons ry .nil)) q) (fun z s' zz => ?_) fun _ _ zz => zz
      obtain ⟨w2, H', I', rw', c, ec, q'⟩ := zz
      subst ec
      cases rw'
      exact ⟨c, rfl, c, rfl, H', I', q'⟩
end
end PX
/-! Own operators: x | y and its like, ~x, y in x; x in a tuple. -/
namespace PX
open PySem PySem.Spec PyProof.Rows L2
open PySem.W (findIn isFn mroIn subIn)
open PySem.SeqAt PySem.MeetsSeq PySem.SeqRoads2
section
variable {X : Cx} {CX : CXT} {k : Nat} {C f : Addr} {fd : FuncData} {ps : List Str} {sp : Sp} {E : XK}
/-- x op y of two instances of the class -/
def rBin (C : Addr) (sp : Sp) (E : XK) : R2 := fun x y H Q => ∃ (a b dx dy : Addr) (fs gs : List (Str × V)), x = .ref a ∧ y = .ref b ∧ H a = some (.ins C dx fs) ∧ H b = some (.ins C dy gs) ∧ sp [.ref a, .ref b] H (fun v H' => ∃ c : Addr, v = .ref c ∧ Q (.ref c) H') E
theorem op_bin {op : Operator} (M : OwnM X.K C (PySem.dunder op.info.2) f) (hc : PySem.W.selfFirst X.K C = true) (F : FnOk X.prog X.w X.K X.mg X.base CX k f fd ps sp) (hr : Room k X.A) (hb : Binds X.K fd ps []) (hx : Passes CX X E) : OpR X (binaryOp op) (rBin C sp E) := by
  intro pins s σ H x y v u Q I rx ry h
  obtain ⟨a, b, dx, dy, fs, gs, rfl, rfl, ea, eb, q⟩ := h
  cases rx
  cases ry
  obtain ⟨mA, O, _⟩ := ins_get I.hok ea
  obtain ⟨od, J, _⟩ := O.look
  obtain ⟨mB, O2, _⟩ := ins_get I.hok eb
  obtain ⟨od2, J2, _⟩ := O2.look
  obtain ⟨m, hF⟩ := I.fr
  refine PySem.W.binop_K hF I.ok.mod.kin J J2.type hc M.at_ M.fn ?_
  refine wpAny_mono (run_fn (vs := [.ref a, .ref b]) F hr hb .nil hx I (.cons rfl (.cons rfl .nil)) q) (fun z s' zz => ?_) fun _ _ zz => zz
  obtain ⟨w2, H', I', rw', c, ec, q'⟩ := zz
  subst ec
  cases rw'
  exact ⟨.ref c, H', I', rfl, q'⟩
theorem op_orC (M : OwnM X.K C "__or__" f) (hc : PySem.W.selfFirst X.K C = true) (F : FnOk X.prog X.w X.K X.mg X.base CX k f fd ps sp) (hr : Room k X.A) (hb : Binds X.K fd ps []) (hx : Passes CX X E) : OpR X (binaryOp .BitOr) (rBin C sp E) := op_bin (show OwnM X.K C (PySem.dunder (Operator.info .BitOr).2) f from (show PySem.dunder (Operator.info .BitOr).2 = ("__or__" : Str) by decide +kernel) ▸ M) hc F hr hb hx
theorem op_subC (M : OwnM X.K C "__sub__" f) (hc : PySem.W.selfFirst X.K C = true) (F : FnOk X.prog X.w X.K X.mg X.base CX k f fd ps sp) (hr : Room k X.A) (hb : Binds X.K fd ps []) (hx : Passes CX X E) : OpR X (binaryOp .Sub) (rBin C sp E) := op_bin (show OwnM X.K C (PySem.dunder (Operator.info .Sub).2) f from (show PySem.dunder (Operator.info .Sub).2 = ("__sub__" : Str) by decide +kernel) ▸ M) hc F hr hb hx
theorem op_andC (M : OwnM X.K C "__and__" f) (hc : PySem.W.selfFirst X.K C = true) (F : FnOk X.prog X.w X.K X.mg X.base CX k f fd ps sp) (hr : Room k X.A) (hb : Binds X.K fd ps []) (hx : Passes CX X E) : OpR X (binaryOp .BitAnd) (rBin C sp E) := op_bin (show OwnM X.K C (PySem.dunder (Operator.info .BitAnd).2) f from (show PySem.dunder (Operator.info .BitAnd).2 = ("__and__" : Str) by decide +kernel) ▸ M) hc F hr hb hx
/-- ~x -/
def rInv (C : Addr) (sp : Sp) (E : XK) : V → Hp → VK → Prop := fun x H Q => ∃ (a dx : Addr) (fs : List (Str × V)), x = .ref a ∧ H a = some (.ins C dx fs) ∧ sp [.ref a] H Q E
theorem un_own (M : OwnM X.K C "__invert__" f) (F : FnOk X.prog X.w X.K X.mg X.base CX k f fd ps sp) (hr : Room k X.A) (hb : Binds X.K fd ps []) (hx : Passes CX X E) : UnR X (unaryOp .Invert) (rInv C sp E) := by
  intro pins s σ H x v Q I rx h
  obtain ⟨a, dx, fs, rfl, ea, q⟩ := h
  cases rx
  obtain ⟨mA, O, _⟩ := ins_get I.hok ea
  obtain ⟨od, J, _⟩ := O.look
  obtain ⟨m, hF⟩ := I.fr
  exact PySem.W.ksp_inv hF I.ok.mod.kin J M.at_ M.fn (run_fn (vs := [.ref a]) F hr hb .nil hx I (.cons rfl .nil) q)
/-- y in x, x an instance of the class -/
def rInC (C : Addr) (neg : Bool) (sp : Sp) (E : XK) : R2 := fun y x H Q => ∃ (a dx : Addr) (fs : List (Str × V)), x = .ref a ∧ H a = some (.ins C dx fs) ∧ sp [.ref a, y] H (fun v H' => ∃ c : Bool, v = .bl c ∧ Q (.bl (if neg then !c else c)) H') E
theorem op_inC (neg : Bool) (M : OwnM X.K C "__contains__" f) (F : FnOk X.prog X.w X.K X.mg X.base CX k f fd ps sp) (hr : Room k X.A) (hb : Binds X.K fd ps []) (hx : Passes CX X E) : OpR X (compareOp (if neg then .NotIn else .In)) (rInC C neg sp E) := by
  intro pins s σ H y x u v Q I ry rx h
  obtain ⟨a, dx, fs, rfl, ea, q⟩ := h
  cases rx
  obtain ⟨mA, O, _⟩ := ins_get I.hok ea
  obtain ⟨od, J, _⟩ := O.look
  obtain ⟨m, hF⟩ := I.fr
  have go := run_fn (vs := [.ref a, y]) F hr hb .nil hx I (.cons rfl (.cons ry .nil)) q
  cases neg with
  | true =>
    refine PySem.W.notIn_K hF I.ok.mod.kin J M.at_ M.fn (wpAny_mono go (fun z s' zz => ?_) fun _ _ zz => zz)
    obtain ⟨w2, H', I', rw', c, ec, q'⟩ := zz
    subst ec
    cases rw'
    exact wpAny_truthy_bool ⟨.bl !c, H', I', rfl, q'⟩
  | false =>
    refine PySem.W.in_K hF I.ok.mod.kin J M.at_ M.fn (wpAny_mono go (fun z s' zz => ?_) fun _ _ zz => zz)
    obtain ⟨w2, H', I', rw', c, ec, q'⟩ := zz
    subst ec
    cases rw'
    exact wpAny_truthy_bool ⟨.bl c, H', I', rfl, q'⟩
/-- x in t, data in a tuple of data -/
def rInDT (K : PySem.W.Frag) : R2 := fun x y H Q => ∃ d ds, Dp K H x d ∧ Dp K H y (.tuple ds) ∧ SeqAt.shaped d = true ∧ SeqAt.shaped (.tuple ds) = true ∧ Q (.bl (ds.any fun z => PyData.eqv z d)) H
theorem op_inDT (hu : X.A.units + 65 < cLine) : OpR X (compareOp .In) (rInDT X.K) := by
  intro pins s σ H x y v u Q I rx ry h
  obtain ⟨d, ds, hd, he, sd, se, q⟩ := h
  obtain ⟨as, r1⟩ := Dp.reads I d x v hd rx
  obtain ⟨bs, r2⟩ := Dp.reads I (.tuple ds) y u he ry
  exact SeqAt.in_tuple_reads r2 r1 (SeqAt.canLay_of_shaped se) (SeqAt.canLay_of_shaped sd) (room_in_shaped sd hu) ⟨.bl _, H, I, rfl, q⟩
end
section
variable {prog : Program} {w : World} {A : Around} {E : Value → Shared → Prop}
theorem tuple_containsJ (l : Addr) (its : Array Value) (n : Nat) (dd : Option Addr) (sl : Array (Option Value)) (x : Value) (R : Result → Shared → Prop) (J : Nat → Shared → Prop)
    (each : ∀ i (h : i < its.size) s, J i s → wpAny (model prog w) A.in1 (eqBool its[i] x) (fun r s' => if r = true then R (.ok (.ret (.bool true))) s' else J (i + 1) s') (fun e s' => R (.error e) s') s)
    (out : ∀ s, J its.size s → R (.ok (.ret (.bool false))) s) {s : Shared} (at_ : s.heap.get? l = some { cls := .type "tuple", dict := dd, data := .seq its n, slots := sl }) (j0 : J 0 s) :
    wpAny (model prog w) A.in1 (Builtin.«tuple.__contains__» ⟨[.ref l, x], []⟩) (GQ.FinOf prog w A R) (fun e s' => R (.error e) s') s := by
  have len : its.toList.length = its.size := by simp
  have keep0 := j0
  obtain ⟨hp, g, d, tk, os⟩ := s
  wp_walk using AutoSeq1.wpAny_loadPart' at_, MeetsSeq2.wpAny_forIn_array _ (fun left acc s' => acc.1 = none ∧ ∃ i, left = its.toList.drop i ∧ i ≤ its.size ∧ J i s') _
  case turn =>
    rintro y left acc s' ⟨hacc, i, cut, hi, hJ⟩
    have inside : i < its.toList.length := by
      rcases Nat.lt_or_ge i its.toList.length with q | q
      · exact q
      · rw [List.drop_of_length_le q] at cut; cases cut
    have i1 : i < its.size := len ▸ inside
    rw [List.drop_eq_getElem_cons inside] at cut
    injection cut with hd tail
    have ey : y = its[i] := by simpa using hd
    subst ey
    refine wpAny_bind (wpAny_mono (each i i1 s' hJ) (fun r s2 z => ?_) fun _ _ z => z)
    cases r with
    | true =>
      rw [if_pos rfl] at z
      wp_walk
      exact z
    | false =>
      rw [if_neg (by decide)] at z
      wp_walk
      exact ⟨rfl, i + 1, tail, i1, z⟩
  case fin =>
    rintro ⟨b1, b2⟩ s' ⟨hacc, i, cut, hi, hJ⟩
    simp only at hacc
    subst hacc
    have over : its.size ≤ i := by
      rcases Nat.lt_or_ge i its.toList.length with q | q
      · rw [List.drop_eq_getElem_cons q] at cut; cases cut
      · exact len ▸ q
    have ei : i = its.size := by omega
    have done := out s' (ei ▸ hJ)
    wp_walk
    exact done
  case h =>
    exact ⟨rfl, 0, rfl, Nat.zero_le _, keep0⟩
theorem in_tupleJ (l : Addr) (its : Array Value) (x : Value) {Q : Value → Shared → Prop} (J : Nat → Shared → Prop)
    (each : ∀ i (h : i < its.size) s, J i s → wpAny (model prog w) A.in1 (eqBool its[i] x) (fun r s' => if r = true then Q (.bool true) s' else J (i + 1) s') E s)
    (out : ∀ s, J its.size s → Q (.bool false) s) {s : Shared} (at_ : IsTup s.heap l its) (h : J 0 s) : wpAny (model prog w) A (compareOp .In x (.ref l)) Q E s := by
  obtain ⟨⟨cls, dd, data, sl⟩, ho, hc, n, hd⟩ := id at_
  simp only at hc hd
  subst hc hd
  have hT : s.TypeIs (.ref l) "tuple" := ⟨_, ho, rfl⟩
  have go : wpAny (model prog w) A (call (.builtin "tuple.__contains__") [.ref l, x]) (fun v s' => ∃ b, v = .bool b ∧ Q (.bool b) s') E s := by
    refine GQ.call_here F.slot_tuple_contains hT F.entry_tuple_contains (F.args_tuple_contains_2 _ _) ?_
    refine tuple_containsJ l its n dd sl x (wants (fun v s' => ∃ b, v = .bool b ∧ Q (.bool b) s') E) J (fun i hi s h => ?_) (fun s h => ⟨false, rfl, out s h⟩) ho h
    refine wpAny_mono (each i hi s h) (fun r s' z => ?_) fun _ _ z => z
    cases r with
    | true =>
      rw [if_pos rfl] at z ⊢
      exact ⟨true, rfl, z⟩
    | false =>
      rw [if_neg (by decide)] at z ⊢
      exact z
  show wpAny _ A (do return .bool (← contains (.ref l) x)) Q E s
  refine wpAny_bind (wpAny_contains_slot hT F.slot_tuple_contains (wpAny_mono go (fun v s' hv => ?_) fun _ _ e => e))
  obtain ⟨b, rfl, hq⟩ := hv
  exact wpAny_truthy_bool (wpAny_pure hq)
end
/-- x in t, item by item -/
def inRT (req : R2) (x : V) : List V → Hp → (Bool → Hp → Prop) → Prop
  | [], H, Q => Q false H
  | y :: ys, H, Q => req y x H fun v H' => ∃ b : Bool, v = .bl b ∧ if b = true then Q true H' else inRT req x ys H' Q
def rInBT (K : PySem.W.Frag) (req : R2) : R2 := fun x y H Q => ∃ (p : Addr) (xs : List V), y = .ref p ∧ SqT K H p xs ∧ inRT req x xs H fun b H' => Q (.bl b) H'
theorem op_inBT {X : Cx} {req : R2} (h : EqB X req) : OpR X (compareOp .In) (rInBT X.K req) := by
  intro pins s σ H x y v u Q I rx ry hq
  obtain ⟨p, xs, rfl, hp, q⟩ := hq
  cases ry
  obtain ⟨its, rv, pl, hz⟩ := I.tuple hp
  have hlen := rv.length
  refine in_tupleJ p its.toArray v (J := fun i s' => ∃ H', Inv X pins σ H' s' ∧ inRT req x (xs.drop i) H' fun b H' => Q (.bl b) H') (fun i hi s' ⟨H', I', q'⟩ => ?_) (fun s' ⟨H', I', q'⟩ => ?_) pl ⟨H, I, q⟩
  · have hlt1 : i < its.length := by simpa using hi
    have hlt2 : i < xs.length := by omega
    rw [List.drop_eq_getElem_cons hlt2] at q'
    have rel : RelV xs[i] its[i] := by
      obtain ⟨u', e', r'⟩ := rv.get (List.getElem?_eq_getElem hlt2)
      rw [List.getElem?_eq_getElem hlt1] at e'
      cases e'
      exact r'
    refine wpAny_mono (h pins s' σ H' xs[i] x its.toArray[i] v _ I' (by simpa using rel) rx q') (fun r s2 z => ?_) fun _ _ z => z
    obtain ⟨H2, I2, b, eb, z⟩ := z
    cases eb
    cases r with
    | true =>
      rw [if_pos rfl] at z ⊢
      exact ⟨.bl true, H2, I2, rfl, z⟩
    | false =>
      rw [if_neg (by decide)] at z ⊢
      exact ⟨H2, I2, z⟩
  · rw [List.size_toArray, ← hlen, List.drop_length] at q'
    exact ⟨.bl false, H', I', rfl, q'⟩
end PX
/-! try with several clauses 'except C as e'; isinstance(e, ..) of a caught exception with fields; C.m(..) in a try. -/
namespace PX
open PySem PySem.Spec PyProof.Rows L2
/-- what the clauses wish of an exception of the body, one after the other -/
def wManyAs (K : PySem.W.Frag) (Wout : WX) (D : Ends) : List (Value × Nat × (Addr → Value → Option Addr → TS)) → WX
  | [] => Wout
  | (c, i, ts) :: r => fun cls d σ H => ∃ b, PySem.W.exmOne K cls c = some b ∧
      (b = true → ∀ a, H a = none → ts a cls d { nx := fun σ' H' => D.nx (σ'.set i none) H', rt := D.rt, bk := fun σ' H' => D.bk (σ'.set i none) H', ct := fun σ' H' => D.ct (σ'.set i none) H' } (σ.set i (some (.ref a))) H) ∧
      (b = false → wManyAs K Wout D r cls d σ H)
inductive HdsAs (X : Cx) : List ExceptHandler → List (Value × Nat × (Addr → Value → Option Addr → TS)) → Prop
  | nil : HdsAs X [] []
  | cons {x n : Str} {c : Value} {i : Nat} {ts : Addr → Value → Option Addr → TS} {b₀ : Stmt} {suite : List Stmt} {np pos' : Pos} {hds : List ExceptHandler} {l : List (Value × Nat × (Addr → Value → Option Addr → TS))} (hi : X.N[i]? = some n) (hln : X.env.kindOf n = some .local) (hc : Names X x c)
      (hsu : ∀ (a : Addr) (oe : Obj) (cls : Value) (d : Option Addr) (pn : List (Addr × Obj)), Zc cls d oe → (∃ vs, oe.data = .fields vs) → PSs (X.suite a ((a, oe) :: pn)) (b₀ :: suite) (ts a cls d)) (r : HdsAs X hds l) :
      HdsAs X (.ExceptHandler (some (.Name x np)) (some n) (b₀ :: suite) pos' :: hds) ((c, i, ts) :: l)
section
variable {X : Cx} {body : List Stmt} {h₀ : ExceptHandler} {hds : List ExceptHandler} {l : List (Value × Nat × (Addr → Value → Option Addr → TS))} {pos : Pos} {tb : WX → TS} {Wout : WX}
theorem ps_try_asM (hs : X.stack = X.env :: X.outer) (hf : X.env.frame = some X.env.locals) (hN : X.N.Nodup) (tk : Takes X Wout)
    (hb : ∀ (W : WX) (pn : List (Addr × Obj)) (xe : Value → Shared → Prop), Takes (X.tr pn xe) W → PassesOwn (model X.prog X.w) X.A X.env xe → PSs (X.tr pn xe) body (tb W))
    (hh : HdsAs X (h₀ :: hds) l) : PS X (.Try body (h₀ :: hds) [] [] pos) (fun D σ H => tb (wManyAs X.K Wout D l) D σ H) := by
  refine ⟨fun pins s σ H D I h => ?_⟩
  have ok := I.ok
  have hfr : X.A.frames = some (X.env :: X.outer) := by rw [ok.frames, hs]
  refine wpAny_Try_except ?_
  refine wpAny_mono ((hb (wManyAs X.K Wout D l) (X.pn ++ pins) (fun e s₁ => wpAny (model X.prog X.w) X.A (noteFrame e X.env) (fun _ s₂ => wpAny (model X.prog X.w) X.A (setFlight e none) (fun _ s₃ =>
    wpAny (model X.prog X.w) X.A (handleBy e X.env (h₀ :: hds)) (SP X pins D) X.xe s₃) X.xe s₂) X.xe s₁) (fun u s' xx => ?_) PassesOwn.looking).run [] s σ H D (I.toTry _) h) (fun f s1 hsp => ?_) (fun e s1 he => he)
  · -- the catch
    obtain ⟨a, B, sI, pins', σ', H', cls, d, rfl, J', nb, up, sky, na, os, ag, w⟩ := xx
    have J : Inv X pins σ' H' sI := J'.ofTry ok
    have sky' : Sky B (X.env :: X.outer) a (Zc cls d) X.env.locals s'.heap := by rw [← hs]; exact sky
    show wpAny (model X.prog X.w) X.A (noteFrame (.ref a) X.env) _ _ _
    refine Sky.land Zc.steady hfr hf sky' fun h3 fl3 up3 => ?_
    have J3 : Inv X pins σ' H' { s' with heap := h3 } := J.landed nb fl3.1 (up.trans up3) os ag
    obtain ⟨oe3, vs3, he3, hz3, hd3⟩ := fl3.there
    have notFr : ∀ {h : Heap} {o : Obj} {vs : Array Value}, h.FunFrames B (X.env :: X.outer) → h.get? a = some o → o.data = .fields vs → a ∉ frs (X.env :: X.outer) := fun {h o vs} ff e dd hm => by
      obtain ⟨_, o', e', hnf⟩ := ff.mem hm
      rw [e] at e'; cases e'
      exact hnf _ dd
    have nfr := notFr fl3.2.2.1 he3 hd3
    have nL : a ≠ X.env.locals := fun z => nfr (List.mem_filterMap.mpr ⟨X.env, List.mem_cons_self, by rw [hf, z]⟩)
    have nF : a ∉ X.fs := fun hm => by
      obtain ⟨e, he, q⟩ := List.mem_filterMap.mp hm
      exact nfr (List.mem_filterMap.mpr ⟨e, List.mem_cons_of_mem _ he, q⟩)
    have S3 := J3.suite he3 hd3 na nL nF
    have go : ∀ {hds' : List ExceptHandler} {l' : List (Value × Nat × (Addr → Value → Option Addr → TS))}, HdsAs X hds' l' → wManyAs X.K Wout D l' cls d σ' H' →
        wpAny (model X.prog X.w) X.A (handleBy (.ref a) X.env hds') (SP X pins D) X.xe { s' with heap := h3 } := by
      intro hds' l' hk
      induction hk with
      | nil =>
        intro w
        refine wpAny_handleBy_nil ?_
        obtain ⟨k1, k2, k3, oe, vs, T, oT, ts', he, hz, hd, h1, hr⟩ := id fl3
        unfold PySem.passOn
        refine wpAny_bind (wpAny_field he hd h1 ?_)
        rw [if_neg (show ¬ ((Value.ref T == Value.none) = true) from by simp)]
        have fin : wpAny (model X.prog X.w) X.A (setFlight (.ref a) X.env.frame) (fun _ s4 => wpAny (model X.prog X.w) X.A (throw (.ref a) : Sem Flow) (SP X pins D) X.xe s4) X.xe { s' with heap := h3 } := by
          rw [hf]
          refine HandSPX.setFlight_upZ fl3 fun h4 hh4 up4 => wpAny_throw (tk _ _ ?_)
          exact ⟨a, B, sI, pins, σ', H', cls, d, rfl, J, nb, (up.trans up3).trans up4, .inr (.inr (by rw [hs]; exact hh4)), na, os, ag, w⟩
        first
          | exact wpAny_bind (wpAny_pure (wpAny_bind fin))
          | exact wpAny_bind fin
      | @cons x n c i ts b₀ suite np pos' hds2 l2 hi hln hc hsu r ih =>
        intro w
        obtain ⟨b, hb1, hyes, hno⟩ := w
        refine wpAny_handleBy_cons (codeAny_handlers_test ?_) (by intro q; cases q)
        have LT : PySem.W.Looks (model X.prog X.w) h3 (typeOf (.ref a)) cls := fun A Q E s k q => wpAny_typeOf_ref (k _ _ he3) (by rw [hz3.1]; exact q)
        have LM := PySem.W.exm_one (M := model X.prog X.w) (J3.kIn) LT hb1
        have test : ∀ {Q : Value → Shared → Prop} {E : Value → Shared → Prop}, Q c { s' with heap := h3 } → wpAny (model X.prog X.w) (X.A.mark (some (.ref a))) (eval (.Name x np) X.env) Q E { s' with heap := h3 } := fun {Q E} q => by
          obtain ⟨hg, hdbg, hm | ⟨hm, hv, hnn⟩⟩ := hc
          · exact ld_glob (X := X.suite a ((a, oe3) :: (X.pn ++ pins))) S3 hg hm q hdbg
          · exact ld_blt (X := X.suite a ((a, oe3) :: (X.pn ++ pins))) S3 hg hm hv q hnn hdbg
        refine test (LM.here ?_)
        cases b with
        | true =>
          refine codeAny_handlers_suite_as ?_
          refine HandSPX.lands_againZ fl3 fun h4 fl4 up4 => ?_
          have J4 : Inv X pins σ' H' { s' with heap := h4 } := J.landed nb fl4.1 ((up.trans up3).trans up4) os ag
          obtain ⟨oe4, vs4, he4, hz4, hd4⟩ := fl4.there
          have S4 := J4.suite he4 hd4 na nL nF
          refine store_ok (X := X.suite a ((a, oe4) :: (X.pn ++ pins))) (v := .ref a) S4 hN hi (.inl hln) rfl (fun s5 S5 => ?_) (.inr hln)
          refine wpAny_mono ((hsu a oe4 cls d (X.pn ++ pins) hz4 ⟨_, hd4⟩).run [] s5 _ H' _ S5 (hyes rfl a na)) (fun f s6 hsp => ?_) (fun _ _ z => False.elim z)
          have end_ : ∀ {σ6 : L2.St} {H6 : Hp} {Q : Shared → Prop}, Inv (X.suite a ((a, oe4) :: (X.pn ++ pins))) [] σ6 H6 s6 → (∀ s7, Inv X pins (σ6.set i none) H6 s7 → Q s7) →
              wpAny (model X.prog X.w) X.A (do bindName X.env n .none; unbindBehindTheSuite X.env n pos') (fun _ s7 => Q s7) X.xe s6 := fun {σ6 H6 Q} S6 hq => gone_ok (S6.unsuite ok) hN hi hln hq
          cases f with
          | next =>
            obtain ⟨σ6, H6, S6, q6⟩ := hsp
            exact end_ S6 fun s7 J7 => ⟨_, _, J7, q6⟩
          | brk =>
            obtain ⟨σ6, H6, S6, q6⟩ := hsp
            exact end_ S6 fun s7 J7 => ⟨_, _, J7, q6⟩
          | cont =>
            obtain ⟨σ6, H6, S6, q6⟩ := hsp
            exact end_ S6 fun s7 J7 => ⟨_, _, J7, q6⟩
          | ret u =>
            obtain ⟨v6, σ6, H6, S6, r6, q6⟩ := hsp
            exact end_ S6 fun s7 J7 => ⟨_, _, _, J7, r6, q6⟩
        | false =>
          show wpAny _ X.A (handleBy (.ref a) X.env hds2) _ _ _
          exact ih (hno rfl)
    exact go hh w
  · cases f with
    | next =>
      obtain ⟨σ', H', J', q⟩ := hsp
      exact wpAny_execs_nil ⟨σ', H', J'.ofTry ok, q⟩
    | brk =>
      obtain ⟨σ', H', J', q⟩ := hsp
      exact ⟨σ', H', J'.ofTry ok, q⟩
    | cont =>
      obtain ⟨σ', H', J', q⟩ := hsp
      exact ⟨σ', H', J'.ofTry ok, q⟩
    | ret u =>
      obtain ⟨v, σ', H', J', r, q⟩ := hsp
      exact ⟨v, σ', H', J'.ofTry ok, r, q⟩
end
section
variable {prog : Program} {w : World} {A : Around} {E : Value → Shared → Prop} {s : Shared} {K : PySem.W.Frag} {x D : Addr} {ox od : Obj}
open PySem.W
theorem kin_classD {Q : Option Value → Shared → Prop} (hga : findIn K (.ref D) "__getattribute__" = some (some (.builtin "BaseException.__getattribute__"))) (hgt : findIn K (.ref D) "__getattr__" = some none) (hsub : subIn K (.ref D) (.type "BaseException") = some true)
    (hdct : hasDictIn K D = true) (ha : findIn K (.ref D) "__class__" = some (some (.builtin "object.__class__")))
    (hn : specialIn K (.builtin "object.__class__") "__get__" = some (some (.builtin "getset_descriptor.__get__"))) (htk : takesIn K (.builtin "object.__class__") = some true) (hm : mroIn K D (.type "object") = some true)
    (X : K.In s.heap) (I : InstAt s.heap x ox D (some od)) (h : Q (some (.ref D)) { s with toks := s.toks + 1 }) : wpAny (model prog w) A (getAttr? (.ref x) "__class__") Q E s := by
  have hf : findObj K D (some od) "__class__" = some (.bind (.builtin "getset_descriptor.__get__") (.builtin "object.__class__")) := findObj_data (by obtain ⟨cd, hc, _⟩ := any_some hdct; rw [hc]; rfl) ha hn htk
  obtain ⟨hp, g, d, t, os⟩ := s
  have L0 := I.type (M := model prog w)
  have L1 := looks_findIn (M := model prog w) X hga
  have L2 := looks_findIn (M := model prog w) X hgt
  have L3 := looks_find (M := model prog w) X I hf
  have sub : Looks (model prog w) hp (isInstance (.ref x) (.type "BaseException")) true := L0.andThen (looks_subIn X hsub)
  have hx0 : (false && onTheHeap (Value.builtin "BaseException.__getattribute__")) = false := rfl
  have hx2 : (Value.builtin "BaseException.__getattribute__" == Value.builtin "object.__getattribute__") = false := by decide +kernel
  have hx1 : (onTheHeap (Value.ref D) && Value.builtin "BaseException.__getattribute__" == Value.builtin "object.__getattribute__") = false := by rw [hx2]; rfl
  unfold getAttr? getAttrBy? getAttrBy
  refine wpAny_bind (wpAny_mkText (wpAny_bind (wpAny_attempt (wpAny_holding (wpAny_bind (L0.at (wpAny_bind (L1.at ?_))))))))
  show wpAny _ _ (if (onTheHeap (Value.ref D) && Value.builtin "BaseException.__getattribute__" == Value.builtin "object.__getattribute__") = true then _ else _) _ _ _
  rw [hx1, if_neg Bool.false_ne_true]
  unfold getAttrByItsOwn hookBefore
  refine wpAny_bind ?_
  rw [if_pos (show onTheHeap (Value.ref D) = true from rfl)]
  refine L2.at ?_
  refine wpAny_bind (wpAny_attempt (wpAny_holding ?_))
  unfold callGetattribute
  rw [hx0, if_neg Bool.false_ne_true]
  unfold boundAndCalled
  rw [PySem.F.excAttr_ValueError.ga.bind (.ref x)]
  refine wpAny_bind (wpAny_pure ?_)
  show wpAny _ _ (call (.builtin "BaseException.__getattribute__") [.ref x, .str "__class__" t]) _ _ _
  refine wpAny_call (codeAny_call_builtin PySem.F.excAttr_ValueError.ga.plain PySem.F.entry_bexc_ga ?_)
  refine @check_slot (model prog w) _ _ ⟨hp, g, d, t + 1, os⟩ "BaseException.__getattribute__" "BaseException" "__getattribute__" (.ref x) [.str "__class__" t] [] _ (by decide +kernel) (by decide +kernel) sub (PySem.F.args_bexc_ga (.ref x) (.str "__class__" t)) ?_
  unfold Builtin.«object.__getattribute__»
  refine wpAny_bind (wpAny_of_eq (a := ((Value.ref x : Value), [Value.str "__class__" t])) (by first | rfl | (simp only [slotArgs]; rfl)) ?_)
  refine wpAny_bind (wpAny_pure (wpAny_bind (L0.at (wpAny_bind (L3.at ?_)))))
  show wpAny _ _ (holding [Value.builtin "object.__class__"] (call (.builtin "getset_descriptor.__get__") [.builtin "object.__class__", .ref x, .ref D]) >>= ret) _ _ _
  refine wpAny_bind (wpAny_holding (wpAny_call (class_get (s := ⟨hp, g, d, t + 1, os⟩) (ox := ox) (od := some od) X I hm ?_)))
  refine wpAny_pure ?_
  show wpAny _ _ (handedOut (.ref D)) _ _ _
  rw [handedOut_of (v := .ref D) rfl]
  first
    | exact wpAny_pure (wpAny_pure h)
    | exact wpAny_pure h
    | exact wpAny_pure (wpAny_bind (wpAny_pure (wpAny_pure h)))
theorem kitx_excD (hga : findIn K (.ref D) "__getattribute__" = some (some (.builtin "BaseException.__getattribute__"))) (hgt : findIn K (.ref D) "__getattr__" = some none) (hsub : subIn K (.ref D) (.type "BaseException") = some true) (hdct : hasDictIn K D = true) (ha : findIn K (.ref D) "__class__" = some (some (.builtin "object.__class__")))
    (hn : specialIn K (.builtin "object.__class__") "__get__" = some (some (.builtin "getset_descriptor.__get__"))) (htk : takesIn K (.builtin "object.__class__") = some true) (hm : mroIn K D (.type "object") = some true) :
    KitX K (.ref x) (.ref D) (fun h => ∃ od, InstAt h x ox D (some od)) where
  ty := fun _ _ _ ⟨_, I⟩ => I.type
  it := fun _ _ X _ => by
    obtain ⟨cdD, hcD, _⟩ := any_some hdct
    unfold clsIn at hcD
    split at hcD
    · rename_i c' d' cd' sl' ho
      intro A' Q' E' s' k q
      unfold isType loadHead
      exact wpAny_bind (wpAny_loadPart (k _ _ (X _ _ ho)) (wpAny_pure q))
    · cases hcD
  ne := fun h tp dd its n sl X htp => by
    obtain ⟨cdD, hcD, _⟩ := any_some hdct
    refine Bool.eq_false_iff.mpr fun q => ?_
    have e : D = tp := Value.ref.inj (beq_iff_eq.mp q)
    subst e
    unfold clsIn at hcD
    split at hcD
    · rename_i c' d' cd' sl' ho
      have z := (X _ _ ho).symm.trans htp
      cases z
    · cases hcD
  ca := fun X ⟨_, I⟩ k => kin_classD hga hgt hsub hdct ha hn htk hm X I k
end
/-- isinstance(e, c), e the exception that the suite holds, c a class or a tuple of classes that was just laid -/
def rIsED (K : PySem.W.Frag) (D a : Addr) (cls : Value) (d : Option Addr) : List V → Hp → VK → Prop := fun xs H Q => ∃ (c : V) (cv : Value) (b : Bool) (dd : Addr) (fs : List (Str × V)), xs = [.ref a, c] ∧ cls = .ref D ∧ d = some dd ∧ H dd = some (.xd fs) ∧ ClsV c cv ∧ PySem.W.kitOne K (.ref D) cv = some b ∧ Q (.bl b) H
def rIsEDT (K : PySem.W.Frag) (D a : Addr) (cls : Value) (d : Option Addr) : List V → Hp → VK → Prop := fun xs H Q => ∃ (tp : Addr) (cs : List V) (us : List Value) (b : Bool) (dd : Addr) (fs : List (Str × V)), xs = [.ref a, .ref tp] ∧ cls = .ref D ∧ d = some dd ∧ H dd = some (.xd fs) ∧ H tp = some (.tup cs) ∧ Paired ClsV cs us ∧ PySem.W.kitAny K (.ref D) us = some b ∧ Q (.bl b) H
section
variable {X : Cx} {a D : Addr} {oe : Obj} {pn : List (Addr × Obj)} {cls : Value} {d : Option Addr}
theorem inst_xd {pins : List (Addr × Obj)} {σ : L2.St} {H : Hp} {s : Shared} {dd : Addr} {fs : List (Str × V)} (I : Inv (X.suite a ((a, oe) :: pn)) pins σ H s) (hz : Zc (.ref D) (some dd) oe) (hf : ∃ vs, oe.data = .fields vs) (ea : H dd = some (.xd fs)) : ∃ od, PySem.W.InstAt s.heap a oe D (some od) := by
  obtain ⟨ha, _⟩ := I.pin (a, oe) (List.mem_append_left _ List.mem_cons_self)
  obtain ⟨vs, hd⟩ := hf
  have hx : ObjOk X.prog X.w H s.heap dd (.xd fs) := I.hok dd _ ea
  obtain ⟨mA, hns, hr⟩ := hx
  obtain ⟨od, ho, hl⟩ := lookIn_ns hns
  exact ⟨od, ha, hz.1, by unfold PySem.W.notCls; rw [hd] <;> rfl, by rw [hz.2]; exact ho⟩
theorem call_isED (C : ExcC X.K D) (hz : Zc cls d oe) (hf : ∃ vs, oe.data = .fields vs) : CallR (X.suite a ((a, oe) :: pn)) (.builtin "isinstance") (rIsED X.K D a cls d) := by
  intro pins s σ H xs us Q I r h
  obtain ⟨c, cv, b, dd, fs, rfl, rfl, rfl, ed, hcv, e, q⟩ := h
  obtain ⟨u1, u2, rfl, r1, r2⟩ := vals2 r
  cases r1
  have ec := hcv.eq r2
  subst ec
  exact PySem.W.kia_one (kitx_excD C.hg C.hk C.hs C.hd C.ha C.hn C.ht C.hm) I.kIn (inst_xd I hz hf ed) e (fun z => nomatch z) fun tk => ⟨.bl b, H, I.kept (t' := tk) fun _ _ z => z, rfl, q⟩
theorem call_isEDT (C : ExcC X.K D) (hz : Zc cls d oe) (hf : ∃ vs, oe.data = .fields vs) : CallR (X.suite a ((a, oe) :: pn)) (.builtin "isinstance") (rIsEDT X.K D a cls d) := by
  intro pins s σ H xs us Q I r h
  obtain ⟨tp, cs, ws, b, dd, fs, rfl, rfl, rfl, ed, hT, hcv, e, q⟩ := h
  obtain ⟨u1, u2, rfl, r1, r2⟩ := vals2 r
  cases r1
  cases (show u2 = Value.ref tp from r2)
  obtain ⟨_, its, rv, o, h1, h2, n, h3⟩ := (show ObjOk X.prog X.w H s.heap tp (.tup cs) from I.hok tp _ hT)
  have e3 := ClsV.all hcv rv
  subst e3
  obtain ⟨oc, od, dt, sl⟩ := o
  simp only at h2 h3
  subst h2 h3
  exact PySem.W.kia_tup (kitx_excD C.hg C.hk C.hs C.hd C.ha C.hn C.ht C.hm) I.kIn (inst_xd I hz hf ed) h1 e (fun z => nomatch z) fun tk => ⟨.bl b, H, I.kept (t' := tk) fun _ _ z => z, rfl, q⟩
end
/-! ### C.m(..) in a try -/
def tSMethS (C : Addr) (sp : Sp) (E : L2.St → XK) (ta : TE) (t : TA) : TE := fun σ H Q => ta σ H fun x H1 => x = .ref C ∧ t σ H1 fun vs H2 => sp vs H2 Q (E σ)
section
variable {X : Cx} {CX : CXT} {k : Nat} {C p g : Addr} {fd : FuncData} {ps : List Str} {mc : Value} {sp : Sp} {E : L2.St → XK} {o e : Expr} {es : List Expr} {m : Str} {pos apos : Pos} {ta : TE} {t : TA} {pl : Sem Bool}
theorem pe_smethS (he : PE X o ta) (r : ClX.CRead X.K C mc) (c : SMet X.K C mc m p g) (F : FnOk X.prog X.w X.K X.mg X.base CX k g fd ps sp) (hr : Room k X.A) (hk : PySem.W.keepIn X.K (.ref g) = true) (hb : Binds X.K fd ps []) (hx : ∀ σ, PassesAt CX X σ (E σ)) (ha : PA X (e :: es) t)
    (hst : starEach (e :: es) X.env = (false, eval e X.env) :: starEach es X.env := by rfl) (hpl : (backTo pos (starEach es X.env)).any (·.1) = false := by rfl)
    (ht : eval (.Call (.Attribute o m apos) (e :: es) [] pos) X.env = (do
      let v ← eval o X.env
      standAt apos.atName
      let (f, first) ← holding [v] (getMethod v m pl)
      callWith pos f first (backTo pos (starEach (e :: es) X.env)) (backToKw pos (keywordEach [] X.env))) := by rfl) :
    PE X (.Call (.Attribute o m apos) (e :: es) [] pos) (tSMethS C sp E ta t) := by
  constructor
  intro pins s σ H Q I h
  refine PySem.W.methodCall_KW (pl := pl) (thn (he.run pins s σ H _ I h) fun u s1 z => ?_) ht
  obtain ⟨x, H1, I1, rx, rfl, q⟩ := z
  cases rx
  obtain ⟨rest, hp⟩ := c.rc
  refine PySem.W.method_cls I1.kIn r.ga ?_
  refine PySem.W.cls_bind I1.kIn r.rd c.at_ (wpAny_call (PySem.W.sm_get (s := { s1 with toks := s1.toks + 1 }) I1.kIn hp (PySem.W.handed_on rfl ?_)))
  have I2 : Inv X pins σ H1 { s1 with toks := s1.toks + 1 } := I1.tok _
  refine PySem.W.callWith_K (first := []) (h₀ := X.base) I2.ok.mod.kin hk (thn (ha.run pos pins _ σ H1 _ I2 q) fun us s3 z => ?_) hst hpl
  obtain ⟨vs, H2, I3, rv, q2⟩ := z
  refine ⟨I3.kIn, ?_⟩
  exact run_fnS F hr hb (hx σ) I3 rv q2
end
end PX
namespace PX
open PySem PySem.Spec PyProof.Rows L2
def top (i : Nat) : Stmt := PySem.Challenge.pw_dictorders_k86_operators_of_rules.main.body.getD i (.Pass ⟨0, 0, 0, 0⟩)
abbrev s_TooMany_init : Stmt := inClass (top 5) 0
abbrev N_TooMany_init : List Str := ["self", "limit"]
theorem sc_TooMany_init : FnScope N_TooMany_init ["self", "limit"] (defScope s_TooMany_init) := ⟨rfl, rfl, rfl, by decide +kernel, rfl, by decide +kernel, by decide +kernel⟩
abbrev s_is_name : Stmt := top 9
abbrev N_is_name : List Str := ["value", "letter"]
theorem sc_is_name : FnScope N_is_name ["value"] (defScope s_is_name) := ⟨rfl, rfl, rfl, by decide +kernel, rfl, by decide +kernel, by decide +kernel⟩
abbrev s_names_in : Stmt := top 14
abbrev N_names_in : List Str := ["rules", "rule", "name"]
theorem sc_names_in : FnScope N_names_in ["rules"] (defScope s_names_in) := ⟨rfl, rfl, rfl, by decide +kernel, rfl, by decide +kernel, by decide +kernel⟩
abbrev s_Rule_init : Stmt := inClass (top 15) 2
abbrev N_Rule_init : List Str := ["self", "operation", "name", "operands", "part", "word"]
theorem sc_Rule_init : FnScope N_Rule_init ["self", "operation", "name", "operands"] (defScope s_Rule_init) := ⟨rfl, rfl, rfl, by decide +kernel, rfl, by decide +kernel, by decide +kernel⟩
abbrev s_Rule_eq : Stmt := inClass (top 15) 3
abbrev N_Rule_eq : List Str := ["self", "other"]
theorem sc_Rule_eq : FnScope N_Rule_eq ["self", "other"] (defScope s_Rule_eq) := ⟨rfl, rfl, rfl, by decide +kernel, rfl, by decide +kernel, by decide +kernel⟩
abbrev s_Rule_or : Stmt := inClass (top 15) 5
abbrev N_Rule_or : List Str := ["self", "other"]
theorem sc_Rule_or : FnScope N_Rule_or ["self", "other"] (defScope s_Rule_or) := ⟨rfl, rfl, rfl, by decide +kernel, rfl, by decide +kernel, by decide +kernel⟩
abbrev s_Rule_sub : Stmt := inClass (top 15) 6
abbrev N_Rule_sub : List Str := ["self", "other"]
theorem sc_Rule_sub : FnScope N_Rule_sub ["self", "other"] (defScope s_Rule_sub) := ⟨rfl, rfl, rfl, by decide +kernel, rfl, by decide +kernel, by decide +kernel⟩
abbrev s_Rule_and : Stmt := inClass (top 15) 7
abbrev N_Rule_and : List Str := ["self", "other"]
theorem sc_Rule_and : FnScope N_Rule_and ["self", "other"] (defScope s_Rule_and) := ⟨rfl, rfl, rfl, by decide +kernel, rfl, by decide +kernel, by decide +kernel⟩
abbrev s_Rule_invert : Stmt := inClass (top 15) 8
abbrev N_Rule_invert : List Str := ["self"]
theorem sc_Rule_invert : FnScope N_Rule_invert ["self"] (defScope s_Rule_invert) := ⟨rfl, rfl, rfl, by decide +kernel, rfl, by decide +kernel, by decide +kernel⟩
abbrev s_Rule_contains : Stmt := inClass (top 15) 9
abbrev N_Rule_contains : List Str := ["self", "value"]
theorem sc_Rule_contains : FnScope N_Rule_contains ["self", "value"] (defScope s_Rule_contains) := ⟨rfl, rfl, rfl, by decide +kernel, rfl, by decide +kernel, by decide +kernel⟩
abbrev s_Rule_str : Stmt := inClass (top 15) 10
abbrev N_Rule_str : List Str := ["self"]
theorem sc_Rule_str : FnScope N_Rule_str ["self"] (defScope s_Rule_str) := ⟨rfl, rfl, rfl, by decide +kernel, rfl, by decide +kernel, by decide +kernel⟩
abbrev s_Rule_word : Stmt := inClass (top 15) 12
abbrev N_Rule_word : List Str := ["self"]
theorem sc_Rule_word : FnScope N_Rule_word ["self"] (defScope s_Rule_word) := ⟨rfl, rfl, rfl, by decide +kernel, rfl, by decide +kernel, by decide +kernel⟩
abbrev s_Rule_names : Stmt := inClass (top 15) 13
abbrev N_Rule_names : List Str := ["self"]
theorem sc_Rule_names : FnScope N_Rule_names ["self"] (defScope s_Rule_names) := ⟨rfl, rfl, rfl, by decide +kernel, rfl, by decide +kernel, by decide +kernel⟩
abbrev s_Rule_parts : Stmt := inClass (top 15) 14
abbrev N_Rule_parts : List Str := ["self"]
theorem sc_Rule_parts : FnScope N_Rule_parts ["self"] (defScope s_Rule_parts) := ⟨rfl, rfl, rfl, by decide +kernel, rfl, by decide +kernel, by decide +kernel⟩
abbrev s_combined : Stmt := top 16
abbrev N_combined : List Str := ["operation", "operands", "place", "operand"]
theorem sc_combined : FnScope N_combined ["operation", "operands"] (defScope s_combined) := ⟨rfl, rfl, rfl, by decide +kernel, rfl, by decide +kernel, by decide +kernel⟩
abbrev s_base : Stmt := top 17
abbrev N_base : List Str := ["name"]
theorem sc_base : FnScope N_base ["name"] (defScope s_base) := ⟨rfl, rfl, rfl, by decide +kernel, rfl, by decide +kernel, by decide +kernel⟩
abbrev s_merged : Stmt := top 18
abbrev N_merged : List Str := ["rules"]
theorem sc_merged : FnScope N_merged ["rules"] (defScope s_merged) := ⟨rfl, rfl, rfl, by decide +kernel, rfl, by decide +kernel, by decide +kernel⟩
abbrev s_chained : Stmt := top 19
abbrev N_chained : List Str := ["rules"]
theorem sc_chained : FnScope N_chained ["rules"] (defScope s_chained) := ⟨rfl, rfl, rfl, by decide +kernel, rfl, by decide +kernel, by decide +kernel⟩
abbrev s_without : Stmt := top 20
abbrev N_without : List Str := ["rule", "other"]
theorem sc_without : FnScope N_without ["rule", "other"] (defScope s_without) := ⟨rfl, rfl, rfl, by decide +kernel, rfl, by decide +kernel, by decide +kernel⟩
abbrev s_kept : Stmt := top 21
abbrev N_kept : List Str := ["rule", "other"]
theorem sc_kept : FnScope N_kept ["rule", "other"] (defScope s_kept) := ⟨rfl, rfl, rfl, by decide +kernel, rfl, by decide +kernel, by decide +kernel⟩
abbrev s_filled : Stmt := top 22
abbrev N_filled : List Str := ["rule", "other"]
theorem sc_filled : FnScope N_filled ["rule", "other"] (defScope s_filled) := ⟨rfl, rfl, rfl, by decide +kernel, rfl, by decide +kernel, by decide +kernel⟩
abbrev s_moved : Stmt := top 23
abbrev N_moved : List Str := ["rule", "other"]
theorem sc_moved : FnScope N_moved ["rule", "other"] (defScope s_moved) := ⟨rfl, rfl, rfl, by decide +kernel, rfl, by decide +kernel, by decide +kernel⟩
abbrev s_turned : Stmt := top 24
abbrev N_turned : List Str := ["rule"]
theorem sc_turned : FnScope N_turned ["rule"] (defScope s_turned) := ⟨rfl, rfl, rfl, by decide +kernel, rfl, by decide +kernel, by decide +kernel⟩
abbrev s_by_keys : Stmt := top 25
abbrev N_by_keys : List Str := ["rule"]
theorem sc_by_keys : FnScope N_by_keys ["rule"] (defScope s_by_keys) := ⟨rfl, rfl, rfl, by decide +kernel, rfl, by decide +kernel, by decide +kernel⟩
abbrev s_postorder : Stmt := top 26
abbrev N_postorder : List Str := ["rule", "found", "waiting", "here"]
theorem sc_postorder : FnScope N_postorder ["rule"] (defScope s_postorder) := ⟨rfl, rfl, rfl, by decide +kernel, rfl, by decide +kernel, by decide +kernel⟩
abbrev s_merged_table : Stmt := top 35
abbrev N_merged_table : List Str := ["tables", "found", "table"]
theorem sc_merged_table : FnScope N_merged_table ["tables"] (defScope s_merged_table) := ⟨rfl, rfl, rfl, by decide +kernel, rfl, by decide +kernel, by decide +kernel⟩
abbrev s_filled_table : Stmt := top 36
abbrev N_filled_table : List Str := ["table", "other", "found", "key"]
theorem sc_filled_table : FnScope N_filled_table ["table", "other"] (defScope s_filled_table) := ⟨rfl, rfl, rfl, by decide +kernel, rfl, by decide +kernel, by decide +kernel⟩
abbrev s_moved_table : Stmt := top 37
abbrev N_moved_table : List Str := ["table", "other", "found", "key"]
theorem sc_moved_table : FnScope N_moved_table ["table", "other"] (defScope s_moved_table) := ⟨rfl, rfl, rfl, by decide +kernel, rfl, by decide +kernel, by decide +kernel⟩
abbrev s_combined_table : Stmt := top 38
abbrev N_combined_table : List Str := ["word", "tables", "first", "other", "key", "value"]
theorem sc_combined_table : FnScope N_combined_table ["word", "tables"] (defScope s_combined_table) := ⟨rfl, rfl, rfl, by decide +kernel, rfl, by decide +kernel, by decide +kernel⟩
abbrev s_check_names : Stmt := top 39
abbrev N_check_names : List Str := ["names", "tables", "name"]
theorem sc_check_names : FnScope N_check_names ["names", "tables"] (defScope s_check_names) := ⟨rfl, rfl, rfl, by decide +kernel, rfl, by decide +kernel, by decide +kernel⟩
abbrev s_evaluate : Stmt := top 40
abbrev N_evaluate : List Str := ["rule", "tables", "done", "here", "first"]
theorem sc_evaluate : FnScope N_evaluate ["rule", "tables"] (defScope s_evaluate) := ⟨rfl, rfl, rfl, by decide +kernel, rfl, by decide +kernel, by decide +kernel⟩
abbrev s_law_bag : Stmt := top 42
abbrev N_law_bag : List Str := ["_law_script", "_law_at", "_law_cell", "_law_great"]
theorem sc_law_bag : FnScope N_law_bag ["_law_script", "_law_at"] (defScope s_law_bag) := ⟨rfl, rfl, rfl, by decide +kernel, rfl, by decide +kernel, by decide +kernel⟩
abbrev s_law_take : Stmt := top 43
abbrev N_law_take : List Str := ["_law_bag_here", "_law_many", "_law_digit", "_law_mixed"]
theorem sc_law_take : FnScope N_law_take ["_law_bag_here", "_law_many"] (defScope s_law_take) := ⟨rfl, rfl, rfl, by decide +kernel, rfl, by decide +kernel, by decide +kernel⟩
abbrev s_law_names : Stmt := top 44
abbrev N_law_names : List Str := ["_law_bag_here", "_law_many", "_law_some", "_law_line", "_law_at"]
theorem sc_law_names : FnScope N_law_names ["_law_bag_here", "_law_many"] (defScope s_law_names) := ⟨rfl, rfl, rfl, by decide +kernel, rfl, by decide +kernel, by decide +kernel⟩
abbrev s_law_tree : Stmt := top 45
abbrev N_law_tree : List Str := ["_law_bag_here", "_law_names_here", "_law_deep", "_law_way", "_law_words", "_law_many", "_law_k"]
theorem sc_law_tree : FnScope N_law_tree ["_law_bag_here", "_law_names_here", "_law_deep"] (defScope s_law_tree) := ⟨rfl, rfl, rfl, by decide +kernel, rfl, by decide +kernel, by decide +kernel⟩
abbrev s_law_joined : Stmt := top 46
abbrev N_law_joined : List Str := ["_law_word", "_law_some", "_law_is_merged"]
theorem sc_law_joined : FnScope N_law_joined ["_law_word", "_law_some"] (defScope s_law_joined) := ⟨rfl, rfl, rfl, by decide +kernel, rfl, by decide +kernel, by decide +kernel⟩
abbrev s_law_by_word : Stmt := top 47
abbrev N_law_by_word : List Str := ["_law_word", "_law_some"]
theorem sc_law_by_word : FnScope N_law_by_word ["_law_word", "_law_some"] (defScope s_law_by_word) := ⟨rfl, rfl, rfl, by decide +kernel, rfl, by decide +kernel, by decide +kernel⟩
abbrev s_law_made : Stmt := top 48
abbrev N_law_made : List Str := ["_law_tree_here", "_law_word", "_law_parts", "_law_part"]
theorem sc_law_made : FnScope N_law_made ["_law_tree_here"] (defScope s_law_made) := ⟨rfl, rfl, rfl, by decide +kernel, rfl, by decide +kernel, by decide +kernel⟩
abbrev s_law_number : Stmt := top 49
abbrev N_law_number : List Str := ["_law_bag_here", "_law_way", "_law_far"]
theorem sc_law_number : FnScope N_law_number ["_law_bag_here"] (defScope s_law_number) := ⟨rfl, rfl, rfl, by decide +kernel, rfl, by decide +kernel, by decide +kernel⟩
abbrev s_law_table : Stmt := top 50
abbrev N_law_table : List Str := ["_law_bag_here", "_law_most", "_law_found", "_law_turn", "_law_key"]
theorem sc_law_table : FnScope N_law_table ["_law_bag_here", "_law_most"] (defScope s_law_table) := ⟨rfl, rfl, rfl, by decide +kernel, rfl, by decide +kernel, by decide +kernel⟩
abbrev s_law_tables : Stmt := top 51
abbrev N_law_tables : List Str := ["_law_bag_here", "_law_names_here", "_law_most", "_law_name"]
theorem sc_law_tables : FnScope N_law_tables ["_law_bag_here", "_law_names_here", "_law_most"] (defScope s_law_tables) := ⟨rfl, rfl, rfl, by decide +kernel, rfl, by decide +kernel, by decide +kernel⟩
abbrev s_law_same : Stmt := top 52
abbrev N_law_same : List Str := ["_law_found", "_law_due"]
theorem sc_law_same : FnScope N_law_same ["_law_found", "_law_due"] (defScope s_law_same) := ⟨rfl, rfl, rfl, by decide +kernel, rfl, by decide +kernel, by decide +kernel⟩
abbrev s_law_pairs : Stmt := top 53
abbrev N_law_pairs : List Str := ["_law_one", "_law_two", "_law_last", "_law_found"]
theorem sc_law_pairs : FnScope N_law_pairs ["_law_one", "_law_two", "_law_last"] (defScope s_law_pairs) := ⟨rfl, rfl, rfl, by decide +kernel, rfl, by decide +kernel, by decide +kernel⟩
abbrev s_law_too_many : Stmt := top 54
abbrev N_law_too_many : List Str := ["_law_deed", "e"]
theorem sc_law_too_many : FnScope N_law_too_many ["_law_deed"] (defScope s_law_too_many) := ⟨rfl, rfl, rfl, by decide +kernel, rfl, by decide +kernel, by decide +kernel⟩
abbrev s_law : Stmt := top 55
abbrev N_law : List Str := ["_law_script", "_law_at", "_law_bag_here", "_law_names_here", "_law_turn", "_law_some", "_law_k", "_law_sheets", "_law_found", "_law_due", "_law_others", "_law_name", "_law_thing", "_law_wide", "_law_more"]
theorem sc_law : FnScope N_law ["_law_script"] (defScope s_law) := ⟨rfl, rfl, rfl, by decide +kernel, rfl, by decide +kernel, by decide +kernel⟩
/-- what the top has made, as far as it is asked -/
structure Txt (K : PySem.W.Frag) (mg : Str → Option Value) where
  f_TooMany_init : Addr
  d_TooMany_init : FuncData
  F_TooMany_init : Fun K "__init__" "TooMany.__init__" s_TooMany_init f_TooMany_init d_TooMany_init
  b_TooMany_init : Binds K d_TooMany_init ["self", "limit"] []
  f_is_name : Addr
  d_is_name : FuncData
  F_is_name : Fun K "is_name" "is_name" s_is_name f_is_name d_is_name
  m_is_name : mg "is_name" = some (.ref f_is_name)
  b_is_name : Binds K d_is_name ["value"] []
  f_names_in : Addr
  d_names_in : FuncData
  F_names_in : Fun K "names_in" "names_in" s_names_in f_names_in d_names_in
  m_names_in : mg "names_in" = some (.ref f_names_in)
  b_names_in : Binds K d_names_in ["rules"] []
  f_Rule_init : Addr
  d_Rule_init : FuncData
  F_Rule_init : Fun K "__init__" "Rule.__init__" s_Rule_init f_Rule_init d_Rule_init
  b_Rule_init : Binds K d_Rule_init ["self", "operation", "name", "operands"] []
  f_Rule_eq : Addr
  d_Rule_eq : FuncData
  F_Rule_eq : Fun K "__eq__" "Rule.__eq__" s_Rule_eq f_Rule_eq d_Rule_eq
  b_Rule_eq : Binds K d_Rule_eq ["self", "other"] []
  f_Rule_or : Addr
  d_Rule_or : FuncData
  F_Rule_or : Fun K "__or__" "Rule.__or__" s_Rule_or f_Rule_or d_Rule_or
  b_Rule_or : Binds K d_Rule_or ["self", "other"] []
  f_Rule_sub : Addr
  d_Rule_sub : FuncData
  F_Rule_sub : Fun K "__sub__" "Rule.__sub__" s_Rule_sub f_Rule_sub d_Rule_sub
  b_Rule_sub : Binds K d_Rule_sub ["self", "other"] []
  f_Rule_and : Addr
  d_Rule_and : FuncData
  F_Rule_and : Fun K "__and__" "Rule.__and__" s_Rule_and f_Rule_and d_Rule_and
  b_Rule_and : Binds K d_Rule_and ["self", "other"] []
  f_Rule_invert : Addr
  d_Rule_invert : FuncData
  F_Rule_invert : Fun K "__invert__" "Rule.__invert__" s_Rule_invert f_Rule_invert d_Rule_invert
  b_Rule_invert : Binds K d_Rule_invert ["self"] []
  f_Rule_contains : Addr
  d_Rule_contains : FuncData
  F_Rule_contains : Fun K "__contains__" "Rule.__contains__" s_Rule_contains f_Rule_contains d_Rule_contains
  b_Rule_contains : Binds K d_Rule_contains ["self", "value"] []
  f_Rule_str : Addr
  d_Rule_str : FuncData
  F_Rule_str : Fun K "__str__" "Rule.__str__" s_Rule_str f_Rule_str d_Rule_str
  b_Rule_str : Binds K d_Rule_str ["self"] []
  f_Rule_word : Addr
  d_Rule_word : FuncData
  F_Rule_word : Fun K "word" "Rule.word" s_Rule_word f_Rule_word d_Rule_word
  b_Rule_word : Binds K d_Rule_word ["self"] []
  f_Rule_names : Addr
  d_Rule_names : FuncData
  F_Rule_names : Fun K "names" "Rule.names" s_Rule_names f_Rule_names d_Rule_names
  b_Rule_names : Binds K d_Rule_names ["self"] []
  f_Rule_parts : Addr
  d_Rule_parts : FuncData
  F_Rule_parts : Fun K "parts" "Rule.parts" s_Rule_parts f_Rule_parts d_Rule_parts
  b_Rule_parts : Binds K d_Rule_parts ["self"] []
  f_combined : Addr
  d_combined : FuncData
  F_combined : Fun K "combined" "combined" s_combined f_combined d_combined
  m_combined : mg "combined" = some (.ref f_combined)
  b_combined : Binds K d_combined ["operation", "operands"] []
  f_base : Addr
  d_base : FuncData
  F_base : Fun K "base" "base" s_base f_base d_base
  m_base : mg "base" = some (.ref f_base)
  b_base : Binds K d_base ["name"] []
  f_merged : Addr
  d_merged : FuncData
  F_merged : Fun K "merged" "merged" s_merged f_merged d_merged
  m_merged : mg "merged" = some (.ref f_merged)
  v_merged : ∀ (kV doc pm : Value) (an : Option Addr) (cdv ct : Value), bindArgs (PySem.W.fnOf "merged" "merged" (defArgs s_merged) (defBody s_merged) (defScope s_merged) .none kV doc pm an cdv ct) ⟨[], []⟩ = (newTuple [] >>= fun t => pure [(("rules" : Str), t)])
  w_merged : ∀ (kV doc pm : Value) (an : Option Addr) (cdv ct u : Value) (us : List Value), bindArgs (PySem.W.fnOf "merged" "merged" (defArgs s_merged) (defBody s_merged) (defScope s_merged) .none kV doc pm an cdv ct) ⟨u :: us, []⟩ = (newTuple (u :: us) >>= fun t => pure [(("rules" : Str), t)])
  f_chained : Addr
  d_chained : FuncData
  F_chained : Fun K "chained" "chained" s_chained f_chained d_chained
  m_chained : mg "chained" = some (.ref f_chained)
  v_chained : ∀ (kV doc pm : Value) (an : Option Addr) (cdv ct : Value), bindArgs (PySem.W.fnOf "chained" "chained" (defArgs s_chained) (defBody s_chained) (defScope s_chained) .none kV doc pm an cdv ct) ⟨[], []⟩ = (newTuple [] >>= fun t => pure [(("rules" : Str), t)])
  w_chained : ∀ (kV doc pm : Value) (an : Option Addr) (cdv ct u : Value) (us : List Value), bindArgs (PySem.W.fnOf "chained" "chained" (defArgs s_chained) (defBody s_chained) (defScope s_chained) .none kV doc pm an cdv ct) ⟨u :: us, []⟩ = (newTuple (u :: us) >>= fun t => pure [(("rules" : Str), t)])
  f_without : Addr
  d_without : FuncData
  F_without : Fun K "without" "without" s_without f_without d_without
  m_without : mg "without" = some (.ref f_without)
  b_without : Binds K d_without ["rule", "other"] []
  f_kept : Addr
  d_kept : FuncData
  F_kept : Fun K "kept" "kept" s_kept f_kept d_kept
  m_kept : mg "kept" = some (.ref f_kept)
  b_kept : Binds K d_kept ["rule", "other"] []
  f_filled : Addr
  d_filled : FuncData
  F_filled : Fun K "filled" "filled" s_filled f_filled d_filled
  m_filled : mg "filled" = some (.ref f_filled)
  b_filled : Binds K d_filled ["rule", "other"] []
  f_moved : Addr
  d_moved : FuncData
  F_moved : Fun K "moved" "moved" s_moved f_moved d_moved
  m_moved : mg "moved" = some (.ref f_moved)
  b_moved : Binds K d_moved ["rule", "other"] []
  f_turned : Addr
  d_turned : FuncData
  F_turned : Fun K "turned" "turned" s_turned f_turned d_turned
  m_turned : mg "turned" = some (.ref f_turned)
  b_turned : Binds K d_turned ["rule"] []
  f_by_keys : Addr
  d_by_keys : FuncData
  F_by_keys : Fun K "by_keys" "by_keys" s_by_keys f_by_keys d_by_keys
  m_by_keys : mg "by_keys" = some (.ref f_by_keys)
  b_by_keys : Binds K d_by_keys ["rule"] []
  f_postorder : Addr
  d_postorder : FuncData
  F_postorder : Fun K "postorder" "postorder" s_postorder f_postorder d_postorder
  m_postorder : mg "postorder" = some (.ref f_postorder)
  b_postorder : Binds K d_postorder ["rule"] []
  f_merged_table : Addr
  d_merged_table : FuncData
  F_merged_table : Fun K "merged_table" "merged_table" s_merged_table f_merged_table d_merged_table
  m_merged_table : mg "merged_table" = some (.ref f_merged_table)
  b_merged_table : Binds K d_merged_table ["tables"] []
  f_filled_table : Addr
  d_filled_table : FuncData
  F_filled_table : Fun K "filled_table" "filled_table" s_filled_table f_filled_table d_filled_table
  m_filled_table : mg "filled_table" = some (.ref f_filled_table)
  b_filled_table : Binds K d_filled_table ["table", "other"] []
  f_moved_table : Addr
  d_moved_table : FuncData
  F_moved_table : Fun K "moved_table" "moved_table" s_moved_table f_moved_table d_moved_table
  m_moved_table : mg "moved_table" = some (.ref f_moved_table)
  b_moved_table : Binds K d_moved_table ["table", "other"] []
  f_combined_table : Addr
  d_combined_table : FuncData
  F_combined_table : Fun K "combined_table" "combined_table" s_combined_table f_combined_table d_combined_table
  m_combined_table : mg "combined_table" = some (.ref f_combined_table)
  b_combined_table : Binds K d_combined_table ["word", "tables"] []
  f_check_names : Addr
  d_check_names : FuncData
  F_check_names : Fun K "check_names" "check_names" s_check_names f_check_names d_check_names
  m_check_names : mg "check_names" = some (.ref f_check_names)
  b_check_names : Binds K d_check_names ["names", "tables"] []
  f_evaluate : Addr
  d_evaluate : FuncData
  F_evaluate : Fun K "evaluate" "evaluate" s_evaluate f_evaluate d_evaluate
  m_evaluate : mg "evaluate" = some (.ref f_evaluate)
  b_evaluate : Binds K d_evaluate ["rule", "tables"] []
  f_law_bag : Addr
  d_law_bag : FuncData
  F_law_bag : Fun K "_law_bag" "_law_bag" s_law_bag f_law_bag d_law_bag
  m_law_bag : mg "_law_bag" = some (.ref f_law_bag)
  b_law_bag : Binds K d_law_bag ["_law_script", "_law_at"] []
  f_law_take : Addr
  d_law_take : FuncData
  F_law_take : Fun K "_law_take" "_law_take" s_law_take f_law_take d_law_take
  m_law_take : mg "_law_take" = some (.ref f_law_take)
  b_law_take : Binds K d_law_take ["_law_bag_here", "_law_many"] []
  f_law_names : Addr
  d_law_names : FuncData
  F_law_names : Fun K "_law_names" "_law_names" s_law_names f_law_names d_law_names
  m_law_names : mg "_law_names" = some (.ref f_law_names)
  b_law_names : Binds K d_law_names ["_law_bag_here", "_law_many"] []
  f_law_tree : Addr
  d_law_tree : FuncData
  F_law_tree : Fun K "_law_tree" "_law_tree" s_law_tree f_law_tree d_law_tree
  m_law_tree : mg "_law_tree" = some (.ref f_law_tree)
  b_law_tree : Binds K d_law_tree ["_law_bag_here", "_law_names_here", "_law_deep"] []
  f_law_joined : Addr
  d_law_joined : FuncData
  F_law_joined : Fun K "_law_joined" "_law_joined" s_law_joined f_law_joined d_law_joined
  m_law_joined : mg "_law_joined" = some (.ref f_law_joined)
  b_law_joined : Binds K d_law_joined ["_law_word", "_law_some"] []
  f_law_by_word : Addr
  d_law_by_word : FuncData
  F_law_by_word : Fun K "_law_by_word" "_law_by_word" s_law_by_word f_law_by_word d_law_by_word
  m_law_by_word : mg "_law_by_word" = some (.ref f_law_by_word)
  b_law_by_word : Binds K d_law_by_word ["_law_word", "_law_some"] []
  f_law_made : Addr
  d_law_made : FuncData
  F_law_made : Fun K "_law_made" "_law_made" s_law_made f_law_made d_law_made
  m_law_made : mg "_law_made" = some (.ref f_law_made)
  b_law_made : Binds K d_law_made ["_law_tree_here"] []
  f_law_number : Addr
  d_law_number : FuncData
  F_law_number : Fun K "_law_number" "_law_number" s_law_number f_law_number d_law_number
  m_law_number : mg "_law_number" = some (.ref f_law_number)
  b_law_number : Binds K d_law_number ["_law_bag_here"] []
  f_law_table : Addr
  d_law_table : FuncData
  F_law_table : Fun K "_law_table" "_law_table" s_law_table f_law_table d_law_table
  m_law_table : mg "_law_table" = some (.ref f_law_table)
  b_law_table : Binds K d_law_table ["_law_bag_here", "_law_most"] []
  f_law_tables : Addr
  d_law_tables : FuncData
  F_law_tables : Fun K "_law_tables" "_law_tables" s_law_tables f_law_tables d_law_tables
  m_law_tables : mg "_law_tables" = some (.ref f_law_tables)
  b_law_tables : Binds K d_law_tables ["_law_bag_here", "_law_names_here", "_law_most"] []
  f_law_same : Addr
  d_law_same : FuncData
  F_law_same : Fun K "_law_same" "_law_same" s_law_same f_law_same d_law_same
  m_law_same : mg "_law_same" = some (.ref f_law_same)
  b_law_same : Binds K d_law_same ["_law_found", "_law_due"] []
  f_law_pairs : Addr
  d_law_pairs : FuncData
  F_law_pairs : Fun K "_law_pairs" "_law_pairs" s_law_pairs f_law_pairs d_law_pairs
  m_law_pairs : mg "_law_pairs" = some (.ref f_law_pairs)
  b_law_pairs : Binds K d_law_pairs ["_law_one", "_law_two", "_law_last"] []
  f_law_too_many : Addr
  d_law_too_many : FuncData
  F_law_too_many : Fun K "_law_too_many" "_law_too_many" s_law_too_many f_law_too_many d_law_too_many
  m_law_too_many : mg "_law_too_many" = some (.ref f_law_too_many)
  b_law_too_many : Binds K d_law_too_many ["_law_deed"] []
  f_law : Addr
  d_law : FuncData
  F_law : Fun K "law" "law" s_law f_law d_law
  m_law : mg "law" = some (.ref f_law)
  b_law : Binds K d_law ["_law_script"] []
  C_Rule : Addr
  cl_Rule : Cls K C_Rule
  m_Rule : mg "Rule" = some (.ref C_Rule)
  n_Rule_operation : NoAttr K C_Rule "operation"
  n_Rule_name : NoAttr K C_Rule "name"
  n_Rule_operands : NoAttr K C_Rule "operands"
  n_Rule_flat : NoAttr K C_Rule "flat"
  n_Rule_written : NoAttr K C_Rule "written"
  n_Rule_base_names : NoAttr K C_Rule "base_names"
  mk_Rule : Mk K C_Rule f_Rule_init
  p_Rule_word : Addr
  pr_Rule_word : PropOf K C_Rule "word" p_Rule_word f_Rule_word
  p_Rule_names : Addr
  pr_Rule_names : PropOf K C_Rule "names" p_Rule_names f_Rule_names
  p_Rule_parts : Addr
  pr_Rule_parts : PropOf K C_Rule "parts" p_Rule_parts f_Rule_parts
  ic_Rule : C8.InsC K C_Rule
  om_Rule_eq : OwnM K C_Rule "__eq__" f_Rule_eq
  om_Rule_or : OwnM K C_Rule "__or__" f_Rule_or
  om_Rule_sub : OwnM K C_Rule "__sub__" f_Rule_sub
  om_Rule_and : OwnM K C_Rule "__and__" f_Rule_and
  om_Rule_invert : OwnM K C_Rule "__invert__" f_Rule_invert
  om_Rule_contains : OwnM K C_Rule "__contains__" f_Rule_contains
  om_Rule_str : OwnM K C_Rule "__str__" f_Rule_str
  cr_Rule : ClX.CRead K C_Rule (.type "type")
  u_Rule_MOST_NAMES : Value
  cv_Rule_MOST_NAMES : ClX.CVal K C_Rule (.type "type") "MOST_NAMES" (.int 5) u_Rule_MOST_NAMES
  sf_Rule : PySem.W.selfFirst K C_Rule = true
  od_Rule : OddC K C_Rule
  ne_Rule : PySem.W.findIn K (.ref C_Rule) "__ne__" = some (some (.builtin "object.__ne__"))
  ki_Rule_NoneType : PySem.W.kitOne K (.type "NoneType") (.ref C_Rule) = some false
  ki_Rule_bool : PySem.W.kitOne K (.type "bool") (.ref C_Rule) = some false
  ki_Rule_int : PySem.W.kitOne K (.type "int") (.ref C_Rule) = some false
  ki_Rule_str : PySem.W.kitOne K (.type "str") (.ref C_Rule) = some false
  ki_Rule_list : PySem.W.kitOne K (.type "list") (.ref C_Rule) = some false
  ki_Rule_tuple : PySem.W.kitOne K (.type "tuple") (.ref C_Rule) = some false
  C_TooMany : Addr
  m_TooMany : mg "TooMany" = some (.ref C_TooMany)
  x_TooMany : XOne K C_TooMany f_TooMany_init "OverflowError" "OverflowError.__new__" "OverflowError.__init__" bmOverflow "limit"
  u_LETTERS : Value
  c_LETTERS : mg "LETTERS" = some u_LETTERS
  r_LETTERS : RelV (.str "abcdefghijklmnopqrstuvwxyz") u_LETTERS
  u_MOST_LETTERS : Value
  c_MOST_LETTERS : mg "MOST_LETTERS" = some u_MOST_LETTERS
  r_MOST_LETTERS : RelV (.int 6) u_MOST_LETTERS
  u_BASE : Value
  c_BASE : mg "BASE" = some u_BASE
  r_BASE : RelV (.str "base") u_BASE
  u_GAP : Value
  c_GAP : mg "GAP" = some u_GAP
  r_GAP : RelV (.str ", ") u_GAP
  z_NotImplemented : mg "NotImplemented" = none
  z_OverflowError : mg "OverflowError" = none
  z_abs : mg "abs" = none
  z_all : mg "all" = none
  z_dict : mg "dict" = none
  z_enumerate : mg "enumerate" = none
  z_isinstance : mg "isinstance" = none
  z_len : mg "len" = none
  z_list : mg "list" = none
  z_max : mg "max" = none
  z_min : mg "min" = none
  z_range : mg "range" = none
  z_repr : mg "repr" = none
  z_sorted : mg "sorted" = none
  z_str : mg "str" = none
  z_tuple : mg "tuple" = none
section
variable {P : Program} {w : World} {K : PySem.W.Frag} {mg : Str → Option Value} {base : Heap}
theorem ok_TooMany_init (T : Txt K mg) : FnOk P w K mg base CX0 2 T.f_TooMany_init T.d_TooMany_init ["self", "limit"] (spX1 T.C_TooMany "limit") := by
  refine T.F_TooMany_init.ok sc_TooMany_init (fun vs H Q E h => ?_) (fun cdv A outer s H vs Q E hr h => ?_)
  · obtain ⟨a, v, rfl, _⟩ := h
    rfl
  · obtain ⟨a, v, rfl, ha, kk⟩ := h
    refine ⟨_, (pss_cons (ps_expr (pe_initX baseOverflow rfl T.z_OverflowError PyProof.Rows.Boot.«OverflowError» T.x_TooMany.vI (by decide +kernel) (pa_cons (pv 0) (pa_cons pe_str pa_nil))))
        (pss_one (ps_setX baseOverflow (pv 0) (pv 1)))), ?_⟩
    exact ⟨_, rfl, _, _, _, rfl, (by show 1 ≤ 1000; decide), T.x_TooMany.own, ha, _, rfl, _, rfl, a, _, rfl, T.x_TooMany.own, T.x_TooMany.tk, .inl ⟨ha, fun dx nd ne => kk dx nd ne⟩⟩

def sp_is_name : Sp := fun vs H Q _ => ∃ x : Str, vs = [.str x] ∧ nmB x = true ∧ ∀ H', Same H H' → Q (.bl true) H'
theorem ok_is_name (T : Txt K mg) : FnOk P w K mg base CX0 1 T.f_is_name T.d_is_name ["value"] sp_is_name := by
  refine T.F_is_name.ok sc_is_name (fun vs H Q E h => ?_) (fun cdv A outer s H vs Q E hr h => ?_)
  · obtain ⟨x, rfl, _⟩ := h
    rfl
  · obtain ⟨x, rfl, hx, kk⟩ := h
    refine ⟨_, (pss_cons (ps_if (pt_cut (PW.pt (pw_or (pt_not (pt_val (pe_callB call_isi (by rfl) T.z_isinstance (by decide +kernel) (pa_cons (pv 0) (pa_cons (pe_bltn (v := .ty "str") (by rfl) T.z_str (by decide +kernel) rfl) pa_nil))))) (pw_or1 (pt_not (pt_chain op_le op_le pe_int (pe_callB call_len_str (by rfl) T.z_len (by decide +kernel) (pa_cons (pv 0) pa_nil)) (pe_glob rfl T.c_MOST_LETTERS T.r_MOST_LETTERS)))))))
          (pss_one (ps_ret pe_bl))
          pss_nil)
        (pss_one (ps_ret (pe_callB (cr_all rfl) (by rfl) T.z_all (by decide +kernel) (pa_cons (pe_lc (own := [("letter", 1)]) (g := (gName 1)) (tt := tYes) rfl sc_is_name.nd (pi_str (pv 0)) (blkOk_by (own := [("letter", 1)]) (N := N_is_name) (sc := defScope s_is_name) (by decide +kernel)) (fun _ _ _ _ _ => (pg_name (i := 1) sc_is_name.nd rfl (.inl rfl))) (fun _ _ _ _ _ => pts_nil) (fun _ _ _ _ _ => (pe_cmpR op_in_sign (pv 1) (pe_glob rfl T.c_LETTERS T.r_LETTERS) (by rfl)))) pa_nil))))), ?_⟩
    simp only [nmB, Bool.and_eq_true, List.all_eq_true, decide_eq_true_eq] at hx
    obtain ⟨⟨h1, h2⟩, h3⟩ := hx
    refine ⟨fun b H' => b = false ∧ H' = H, ?_, ?_⟩
    · refine ⟨_, rfl, .str x, .ty "str", .type "str", .type "str", true, rfl, .ty _, .base (.str x), rfl, true, rfl, ?_⟩
      refine iteF ?_
      refine ⟨_, rfl, x, rfl, by rw [sizeLine_eq]; omega, _, _, rfl, rfl, _, rfl, ?_⟩
      rw [decide_eq_true (show (1 : Int) ≤ (x.length : Int) by omega)]
      refine iteT ⟨_, _, rfl, rfl, _, rfl, ?_⟩
      rw [decide_eq_true (show (x.length : Int) ≤ 6 by omega)]
      exact ⟨rfl, rfl⟩
    · rintro b H' ⟨rfl, rfl⟩
      refine iteF ?_
      refine ⟨_, rfl, x, rfl, fun D hD => ?_⟩
      refine lc_it (walk_str (z := x)) (fun i H2 => H2 D = some (.lst (List.replicate i (V.bl true))) ∧ Same H' H2) ⟨upd_same, Same.mk1 hD⟩ (fun _ _ _ _ => True.intro) ?_ ?_
      · rintro i y H2 H3 hi ⟨hD2, s2⟩ ⟨rfl, c, hc, rfl⟩
        have hin : c ∈ x.cps.toList := by
          have z : x.cps.toList[i]? = some c := by rw [Array.getElem?_toList]; exact hc
          exact List.mem_of_getElem? z
        obtain ⟨c1, c2⟩ := h3 c hin
        refine ⟨rfl, _, rfl, c, "abcdefghijklmnopqrstuvwxyz", rfl, rfl, _, hD2, ?_, ?_, Same.put s2 hD⟩
        · rw [List.length_replicate]
          have : x.cps.size = x.length := rfl
          exact small1000 (by omega)
        · have abc : c ∈ (("abcdefghijklmnopqrstuvwxyz" : String) : Str).cps.toList := by
            have all : ∀ n ∈ List.range 26, (97 + n) ∈ (("abcdefghijklmnopqrstuvwxyz" : String) : Str).cps.toList := by decide +kernel
            have z := all (c - 97) (List.mem_range.mpr (by omega))
            rw [show 97 + (c - 97) = c by omega] at z
            exact z
          rw [upd_same, decide_eq_true abc, List.replicate_succ']
      · rintro H2 ⟨hD2, s2⟩
        refine ⟨D, List.replicate x.cps.size true, rfl, SqL.of (by rw [List.map_replicate]; exact hD2), ?_⟩
        have all : (List.replicate x.cps.size true).all id = true := by
          rw [List.all_eq_true]
          intro b hb
          exact List.eq_of_mem_replicate hb
        rw [all]
        exact kk _ s2

theorem ok_Rule_names (T : Txt K mg) : FnOk P w K mg base CX0 1 T.f_Rule_names T.d_Rule_names ["self"] (getSp T.C_Rule "base_names") := by
  refine T.F_Rule_names.ok sc_Rule_names (fun vs H Q E h => ?_) (fun cdv A outer s H vs Q E hr h => ?_)
  · obtain ⟨a, dx, fs, v, rfl, _⟩ := h
    rfl
  · obtain ⟨a, dx, fs, v, rfl, ea, l, q⟩ := h
    exact ⟨_, (pss_one (ps_ret (pe_fld (pv 0) rfl))), .ref a, rfl, a, T.C_Rule, dx, fs, v, rfl, ea, T.cl_Rule, T.n_Rule_base_names, l, q⟩

def sp_names_in (K : PySem.W.Frag) (C : Addr) : Sp := fun vs H Q _ => ∃ (t : Addr) (ls : List Addr) (ps : List RT), vs = [.ref t] ∧ SqT K H t (ls.map V.ref) ∧ RulesAt C H ps ls ∧ (∀ l : List Str, l.Nodup → (∀ x ∈ l, x ∈ basesL ps) → l.length ≤ 60) ∧
  ∀ (b : Addr) (ns : List Str) (H' : Hp), H b = none → Same H H' → H' b = some (.tup (ns.map V.str)) → NamesOk ns (basesL ps) → Q (.ref b) H'
/-- the names that were met: what the set holds -/
structure Met (P : Program) (w : World) (D : Addr) (H : Hp) (seen : List Str) (S : Str → Bool) : Prop where
  at_ : H D = some (SetSO P w D S seen.length)
  nd : seen.Nodup
  mem : ∀ x, S x = true ↔ x ∈ seen
theorem ok_names_in (T : Txt K mg) : FnOk P w K mg base CX0 3 T.f_names_in T.d_names_in ["rules"] (sp_names_in K T.C_Rule) := by
  refine T.F_names_in.ok sc_names_in (fun vs H Q E h => ?_) (fun cdv A outer s H vs Q E hr h => ?_)
  · obtain ⟨t, ls, ps, rfl, _⟩ := h
    rfl
  · obtain ⟨t, ls, ps, rfl, hT, hR, few, kk⟩ := h
    refine ⟨_, (pss_one (ps_ret (pe_callTy call_tuple_of (by rfl) T.z_tuple (by decide +kernel) (pa_cons (pe_callB (cr_sortedTS rfl) (by rfl) T.z_sorted (by decide +kernel) (pa_cons (pe_sc2 (own := [("rule", 1), ("name", 2)]) (vs1 := [2]) (g := (gName 1)) (g1 := (gName 2)) (tt := tYes) (tt1 := tYes) rfl sc_names_in.nd (pi_tup (pv 0)) (blkOk_by (own := [("rule", 1), ("name", 2)]) (N := N_names_in) (sc := defScope s_names_in) (by decide +kernel)) (by decide) (fun _ _ _ _ _ => (pg_name (i := 1) sc_names_in.nd rfl (.inl rfl))) (fun _ _ _ _ _ => pts_nil) (fun _ _ _ _ _ => (pi_tup (pe_prop (pv 1) T.cl_Rule T.pr_Rule_names (ok_Rule_names T) (hr.mono (by decide)) T.b_Rule_names .nil pass0 rfl) : PI _ _ _ (iTup K _))) (fun _ _ _ _ _ => (pg_name (i := 2) sc_names_in.nd rfl (.inl rfl))) (fun _ _ _ _ _ => pts_nil) (fun _ _ _ _ _ => (pv 2))) pa_nil)) pa_nil)))), ?_⟩
    refine ⟨_, rfl, t, rfl, ⟨_, hT⟩, fun D hD => ?_⟩
    have fresh : ∀ b o, H b = some o → b ≠ D := fun b o e => ne_of_none e hD
    refine it_walk (walk_tup (K := K) (a := t) (xs := ls.map V.ref)) (fun i H2 => ∃ (seen : List Str) (S : Str → Bool), Met P w D H2 seen S ∧ (∀ x, x ∈ seen ↔ x ∈ basesL (ps.take i)) ∧ Same H H2)
      ⟨[], fun _ => false, ⟨upd_same, List.nodup_nil, fun x => by simp⟩, fun x => by simp [basesL], Same.mk1 hD⟩ (fun i H2 _ ⟨_, _, _, _, s2⟩ => sqT_same s2 hT) ?_ ?_
    · rintro i x H2 H3 hi ⟨seen, S, M, hm, s2⟩ ⟨rfl, hx⟩
      obtain ⟨a, ha, rfl⟩ := getElem?_map' hx
      obtain ⟨r, hr2, hA⟩ := hR.get ha
      obtain ⟨op, nm, dx, tt, f, b, ns, h1, h2, h3, hN⟩ := hA.fields
      have hrm : r ∈ ps := List.mem_of_getElem? hr2
      refine ⟨rfl, _, rfl, a, dx, _, rfl, s2 _ _ h1, a, dx, _, .ref b, rfl, s2 _ _ h1, fR_base_names, b, rfl, ⟨_, SqT.of (s2 _ _ h3)⟩, ?_⟩
      refine it_walk (walk_tup (K := K) (a := b) (xs := ns.map V.str)) (fun j H4 => ∃ (seen : List Str) (S : Str → Bool), Met P w D H4 seen S ∧ (∀ x, x ∈ seen ↔ x ∈ basesL (ps.take i) ∨ x ∈ ns.take j) ∧ Same H H4)
        ⟨seen, S, M, fun x => by rw [hm x]; simp, s2⟩ (fun j H4 _ ⟨_, _, _, _, s4⟩ => SqT.of (s4 _ _ h3)) ?_ ?_
      · rintro j y H4 H5 hj ⟨seen2, S2, M2, hm2, s4⟩ ⟨rfl, hy⟩
        obtain ⟨nm2, hn2, rfl⟩ := getElem?_map' hy
        have sub : ∀ x ∈ seen2, x ∈ basesL ps := fun x hx2 => by
          rcases (hm2 x).mp hx2 with z | z
          · obtain ⟨p, hp, hb⟩ := basesL_mem.mp z
            exact basesL_mem.mpr ⟨p, List.mem_of_mem_take hp, hb⟩
          · exact basesL_mem.mpr ⟨r, hrm, (hN.mem x).mp (List.mem_of_mem_take z)⟩
        have len2 := few seen2 M2.nd sub
        refine ⟨rfl, _, rfl, nm2, S2, seen2.length, rfl, M2.at_, (by unfold scanBound; omega), ?_⟩
        have hmem : ∀ x, (x ∈ basesL (ps.take i) ∨ x ∈ ns.take (j + 1)) ↔ (x ∈ seen2 ∨ x = nm2) := fun x => by
          rw [take_next hn2, List.mem_append, List.mem_singleton, hm2 x, or_assoc]
        cases hS : S2 nm2 with
        | true =>
          have inS := (M2.mem nm2).mp hS
          refine ⟨seen2, _, ⟨upd_same, M2.nd, fun x => ?_⟩, fun x => ?_, Same.put s4 hD⟩
          · rw [Bool.or_eq_true, decide_eq_true_eq, M2.mem x]
            exact ⟨fun z => z.elim id fun e => e ▸ inS, .inl⟩
          · rw [hmem x]
            exact ⟨.inl, fun z => z.elim id fun e => e ▸ inS⟩
        | false =>
          have notS : nm2 ∉ seen2 := fun z => by
            rw [(M2.mem nm2).mpr z] at hS
            cases hS
          refine ⟨seen2 ++ [nm2], fun j => S2 j || decide (j = nm2), ⟨?_, ?_, fun x => ?_⟩, fun x => ?_, Same.put s4 hD⟩
          · rw [List.length_append]
            exact upd_same
          · rw [List.nodup_append]
            exact ⟨M2.nd, by simp, fun x hx2 y hy2 e => notS (by rw [List.mem_singleton] at hy2; rw [← hy2, ← e]; exact hx2)⟩
          · rw [Bool.or_eq_true, decide_eq_true_eq, M2.mem x, List.mem_append, List.mem_singleton]
          · rw [hmem x, List.mem_append, List.mem_singleton]
      · rintro H4 ⟨seen2, S2, M2, hm2, s4⟩
        rw [List.length_map, List.take_length] at hm2
        refine ⟨seen2, S2, M2, fun x => ?_, s4⟩
        rw [hm2 x, take_next hr2, basesL_mem, basesL_mem]
        constructor
        · rintro (⟨p, hp, hb⟩ | z)
          · exact ⟨p, List.mem_append_left _ hp, hb⟩
          · exact ⟨r, List.mem_append_right _ (List.mem_singleton.mpr rfl), (hN.mem x).mp z⟩
        · rintro ⟨p, hp, hb⟩
          rcases List.mem_append.mp hp with z | z
          · exact .inl ⟨p, z, hb⟩
          · cases List.mem_singleton.mp z
            exact .inr ((hN.mem x).mpr hb)
    · rintro H2 ⟨seen, S, M, hm, s2⟩
      rw [List.length_map, hR.len, List.take_length] at hm
      have len2 := few seen M.nd fun x hx => (hm x).mp hx
      refine ⟨D, S, seen.length, rfl, M.at_, by omega, fun ys p srt nd mem len np => ?_⟩
      refine ⟨p, _, rfl, .inl ⟨SqL.of upd_same, fun q nq => ?_⟩⟩
      have s3 := s2.trans ((Same.mk1 np).trans (Same.mk1 (o := .tup (ys.map V.str)) nq))
      exact kk q ys _ ((s2.trans (Same.mk1 (o := .lst (ys.map V.str)) np)).free nq) s3 upd_same ⟨srt, nd, fun x => by rw [mem x, M.mem x, hm x]⟩

def sp_Rule_init (C : Addr) : Sp := fun vs H Q _ => ∃ (H0 : Hp) (a dx t : Addr) (rt : RT) (op : Str) (nm : V), vs = [.ref a, .str op, nm, .ref t] ∧ Same H0 H ∧ H0 a = none ∧ H a = some (.ins C dx []) ∧
  ((∃ n, rt = .base n ∧ op = "base" ∧ nm = .str n ∧ H0 t = some (.tup [])) ∨
    ∃ ps ls, rt = .op op ps ∧ ¬ op = "base" ∧ nm = .non ∧ H0 t = some (.tup (ls.map V.ref)) ∧ RulesAt C H0 ps ls ∧ op.length ≤ 100 ∧ wts ps ≤ 100000 ∧ ∀ l : List Str, l.Nodup → (∀ x ∈ l, x ∈ basesL ps) → l.length ≤ 60) ∧
  ∀ H', Same H0 H' → RuleAt C H' rt a → Q .non H'
theorem ok_Rule_init (T : Txt K mg) : FnOk P w K mg base CX0 4 T.f_Rule_init T.d_Rule_init ["self", "operation", "name", "operands"] (sp_Rule_init T.C_Rule) := by
  refine T.F_Rule_init.ok sc_Rule_init (fun vs H Q E h => ?_) (fun cdv A outer s H vs Q E hr h => ?_)
  · obtain ⟨H0, a, dx, t, rt, op, nm, rfl, _⟩ := h
    rfl
  · obtain ⟨H0, a, dx, t, rt, op, nm, rfl, s0, h0, ha, hc, kk⟩ := h
    refine ⟨_, (pss_cons (ps_fld (pv 0) (pv 1) rfl)
        (pss_cons (ps_fld (pv 0) (pv 2) rfl)
        (pss_cons (ps_fld (pv 0) (pv 3) rfl)
        (pss_one (ps_if (pt_cmpR op_eq (pv 1) (pe_glob rfl T.c_BASE T.r_BASE) (nomark _))
          (pss_one (ps_asg (pe_tup (pa_cons (pe_tup (pa_cons (pv 2) pa_nil)) (pa_cons (pv 2) (pa_cons (pe_tup (pa_cons (pv 2) pa_nil)) pa_nil)))) (pg_tup rfl (pgs_cons (pg_fld (pv 0)) (pgs_cons (pg_fld (pv 0)) (pgs_cons (pg_fld (pv 0)) pgs_nil))))))
          (pss_cons (ps_fld (pv 0) (pe_tup (pa_cons (pv 1) (StX.pa_star (pe_lc2 (own := [("part", 4), ("word", 5)]) (vs1 := [5]) (g := (gName 4)) (g1 := (gName 5)) (tt := tYes) (tt1 := tYes) rfl sc_Rule_init.nd (pi_tup (pv 3)) (blkOk_by (own := [("part", 4), ("word", 5)]) (N := N_Rule_init) (sc := defScope s_Rule_init) (by decide +kernel)) (by decide) (fun _ _ _ _ _ => (pg_name (i := 4) sc_Rule_init.nd rfl (.inl rfl))) (fun _ _ _ _ _ => pts_nil) (fun _ _ _ _ _ => (pi_tup (pe_fld (pv 4) rfl : PE _ _ (tFld K _ _)) : PI _ _ _ (iTup K _))) (fun _ _ _ _ _ => (pg_name (i := 5) sc_Rule_init.nd rfl (.inl rfl))) (fun _ _ _ _ _ => pts_nil) (fun _ _ _ _ _ => (pv 5))) pa_nil))) rfl)
          (pss_cons (ps_fld (pv 0) (pe_op op_add_str (pe_op op_add_str (pe_op op_add_str (pv 1) pe_str) (pe_join (pe_glob rfl T.c_GAP T.r_GAP) (pe_lc (own := [("part", 4)]) (g := (gName 4)) (tt := tYes) rfl sc_Rule_init.nd (pi_tup (pv 3)) (blkOk_by (own := [("part", 4)]) (N := N_Rule_init) (sc := defScope s_Rule_init) (by decide +kernel)) (fun _ _ _ _ _ => (pg_name (i := 4) sc_Rule_init.nd rfl (.inl rfl))) (fun _ _ _ _ _ => pts_nil) (fun _ _ _ _ _ => (pe_fld (pv 4) rfl : PE _ _ (tFld K _ _)))))) pe_str) rfl)
          (pss_one (ps_fld (pv 0) (pe_call (ok_names_in T) (hr.mono (by decide)) rfl T.m_names_in T.F_names_in.kp T.b_names_in .nil pass0 (pa_cons (pv 3) pa_nil)) rfl))))))))), ?_⟩
    refine ⟨_, rfl, _, rfl, a, T.C_Rule, dx, [], rfl, ha, T.cl_Rule, T.n_Rule_operation, by decide, ?_⟩
    refine ⟨_, rfl, _, rfl, a, T.C_Rule, dx, _, rfl, upd_same, T.cl_Rule, T.n_Rule_name, (by show 1 < 1000; decide), ?_⟩
    refine ⟨_, rfl, _, rfl, a, T.C_Rule, dx, _, rfl, upd_same, T.cl_Rule, T.n_Rule_operands, (by show 2 < 1000; decide), ?_⟩
    have s1 : Same H0 (upd (upd (upd H a (.ins T.C_Rule dx (putF "operation" (.str op) []))) a (.ins T.C_Rule dx (putF "name" nm (putF "operation" (.str op) [])))) a (.ins T.C_Rule dx (putF "operands" (.ref t) (putF "name" nm (putF "operation" (.str op) []))))) := Same.put (Same.put (Same.put s0 h0) h0) h0
    have a1 : (upd (upd (upd H a (.ins T.C_Rule dx (putF "operation" (.str op) []))) a (.ins T.C_Rule dx (putF "name" nm (putF "operation" (.str op) [])))) a (.ins T.C_Rule dx (putF "operands" (.ref t) (putF "name" nm (putF "operation" (.str op) []))))) a = some (.ins T.C_Rule dx (putF "operands" (.ref t) (putF "name" nm (putF "operation" (.str op) [])))) := upd_same
    revert s1 a1
    generalize upd (upd (upd H a (.ins T.C_Rule dx (putF "operation" (.str op) []))) a (.ins T.C_Rule dx (putF "name" nm (putF "operation" (.str op) [])))) a (.ins T.C_Rule dx (putF "operands" (.ref t) (putF "name" nm (putF "operation" (.str op) [])))) = H1
    intro s1 a1
    refine ⟨_, rfl, rfl, _, rfl, ?_⟩
    rcases hc with ⟨n, rfl, rfl, rfl, ht⟩ | ⟨ps, ls, rfl, hop, rfl, ht, hR, hlo, hw, few⟩
    · rw [decide_eq_true rfl]
      refine iteT ?_
      refine ⟨_, rfl, (by show 1 ≤ sizeLine; decide), fun f nf => ⟨_, rfl, _, rfl, (by show 1 ≤ sizeLine; decide), fun b nb => ⟨(by show 3 ≤ sizeLine; decide), fun q nq => ?_⟩⟩⟩
      refine ⟨q, _, rfl, SqT.of upd_same, rfl, ?_⟩
      have af : a ≠ f := ne_of_none a1 nf
      have sf := Same.mk1 (o := .tup [.str n]) nf
      have ab : a ≠ b := ne_of_none (sf _ _ a1) nb
      have sb := Same.mk1 (o := .tup [.str n]) nb
      have aq : a ≠ q := ne_of_none (sb _ _ (sf _ _ a1)) nq
      have sq := Same.mk1 (o := .tup [.ref f, .str n, .ref b]) nq
      have hf := sq _ _ (sb _ _ (show (upd H1 f (.tup [.str n])) f = some (.tup [.str n]) from upd_same))
      have hb := sq _ _ (show (upd (upd H1 f (.tup [.str n])) b (.tup [.str n])) b = some (.tup [.str n]) from upd_same)
      have a2 := sq _ _ (sb _ _ (sf _ _ a1))
      have s2 := s1.trans (sf.trans (sb.trans sq))
      revert hf hb a2 s2
      clear sq sb sf nq nb nf a1 s1
      generalize upd (upd (upd H1 f (.tup [.str n])) b (.tup [.str n])) q (.tup [.ref f, .str n, .ref b]) = H2
      intro hf hb a2 s2
      refine ⟨_, _, rfl, _, rfl, a, T.C_Rule, dx, _, rfl, a2, T.cl_Rule, T.n_Rule_flat, (by show 3 < 1000; decide), ?_⟩
      refine ⟨_, _, rfl, _, rfl, a, T.C_Rule, dx, _, rfl, upd_same, T.cl_Rule, T.n_Rule_written, (by show 4 < 1000; decide), ?_⟩
      refine ⟨_, _, rfl, _, rfl, a, T.C_Rule, dx, _, rfl, upd_same, T.cl_Rule, T.n_Rule_base_names, (by show 5 < 1000; decide), ?_⟩
      have s3 := Same.put (o := .ins T.C_Rule dx (fR "base" (.str n) t f n b)) (Same.put (o := .ins T.C_Rule dx (putF "written" (.str n) (putF "flat" (.ref f) (putF "operands" (.ref t) (putF "name" (.str n) (putF "operation" (.str "base") [])))))) (Same.put (o := .ins T.C_Rule dx (putF "flat" (.ref f) (putF "operands" (.ref t) (putF "name" (.str n) (putF "operation" (.str "base") []))))) s2 h0) h0) h0
      exact ⟨rfl, kk _ s3 ⟨dx, t, f, b, upd_same, s3 _ _ ht, (upd_ne af.symm).trans ((upd_ne af.symm).trans ((upd_ne af.symm).trans hf)), (upd_ne ab.symm).trans ((upd_ne ab.symm).trans ((upd_ne ab.symm).trans hb))⟩⟩
    · rw [decide_eq_false (fun z => hop (V.str.inj z))]
      refine iteF ?_
      have hT1 : H1 t = some (.tup (ls.map V.ref)) := s1 _ _ ht
      have hR1 := RulesAt.same s1 ps ls hR
      -- flat
      refine ⟨_, rfl, _, rfl, t, rfl, ⟨_, SqT.of hT1⟩, fun D hD => ?_⟩
      refine it_walk (walk_tup (K := K) (a := t) (xs := ls.map V.ref)) (fun i H2 => H2 D = some (.lst ((flats (ps.take i)).map V.str)) ∧ Same H1 H2) ⟨upd_same, Same.mk1 hD⟩ (fun i H2 _ ⟨_, s2⟩ => SqT.of (s2 _ _ hT1)) ?_ ?_
      · rintro i x H2 H3 hi ⟨hD2, s2⟩ ⟨rfl, hx⟩
        obtain ⟨p, hp, rfl⟩ := getElem?_map' hx
        obtain ⟨r, hr2, hA⟩ := hR1.get hp
        obtain ⟨op', nm', dx', t', f', b', ns', h1, h2, h3, hN⟩ := hA.fields
        have len : (flats (ps.take i)).length + r.flat.length ≤ 100000 := by
          have e := flats_append (ps.take i) r
          rw [← take_next hr2] at e
          have e2 := congrArg List.length e
          rw [List.length_append] at e2
          have e3 := flats_le (ps.take (i + 1))
          have e4 := wts_take ps (i + 1)
          omega
        refine ⟨rfl, _, rfl, p, T.C_Rule, dx', _, .ref f', rfl, s2 _ _ h1, T.cl_Rule, T.n_Rule_flat, fR_flat, f', rfl, ⟨_, SqT.of (s2 _ _ h2)⟩, ?_⟩
        refine it_walk (walk_tup (K := K) (a := f') (xs := r.flat.map V.str)) (fun j H4 => H4 D = some (.lst ((flats (ps.take i) ++ r.flat.take j).map V.str)) ∧ Same H1 H4) ⟨by rw [List.take_zero, List.append_nil]; exact hD2, s2⟩ (fun j H4 _ ⟨_, s4⟩ => SqT.of (s4 _ _ h2)) ?_ ?_
        · rintro j y H4 H5 hj ⟨hD4, s4⟩ ⟨rfl, hy⟩
          obtain ⟨w2, hw2, rfl⟩ := getElem?_map' hy
          refine ⟨rfl, _, rfl, _, hD4, ?_, ?_, Same.put s4 hD⟩
          · rw [List.length_map, List.length_append, List.length_take, sizeLine_eq]
            omega
          · rw [upd_same, take_next hw2]
            simp only [List.map_append, List.append_assoc, List.map_cons, List.map_nil]
        · rintro H4 ⟨hD4, s4⟩
          rw [List.length_map, List.take_length] at hD4
          refine ⟨?_, s4⟩
          rw [take_next hr2, flats_append]
          exact hD4
      · rintro H2 ⟨hD2, s2⟩
        rw [List.length_map, hR.len, List.take_length] at hD2
        refine ⟨D, _, rfl, .inr (SqL.of hD2), ?_⟩
        have fl := flats_le ps
        refine ⟨by rw [List.append_nil, List.length_cons, List.length_map, sizeLine_eq]; omega, fun f nf => ?_⟩
        rw [List.append_nil]
        have sf := Same.mk1 (o := .tup (.str op :: (flats ps).map V.str)) nf
        have a2 := sf _ _ (s2 _ _ a1)
        have hf : (upd H2 f (.tup (.str op :: (flats ps).map V.str))) f = some (.tup (.str op :: (flats ps).map V.str)) := upd_same
        have s3 := s1.trans (s2.trans sf)
        revert a2 hf s3
        clear sf nf hD2 hD s2 hT1 hR1 a1 s1
        generalize upd H2 f (.tup (.str op :: (flats ps).map V.str)) = H3
        intro a2 hf s3
        refine ⟨_, rfl, a, T.C_Rule, dx, _, rfl, a2, T.cl_Rule, T.n_Rule_flat, (by show 3 < 1000; decide), ?_⟩
        have af : a ≠ f := fun z => by
          rw [z, hf] at a2
          cases a2
        have s4 := Same.put (o := .ins T.C_Rule dx (putF "flat" (.ref f) (putF "operands" (.ref t) (putF "name" .non (putF "operation" (.str op) []))))) s3 h0
        have a4 : (upd H3 a (.ins T.C_Rule dx (putF "flat" (.ref f) (putF "operands" (.ref t) (putF "name" .non (putF "operation" (.str op) [])))))) a = some (.ins T.C_Rule dx (putF "flat" (.ref f) (putF "operands" (.ref t) (putF "name" .non (putF "operation" (.str op) []))))) := upd_same
        have hf4 : (upd H3 a (.ins T.C_Rule dx (putF "flat" (.ref f) (putF "operands" (.ref t) (putF "name" .non (putF "operation" (.str op) [])))))) f = some (.tup (.str op :: (flats ps).map V.str)) := (upd_ne af.symm).trans hf
        revert s4 a4 hf4
        clear hf s3 a2
        generalize upd H3 a (.ins T.C_Rule dx (putF "flat" (.ref f) (putF "operands" (.ref t) (putF "name" .non (putF "operation" (.str op) []))))) = H4
        intro s4 a4 hf4
        -- written
        have hT4 : H4 t = some (.tup (ls.map V.ref)) := s4 _ _ ht
        have hR4 := RulesAt.same s4 ps ls hR
        have jl := join_le_wts ps
        have e1 : (("(" : String) : Str).length = 1 := rfl
        have e3 : ((")" : String) : Str).length = 1 := rfl
        refine ⟨_, rfl, op, "(", rfl, rfl, (by rw [e1, sizeLine_eq]; omega), ⟨_, rfl⟩, _, rfl, t, rfl, ⟨_, SqT.of hT4⟩, fun D2 hD2 => ?_⟩
        refine lc_it (walk_tup (K := K) (a := t) (xs := ls.map V.ref)) (fun i H5 => H5 D2 = some (.lst ((texts (ps.take i)).map V.str)) ∧ Same H4 H5) ⟨upd_same, Same.mk1 hD2⟩ (fun i H5 _ ⟨_, s5⟩ => SqT.of (s5 _ _ hT4)) ?_ ?_
        · rintro i x H5 H6 hi ⟨hD5, s5⟩ ⟨rfl, hx⟩
          obtain ⟨p, hp, rfl⟩ := getElem?_map' hx
          obtain ⟨r, hr2, hA⟩ := hR4.get hp
          obtain ⟨op', nm', dx', t', f', b', ns', h1, h2, h3, hN⟩ := hA.fields
          refine ⟨rfl, _, rfl, p, T.C_Rule, dx', _, _, rfl, s5 _ _ h1, T.cl_Rule, T.n_Rule_written, fR_written, _, hD5, ?_, ?_, Same.put s5 hD2⟩
          · have l1 := texts_len (ps.take i)
            have l2 := len_wts (ps.take i)
            have l3 := wts_take ps i
            rw [List.length_map, sizeLine_eq]
            omega
          · rw [upd_same, take_next hr2, texts_append, List.map_append]
            rfl
        · rintro H5 ⟨hD5, s5⟩
          rw [List.length_map, hR.len, List.take_length] at hD5
          have tl := texts_le ps
          refine ⟨", ", D2, texts ps, rfl, rfl, .inl (SqL.of hD5), (by have z : ((", " : String) : Str).length = 2 := rfl; rw [z]; omega), _, _, rfl, rfl, (by rw [strLen_append, e1, sizeLine_eq]; omega), _, _, rfl, rfl, (by rw [strLen_append, strLen_append, e1, e3, sizeLine_eq]; omega), ?_⟩
          refine ⟨_, rfl, a, T.C_Rule, dx, _, rfl, s5 _ _ a4, T.cl_Rule, T.n_Rule_written, (by show 4 < 1000; decide), ?_⟩
          have s6 := Same.put (o := .ins T.C_Rule dx (putF "written" (.str (RT.op op ps).text) (putF "flat" (.ref f) (putF "operands" (.ref t) (putF "name" .non (putF "operation" (.str op) [])))))) (s4.trans s5) h0
          have a6 : (upd H5 a (.ins T.C_Rule dx (putF "written" (.str (RT.op op ps).text) (putF "flat" (.ref f) (putF "operands" (.ref t) (putF "name" .non (putF "operation" (.str op) []))))))) a = some (.ins T.C_Rule dx (putF "written" (.str (RT.op op ps).text) (putF "flat" (.ref f) (putF "operands" (.ref t) (putF "name" .non (putF "operation" (.str op) [])))))) := upd_same
          have hf6 : (upd H5 a (.ins T.C_Rule dx (putF "written" (.str (RT.op op ps).text) (putF "flat" (.ref f) (putF "operands" (.ref t) (putF "name" .non (putF "operation" (.str op) []))))))) f = some (.tup (.str op :: (flats ps).map V.str)) := (upd_ne af.symm).trans (s5 _ _ hf4)
          show _
          revert s6 a6 hf6
          rw [show (op ++ ("(" : Str) ++ PySem.Txt.join ", " (texts ps) ++ (")" : Str)) = (RT.op op ps).text from rfl]
          clear hD5 s5 hT4 hR4 a4 hf4 s4 hD2
          generalize upd H5 a (.ins T.C_Rule dx (putF "written" (.str (RT.op op ps).text) (putF "flat" (.ref f) (putF "operands" (.ref t) (putF "name" .non (putF "operation" (.str op) [])))))) = H6
          intro s6 a6 hf6
          -- base_names
          refine ⟨_, rfl, t, ls, ps, rfl, SqT.of (s6 _ _ ht), RulesAt.same s6 ps ls hR, few, fun b ns H7 nb s7 hb hN => ?_⟩
          have ab : a ≠ b := ne_of_none a6 nb
          refine ⟨_, rfl, a, T.C_Rule, dx, _, rfl, s7 _ _ a6, T.cl_Rule, T.n_Rule_base_names, (by show 5 < 1000; decide), ?_⟩
          have s8 := Same.put (o := .ins T.C_Rule dx (fR op .non t f (RT.op op ps).text b)) (s6.trans s7) h0
          exact kk _ s8 ⟨dx, t, f, b, ls, ns, upd_same, s8 _ _ ht, RulesAt.same s8 ps ls hR, (upd_ne af.symm).trans (s7 _ _ hf6), (upd_ne ab.symm).trans hb, hN⟩

theorem OddV.no {K : PySem.W.Frag} {mg : Str → Option Value} {H : Hp} {v : V} {t : String} (T : Txt K mg) (h : OddV K H v t) : PySem.W.kitOne K (.type t) (.ref T.C_Rule) = some false := by
  cases h with
  | non => exact T.ki_Rule_NoneType
  | bl b => exact T.ki_Rule_bool
  | int i => exact T.ki_Rule_int
  | str x => exact T.ki_Rule_str
  | lst e => exact T.ki_Rule_list
  | tup e => exact T.ki_Rule_tuple
/-- a rule and another one, or a value of a kind of Python's own -/
def sp_Rule_eq (K : PySem.W.Frag) (C : Addr) : Sp := fun vs H Q _ => (∃ (a b : Addr) (r q : RT), vs = [.ref a, .ref b] ∧ RuleAt C H r a ∧ RuleAt C H q b ∧ Q (.bl (decide (r.text = q.text))) H) ∨
  ∃ (a : Addr) (r : RT) (y : V) (t : String), vs = [.ref a, y] ∧ RuleAt C H r a ∧ OddV K H y t ∧ Q (.bl false) H
theorem ok_Rule_eq (T : Txt K mg) : FnOk P w K mg base CX0 1 T.f_Rule_eq T.d_Rule_eq ["self", "other"] (sp_Rule_eq K T.C_Rule) := by
  refine T.F_Rule_eq.ok sc_Rule_eq (fun vs H Q E h => ?_) (fun cdv A outer s H vs Q E hr h => ?_)
  · rcases h with ⟨a, b, r, q, rfl, _⟩ | ⟨a, r, y, t, rfl, _⟩ <;> rfl
  · rcases h with ⟨a, b, r, q, rfl, hA, hB, kk⟩ | ⟨a, r, y, ty, rfl, hA, hO, kk⟩
    · obtain ⟨op, nm, dx, t, f, e, ns, h1, h2, _⟩ := hA.fields
      obtain ⟨op', nm', dx', t', f', e', ns', g1, g2, _⟩ := hB.fields
      refine ⟨_, (pss_one (ps_ret (pe_cut (pe_and (pe_callB call_isi (by rfl) T.z_isinstance (by decide +kernel) (pa_cons (pv 1) (pa_cons (pe_glob (v := .ref T.C_Rule) rfl T.m_Rule rfl) pa_nil))) (pe_one (pe_cmpR op_eq (pe_fld (pv 0) rfl) (pe_fld (pv 1) rfl) (nomark _))))))), ?_⟩
      refine ⟨Q, ?_, fun _ _ h => h⟩
      have isI : TyX K H (.ref b) (.ref T.C_Rule) := .base (.ins g1 T.ic_Rule.cl T.ic_Rule.ha T.ic_Rule.hn T.ic_Rule.htk T.ic_Rule.hm)
      refine ⟨_, rfl, .ref b, .ref T.C_Rule, .ref T.C_Rule, .ref T.C_Rule, true, rfl, .own _, isI, T.ic_Rule.me, true, rfl, ?_⟩
      refine iteT ?_
      refine ⟨.ref a, rfl, a, T.C_Rule, dx, _, .str r.text, rfl, h1, T.cl_Rule, T.n_Rule_written, fR_written, .ref b, rfl, b, T.C_Rule, dx', _, .str q.text, rfl, g1, T.cl_Rule, T.n_Rule_written, fR_written, rfl, ?_⟩
      have e : decide (V.str r.text = V.str q.text) = decide (r.text = q.text) := by
        by_cases z : r.text = q.text
        · rw [decide_eq_true z, decide_eq_true (congrArg V.str z)]
        · rw [decide_eq_false z, decide_eq_false fun y => z (V.str.inj y)]
      rw [e]
      exact kk
    · refine ⟨_, (pss_one (ps_ret (pe_cut (pe_and (pe_callB call_isi (by rfl) T.z_isinstance (by decide +kernel) (pa_cons (pv 1) (pa_cons (pe_glob (v := .ref T.C_Rule) rfl T.m_Rule rfl) pa_nil))) (pe_one (pe_cmpR op_eq (pe_fld (pv 0) rfl) (pe_fld (pv 1) rfl) (nomark _))))))), ?_⟩
      refine ⟨Q, ?_, fun _ _ h => h⟩
      refine ⟨_, rfl, y, .ref T.C_Rule, .type ty, .ref T.C_Rule, false, rfl, .own _, hO.tyx, hO.no T, false, rfl, ?_⟩
      exact iteF kk

/-- the rule; or, for more than five names, TooMany(5) -/
def endR (C CT : Addr) (wd : Str) (ps : List RT) (H : Hp) (Q : VK) (E : XK) : Prop := ∀ ns, NamesOk ns (basesL ps) →
  (ns.length ≤ 5 → ∀ (a : Addr) (H' : Hp), H a = none → Same H H' → RuleAt C H' (.op wd ps) a → Q (.ref a) H') ∧
  (5 < ns.length → ∀ (d : Addr) (H' : Hp), H d = none → Same H H' → H' d = some (.xd [("limit", .int 5)]) → E (.ref CT) (some d) H')
theorem endR.same {C CT : Addr} {wd : Str} {ps : List RT} {H H1 : Hp} {Q : VK} {E : XK} (h : endR C CT wd ps H Q E) (s : Same H H1) : endR C CT wd ps H1 Q E := fun ns hN =>
  ⟨fun l a H' na s' hA => (h ns hN).1 l a H' (s.free na) (s.trans s') hA, fun l d H' nd s' hd => (h ns hN).2 l d H' (s.free nd) (s.trans s') hd⟩
def sp_combined (C CT : Addr) : Sp := fun vs H Q E => ∃ (t : Addr) (ls : List Addr) (ps : List RT) (wd : Str), vs = [.str wd, .ref t] ∧ (¬ wd = "base") ∧ H t = some (.tup (ls.map V.ref)) ∧ RulesAt C H ps ls ∧ wd.length ≤ 100 ∧ wts ps ≤ 100000 ∧ (∀ l : List Str, l.Nodup → (∀ x ∈ l, x ∈ basesL ps) → l.length ≤ 60) ∧ endR C CT wd ps H Q E
theorem ok_combined (T : Txt K mg) : FnOk P w K mg base (L2.CX P w) 6 T.f_combined T.d_combined ["operation", "operands"] (sp_combined T.C_Rule T.C_TooMany) := by
  refine T.F_combined.okX sc_combined (fun vs H Q E h => ?_) (fun cdv A outer s H vs Q E hr h => ?_)
  · obtain ⟨t, ls, ps, wd, rfl, _⟩ := h
    rfl
  · obtain ⟨t, ls, ps, wd, rfl, hb, ht, hR, hl, hw, few, kk⟩ := h
    refine ⟨_, (pss_cons (ps_for (passes_of rfl) rfl (pi_enumT (by rfl) T.z_enumerate (pa_cons (pv 1) pa_nil)) (pg_tup rfl (pgs_cons (pg_name (i := 2) sc_combined.nd rfl (.inl rfl)) (pgs_cons (pg_name (i := 3) sc_combined.nd rfl (.inl rfl)) pgs_nil)))
          (pss_one (ps_if (pt_not (pt_val (pe_callB (C8.call_isC T.ic_Rule) (by rfl) T.z_isinstance (by decide +kernel) (pa_cons (pv 3) (pa_cons (pe_glob (v := .ref T.C_Rule) rfl T.m_Rule rfl) pa_nil)))))
            (pss_one ps_never)
            pss_nil)))
        (pss_cons (ps_if (pt_cmpR op_gt (pe_callB call_len_seq (by rfl) T.z_len (by decide +kernel) (pa_cons (pe_call (ok_names_in T) (hr.mono (by decide)) rfl T.m_names_in T.F_names_in.kp T.b_names_in .nil pass0 (pa_cons (pv 1) pa_nil)) pa_nil)) (ClX.pe_cval (pe_glob (v := .ref T.C_Rule) rfl T.m_Rule rfl)) (nomark _))
          (pss_one (ps_raise rfl (takes_of rfl rfl rfl rfl) (pmk_x1 baseOverflow T.x_TooMany.own T.x_TooMany.iC T.x_TooMany.tI (ok_TooMany_init T) (hr.mono (by decide)) T.b_TooMany_init pass0 rfl T.m_TooMany (pa_cons (ClX.pe_cval (pe_glob (v := .ref T.C_Rule) rfl T.m_Rule rfl)) pa_nil))))
          pss_nil)
        (pss_one (ps_ret (pe_make T.mk_Rule (ok_Rule_init T) (hr.mono (by decide)) rfl T.m_Rule T.b_Rule_init .nil pass0 (pa_cons (pv 0) (pa_cons pe_non (pa_cons (pv 1) pa_nil)))))))), ?_⟩
    refine ⟨_, rfl, t, _, rfl, SqT.of ht, ?_⟩
    refine for_it (walk_enumT (K := K) (a := t) (xs := ls.map V.ref)) (fun i σ H2 => ∃ v2 v3 : Option V, σ = [some (.str wd), some (.ref t), v2, v3] ∧ Same H H2) ⟨_, _, rfl, Same.refl H⟩ (fun i σ H2 _ ⟨_, _, _, s2⟩ => SqT.of (s2 _ _ ht)) ?_ ?_
    · rintro i x σ H2 H3 hi ⟨v2, v3, rfl, s2⟩ ⟨T1, xn, xt, rfl, nT, rfl, e1, e2⟩
      obtain ⟨a, ha, rfl⟩ := getElem?_map' e2
      cases e1
      obtain ⟨r, hr2, hA⟩ := hR.get ha
      obtain ⟨op, nm, dx, tt, f, b, ns, h1, h2, h3, hN⟩ := hA.fields
      have sT := Same.mk1 (o := .tup [.int (i : Nat), .ref a]) nT
      refine ⟨T1, _, rfl, SqT.of upd_same, rfl, _, _, rfl, _, _, rfl, rfl, ?_⟩
      refine ⟨_, rfl, a, dx, _, rfl, sT _ _ (s2 _ _ h1), true, rfl, ?_⟩
      refine iteF ?_
      exact ⟨_, _, rfl, s2.trans sT⟩
    · rintro σ H2 ⟨v2, v3, rfl, s2⟩
      refine ⟨_, rfl, t, ls, ps, rfl, SqT.of (s2 _ _ ht), RulesAt.same s2 ps ls hR, few, fun b ns H3 nb s3 hbn hN => ?_⟩
      refine ⟨b, _, rfl, .inr (SqT.of hbn), T.C_Rule, .type "type", .int 5, _, rfl, T.cr_Rule, T.cv_Rule_MOST_NAMES, ?_⟩
      refine ⟨_, _, rfl, rfl, _, rfl, ?_⟩
      have s23 := s2.trans s3
      by_cases c : 5 < ns.length
      · rw [decide_eq_true (by rw [List.length_map]; omega)]
        refine iteT ?_
        refine ⟨T.C_Rule, .type "type", .int 5, _, rfl, T.cr_Rule, T.cv_Rule_MOST_NAMES, _, rfl, fun d nd => ?_⟩
        exact (kk ns hN).2 c d _ (s23.free nd) (s23.trans (Same.mk1 nd)) upd_same
      · rw [decide_eq_false (by rw [List.length_map]; omega)]
        refine iteF ?_
        refine ⟨_, rfl, _, rfl, fun x dx nx ndx nex => ?_⟩
        refine ⟨H3, x, dx, t, .op wd ps, wd, .non, rfl, Same.put (Same.mk1 ndx) nx, nx, upd_same, .inr ⟨ps, ls, rfl, hb, rfl, s23 _ _ ht, RulesAt.same s23 ps ls hR, hl, hw, few⟩, fun H' s' hA' => ⟨rfl, (kk ns hN).1 (by omega) x H' (s23.free nx) (s23.trans s') hA'⟩⟩

def sp_words (C CT : Addr) (wd : Str) : Sp := fun vs H Q E => ∃ (ls : List Addr) (ps : List RT), vs = ls.map V.ref ∧ RulesAt C H ps ls ∧ wts ps ≤ 100000 ∧ (∀ l : List Str, l.Nodup → (∀ x ∈ l, x ∈ basesL ps) → l.length ≤ 60) ∧ endR C CT wd ps H Q E

theorem ok_merged (T : Txt K mg) : FnR P w K mg base (L2.CX P w) 7 T.f_merged (sp_words T.C_Rule T.C_TooMany "merged") := by
  refine (okStarX (sp := fun vs H Q E => ∃ (t : Addr) (ls : List Addr) (ps : List RT), vs = [.ref t] ∧ H t = some (.tup (ls.map V.ref)) ∧ RulesAt T.C_Rule H ps ls ∧ wts ps ≤ 100000 ∧ (∀ l : List Str, l.Nodup → (∀ x ∈ l, x ∈ basesL ps) → l.length ≤ 60) ∧ endR T.C_Rule T.C_TooMany "merged" ps H Q E)
    T.F_merged sc_merged T.v_merged T.w_merged fun cdv A outer s H vs Q E hr h => ?_).imp fun vs H Q E h => ?_
  · obtain ⟨t, ls, ps, rfl, ht, hR, hw, few, kk⟩ := h
    refine ⟨_, (pss_one (ps_ret (pe_call (ok_combined T) (hr.mono (by decide)) rfl T.m_combined T.F_combined.kp T.b_combined .nil (passE rfl rfl rfl rfl) (pa_cons pe_str (pa_cons (pv 0) pa_nil))))), ?_⟩
    exact ⟨_, rfl, t, ls, ps, "merged", rfl, by decide +kernel, ht, hR, by decide +kernel, hw, few, kk⟩
  · obtain ⟨ls, ps, rfl, hR, hw, few, kk⟩ := h
    have len := len_wts ps
    refine ⟨by rw [List.length_map, hR.len, sizeLine_eq]; omega, fun p hp => ?_⟩
    have sp := Same.mk1 (o := .tup (ls.map V.ref)) hp
    exact ⟨p, ls, ps, rfl, upd_same, RulesAt.same sp ps ls hR, hw, few, kk.same sp⟩

theorem ok_Rule_or (T : Txt K mg) : FnOk P w K mg base (L2.CX P w) 8 T.f_Rule_or T.d_Rule_or ["self", "other"] (fun vs H Q E => vs.length = 2 ∧ sp_words T.C_Rule T.C_TooMany "merged" vs H Q E) := by
  refine T.F_Rule_or.okX sc_Rule_or (fun vs H Q E h => h.1) (fun cdv A outer s H vs Q E hr h => ?_)
  obtain ⟨h2, ls, ps, rfl, hR, hw, few, kk⟩ := h
  match ls, h2 with
  | [a, b], _ =>
    refine ⟨_, (pss_cons (ps_if (pt_not (pt_val (pe_callB call_isi (by rfl) T.z_isinstance (by decide +kernel) (pa_cons (pv 1) (pa_cons (pe_glob (v := .ref T.C_Rule) rfl T.m_Rule rfl) pa_nil)))))
          (pss_one ps_never)
          pss_nil)
        (pss_one (ps_ret (pe_callR (ok_merged T) (hr.mono (by decide)) rfl T.m_merged T.F_merged.kp (passE rfl rfl rfl rfl) (pa_cons (pv 0) (pa_cons (pv 1) pa_nil)))))), ?_⟩
    match ps, hR with
    | [r, q], ⟨_, _, rfl, hA, _, _, rfl, hB, rfl⟩ =>
      obtain ⟨op, nm, dx, t, f, e, ns, g1, _⟩ := hB.fields
      have isI : TyX K H (.ref b) (.ref T.C_Rule) := .base (.ins g1 T.ic_Rule.cl T.ic_Rule.ha T.ic_Rule.hn T.ic_Rule.htk T.ic_Rule.hm)
      refine ⟨_, rfl, .ref b, .ref T.C_Rule, .ref T.C_Rule, .ref T.C_Rule, true, rfl, .own _, isI, T.ic_Rule.me, true, rfl, ?_⟩
      refine iteF ?_
      have hR : RulesAt T.C_Rule H [r, q] [a, b] := ⟨a, [b], rfl, hA, .one hB⟩
      exact ⟨_, rfl, _, rfl, [a, b], [r, q], rfl, hR, hw, few, kk⟩

theorem ok_without (T : Txt K mg) : FnOk P w K mg base (L2.CX P w) 7 T.f_without T.d_without ["rule", "other"] (fun vs H Q E => vs.length = 2 ∧ sp_words T.C_Rule T.C_TooMany "without" vs H Q E) := by
  refine T.F_without.okX sc_without (fun vs H Q E h => h.1) (fun cdv A outer s H vs Q E hr h => ?_)
  obtain ⟨h2, ls, ps, rfl, hR, hw, few, kk⟩ := h
  match ls, h2 with
  | [a, b], _ =>
    refine ⟨_, (pss_one (ps_ret (pe_call (ok_combined T) (hr.mono (by decide)) rfl T.m_combined T.F_combined.kp T.b_combined .nil (passE rfl rfl rfl rfl) (pa_cons pe_str (pa_cons (pe_tup (pa_cons (pv 0) (pa_cons (pv 1) pa_nil))) pa_nil))))), ?_⟩
    refine ⟨_, rfl, _, rfl, (by show 2 ≤ sizeLine; decide), fun t nt => ?_⟩
    have st := Same.mk1 (o := .tup [.ref a, .ref b]) nt
    exact ⟨t, [a, b], ps, "without", rfl, by decide +kernel, upd_same, RulesAt.same st ps [a, b] hR, by decide +kernel, hw, few, kk.same st⟩

theorem ok_Rule_sub (T : Txt K mg) : FnOk P w K mg base (L2.CX P w) 8 T.f_Rule_sub T.d_Rule_sub ["self", "other"] (fun vs H Q E => vs.length = 2 ∧ sp_words T.C_Rule T.C_TooMany "without" vs H Q E) := by
  refine T.F_Rule_sub.okX sc_Rule_sub (fun vs H Q E h => h.1) (fun cdv A outer s H vs Q E hr h => ?_)
  obtain ⟨h2, ls, ps, rfl, hR, hw, few, kk⟩ := h
  match ls, h2 with
  | [a, b], _ =>
    refine ⟨_, (pss_cons (ps_if (pt_not (pt_val (pe_callB call_isi (by rfl) T.z_isinstance (by decide +kernel) (pa_cons (pv 1) (pa_cons (pe_glob (v := .ref T.C_Rule) rfl T.m_Rule rfl) pa_nil)))))
          (pss_one ps_never)
          pss_nil)
        (pss_one (ps_ret (pe_call (ok_without T) (hr.mono (by decide)) rfl T.m_without T.F_without.kp T.b_without .nil (passE rfl rfl rfl rfl) (pa_cons (pv 0) (pa_cons (pv 1) pa_nil)))))), ?_⟩
    match ps, hR with
    | [r, q], ⟨_, _, rfl, hA, _, _, rfl, hB, rfl⟩ =>
      obtain ⟨op, nm, dx, t, f, e, ns, g1, _⟩ := hB.fields
      have isI : TyX K H (.ref b) (.ref T.C_Rule) := .base (.ins g1 T.ic_Rule.cl T.ic_Rule.ha T.ic_Rule.hn T.ic_Rule.htk T.ic_Rule.hm)
      refine ⟨_, rfl, .ref b, .ref T.C_Rule, .ref T.C_Rule, .ref T.C_Rule, true, rfl, .own _, isI, T.ic_Rule.me, true, rfl, ?_⟩
      refine iteF ?_
      have hR : RulesAt T.C_Rule H [r, q] [a, b] := ⟨a, [b], rfl, hA, .one hB⟩
      exact ⟨_, rfl, _, rfl, rfl, [a, b], [r, q], rfl, hR, hw, few, kk⟩

theorem ok_kept (T : Txt K mg) : FnOk P w K mg base (L2.CX P w) 7 T.f_kept T.d_kept ["rule", "other"] (fun vs H Q E => vs.length = 2 ∧ sp_words T.C_Rule T.C_TooMany "kept" vs H Q E) := by
  refine T.F_kept.okX sc_kept (fun vs H Q E h => h.1) (fun cdv A outer s H vs Q E hr h => ?_)
  obtain ⟨h2, ls, ps, rfl, hR, hw, few, kk⟩ := h
  match ls, h2 with
  | [a, b], _ =>
    refine ⟨_, (pss_one (ps_ret (pe_call (ok_combined T) (hr.mono (by decide)) rfl T.m_combined T.F_combined.kp T.b_combined .nil (passE rfl rfl rfl rfl) (pa_cons pe_str (pa_cons (pe_tup (pa_cons (pv 0) (pa_cons (pv 1) pa_nil))) pa_nil))))), ?_⟩
    refine ⟨_, rfl, _, rfl, (by show 2 ≤ sizeLine; decide), fun t nt => ?_⟩
    have st := Same.mk1 (o := .tup [.ref a, .ref b]) nt
    exact ⟨t, [a, b], ps, "kept", rfl, by decide +kernel, upd_same, RulesAt.same st ps [a, b] hR, by decide +kernel, hw, few, kk.same st⟩

theorem ok_Rule_and (T : Txt K mg) : FnOk P w K mg base (L2.CX P w) 8 T.f_Rule_and T.d_Rule_and ["self", "other"] (fun vs H Q E => vs.length = 2 ∧ sp_words T.C_Rule T.C_TooMany "kept" vs H Q E) := by
  refine T.F_Rule_and.okX sc_Rule_and (fun vs H Q E h => h.1) (fun cdv A outer s H vs Q E hr h => ?_)
  obtain ⟨h2, ls, ps, rfl, hR, hw, few, kk⟩ := h
  match ls, h2 with
  | [a, b], _ =>
    refine ⟨_, (pss_cons (ps_if (pt_not (pt_val (pe_callB call_isi (by rfl) T.z_isinstance (by decide +kernel) (pa_cons (pv 1) (pa_cons (pe_glob (v := .ref T.C_Rule) rfl T.m_Rule rfl) pa_nil)))))
          (pss_one ps_never)
          pss_nil)
        (pss_one (ps_ret (pe_call (ok_kept T) (hr.mono (by decide)) rfl T.m_kept T.F_kept.kp T.b_kept .nil (passE rfl rfl rfl rfl) (pa_cons (pv 0) (pa_cons (pv 1) pa_nil)))))), ?_⟩
    match ps, hR with
    | [r, q], ⟨_, _, rfl, hA, _, _, rfl, hB, rfl⟩ =>
      obtain ⟨op, nm, dx, t, f, e, ns, g1, _⟩ := hB.fields
      have isI : TyX K H (.ref b) (.ref T.C_Rule) := .base (.ins g1 T.ic_Rule.cl T.ic_Rule.ha T.ic_Rule.hn T.ic_Rule.htk T.ic_Rule.hm)
      refine ⟨_, rfl, .ref b, .ref T.C_Rule, .ref T.C_Rule, .ref T.C_Rule, true, rfl, .own _, isI, T.ic_Rule.me, true, rfl, ?_⟩
      refine iteF ?_
      have hR : RulesAt T.C_Rule H [r, q] [a, b] := ⟨a, [b], rfl, hA, .one hB⟩
      exact ⟨_, rfl, _, rfl, rfl, [a, b], [r, q], rfl, hR, hw, few, kk⟩

theorem ok_turned (T : Txt K mg) : FnOk P w K mg base (L2.CX P w) 7 T.f_turned T.d_turned ["rule"] (fun vs H Q E => vs.length = 1 ∧ sp_words T.C_Rule T.C_TooMany "turned" vs H Q E) := by
  refine T.F_turned.okX sc_turned (fun vs H Q E h => h.1) (fun cdv A outer s H vs Q E hr h => ?_)
  obtain ⟨h2, ls, ps, rfl, hR, hw, few, kk⟩ := h
  match ls, h2 with
  | [a], _ =>
    refine ⟨_, (pss_one (ps_ret (pe_call (ok_combined T) (hr.mono (by decide)) rfl T.m_combined T.F_combined.kp T.b_combined .nil (passE rfl rfl rfl rfl) (pa_cons pe_str (pa_cons (pe_tup (pa_cons (pv 0) pa_nil)) pa_nil))))), ?_⟩
    refine ⟨_, rfl, (by show 1 ≤ sizeLine; decide), fun t nt => ?_⟩
    have st := Same.mk1 (o := .tup [.ref a]) nt
    exact ⟨t, [a], ps, "turned", rfl, by decide +kernel, upd_same, RulesAt.same st ps [a] hR, by decide +kernel, hw, few, kk.same st⟩

theorem ok_Rule_invert (T : Txt K mg) : FnOk P w K mg base (L2.CX P w) 8 T.f_Rule_invert T.d_Rule_invert ["self"] (fun vs H Q E => vs.length = 1 ∧ sp_words T.C_Rule T.C_TooMany "turned" vs H Q E) := by
  refine T.F_Rule_invert.okX sc_Rule_invert (fun vs H Q E h => h.1) (fun cdv A outer s H vs Q E hr h => ?_)
  obtain ⟨h2, ls, ps, rfl, hR, hw, few, kk⟩ := h
  match ls, h2 with
  | [a], _ =>
    refine ⟨_, (pss_one (ps_ret (pe_call (ok_turned T) (hr.mono (by decide)) rfl T.m_turned T.F_turned.kp T.b_turned .nil (passE rfl rfl rfl rfl) (pa_cons (pv 0) pa_nil)))), ?_⟩
    exact ⟨_, rfl, rfl, [a], ps, rfl, hR, hw, few, kk⟩

theorem strOk_nm {x : Str} (h : nmB x = true) : PyData.strOk x = true := by
  simp only [nmB, Bool.and_eq_true, List.all_eq_true, decide_eq_true_eq] at h
  unfold PyData.strOk
  rw [← Array.all_toList, List.all_eq_true]
  intro c hc
  have := (h.2 c hc).2
  exact decide_eq_true (by omega)
/-- whether data is one of the names; no rule is -/
def sp_Rule_contains (K : PySem.W.Frag) (C : Addr) : Sp := fun vs H Q _ => ∃ (a : Addr) (r : RT) (y : V), vs = [.ref a, y] ∧ RuleAt C H r a ∧ (∀ x ∈ r.bases, nmB x = true) ∧
  ((∃ d, Dp K H y d ∧ SeqAt.shaped d = true ∧ ∀ ns, NamesOk ns r.bases → Q (.bl ((ns.map PyData.str).any fun z => PyData.eqv z d)) H) ∨ ∃ (b : Addr) (q : RT), y = .ref b ∧ RuleAt C H q b ∧ Q (.bl false) H)
theorem in_no_rule {C : Addr} {H : Hp} {b dy : Addr} {gs : List (Str × V)} {q : RT} {E : XK} {Q : Bool → Hp → Prop} (hb : H b = some (.ins C dy gs)) (hB : RuleAt C H q b) (hQ : Q false H) : ∀ ns : List Str, inRT (rEqB K C (sp_Rule_eq K C) E) (.ref b) (ns.map V.str) H Q
  | [] => hQ
  | n :: ns => ⟨b, dy, gs, rfl, hb, .inr ⟨_, .str n, .inr ⟨b, q, _, _, rfl, hB, .str n, _, rfl, _, rfl, iteF (in_no_rule hb hB hQ ns)⟩⟩⟩
theorem ok_Rule_contains (T : Txt K mg) : FnOk P w K mg base CX0 3 T.f_Rule_contains T.d_Rule_contains ["self", "value"] (sp_Rule_contains K T.C_Rule) := by
  refine T.F_Rule_contains.ok sc_Rule_contains (fun vs H Q E h => ?_) (fun cdv A outer s H vs Q E hr h => ?_)
  · obtain ⟨a, r, y, rfl, _⟩ := h
    rfl
  · obtain ⟨a, r, y, rfl, hA, hnm, h⟩ := h
    obtain ⟨op, nm, dx, t, f, b, ns, h1, h2, h3, hN⟩ := hA.fields
    refine ⟨_, (pss_one (ps_ret (pe_cmpR (op_alt (op_inDT (u65 hr)) (op_inBT (eqB_own T.om_Rule_eq T.od_Rule (ok_Rule_eq T) (hr.mono (by decide)) T.b_Rule_eq pass0))) (pv 1) (pe_fld (pv 0) rfl) (by rfl)))), ?_⟩
    have nok : ∀ x ∈ ns, PyData.strOk x = true := fun x hx => strOk_nm (hnm x ((hN.mem x).mp hx))
    refine ⟨_, rfl, .ref a, rfl, a, T.C_Rule, dx, _, .ref b, rfl, h1, T.cl_Rule, T.n_Rule_base_names, fR_base_names, ?_⟩
    rcases h with ⟨d, hd, sd, kk⟩ | ⟨c, q, rfl, hB, kk⟩
    · exact .inl ⟨d, _, hd, strsT_dp (SqT.of h3), sd, strsT_shaped nok, kk ns hN⟩
    · obtain ⟨_, _, dy, _, _, _, _, g1, _⟩ := hB.fields
      exact .inr ⟨b, _, rfl, SqT.of h3, in_no_rule g1 hB kk ns⟩

def sp_Rule_str (C : Addr) : Sp := fun vs H Q _ => ∃ (a : Addr) (r : RT), vs = [.ref a] ∧ RuleAt C H r a ∧ Q (.str r.text) H
theorem ok_Rule_str (T : Txt K mg) : FnOk P w K mg base CX0 1 T.f_Rule_str T.d_Rule_str ["self"] (sp_Rule_str T.C_Rule) := by
  refine T.F_Rule_str.ok sc_Rule_str (fun vs H Q E h => ?_) (fun cdv A outer s H vs Q E hr h => ?_)
  · obtain ⟨a, r, rfl, _⟩ := h
    rfl
  · obtain ⟨a, r, rfl, hA, q⟩ := h
    obtain ⟨op, nm, dx, t, f, b, ns, h1, h2, _⟩ := hA.fields
    refine ⟨_, (pss_one (ps_ret (pe_callTy SkE.call_str_str (by rfl) T.z_str (by decide +kernel) (pa_cons (pe_fld (pv 0) rfl) pa_nil)))), ?_⟩
    refine ⟨.ref a, rfl, a, T.C_Rule, dx, _, .str r.text, rfl, h1, T.cl_Rule, T.n_Rule_written, fR_written, ?_⟩
    exact ⟨_, rfl, q⟩

theorem ok_Rule_word (T : Txt K mg) : FnOk P w K mg base CX0 1 T.f_Rule_word T.d_Rule_word ["self"] (getSp T.C_Rule "operation") := by
  refine T.F_Rule_word.ok sc_Rule_word (fun vs H Q E h => ?_) (fun cdv A outer s H vs Q E hr h => ?_)
  · obtain ⟨a, dx, fs, v, rfl, _⟩ := h
    rfl
  · obtain ⟨a, dx, fs, v, rfl, ea, l, q⟩ := h
    exact ⟨_, (pss_one (ps_ret (pe_fld (pv 0) rfl))), .ref a, rfl, a, T.C_Rule, dx, fs, v, rfl, ea, T.cl_Rule, T.n_Rule_operation, l, q⟩

theorem ok_Rule_parts (T : Txt K mg) : FnOk P w K mg base CX0 1 T.f_Rule_parts T.d_Rule_parts ["self"] (getSp T.C_Rule "operands") := by
  refine T.F_Rule_parts.ok sc_Rule_parts (fun vs H Q E h => ?_) (fun cdv A outer s H vs Q E hr h => ?_)
  · obtain ⟨a, dx, fs, v, rfl, _⟩ := h
    rfl
  · obtain ⟨a, dx, fs, v, rfl, ea, l, q⟩ := h
    exact ⟨_, (pss_one (ps_ret (pe_fld (pv 0) rfl))), .ref a, rfl, a, T.C_Rule, dx, fs, v, rfl, ea, T.cl_Rule, T.n_Rule_operands, l, q⟩

def sp_base (C : Addr) : Sp := fun vs H Q _ => ∃ n : Str, vs = [.str n] ∧ nmB n = true ∧ ∀ (a : Addr) (H' : Hp), H a = none → Same H H' → RuleAt C H' (.base n) a → Q (.ref a) H'
theorem ok_base (T : Txt K mg) : FnOk P w K mg base CX0 6 T.f_base T.d_base ["name"] (sp_base T.C_Rule) := by
  refine T.F_base.ok sc_base (fun vs H Q E h => ?_) (fun cdv A outer s H vs Q E hr h => ?_)
  · obtain ⟨n, rfl, _⟩ := h
    rfl
  · obtain ⟨n, rfl, hn, kk⟩ := h
    refine ⟨_, (pss_cons (ps_if (pt_not (pt_val (pe_call (ok_is_name T) (hr.mono (by decide)) rfl T.m_is_name T.F_is_name.kp T.b_is_name .nil pass0 (pa_cons (pv 0) pa_nil))))
          (pss_one ps_never)
          pss_nil)
        (pss_one (ps_ret (pe_make T.mk_Rule (ok_Rule_init T) (hr.mono (by decide)) rfl T.m_Rule T.b_Rule_init .nil pass0 (pa_cons (pe_glob rfl T.c_BASE T.r_BASE) (pa_cons (pv 0) (pa_cons (pe_tup pa_nil) pa_nil))))))), ?_⟩
    refine ⟨_, rfl, n, rfl, hn, fun H1 s1 => ⟨true, rfl, ?_⟩⟩
    refine iteF ?_
    refine ⟨_, rfl, (by show 0 ≤ sizeLine; decide), fun t nt => ?_⟩
    intro x dx nx ndx nex
    have st := Same.mk1 (o := .tup []) nt
    refine ⟨upd H1 t (.tup []), x, dx, t, .base n, "base", .str n, rfl, Same.put (Same.mk1 ndx) nx, nx, upd_same, .inl ⟨n, rfl, rfl, rfl, upd_same⟩, fun H' s' hA' => ⟨rfl, kk x H' ((s1.trans st).free nx) ((s1.trans st).trans s') hA'⟩⟩

theorem ok_chained (T : Txt K mg) : FnR P w K mg base (L2.CX P w) 7 T.f_chained (sp_words T.C_Rule T.C_TooMany "chained") := by
  refine (okStarX (sp := fun vs H Q E => ∃ (t : Addr) (ls : List Addr) (ps : List RT), vs = [.ref t] ∧ H t = some (.tup (ls.map V.ref)) ∧ RulesAt T.C_Rule H ps ls ∧ wts ps ≤ 100000 ∧ (∀ l : List Str, l.Nodup → (∀ x ∈ l, x ∈ basesL ps) → l.length ≤ 60) ∧ endR T.C_Rule T.C_TooMany "chained" ps H Q E)
    T.F_chained sc_chained T.v_chained T.w_chained fun cdv A outer s H vs Q E hr h => ?_).imp fun vs H Q E h => ?_
  · obtain ⟨t, ls, ps, rfl, ht, hR, hw, few, kk⟩ := h
    refine ⟨_, (pss_one (ps_ret (pe_call (ok_combined T) (hr.mono (by decide)) rfl T.m_combined T.F_combined.kp T.b_combined .nil (passE rfl rfl rfl rfl) (pa_cons pe_str (pa_cons (pv 0) pa_nil))))), ?_⟩
    exact ⟨_, rfl, t, ls, ps, "chained", rfl, by decide +kernel, ht, hR, by decide +kernel, hw, few, kk⟩
  · obtain ⟨ls, ps, rfl, hR, hw, few, kk⟩ := h
    have len := len_wts ps
    refine ⟨by rw [List.length_map, hR.len, sizeLine_eq]; omega, fun p hp => ?_⟩
    have sp := Same.mk1 (o := .tup (ls.map V.ref)) hp
    exact ⟨p, ls, ps, rfl, upd_same, RulesAt.same sp ps ls hR, hw, few, kk.same sp⟩

theorem ok_filled (T : Txt K mg) : FnOk P w K mg base (L2.CX P w) 7 T.f_filled T.d_filled ["rule", "other"] (fun vs H Q E => vs.length = 2 ∧ sp_words T.C_Rule T.C_TooMany "filled" vs H Q E) := by
  refine T.F_filled.okX sc_filled (fun vs H Q E h => h.1) (fun cdv A outer s H vs Q E hr h => ?_)
  obtain ⟨h2, ls, ps, rfl, hR, hw, few, kk⟩ := h
  match ls, h2 with
  | [a, b], _ =>
    refine ⟨_, (pss_one (ps_ret (pe_call (ok_combined T) (hr.mono (by decide)) rfl T.m_combined T.F_combined.kp T.b_combined .nil (passE rfl rfl rfl rfl) (pa_cons pe_str (pa_cons (pe_tup (pa_cons (pv 0) (pa_cons (pv 1) pa_nil))) pa_nil))))), ?_⟩
    refine ⟨_, rfl, _, rfl, (by show 2 ≤ sizeLine; decide), fun t nt => ?_⟩
    have st := Same.mk1 (o := .tup [.ref a, .ref b]) nt
    exact ⟨t, [a, b], ps, "filled", rfl, by decide +kernel, upd_same, RulesAt.same st ps [a, b] hR, by decide +kernel, hw, few, kk.same st⟩

theorem ok_moved (T : Txt K mg) : FnOk P w K mg base (L2.CX P w) 7 T.f_moved T.d_moved ["rule", "other"] (fun vs H Q E => vs.length = 2 ∧ sp_words T.C_Rule T.C_TooMany "moved" vs H Q E) := by
  refine T.F_moved.okX sc_moved (fun vs H Q E h => h.1) (fun cdv A outer s H vs Q E hr h => ?_)
  obtain ⟨h2, ls, ps, rfl, hR, hw, few, kk⟩ := h
  match ls, h2 with
  | [a, b], _ =>
    refine ⟨_, (pss_one (ps_ret (pe_call (ok_combined T) (hr.mono (by decide)) rfl T.m_combined T.F_combined.kp T.b_combined .nil (passE rfl rfl rfl rfl) (pa_cons pe_str (pa_cons (pe_tup (pa_cons (pv 0) (pa_cons (pv 1) pa_nil))) pa_nil))))), ?_⟩
    refine ⟨_, rfl, _, rfl, (by show 2 ≤ sizeLine; decide), fun t nt => ?_⟩
    have st := Same.mk1 (o := .tup [.ref a, .ref b]) nt
    exact ⟨t, [a, b], ps, "moved", rfl, by decide +kernel, upd_same, RulesAt.same st ps [a, b] hR, by decide +kernel, hw, few, kk.same st⟩

theorem ok_by_keys (T : Txt K mg) : FnOk P w K mg base (L2.CX P w) 7 T.f_by_keys T.d_by_keys ["rule"] (fun vs H Q E => vs.length = 1 ∧ sp_words T.C_Rule T.C_TooMany "by_keys" vs H Q E) := by
  refine T.F_by_keys.okX sc_by_keys (fun vs H Q E h => h.1) (fun cdv A outer s H vs Q E hr h => ?_)
  obtain ⟨h2, ls, ps, rfl, hR, hw, few, kk⟩ := h
  match ls, h2 with
  | [a], _ =>
    refine ⟨_, (pss_one (ps_ret (pe_call (ok_combined T) (hr.mono (by decide)) rfl T.m_combined T.F_combined.kp T.b_combined .nil (passE rfl rfl rfl rfl) (pa_cons pe_str (pa_cons (pe_tup (pa_cons (pv 0) pa_nil)) pa_nil))))), ?_⟩
    refine ⟨_, rfl, (by show 1 ≤ sizeLine; decide), fun t nt => ?_⟩
    have st := Same.mk1 (o := .tup [.ref a]) nt
    exact ⟨t, [a], ps, "by_keys", rfl, by decide +kernel, upd_same, RulesAt.same st ps [a] hR, by decide +kernel, hw, few, kk.same st⟩

def sp_postorder (C : Addr) : Sp := fun vs H Q _ => ∃ (a : Addr) (r : RT), vs = [.ref a] ∧ RuleAt C H r a ∧ r.subs.length ≤ 1000 ∧ ∀ (q : Addr) (as : List Addr) (H' : Hp), H q = none → H' q = some (.lst (as.map V.ref)) → RulesAt C H r.subs as → Same H H' → Q (.ref q) H'
theorem ok_postorder (T : Txt K mg) : FnOk P w K mg base CX0 3 T.f_postorder T.d_postorder ["rule"] (sp_postorder T.C_Rule) := by
  refine T.F_postorder.ok sc_postorder (fun vs H Q E h => ?_) (fun cdv A outer s H vs Q E hr h => ?_)
  · obtain ⟨a, r, rfl, _⟩ := h
    rfl
  · obtain ⟨a, r, rfl, hA, few, kk⟩ := h
    refine ⟨_, (pss_cons (ps_par (i := 1) (j := 2) rfl sc_postorder.nd rfl rfl (by decide) rfl rfl (pa_cons (pe_lst pa_nil) (pa_cons (pe_lst (pa_cons (pv 0) pa_nil)) pa_nil)) (by rfl))
        (pss_cons (ps_while PassesOwn.never (pt_cmpR (op_neNil hr.units) (pv 2) (pe_lst pa_nil) (nomark _))
          (pss_cons (ps_set (i := 3) sc_postorder.nd rfl (.inl rfl) (pe_bm0 PySem.F.plainAttrs_list PySem.F.slot_list_pop PySem.F.type_list_pop mt_pop (pv 2)))
          (pss_cons (ps_expr (pe_bm PySem.F.plainAttrs_list PySem.F.slot_list_append PySem.F.type_list_append mt_append (pv 1) (pa_cons (pv 3) pa_nil)))
          (pss_one (ps_expr (pe_bm PySem.F.plainAttrs_list PySem.F.slot_list_extend PySem.F.type_list_extend mt_extendA (pv 2) (pa_cons (pe_prop (pv 3) T.cl_Rule T.pr_Rule_parts (ok_Rule_parts T) (hr.mono (by decide)) T.b_Rule_parts .nil pass0 rfl) pa_nil)))))))
        (pss_cons (ps_expr (pe_bm0 PySem.F.plainAttrs_list PySem.F.slot_list_reverse PySem.F.type_list_reverse mt_reverse (pv 1)))
        (pss_one (ps_ret (pv 1)))))), ?_⟩
    refine ⟨by show 0 ≤ sizeLine; decide, fun fo nf => ⟨_, rfl, by show 1 ≤ sizeLine; decide, fun wo nw => ⟨_, _, rfl, ?_⟩⟩⟩
    have sf := Same.mk1 (o := .lst []) nf
    have hfo : H fo = none := nf
    have hwo : H wo = none := sf.free nw
    have apart : fo ≠ wo := ne_of_none upd_same nw
    refine ⟨fun m σ H2 => ∃ (rs gs : List RT) (ws fs : List Addr) (v3 : Option V), m = (subsL rs).length ∧ σ = [some (.ref a), some (.ref fo), some (.ref wo), v3] ∧ H2 fo = some (.lst (fs.map V.ref)) ∧ H2 wo = some (.lst (ws.map V.ref)) ∧
        RulesAt T.C_Rule H rs ws ∧ RulesAt T.C_Rule H gs fs ∧ subsL rs ++ gs.reverse = r.subs ∧ Same H H2,
      ⟨_, [r], [], [a], [], _, rfl, rfl, (upd_ne apart).trans upd_same, upd_same, .one hA, rfl, by rw [subsL_one]; simp, sf.trans (Same.mk1 nw)⟩, ?_⟩
    rintro m σ H2 ⟨rs, gs, ws, fs, v3, rfl, rfl, h1, h2, hrs, hgs, he, s2⟩
    refine ⟨_, rfl, by show 0 ≤ sizeLine; decide, fun q nq => ⟨wo, q, _, rfl, rfl, Same.mk1 nq _ _ h2, upd_same, _, rfl, ?_⟩⟩
    have sq := Same.mk1 (o := .lst []) nq
    have h1' := sq _ _ h1
    have h2' := sq _ _ h2
    have s2' := s2.trans sq
    revert h1' h2' s2'
    clear sq nq h1 h2 s2
    generalize upd H2 q (.lst []) = H3
    intro h1 h2 s2
    have total : (subsL rs).length + gs.length = r.subs.length := by
      have e := congrArg List.length he
      rw [List.length_append, List.length_reverse] at e
      exact e
    by_cases hne : rs = []
    · subst hne
      obtain rfl : ws = [] := hrs
      refine iteF ?_
      refine ⟨_, rfl, .inl ⟨rfl, _, SqL.of h1⟩, fo, _, rfl, rfl, h1, ?_⟩
      refine ⟨_, rfl, ?_⟩
      have he2 : gs.reverse = r.subs := he
      refine kk fo fs.reverse _ hfo (by rw [upd_same, List.map_reverse]) (by rw [← he2]; exact hgs.rev) (Same.put s2 hfo)
    · obtain ⟨rs', r0, ws', x, rfl, rfl, hrs', hx⟩ := hrs.snoc hne
      have nonempty : (((ws' ++ [x]).map V.ref).isEmpty) = false := by
        rw [List.map_append]
        cases ws' <;> rfl
      rw [nonempty]
      refine iteT ?_
      obtain ⟨nm, dx, t, f, b, ls, hxa, hxt, hls⟩ := hx.parts
      have subsE : subsL (rs' ++ [r0]) = subsL (rs' ++ r0.kids) ++ [r0] := by
        rw [subsL_append, subsL_one, RT.subs_kids, subsL_append, List.append_assoc]
      rw [subsE, List.length_append, List.length_singleton] at total
      refine ⟨fun σ' H' => ∃ m', m' < (subsL (rs' ++ [r0])).length ∧ ∃ (rs gs : List RT) (ws fs : List Addr) (v3 : Option V), m' = (subsL rs).length ∧ σ' = [some (.ref a), some (.ref fo), some (.ref wo), v3] ∧ H' fo = some (.lst (fs.map V.ref)) ∧ H' wo = some (.lst (ws.map V.ref)) ∧
        RulesAt T.C_Rule H rs ws ∧ RulesAt T.C_Rule H gs fs ∧ subsL rs ++ gs.reverse = r.subs ∧ Same H H', fun _ _ h => h, ?_⟩
      have lenG := hgs.len
      have lenK := len_subsL (rs' ++ r0.kids)
      rw [List.length_append] at lenK
      have lenR := hrs'.len
      have lenL := hls.len
      refine ⟨_, rfl, .inl ⟨rfl, _, SqL.of h2⟩, wo, _, .ref x, rfl, rfl, h2, (by rw [List.map_append]; simp), ?_⟩
      rw [show (((ws' ++ [x]).map V.ref).dropLast) = ws'.map V.ref by rw [List.map_append]; exact List.dropLast_concat]
      have h14 : (upd H3 wo (.lst (ws'.map V.ref))) fo = some (.lst (fs.map V.ref)) := (upd_ne apart).trans h1
      refine ⟨_, rfl, .inl ⟨rfl, _, SqL.of h14⟩, _, rfl, fo, _, .ref x, rfl, rfl, h14, (by rw [List.length_map]; exact Nat.lt_of_le_of_lt (by omega : _ ≤ 1000) (by decide)), ?_⟩
      have s5 : Same H (upd (upd H3 wo (.lst (ws'.map V.ref))) fo (.lst (fs.map V.ref ++ [.ref x]))) := Same.put (Same.put s2 hwo) hfo
      have h25 : (upd (upd H3 wo (.lst (ws'.map V.ref))) fo (.lst (fs.map V.ref ++ [.ref x]))) wo = some (.lst (ws'.map V.ref)) := (upd_ne apart.symm).trans upd_same
      refine ⟨_, rfl, .inl ⟨rfl, _, SqL.of h25⟩, _, rfl, x, dx, _, rfl, s5 _ _ hxa, x, dx, _, .ref t, rfl, s5 _ _ hxa, fR_operands, wo, t, _, _, rfl, rfl, h25, SqT.of (s5 _ _ hxt), ?_, ?_⟩
      · rw [List.length_map, List.length_map]
        exact Nat.le_trans (by omega : _ ≤ 1000) (by decide)
      · refine ⟨(subsL (rs' ++ r0.kids)).length, by rw [subsE, List.length_append, List.length_singleton]; exact Nat.lt_succ_self _, rs' ++ r0.kids, gs ++ [r0], ws' ++ ls, fs ++ [x], _, rfl, rfl, ?_, ?_, hrs'.append hls, hgs.append (.one hx), ?_, Same.put s5 hwo⟩
        · rw [upd_ne apart, upd_same, List.map_append]
          rfl
        · rw [upd_same, List.map_append]
        · rw [List.reverse_append, List.reverse_singleton, ← List.append_assoc, ← subsE]
          exact he

def sp_merged_table : Sp := fun vs H Q _ => ∃ (t : Addr) (ds : List Addr) (ls : List Tab), vs = [.ref t] ∧ H t = some (.lst (ds.map V.ref)) ∧ DsAt H ds ls ∧ sumLen ls ≤ 100000 ∧
  ∀ (q : Addr) (H' : Hp), H q = none → H' q = some (.dK (tab (mergeAll ls))) → Same H H' → Q (.ref q) H'
theorem ok_merged_table (T : Txt K mg) : FnOk P w K mg base CX0 3 T.f_merged_table T.d_merged_table ["tables"] sp_merged_table := by
  refine T.F_merged_table.ok sc_merged_table (fun vs H Q E h => ?_) (fun cdv A outer s H vs Q E hr h => ?_)
  · obtain ⟨t, ds, ls, rfl, _⟩ := h
    rfl
  · obtain ⟨t, ds, ls, rfl, ht, hD, few, kk⟩ := h
    refine ⟨_, (pss_cons (ps_set (i := 1) sc_merged_table.nd rfl (.inl rfl) pe_dnewK)
        (pss_cons (ps_for PassesOwn.never rfl (pi_list (pv 0)) (pg_name (i := 2) sc_merged_table.nd rfl (.inl rfl))
          (pss_one (ps_expr (pe_bm PySem.F.plainAttrs_dict PySem.F.slot_dict_update PySem.F.type_dict_update mt_dupdate (pv 1) (pa_cons (pv 2) pa_nil)))))
        (pss_one (ps_ret (pv 1))))), ?_⟩
    refine fun f nf => ?_
    have sf := Same.mk1 (o := .dK []) nf
    refine ⟨_, rfl, t, rfl, ⟨_, SqL.of (sf _ _ ht)⟩, ?_⟩
    refine for_it (walk_list (K := K) (a := t) (xs := ds.map V.ref)) (fun i σ H2 => ∃ v2 : Option V, σ = [some (.ref t), some (.ref f), v2] ∧ H2 f = some (.dK (tab (mergeAll (ls.take i)))) ∧ Same H H2)
      ⟨_, rfl, upd_same, sf⟩ (fun i σ H2 _ ⟨_, _, _, s2⟩ => SqL.of (s2 _ _ ht)) ?_ ?_
    · rintro i x σ H2 H3 hi ⟨v2, rfl, hf, s2⟩ ⟨rfl, hx⟩
      obtain ⟨d, hd, rfl⟩ := getElem?_map' hx
      obtain ⟨l, hl, hdl⟩ := hD.get hd
      have le1 := mergeAll_len ls i
      have le2 := sumLen_take ls (i + 1)
      rw [take_next hl, sumLen_append] at le2
      have le3 : sumLen (ls.take i) + (l.length + 0) ≤ sumLen ls := le2
      refine ⟨_, rfl, .inr (.inr (.inl ⟨rfl, .inl ⟨_, hf⟩⟩)), _, rfl, f, d, _, _, rfl, rfl, (ne_of_none hdl nf).symm, hf, s2 _ _ hdl, (by rw [tab_len, tab_len, sizeLine_eq]; omega), ?_⟩
      refine ⟨_, rfl, ?_, Same.put s2 nf⟩
      rw [mergeK_tab, mergeAll_take hl]
      exact upd_same
    · rintro σ H2 ⟨v2, rfl, hf, s2⟩
      rw [List.length_map, hD.len, List.take_length] at hf
      exact ⟨_, rfl, kk f H2 nf hf s2⟩

def sp_two_tables (f : Tab → Tab → Tab) : Sp := fun vs H Q _ => ∃ (a b : Addr) (l m : Tab), vs = [.ref a, .ref b] ∧ H a = some (.dK (tab l)) ∧ H b = some (.dK (tab m)) ∧ TabOk m ∧ l.length + m.length ≤ 100000 ∧ TabOk l ∧
  ∀ (q : Addr) (H' : Hp), H q = none → H' q = some (.dK (tab (f l m))) → Same H H' → Q (.ref q) H'
theorem ok_filled_table (T : Txt K mg) : FnOk P w K mg base CX0 1 T.f_filled_table T.d_filled_table ["table", "other"] (sp_two_tables fillT) := by
  refine T.F_filled_table.ok sc_filled_table (fun vs H Q E h => ?_) (fun cdv A outer s H vs Q E hr h => ?_)
  · obtain ⟨a, b, l, m, rfl, _⟩ := h
    rfl
  · obtain ⟨a, b, l, m, rfl, ha, hb, okm, few, okl, kk⟩ := h
    refine ⟨_, (pss_cons (ps_set (i := 2) sc_filled_table.nd rfl (.inl rfl) (pe_callTy call_dictD (by rfl) T.z_dict (by decide +kernel) (pa_cons (pv 0) pa_nil)))
        (pss_cons (ps_lock (ps_for PassesOwn.never rfl (pi_keys (pv 1)) (pg_name (i := 3) sc_filled_table.nd rfl (.inl rfl))
          (pss_one (ps_expr (pe_dsetd (pv 2) (pv 3) (pe_dget (hu_of hr) (pv 1) (pv 3) (fun _ _ => rfl)) ⟨rfl, rfl, rfl, rfl⟩)))))
        (pss_one (ps_ret (pv 2))))), ?_⟩
    refine ⟨_, rfl, a, _, rfl, .of ha, fun f nf => ?_⟩
    have sf := Same.mk1 (o := .dK (tab l)) nf
    have hb1 := sf _ _ hb
    have fb : f ≠ b := (ne_of_none hb nf).symm
    refine ⟨b, _, hb1, True.intro, fun od => ?_⟩
    refine ⟨_, rfl, b, od, rfl, .inl ⟨tab m, upd_same, ?_⟩⟩
    refine for_it (walk_keys (d := b) (o := od) (kvs := tab m)) (fun i σ H2 => ∃ v3 : Option V, σ = [some (.ref a), some (.ref b), some (.ref f), v3] ∧ H2 f = some (.dK (tab (fillT l (m.take i)))) ∧ H2 b = some (.frz od (.dK (tab m))) ∧ Same H (upd H2 b (.dK (tab m))))
      ⟨_, rfl, (upd_ne fb).trans upd_same, upd_same, Same.unlock hb1 (Same.refl _) |> sf.trans⟩ (fun i σ H2 _ ⟨_, _, _, h2, _⟩ => h2) ?_ ?_
    · rintro i x σ H2 H3 hi ⟨v3, rfl, hf, h2, s2⟩ ⟨rfl, k0, v, hx, rfl⟩
      obtain ⟨p, hp, e⟩ := getElem?_map' hx
      cases e
      have le1 := fillT_len (m.take i) l
      have le2 : (m.take i).length ≤ m.length := by rw [List.length_take]; omega
      have hsm : (tab (fillT l (m.take i))).length < sizeLine := by rw [tab_len, sizeLine_eq]; omega
      have hget : valV (tab m) (kI p).1 = some (.int p.2) := by
        show valV (tab m) (Sum.inl p.1 : Key) = _
        rw [valV_tab, getL_of_mem okm.nd (List.mem_of_getElem? hp)]
        rfl
      refine ⟨_, rfl, f, rfl, .inl ⟨_, .of hf⟩, _, rfl, _, rfl, _, rfl, b, _, rfl, .inl ⟨_, _, .inr ⟨od, h2⟩, rfl, hget.symm⟩, _, _, hf, rfl, hsm, fun v0 e0 => ?_, fun e0 => ?_⟩
      · refine ⟨_, rfl, ?_, h2, s2⟩
        have : valV (tab (fillT l (m.take i))) (Sum.inl p.1 : Key) = some v0 := e0
        rw [valV_tab] at this
        rw [fillT_take hp, if_pos]
        · exact hf
        · apply Classical.byContradiction
          intro z
          rw [getL_none.mpr fun y => z (hasL_iff.mpr y)] at this
          cases this
      · have e1 : valV (tab (fillT l (m.take i))) (Sum.inl p.1 : Key) = none := e0
        rw [valV_tab, Option.map_eq_none_iff, getL_none] at e1
        have n : p.1 ∉ (fillT l (m.take i)).map (·.1) := e1
        refine ⟨_, rfl, ?_, (upd_ne fb.symm).trans h2, ?_⟩
        · rw [fillT_take hp, if_neg fun z => n (hasL_iff.mp z)]
          rw [show fillT l (m.take i) ++ [p] = putL (fillT l (m.take i)) p.1 p.2 from (putL_new p.2 n).symm, ← putK_tab]
          exact upd_same
        · rw [upd_two fb]
          exact Same.put s2 nf
    · rintro σ H2 ⟨v3, rfl, hf, h2, s2⟩
      rw [show (tab m).length = m.length from tab_len m, List.take_length] at hf
      exact ⟨h2, _, rfl, kk f _ nf ((upd_ne fb).trans hf) s2⟩

theorem ok_moved_table (T : Txt K mg) : FnOk P w K mg base CX0 1 T.f_moved_table T.d_moved_table ["table", "other"] (sp_two_tables moveT) := by
  refine T.F_moved_table.ok sc_moved_table (fun vs H Q E h => ?_) (fun cdv A outer s H vs Q E hr h => ?_)
  · obtain ⟨a, b, l, m, rfl, _⟩ := h
    rfl
  · obtain ⟨a, b, l, m, rfl, ha, hb, okm, few, okl, kk⟩ := h
    refine ⟨_, (pss_cons (ps_set (i := 2) sc_moved_table.nd rfl (.inl rfl) (pe_callTy call_dictD (by rfl) T.z_dict (by decide +kernel) (pa_cons (pv 0) pa_nil)))
        (pss_cons (ps_lock (ps_for PassesOwn.never rfl (pi_keys (pv 1)) (pg_name (i := 3) sc_moved_table.nd rfl (.inl rfl))
          (pss_one (ps_if (pt_cmp (pc_din (hu_of hr) (pv 3) (pv 2)))
            (pss_one (ps_dput (hu_of hr) (pv 2) (pv 3) (pe_dpop1 (pv 2) (pv 3) ⟨rfl, rfl, rfl, rfl⟩) rfl))
            pss_nil))))
        (pss_one (ps_ret (pv 2))))), ?_⟩
    refine ⟨_, rfl, a, _, rfl, .of ha, fun f nf => ?_⟩
    have sf := Same.mk1 (o := .dK (tab l)) nf
    have hb1 := sf _ _ hb
    have fb : f ≠ b := (ne_of_none hb nf).symm
    refine ⟨b, _, hb1, True.intro, fun od => ?_⟩
    refine ⟨_, rfl, b, od, rfl, .inl ⟨tab m, upd_same, ?_⟩⟩
    refine for_it (walk_keys (d := b) (o := od) (kvs := tab m)) (fun i σ H2 => ∃ v3 : Option V, σ = [some (.ref a), some (.ref b), some (.ref f), v3] ∧ H2 f = some (.dK (tab (moveT l (m.take i)))) ∧ H2 b = some (.frz od (.dK (tab m))) ∧ Same H (upd H2 b (.dK (tab m))))
      ⟨_, rfl, (upd_ne fb).trans upd_same, upd_same, Same.unlock hb1 (Same.refl _) |> sf.trans⟩ (fun i σ H2 _ ⟨_, _, _, h2, _⟩ => h2) ?_ ?_
    · rintro i x σ H2 H3 hi ⟨v3, rfl, hf, h2, s2⟩ ⟨rfl, k0, v, hx, rfl⟩
      obtain ⟨p, hp, e⟩ := getElem?_map' hx
      cases e
      have okc : TabOk (moveT l (m.take i)) := okl.move
      have len1 : (moveT l (m.take i)).length ≤ l.length := moveT_len okl
      have tk := moveT_take (l := l) hp
      refine ⟨_, rfl, _, rfl, f, valV (tab (moveT l (m.take i))) (Sum.inl p.1 : Key), rfl, .inl ⟨_, _, .inl hf, rfl, rfl⟩, ?_⟩
      cases e : getL (moveT l (m.take i)) p.1 with
      | none =>
        rw [e] at tk
        rw [valV_tab, e]
        refine ⟨_, rfl, ?_⟩
        refine iteF ?_
        exact ⟨_, rfl, by rw [tk]; exact hf, h2, s2⟩
      | some v =>
        rw [e] at tk
        rw [valV_tab, e]
        refine ⟨_, rfl, ?_⟩
        refine iteT ?_
        refine ⟨_, rfl, f, rfl, .inl ⟨_, .of hf⟩, _, rfl, _, (Sum.inl p.1 : Key), .int v, hf, rfl, (by rw [valV_tab, e]; rfl), ?_⟩
        have len2 := drop_len okc.nd e
        refine ⟨_, rfl, _, rfl, f, _, rfl, .inl ⟨_, (Sum.inl p.1 : Key), upd_same, rfl, (by rw [dropK_tab, tab_len, sizeLine_eq]; omega), rfl⟩, ?_⟩
        refine ⟨_, rfl, ?_, ?_, ?_⟩
        · rw [tk, dropK_tab, putK_tab, putL_new v dropL_keys]
          exact upd_same
        · rw [upd_ne fb.symm, upd_ne fb.symm]
          exact h2
        · rw [upd_two fb, upd_two fb]
          exact Same.put (Same.put s2 nf) nf
    · rintro σ H2 ⟨v3, rfl, hf, h2, s2⟩
      rw [show (tab m).length = m.length from tab_len m, List.take_length] at hf
      exact ⟨h2, _, rfl, kk f _ nf ((upd_ne fb).trans hf) s2⟩

theorem combT_merged (ls : List Tab) : combT "merged" ls = mergeAll ls := by unfold combT; rw [if_pos rfl]
theorem combT_chained (ls : List Tab) : combT "chained" ls = mergeAll ls.reverse := by unfold combT; rw [if_neg (by decide +kernel), if_pos rfl]
theorem combT_turned (l : Tab) : combT "turned" [l] = l.reverse := by unfold combT; rw [if_neg (by decide +kernel), if_neg (by decide +kernel), if_pos rfl]; rfl
theorem combT_by_keys (l : Tab) : combT "by_keys" [l] = sortT l := by unfold combT; rw [if_neg (by decide +kernel), if_neg (by decide +kernel), if_neg (by decide +kernel), if_pos rfl]; rfl
theorem combT_without (l m : Tab) : combT "without" [l, m] = l.filter fun p => !hasL m p.1 := by unfold combT; rw [if_neg (by decide +kernel), if_neg (by decide +kernel), if_neg (by decide +kernel), if_neg (by decide +kernel), if_pos rfl]; rfl
theorem combT_kept (l m : Tab) : combT "kept" [l, m] = l.filter fun p => hasL m p.1 := by unfold combT; rw [if_neg (by decide +kernel), if_neg (by decide +kernel), if_neg (by decide +kernel), if_neg (by decide +kernel), if_neg (by decide +kernel), if_pos rfl]; rfl
theorem combT_filled (l m : Tab) : combT "filled" [l, m] = fillT l m := by unfold combT; rw [if_neg (by decide +kernel), if_neg (by decide +kernel), if_neg (by decide +kernel), if_neg (by decide +kernel), if_neg (by decide +kernel), if_neg (by decide +kernel), if_pos rfl]; rfl
theorem combT_moved (l m : Tab) : combT "moved" [l, m] = moveT l m := by unfold combT; rw [if_neg (by decide +kernel), if_neg (by decide +kernel), if_neg (by decide +kernel), if_neg (by decide +kernel), if_neg (by decide +kernel), if_neg (by decide +kernel), if_neg (by decide +kernel)]; rfl
theorem has_tab (m : Tab) (k : Int) : (valV (tab m) (Sum.inl k : Key)).isSome = hasL m k := by
  rw [valV_tab, Option.isSome_map]
  by_cases h : hasL m k = true
  · rw [h]
    cases e : getL m k with
    | some v => rfl
    | none => exact absurd (hasL_iff.mp h) (getL_none.mp e)
  · rw [getL_none.mpr fun z => h (hasL_iff.mpr z), Bool.eq_false_iff.mpr h]
    rfl
theorem DsAt.rev {H : Hp} {ds : List Addr} {ls : List Tab} (h : DsAt H ds ls) : DsAt H ds.reverse ls.reverse := ⟨by rw [List.length_reverse, List.length_reverse, h.len], fun i d l a b => by
  have hi := (List.getElem?_eq_some_iff.mp a).1
  rw [List.length_reverse] at hi
  rw [List.getElem?_reverse hi] at a
  rw [List.getElem?_reverse (by rw [← h.len]; exact hi), ← h.len] at b
  exact h.at_ _ d l a b⟩
theorem paired_of {α β : Type} {F : α → β → Prop} : ∀ {xs : List α} {ys : List β}, xs.length = ys.length → (∀ (j : Nat) (x : α) (y : β), xs[j]? = some x → ys[j]? = some y → F x y) → Paired F xs ys
  | [], [], _, _ => .nil
  | [], _ :: _, h, _ => by cases h
  | _ :: _, [], h, _ => by cases h
  | x :: xs, y :: ys, h, g => .cons (g 0 x y rfl rfl) (paired_of (Nat.succ.inj h) fun j a b h1 h2 => g (j + 1) a b h1 h2)
theorem paired_rev {α β : Type} {F : α → β → Prop} : ∀ {xs : List α} {ys : List β}, Paired F xs ys → Paired F xs.reverse ys.reverse
  | _, _, .nil => .nil
  | _, _, .cons h t => by
    rw [List.reverse_cons, List.reverse_cons]
    exact Paired.snoc (paired_rev t) h
theorem paired_imp {α β : Type} {F G : α → β → Prop} (h : ∀ a b, F a b → G a b) : ∀ {xs : List α} {ys : List β}, Paired F xs ys → Paired G xs ys
  | _, _, .nil => .nil
  | _, _, .cons a t => .cons (h _ _ a) (paired_imp h t)
theorem tab_keys (l : Tab) : ((tab l).map (·.1)) = (l.map (·.1)).map (Sum.inl : Int → Key) := by
  rw [List.map_map, List.map_map]
  rfl
theorem mergeK_tab_id {l : Tab} (h : (l.map (·.1)).Nodup) : mergeK [] (tab l) = tab l := mergeK_id (by
  rw [tab_keys]
  exact List.Pairwise.map _ (fun a b n e => n (Sum.inl.inj e)) h)
def sp_combined_table : Sp := fun vs H Q _ => ∃ (wd : Str) (t : Addr) (ds : List Addr) (ls : List Tab), vs = [.str wd, .ref t] ∧ H t = some (.lst (ds.map V.ref)) ∧ DsAt H ds ls ∧ (∀ l ∈ ls, TabOk l) ∧ sumLen ls ≤ 1000 ∧ fitsW wd ls.length ∧
  ∀ (q : Addr) (H' : Hp), H q = none → H' q = some (.dK (tab (combT wd ls))) → Same H H' → Q (.ref q) H'
theorem ok_combined_table (T : Txt K mg) : FnOk P w K mg base CX0 4 T.f_combined_table T.d_combined_table ["word", "tables"] sp_combined_table := by
  refine T.F_combined_table.ok sc_combined_table (fun vs H Q E h => ?_) (fun cdv A outer s H vs Q E hr h => ?_)
  · obtain ⟨wd, t, ds, ls, rfl, _⟩ := h
    rfl
  · obtain ⟨wd, t, ds, ls, rfl, ht, hD, ok, few, fits, kk⟩ := h
    refine ⟨_, (pss_cons (ps_match (pv 0) (pm_case pe_str (pss_one (ps_ret (pe_call (ok_merged_table T) (hr.mono (by decide)) rfl T.m_merged_table T.F_merged_table.kp T.b_merged_table .nil pass0 (pa_cons (pv 1) pa_nil))))
          (pm_case pe_str (pss_one (ps_ret (pe_call (ok_merged_table T) (hr.mono (by decide)) rfl T.m_merged_table T.F_merged_table.kp T.b_merged_table .nil pass0 (pa_cons (pe_revL (pv 1) : PE _ _ (tRevL K _)) pa_nil))))
          (pm_case pe_str (pss_one (ps_ret (pe_callTy (call_dictP rfl) (by rfl) T.z_dict (by decide +kernel) (pa_cons (pe_revL (LiI.pe_listItems rfl (pe_ix (ix_list : IxR _ (rIxL K)) (pv 1) pe_int (fun _ _ => rfl)) (by rfl) T.z_list (by decide +kernel)) : PE _ _ (tRevL K _)) pa_nil))))
          (pm_case pe_str (pss_one (ps_ret (pe_callTy (call_dictP rfl) (by rfl) T.z_dict (by decide +kernel) (pa_cons (pe_callB (cr_sortIt rfl) (by rfl) T.z_sorted (by decide +kernel) (pa_cons (pe_bm0 PySem.F.plainAttrs_dict PySem.F.slot_dict_items PySem.F.type_dict_items mt_itemsK (pe_ix (ix_list : IxR _ (rIxL K)) (pv 1) pe_int (fun _ _ => rfl))) pa_nil)) pa_nil))))
          pm_nil)))))
        (pss_cons (ps_asg (pv 1) (pg_unl rfl (pgs_cons (pg_name (i := 2) sc_combined_table.nd rfl (.inl rfl)) (pgs_cons (pg_name (i := 3) sc_combined_table.nd rfl (.inr rfl)) pgs_nil))))
        (pss_cons (ps_match (pv 0) (pm_case pe_str (pss_one (ps_ret (pe_lock (pe_dc (own := [("key", 4), ("value", 5)]) (g := (gTup K 2 (gCons (gName 4) (gCons (gName 5) gNil)))) rfl sc_combined_table.nd (pi_items (pv 2)) (blkOk_by (own := [("key", 4), ("value", 5)]) (N := N_combined_table) (sc := defScope s_combined_table) (by decide +kernel)) (fun _ _ _ _ _ => (pg_tup rfl (pgs_cons (pg_name (i := 4) sc_combined_table.nd rfl (.inl rfl)) (pgs_cons (pg_name (i := 5) sc_combined_table.nd rfl (.inl rfl)) pgs_nil)))) (fun _ _ _ _ _ => pts_one (pt_cmp (pc_dnotin (hu_of hr) (pv 4) (pv 3)))) (fun _ _ _ _ _ => (pv 4)) (fun _ _ _ _ _ => (pv 5))))))
          (pm_case pe_str (pss_one (ps_ret (pe_lock (pe_dc (own := [("key", 4), ("value", 5)]) (g := (gTup K 2 (gCons (gName 4) (gCons (gName 5) gNil)))) rfl sc_combined_table.nd (pi_items (pv 2)) (blkOk_by (own := [("key", 4), ("value", 5)]) (N := N_combined_table) (sc := defScope s_combined_table) (by decide +kernel)) (fun _ _ _ _ _ => (pg_tup rfl (pgs_cons (pg_name (i := 4) sc_combined_table.nd rfl (.inl rfl)) (pgs_cons (pg_name (i := 5) sc_combined_table.nd rfl (.inl rfl)) pgs_nil)))) (fun _ _ _ _ _ => pts_one (pt_cmp (pc_din (hu_of hr) (pv 4) (pv 3)))) (fun _ _ _ _ _ => (pv 4)) (fun _ _ _ _ _ => (pv 5))))))
          (pm_case pe_str (pss_one (ps_ret (pe_call (ok_filled_table T) (hr.mono (by decide)) rfl T.m_filled_table T.F_filled_table.kp T.b_filled_table .nil pass0 (pa_cons (pv 2) (pa_cons (pv 3) pa_nil)))))
          pm_nil))))
        (pss_one (ps_ret (pe_call (ok_moved_table T) (hr.mono (by decide)) rfl T.m_moved_table T.F_moved_table.kp T.b_moved_table .nil pass0 (pa_cons (pv 2) (pa_cons (pv 3) pa_nil)))))))), ?_⟩
    refine ⟨_, rfl, ?_⟩
    have yes : ∀ {c : Bool} {a b : Prop}, c = true → a → if c = true then a else b := fun h q => by rw [if_pos h]; exact q
    have no : ∀ {c : Bool} {a b : Prop}, c = false → b → if c = true then a else b := fun h q => by rw [h]; exact q
    rcases fits with rfl | rfl | ⟨hw, n1⟩ | ⟨hw, n2⟩
    · refine ⟨rfl, _, rfl, yes (by decide +kernel) ?_⟩
      exact ⟨_, rfl, t, ds, ls, rfl, ht, hD, (by omega), fun q H' nq h s => kk q H' nq (by rw [combT_merged]; exact h) s⟩
    · refine ⟨rfl, _, rfl, no (by decide +kernel) ?_⟩
      refine ⟨rfl, _, rfl, yes (by decide +kernel) ?_⟩
      refine ⟨_, rfl, t, _, rfl, SqL.of ht, fun p np => ?_⟩
      have sp := Same.mk1 (o := .lst (ds.map V.ref).reverse) np
      exact ⟨p, ds.reverse, ls.reverse, rfl, (by rw [upd_same, List.map_reverse]), hD.rev.same sp, (by rw [sumLen_reverse]; omega), fun q H' nq h s => kk q H' (sp.free nq) (by rw [combT_chained]; exact h) (sp.trans s)⟩
    · match ls, ds, n1, hD, ok, few, ht, kk with
      | [l], [d], _, hD, ok, few, ht, kk =>
        have hd := hD.at_ 0 d l rfl rfl
        have okl := ok l List.mem_cons_self
        have few1 : l.length + 0 ≤ 1000 := few
        rcases hw with rfl | rfl
        · refine ⟨rfl, _, rfl, no (by decide +kernel) ?_⟩
          refine ⟨rfl, _, rfl, no (by decide +kernel) ?_⟩
          refine ⟨rfl, _, rfl, yes (by decide +kernel) ?_⟩
          refine ⟨_, rfl, t, [.ref d], 0, .ref d, rfl, rfl, SqL.of ht, rfl, d, tab l, rfl, hd, fun H2 p ts hk np hts pn hp paired => ?_⟩
          refine ⟨p, _, rfl, SqL.of hp, fun q nq => ?_⟩
          have s1 : Same H H2 := hk
          have sq := Same.mk1 (o := .lst (ts.map V.ref).reverse) nq
          refine ⟨q, ts.reverse, tab l.reverse, rfl, SqL.of (by rw [upd_same, List.map_reverse]), ?_, fun r nr => ?_⟩
          · rw [show tab l.reverse = (tab l).reverse from List.map_reverse]
            exact paired_rev (paired_imp (fun a b z => SqT.of (sq _ _ z)) paired)
          · have sr := Same.mk1 (o := .dK (mergeK [] (tab l.reverse))) nr
            refine kk r _ (s1.free (sq.free nr)) ?_ (s1.trans (sq.trans sr))
            rw [upd_same, combT_turned, mergeK_tab_id (okl.perm (List.reverse_perm _)).nd]
        · refine ⟨rfl, _, rfl, no (by decide +kernel) ?_⟩
          refine ⟨rfl, _, rfl, no (by decide +kernel) ?_⟩
          refine ⟨rfl, _, rfl, no (by decide +kernel) ?_⟩
          refine ⟨rfl, _, rfl, yes (by decide +kernel) ?_⟩
          refine ⟨_, rfl, t, [.ref d], 0, .ref d, rfl, rfl, SqL.of ht, rfl, .inr (.inr (.inl ⟨rfl, .inl ⟨_, hd⟩⟩)), d, tab l, rfl, rfl, hd, fun p np => ?_⟩
          have sp := Same.mk1 (o := DX.itemsO p d) np
          refine ⟨p, d, l, rfl, upd_same, sp _ _ hd, (by omega), fun H' r ts l' hk nr hr hlen hts perm srt => ?_⟩
          have s1 : Same (upd H p (DX.itemsO p d)) H' := hk
          have e := sort_eq okl.nd perm srt
          subst e
          refine ⟨r, ts, tab (sortT l), rfl, SqL.of hr, paired_of (by rw [tab_len]; exact hlen) (fun j x y h1 h2 => ?_), fun q nq => ?_⟩
          · obtain ⟨z, hz, rfl⟩ := getElem?_map' h2
            exact SqT.of (hts j x z h1 hz)
          · have sq := Same.mk1 (o := .dK (mergeK [] (tab (sortT l)))) nq
            refine kk q _ (sp.free (s1.free nq)) ?_ (sp.trans (s1.trans sq))
            rw [upd_same, combT_by_keys, mergeK_tab_id (okl.perm (sortT_perm l)).nd]
      | [l], [], _, hD, _, _, _, _ => exact nomatch hD.len
      | [l], _ :: _ :: _, _, hD, _, _, _, _ => exact nomatch hD.len
    · match ls, ds, n2, hD, ok, few, ht, kk with
      | [l, m], [a, b], _, hD, ok, few, ht, kk =>
        have ha := hD.at_ 0 a l rfl rfl
        have hb := hD.at_ 1 b m rfl rfl
        have okl := ok l List.mem_cons_self
        have okm := ok m (List.mem_cons_of_mem _ List.mem_cons_self)
        have few2 : l.length + (m.length + 0) ≤ 1000 := few
        have skip : decide (V.str wd = V.str "merged") = false ∧ decide (V.str wd = V.str "chained") = false ∧ decide (V.str wd = V.str "turned") = false ∧ decide (V.str wd = V.str "by_keys") = false := by
          rcases hw with rfl | rfl | rfl | rfl <;> decide +kernel
        refine ⟨rfl, _, rfl, no skip.1 ?_⟩
        refine ⟨rfl, _, rfl, no skip.2.1 ?_⟩
        refine ⟨rfl, _, rfl, no skip.2.2.1 ?_⟩
        refine ⟨rfl, _, rfl, no skip.2.2.2 ?_⟩
        refine ⟨_, rfl, t, _, rfl, SqL.of ht, rfl, _, _, rfl, _, _, rfl, rfl, ?_⟩
        refine ⟨_, rfl, ?_⟩
        rcases hw with rfl | rfl | rfl | rfl
        · refine ⟨rfl, _, rfl, yes (by decide +kernel) ?_⟩
          rw [combT_without] at kk
          refine ⟨a, _, ha, True.intro, fun od => ?_⟩
          refine ⟨_, rfl, a, od, tab l, rfl, upd_same, fun D hD => ?_⟩
          have hDa : D ≠ a := fun z => by rw [z, upd_same] at hD; cases hD
          have nD : H D = none := by
            rw [upd_ne hDa] at hD
            exact hD
          have hbL : Rd (upd H a (.frz od (.dK (tab l)))) b (.dK (tab m)) := by
            by_cases z : b = a
            · subst z
              have e : (HO.dK (tab l)) = HO.dK (tab m) := Option.some.inj (ha.symm.trans hb)
              exact .inr ⟨od, by rw [upd_same, e]⟩
            · exact .inl ((upd_ne z).trans hb)
          have bD : b ≠ D := fun z => by rw [z, nD] at hb; cases hb
          have lk : (upd H a (.frz od (.dK (tab l)))) a = some (.frz od (.dK (tab l))) := upd_same
          have back : ∀ H', Same (upd H a (.frz od (.dK (tab l)))) H' → Same H (upd H' a (.dK (tab l))) := fun H' s => Same.unlock ha s
          revert hD hbL lk back
          generalize upd H a (.frz od (.dK (tab l))) = HL
          intro hD hbL lk back
          have rdS : ∀ H', Same HL H' → Rd H' b (.dK (tab m)) := fun H' s => hbL.elim (fun z => .inl (s _ _ z)) fun ⟨o, z⟩ => .inr ⟨o, s _ _ z⟩
          refine dc_it (walk_items (d := a) (o := od) (kvs := tab l)) (fun j H4 => H4 D = some (.dK (tab ((l.take j).filter (fun p => !hasL m p.1)))) ∧ Same HL H4) ⟨upd_same, Same.mk1 hD⟩ (fun j H4 _ z => z.2 _ _ lk) ?_ ?_
          · rintro j x4 H4 H5 hj ⟨q4, s4⟩ ⟨T2, xk, xv, rfl, nT2, rfl, f1, f2⟩
            obtain ⟨p, hp, rfl⟩ := getElem?_map2 f1
            obtain ⟨p', hp', rfl⟩ := getElem?_map2 f2
            rw [hp] at hp'
            cases hp'
            have sT2 := Same.mk1 (o := .tup [kV (kI p).1, (kI p).2]) nT2
            refine ⟨T2, _, rfl, SqT.of upd_same, rfl, _, _, rfl, _, _, rfl, rfl, rfl, ?_⟩
            refine ⟨_, rfl, _, rfl, b, valV (tab m) (Sum.inl p.1 : Key), rfl, .inl ⟨_, _, rdS _ (s4.trans sT2), rfl, rfl⟩, _, rfl, ?_⟩
            have hnew : p.1 ∉ ((l.take j).filter (fun p => !hasL m p.1)).map (·.1) := fun z => by
              have z2 : p.1 ∈ (l.take j).map (·.1) := (List.filter_sublist.map _).subset z
              rw [List.map_take] at z2
              exact not_mem_take okl.nd (by rw [List.getElem?_map, hp] <;> rfl) z2
            have hlt : ((l.take j).filter (fun p => !hasL m p.1)).length ≤ 1000 := by
              have h1 : ((l.take j).filter (fun p => !hasL m p.1)).length ≤ (l.take j).length := List.length_filter_le ..
              rw [List.length_take] at h1
              omega
            have is : (valV (tab m) (Sum.inl p.1 : Key)).isSome = hasL m p.1 := has_tab m p.1
            have hnext : (l.take (j + 1)).filter (fun p => !hasL m p.1) = (l.take j).filter (fun p => !hasL m p.1) ++ if (!hasL m p.1) = true then [p] else [] := by
              rw [take_next hp, List.filter_append]
              congr 1
              by_cases z : (!hasL m p.1) = true
              · rw [if_pos z]
                exact List.filter_cons_of_pos (p := fun p => !hasL m p.1) (a := p) (l := []) z
              · rw [if_neg z]
                exact List.filter_cons_of_neg (p := fun p => !hasL m p.1) (a := p) (l := []) z
            rw [is]
            by_cases hm : (!hasL m p.1) = true
            · rw [if_pos hm] at hnext
              rw [hm]
              refine iteT ?_
              refine ⟨_, rfl, _, rfl, _, Sum.inl p.1, rfl, sT2 _ _ q4, by rw [tab_len, sizeLine_eq]; omega, ?_, Same.put (s4.trans sT2) hD⟩
              rw [upd_same, show (kI p).2 = V.int p.2 from rfl, putK_tab, putL_new _ hnew, hnext]
            · rw [if_neg hm, List.append_nil] at hnext
              rw [Bool.eq_false_iff.mpr hm]
              refine iteF ⟨?_, s4.trans sT2⟩
              rw [hnext]
              exact sT2 _ _ q4
          · rintro H4 ⟨q4, s4⟩
            rw [tab_len, List.take_length] at q4
            have sU := back H4 s4
            exact ⟨s4 _ _ lk, kk D _ nD ((upd_ne hDa).trans q4) sU⟩
        · refine ⟨rfl, _, rfl, no (by decide +kernel) ?_⟩
          refine ⟨rfl, _, rfl, yes (by decide +kernel) ?_⟩
          rw [combT_kept] at kk
          refine ⟨a, _, ha, True.intro, fun od => ?_⟩
          refine ⟨_, rfl, a, od, tab l, rfl, upd_same, fun D hD => ?_⟩
          have hDa : D ≠ a := fun z => by rw [z, upd_same] at hD; cases hD
          have nD : H D = none := by
            rw [upd_ne hDa] at hD
            exact hD
          have hbL : Rd (upd H a (.frz od (.dK (tab l)))) b (.dK (tab m)) := by
            by_cases z : b = a
            · subst z
              have e : (HO.dK (tab l)) = HO.dK (tab m) := Option.some.inj (ha.symm.trans hb)
              exact .inr ⟨od, by rw [upd_same, e]⟩
            · exact .inl ((upd_ne z).trans hb)
          have bD : b ≠ D := fun z => by rw [z, nD] at hb; cases hb
          have lk : (upd H a (.frz od (.dK (tab l)))) a = some (.frz od (.dK (tab l))) := upd_same
          have back : ∀ H', Same (upd H a (.frz od (.dK (tab l)))) H' → Same H (upd H' a (.dK (tab l))) := fun H' s => Same.unlock ha s
          revert hD hbL lk back
          generalize upd H a (.frz od (.dK (tab l))) = HL
          intro hD hbL lk back
          have rdS : ∀ H', Same HL H' → Rd H' b (.dK (tab m)) := fun H' s => hbL.elim (fun z => .inl (s _ _ z)) fun ⟨o, z⟩ => .inr ⟨o, s _ _ z⟩
          refine dc_it (walk_items (d := a) (o := od) (kvs := tab l)) (fun j H4 => H4 D = some (.dK (tab ((l.take j).filter (fun p => hasL m p.1)))) ∧ Same HL H4) ⟨upd_same, Same.mk1 hD⟩ (fun j H4 _ z => z.2 _ _ lk) ?_ ?_
          · rintro j x4 H4 H5 hj ⟨q4, s4⟩ ⟨T2, xk, xv, rfl, nT2, rfl, f1, f2⟩
            obtain ⟨p, hp, rfl⟩ := getElem?_map2 f1
            obtain ⟨p', hp', rfl⟩ := getElem?_map2 f2
            rw [hp] at hp'
            cases hp'
            have sT2 := Same.mk1 (o := .tup [kV (kI p).1, (kI p).2]) nT2
            refine ⟨T2, _, rfl, SqT.of upd_same, rfl, _, _, rfl, _, _, rfl, rfl, rfl, ?_⟩
            refine ⟨_, rfl, _, rfl, b, valV (tab m) (Sum.inl p.1 : Key), rfl, .inl ⟨_, _, rdS _ (s4.trans sT2), rfl, rfl⟩, _, rfl, ?_⟩
            have hnew : p.1 ∉ ((l.take j).filter (fun p => hasL m p.1)).map (·.1) := fun z => by
              have z2 : p.1 ∈ (l.take j).map (·.1) := (List.filter_sublist.map _).subset z
              rw [List.map_take] at z2
              exact not_mem_take okl.nd (by rw [List.getElem?_map, hp] <;> rfl) z2
            have hlt : ((l.take j).filter (fun p => hasL m p.1)).length ≤ 1000 := by
              have h1 : ((l.take j).filter (fun p => hasL m p.1)).length ≤ (l.take j).length := List.length_filter_le ..
              rw [List.length_take] at h1
              omega
            have is : (valV (tab m) (Sum.inl p.1 : Key)).isSome = hasL m p.1 := has_tab m p.1
            have hnext : (l.take (j + 1)).filter (fun p => hasL m p.1) = (l.take j).filter (fun p => hasL m p.1) ++ if (hasL m p.1) = true then [p] else [] := by
              rw [take_next hp, List.filter_append]
              congr 1
              by_cases z : (hasL m p.1) = true
              · rw [if_pos z]
                exact List.filter_cons_of_pos (p := fun p => hasL m p.1) (a := p) (l := []) z
              · rw [if_neg z]
                exact List.filter_cons_of_neg (p := fun p => hasL m p.1) (a := p) (l := []) z
            rw [is]
            by_cases hm : (hasL m p.1) = true
            · rw [if_pos hm] at hnext
              rw [hm]
              refine iteT ?_
              refine ⟨_, rfl, _, rfl, _, Sum.inl p.1, rfl, sT2 _ _ q4, by rw [tab_len, sizeLine_eq]; omega, ?_, Same.put (s4.trans sT2) hD⟩
              rw [upd_same, show (kI p).2 = V.int p.2 from rfl, putK_tab, putL_new _ hnew, hnext]
            · rw [if_neg hm, List.append_nil] at hnext
              rw [Bool.eq_false_iff.mpr hm]
              refine iteF ⟨?_, s4.trans sT2⟩
              rw [hnext]
              exact sT2 _ _ q4
          · rintro H4 ⟨q4, s4⟩
            rw [tab_len, List.take_length] at q4
            have sU := back H4 s4
            exact ⟨s4 _ _ lk, kk D _ nD ((upd_ne hDa).trans q4) sU⟩
        · refine ⟨rfl, _, rfl, no (by decide +kernel) ?_⟩
          refine ⟨rfl, _, rfl, no (by decide +kernel) ?_⟩
          refine ⟨rfl, _, rfl, yes (by decide +kernel) ?_⟩
          exact ⟨_, rfl, _, rfl, a, b, l, m, rfl, ha, hb, okm, (by omega), okl, fun q H' nq h s => kk q H' nq (by rw [combT_filled]; exact h) s⟩
        · refine ⟨rfl, _, rfl, no (by decide +kernel) ?_⟩
          refine ⟨rfl, _, rfl, no (by decide +kernel) ?_⟩
          refine ⟨rfl, _, rfl, no (by decide +kernel) ?_⟩
          exact ⟨_, rfl, _, rfl, a, b, l, m, rfl, ha, hb, okm, (by omega), okl, fun q H' nq h s => kk q H' nq (by rw [combT_moved]; exact h) s⟩
      | [l, m], [], _, hD, _, _, _, _ => exact nomatch hD.len
      | [l, m], [_], _, hD, _, _, _, _ => exact nomatch hD.len
      | [l, m], _ :: _ :: _ :: _, _, hD, _, _, _, _ => exact nomatch hD.len

theorem valV_there {sh : Sheets} {x : Str} (h : x ∈ sh.map (·.1)) : ∃ s ∈ sh, s.1 = x ∧ valV (sh.map kS) (Sum.inr x : Key) = some (.ref s.2.1) := by
  rw [valV_sheets]
  cases e : sh.find? fun s : Str × Addr × Tab => decide (s.1 = x) with
  | some s => exact ⟨s, List.mem_of_find?_eq_some e, of_decide_eq_true (List.find?_some (p := fun s : Str × Addr × Tab => decide (s.1 = x)) e), rfl⟩
  | none =>
    obtain ⟨s, hs, rfl⟩ := List.mem_map.mp h
    exact absurd (decide_eq_true rfl) (List.find?_eq_none.mp e s hs)
def sp_check_names (K : PySem.W.Frag) : Sp := fun vs H Q _ => ∃ (t d : Addr) (ns : List Str) (sh : Sheets), vs = [.ref t, .ref d] ∧ SqT K H t (ns.map V.str) ∧ SheetsAt H d sh ∧ (∀ n ∈ ns, n ∈ sh.map (·.1)) ∧ Q .non H
theorem ok_check_names (T : Txt K mg) : FnOk P w K mg base CX0 1 T.f_check_names T.d_check_names ["names", "tables"] (sp_check_names K) := by
  refine T.F_check_names.ok sc_check_names (fun vs H Q E h => ?_) (fun cdv A outer s H vs Q E hr h => ?_)
  · obtain ⟨t, d, ns, sh, rfl, _⟩ := h
    rfl
  · obtain ⟨t, d, ns, sh, rfl, hT, hS, hin, kk⟩ := h
    refine ⟨_, (pss_one (ps_for PassesOwn.never rfl (pi_tup (pv 0)) (pg_name (i := 2) sc_check_names.nd rfl (.inl rfl))
          (pss_one (ps_if (pt_cmp (pc_dnotin (hu_of hr) (pv 2) (pv 1)))
            (pss_one ps_never)
            pss_nil)))), ?_⟩
    refine ⟨_, rfl, t, rfl, ⟨_, hT⟩, ?_⟩
    refine for_it (walk_tup (K := K) (a := t) (xs := ns.map V.str)) (fun i σ H2 => ∃ v2 : Option V, σ = [some (.ref t), some (.ref d), v2] ∧ H2 = H) ⟨_, rfl, rfl⟩ (fun i σ H2 _ ⟨_, _, e⟩ => by rw [e]; exact hT) ?_ ?_
    · rintro i x σ H2 H3 hi ⟨v2, rfl, rfl⟩ ⟨rfl, hx⟩
      obtain ⟨n, hn, rfl⟩ := getElem?_map' hx
      obtain ⟨s0, _, _, e⟩ := valV_there (hin n (List.mem_of_getElem? hn))
      refine ⟨_, rfl, _, rfl, d, _, rfl, .inl ⟨_, (Sum.inr n : Key), .inl hS.top, rfl, e.symm⟩, _, rfl, ?_⟩
      refine iteF ?_
      exact ⟨_, rfl, rfl⟩
    · rintro σ H2 ⟨v2, rfl, rfl⟩
      exact kk

theorem fitsW_ne {w : Str} {n : Nat} (h : fitsW w n) : ¬ w = "base" := by
  rcases h with rfl | rfl | ⟨rfl | rfl, _⟩ | ⟨rfl | rfl | rfl | rfl, _⟩ <;> decide +kernel
theorem DsAt.drop {H : Hp} {ds : List Addr} {st ts : List Tab} (h : DsAt H ds (st ++ ts)) : DsAt H (ds.drop st.length) ts := ⟨by rw [List.length_drop, h.len, List.length_append]; omega, fun i d l a b => by
  rw [List.getElem?_drop] at a
  refine h.at_ _ d l a ?_
  rw [List.getElem?_append_right (Nat.le_add_right _ _), Nat.add_sub_cancel_left]
  exact b⟩
theorem DsAt.take {H : Hp} {ds : List Addr} {st ts : List Tab} (h : DsAt H ds (st ++ ts)) : DsAt H (ds.take st.length) st := ⟨by rw [List.length_take, h.len, List.length_append]; omega, fun i d l a b => by
  have hi := (List.getElem?_eq_some_iff.mp b).1
  rw [List.getElem?_take, if_pos hi] at a
  refine h.at_ _ d l a ?_
  rw [List.getElem?_append_left hi]
  exact b⟩
theorem DsAt.snoc {H : Hp} {ds : List Addr} {ls : List Tab} (h : DsAt H ds ls) {d : Addr} {l : Tab} (e : H d = some (.dK (tab l))) : DsAt H (ds ++ [d]) (ls ++ [l]) := ⟨by rw [List.length_append, List.length_append, h.len]; rfl, fun i x m a b => by
  rcases Nat.lt_or_ge i ds.length with z | z
  · rw [List.getElem?_append_left z] at a
    rw [List.getElem?_append_left (by rw [← h.len]; exact z)] at b
    exact h.at_ i x m a b
  · rw [List.getElem?_append_right z] at a
    rw [List.getElem?_append_right (by rw [← h.len]; exact z), ← h.len] at b
    cases e0 : i - ds.length with
    | zero =>
      rw [e0] at a b
      cases a
      cases b
      exact e
    | succ j =>
      rw [e0] at a
      cases a⟩
theorem DsAt.put {H : Hp} {ds : List Addr} {ls : List Tab} (h : DsAt H ds ls) {l : Addr} {xs : List V} {o : HO} (e : H l = some (.lst xs)) : DsAt (upd H l o) ds ls := ⟨h.len, fun i d m a b => by
  have g := h.at_ i d m a b
  rw [upd_ne fun z => by rw [z, e] at g; cases g]
  exact g⟩
def sp_evaluate (C : Addr) : Sp := fun vs H Q _ => ∃ (a d : Addr) (r : RT) (sh : Sheets), vs = [.ref a, .ref d] ∧ RuleAt C H r a ∧ SheetsAt H d sh ∧ r.subs.length ≤ 1000 ∧ (∀ n, RT.base n ∈ r.subs → n ∈ sh.map (·.1)) ∧ (∀ n ∈ r.bases, n ∈ sh.map (·.1)) ∧
  (∀ w ps, RT.op w ps ∈ r.subs → fitsW w ps.length) ∧ (∀ s ∈ sh, TabOk s.2.2) ∧ leafs (tabOf sh) r.subs ≤ 1000 ∧ ∀ (q : Addr) (H' : Hp), H' q = some (.dK (tab (evalT (tabOf sh) r))) → Same H H' → Q (.ref q) H'
/-- with: the answer is new -/
def sp_evaluateF (C : Addr) : Sp := fun vs H Q _ => ∃ (a d : Addr) (r : RT) (sh : Sheets), vs = [.ref a, .ref d] ∧ RuleAt C H r a ∧ SheetsAt H d sh ∧ r.subs.length ≤ 1000 ∧ (∀ n, RT.base n ∈ r.subs → n ∈ sh.map (·.1)) ∧ (∀ n ∈ r.bases, n ∈ sh.map (·.1)) ∧
  (∀ w ps, RT.op w ps ∈ r.subs → fitsW w ps.length) ∧ (∀ s ∈ sh, TabOk s.2.2) ∧ leafs (tabOf sh) r.subs ≤ 1000 ∧ ∀ (q : Addr) (H' : Hp), H q = none → H' q = some (.dK (tab (evalT (tabOf sh) r))) → Same H H' → Q (.ref q) H'
theorem ok_evaluateF (T : Txt K mg) : FnOk P w K mg base CX0 6 T.f_evaluate T.d_evaluate ["rule", "tables"] (sp_evaluateF T.C_Rule) := by
  refine T.F_evaluate.ok sc_evaluate (fun vs H Q E h => ?_) (fun cdv A outer s H vs Q E hr h => ?_)
  · obtain ⟨a, d, r, sh, rfl, _⟩ := h
    rfl
  · obtain ⟨a, d, r, sh, rfl, hA, hS, few, hin, hin2, fits, okS, leaf, kk⟩ := h
    refine ⟨_, (pss_cons (ps_expr (pe_call (ok_check_names T) (hr.mono (by decide)) rfl T.m_check_names T.F_check_names.kp T.b_check_names .nil pass0 (pa_cons (pe_prop (pv 0) T.cl_Rule T.pr_Rule_names (ok_Rule_names T) (hr.mono (by decide)) T.b_Rule_names .nil pass0 rfl) (pa_cons (pv 1) pa_nil))))
        (pss_cons (ps_set (i := 2) sc_evaluate.nd rfl (.inl rfl) (pe_lst pa_nil))
        (pss_cons (ps_for PassesOwn.never rfl (pi_list (pe_call (ok_postorder T) (hr.mono (by decide)) rfl T.m_postorder T.F_postorder.kp T.b_postorder .nil pass0 (pa_cons (pv 0) pa_nil))) (pg_name (i := 3) sc_evaluate.nd rfl (.inl rfl))
          (pss_one (ps_if (pt_cmpR op_eq (pe_prop (pv 3) T.cl_Rule T.pr_Rule_word (ok_Rule_word T) (hr.mono (by decide)) T.b_Rule_word .nil pass0 rfl) (pe_glob rfl T.c_BASE T.r_BASE) (nomark _))
            (pss_one (ps_expr (pe_bm PySem.F.plainAttrs_list PySem.F.slot_list_append PySem.F.type_list_append mt_append (pv 2) (pa_cons (pe_callTy call_dictD (by rfl) T.z_dict (by decide +kernel) (pa_cons (pe_dget (hu_of hr) (pv 1) (pe_fld (pv 3) rfl) (fun _ _ => rfl)) pa_nil)) pa_nil))))
            (pss_cons (ps_set (i := 4) sc_evaluate.nd rfl (.inl rfl) (pe_op op_sub (pe_callB call_len_seq (by rfl) T.z_len (by decide +kernel) (pa_cons (pv 2) pa_nil)) (pe_callB call_len_seq (by rfl) T.z_len (by decide +kernel) (pa_cons (pe_prop (pv 3) T.cl_Rule T.pr_Rule_parts (ok_Rule_parts T) (hr.mono (by decide)) T.b_Rule_parts .nil pass0 rfl) pa_nil))))
            (pss_one (ps_open (pv 2) (pv 4) (pe_lst (pa_cons (pe_call (ok_combined_table T) (hr.mono (by decide)) rfl T.m_combined_table T.F_combined_table.kp T.b_combined_table .nil pass0 (pa_cons (pe_prop (pv 3) T.cl_Rule T.pr_Rule_word (ok_Rule_word T) (hr.mono (by decide)) T.b_Rule_word .nil pass0 rfl) (pa_cons (pe_slice (sl_list : SlR _ (rSlL K)) (pv 2) (po_some (pv 4)) po_none) pa_nil))) pa_nil)) rfl))))))
        (pss_one (ps_ret (pe_ix (ix_list : IxR _ (rIxL K)) (pv 2) pe_int (fun _ _ => rfl))))))), ?_⟩
    obtain ⟨op, nm, dx, tt, f, b, ns, h1, h2, h3, hN⟩ := hA.fields
    refine ⟨_, rfl, a, dx, _, rfl, h1, a, dx, _, .ref b, rfl, h1, fR_base_names, _, rfl, b, d, ns, sh, rfl, SqT.of h3, hS, (fun n hn => hin2 n ((hN.mem n).mp hn)), ?_⟩
    refine ⟨(by show 0 ≤ sizeLine; decide), fun l nl => ?_⟩
    have sl := Same.mk1 (o := .lst []) nl
    refine ⟨_, rfl, a, r, rfl, RuleAt.same sl r a hA, few, fun q as H2 nq hq hR s2 => ?_⟩
    refine ⟨q, rfl, ⟨_, SqL.of hq⟩, ?_⟩
    have hl2 : H2 l = some (.lst []) := s2 _ _ upd_same
    have ql : q ≠ l := fun z => by rw [z, upd_same] at nq; cases nq
    have all : ∀ H3, Gr l H2 H3 → Same H H3 := fun H3 g b o e => g _ _ (ne_of_none e nl) (s2 _ _ (sl _ _ e))
    have keep : ∀ H3, Gr l H2 H3 → ∀ b o, (upd H l (.lst [])) b = some o → (∀ xs, o ≠ .lst xs) → H3 b = some o := fun H3 g b o e n => by
      refine g _ _ (fun z => ?_) (s2 _ _ e)
      rw [z, upd_same] at e
      exact n _ (Option.some.inj e).symm
    have tbOk : ∀ n, RT.base n ∈ r.subs → TabOk (tabOf sh n) := fun n hn => by
      obtain ⟨s0, hs0, _, e, _⟩ := sheet_there (hin n hn)
      rw [e]
      exact okS s0 hs0
    refine for_it (walk_list (K := K) (a := q) (xs := as.map V.ref)) (fun i σ H3 => ∃ (v3 v4 : Option V) (ds : List Addr), σ = [some (.ref a), some (.ref d), some (.ref l), v3, v4] ∧ H3 l = some (.lst (ds.map V.ref)) ∧ DsAt H3 ds ((r.subs.take i).foldl (stepT (tabOf sh)) []) ∧ Gr l H2 H3 ∧ ∀ y ∈ ds, H y = none)
      ⟨_, _, [], rfl, hl2, ⟨rfl, fun i d l a _ => by simp at a⟩, Gr.refl _ _, (fun _ z => nomatch z)⟩ (fun i σ H3 _ ⟨_, _, _, _, _, _, g, _⟩ => SqL.of (g _ _ ql hq)) ?_ ?_
    · rintro i x σ H3 H4 hi ⟨v3, v4, ds, rfl, hl, hD, g, hfr⟩ ⟨rfl, hx⟩
      obtain ⟨x, hx0, rfl⟩ := getElem?_map' hx
      obtain ⟨r0, hr0, hA0⟩ := hR.get hx0
      have sH := all _ g
      have hA3 := RuleAt.keep (keep _ g) r0 x hA0
      have hmem : r0 ∈ r.subs := List.mem_of_getElem? hr0
      have hrun : (r.subs.take (i + 1)).foldl (stepT (tabOf sh)) [] = stepT (tabOf sh) ((r.subs.take i).foldl (stepT (tabOf sh)) []) r0 := by
        rw [take_next hr0, List.foldl_append]
        rfl
      obtain ⟨ok0, len0, cnt0⟩ := run_ok (tb := tabOf sh) (r.subs.take i) [] (fun _ z => nomatch z) fun n hn => tbOk n (List.mem_of_mem_take hn)
      have leafle : leafs (tabOf sh) (r.subs.take i) ≤ leafs (tabOf sh) r.subs := by
        have := leafs_append (tabOf sh) (r.subs.take i) (r.subs.drop i)
        rw [List.take_append_drop] at this
        omega
      have cnt : ds.length ≤ 1000 := by
        rw [hD.len]
        rw [List.length_take] at cnt0
        have : ([] : List Tab).length = 0 := rfl
        omega
      cases r0 with
      | base n =>
        obtain ⟨dx3, t3, f3, b3, g1, g2, g3, g4⟩ := hA3
        obtain ⟨s0, hs0, en, et, ev⟩ := sheet_there (hin n hmem)
        refine ⟨_, rfl, x, dx3, _, rfl, g1, x, dx3, _, .str "base", rfl, g1, fR_operation, rfl, _, rfl, ?_⟩
        rw [decide_eq_true rfl]
        refine iteT ?_
        refine ⟨_, rfl, .inl ⟨rfl, _, SqL.of hl⟩, _, rfl, _, rfl, x, T.C_Rule, dx3, _, .str n, rfl, g1, T.cl_Rule, T.n_Rule_name, fR_name, d, .ref s0.2.1, rfl, .inl ⟨_, (Sum.inr n : Key), .inl (sH _ _ hS.top), rfl, ev.symm⟩, s0.2.1, tab s0.2.2, rfl, .of (sH _ _ (hS.all s0 hs0)), fun p np => ?_⟩
        have sp := Same.mk1 (o := .dK (tab s0.2.2)) np
        refine ⟨l, _, .ref p, rfl, rfl, sp _ _ hl, (by rw [List.length_map, sizeLine_eq]; omega), ?_⟩
        refine ⟨_, _, ds ++ [p], rfl, (by rw [upd_same, List.map_append]; rfl), ?_, (g.trans (Gr.same sp)).trans fun b o n e => (upd_ne n).trans e, fun y hy => (List.mem_append.mp hy).elim (hfr y) fun z => List.mem_singleton.mp z ▸ sH.free np⟩
        rw [hrun]
        show DsAt _ _ (_ ++ [tabOf sh n])
        rw [et]
        exact ((hD.same sp).snoc upd_same).put (sp _ _ hl)
      | op wd ps =>
        have hf := fits wd ps hmem
        obtain ⟨nm3, dx3, t3, f3, b3, ls, g1, g2, g3⟩ := hA3.parts
        refine ⟨_, rfl, x, dx3, _, rfl, g1, x, dx3, _, .str wd, rfl, g1, fR_operation, rfl, _, rfl, ?_⟩
        rw [decide_eq_false fun z => fitsW_ne hf (V.str.inj z)]
        refine iteF ?_
        refine ⟨_, rfl, l, _, rfl, .inl (SqL.of hl), _, rfl, x, dx3, _, rfl, g1, x, dx3, _, .ref t3, rfl, g1, fR_operands, t3, _, rfl, .inr (SqT.of g2), _, _, rfl, rfl, ?_⟩
        have split : r.subs = r.subs.take i ++ RT.op wd ps :: r.subs.drop (i + 1) := by
          have := take_next hr0
          conv => lhs; rw [← List.take_append_drop (i + 1) r.subs, this, List.append_assoc]
          rfl
        obtain ⟨st, est⟩ := at_subs (tabOf sh) r _ _ _ [] split
        have lenP : ls.length = ps.length := g3.len
        have lenT : (evalTs (tabOf sh) ps).length = ps.length := evalTs_len _ ps
        rw [est] at hD ok0 len0 hrun
        have est2 : stepT (tabOf sh) (st ++ evalTs (tabOf sh) ps) (RT.op wd ps) = st ++ [combT wd (evalTs (tabOf sh) ps)] := step_on _ _ _ _ _ lenT
        change _ = stepT (tabOf sh) (st ++ evalTs (tabOf sh) ps) (RT.op wd ps) at hrun
        rw [est2] at hrun
        have lenD := hD.len
        change ds.length = (st ++ evalTs (tabOf sh) ps).length at lenD
        rw [List.length_append] at lenD
        have first : (((ds.map V.ref).length : Nat) : Int) - (((ls.map V.ref).length : Nat) : Int) = (st.length : Nat) := by
          rw [List.length_map, List.length_map]
          omega
        dsimp only
        rw [first]
        have sumT := sumLen_append st (evalTs (tabOf sh) ps)
        have sumS : sumLen (st ++ evalTs (tabOf sh) ps) ≤ sumLen ([] : List Tab) + leafs (tabOf sh) (r.subs.take i) := len0
        have z0 : sumLen ([] : List Tab) = 0 := rfl
        refine ⟨_, rfl, x, dx3, _, rfl, g1, x, dx3, _, .str wd, rfl, g1, fR_operation, _, rfl, _, rfl, _, rfl, l, _, rfl, SqL.of hl, fun p np => ?_⟩
        have sp := Same.mk1 (o := .lst (cutV (ds.map V.ref) (some ((st.length : Nat) : Int)) none)) np
        have ec : cutV (ds.map V.ref) (some ((st.length : Nat) : Int)) none = (ds.drop st.length).map V.ref := by
          rw [cut_from (Int.natCast_nonneg _), Int.toNat_natCast, List.map_drop]
        refine ⟨wd, p, ds.drop st.length, evalTs (tabOf sh) ps, rfl, (by rw [upd_same, ec]), hD.drop.same sp, (fun t ht => ok0 t (List.mem_append_right _ ht)), (by omega), (by rw [lenT]; exact hf), fun qq H5 nqq hqq s5 => ?_⟩
        refine ⟨(by show 1 ≤ sizeLine; decide), fun b nb => ?_⟩
        have sb := Same.mk1 (o := .lst [.ref qq]) nb
        have s6 := sp.trans (s5.trans sb)
        have hl6 := s6 _ _ hl
        have lb : l ≠ b := ne_of_none ((sp.trans s5) _ _ hl) nb
        refine ⟨_, rfl, _, rfl, l, b, _, [.ref qq], _, rfl, rfl, rfl, hl6, upd_same, lb, Int.natCast_nonneg _, (by rw [List.length_map]; omega), (by rw [List.length_map, sizeLine_eq]; show ds.length + 1 ≤ _; omega), ?_⟩
        refine ⟨_, _, ds.take st.length ++ [qq], rfl, (by rw [upd_same, Int.toNat_natCast, List.map_append, List.map_take]; rfl), ?_, (g.trans (Gr.same s6)).trans fun b o n e => (upd_ne n).trans e, fun y hy => (List.mem_append.mp hy).elim (fun z => hfr y (List.mem_of_mem_take z)) fun z => List.mem_singleton.mp z ▸ (sH.trans sp).free nqq⟩
        rw [hrun]
        exact ((hD.take.same s6).snoc (sb _ _ hqq)).put hl6
    · rintro σ H3 ⟨v3, v4, ds, rfl, hl, hD, g, hfr⟩
      rw [List.length_map, hR.len, List.take_length, run_subs] at hD
      match ds, hD, hl, hfr with
      | [p], hD, hl, hfr => exact ⟨_, rfl, l, _, 0, .ref p, rfl, rfl, SqL.of hl, rfl, kk p H3 (hfr p List.mem_cons_self) (hD.at_ 0 p _ rfl rfl) (all _ g)⟩
      | [], hD, _, _ => exact nomatch hD.len
      | _ :: _ :: _, hD, _, _ => exact nomatch hD.len
theorem ok_evaluate (T : Txt K mg) : FnOk P w K mg base CX0 6 T.f_evaluate T.d_evaluate ["rule", "tables"] (sp_evaluate T.C_Rule) :=
  (ok_evaluateF T).imp fun vs H Q E ⟨a, d, r, sh, e, hA, hS, few, hin, hin2, fits, okS, leaf, kk⟩ => ⟨a, d, r, sh, e, hA, hS, few, hin, hin2, fits, okS, leaf, fun q H' _ h s => kk q H' h s⟩

/-! ### the draws -/
/-- at p the bag of draws, at most b mixed numbers taken -/
structure Bag (H : Hp) (p : Addr) (b : Nat) : Prop where
  ex : ∃ g m n : Int, H p = some (.lst [.int g, .int m, .int n]) ∧ 0 ≤ m ∧ m < 2147483587 ∧ 0 ≤ n ∧ n ≤ (b : Int)
theorem Bag.mono {H : Hp} {p : Addr} {b c : Nat} (B : Bag H p b) (h : b ≤ c) : Bag H p c := by
  obtain ⟨g, m, n, h1, h2, h3, h4, h5⟩ := B.ex
  exact ⟨g, m, n, h1, h2, h3, h4, by omega⟩
theorem Bag.grow {H H' : Hp} {p : Addr} {b : Nat} (B : Bag H p b) (s : Same H H') : Bag H' p b := by
  obtain ⟨g, m, n, h, r⟩ := B.ex
  exact ⟨g, m, n, s p _ h, r⟩
theorem Bag.some {H : Hp} {p : Addr} {b : Nat} (B : Bag H p b) : H p ≠ none := by
  obtain ⟨g, m, n, h, r⟩ := B.ex
  rw [h]
  exact fun z => nomatch z
theorem Bag.ne {H : Hp} {p q : Addr} {b : Nat} (B : Bag H p b) (h : H q = none) : q ≠ p := fun z => B.some (z ▸ h)
def sp_law_bag (K : PySem.W.Frag) : Sp := fun vs H Q _ => ∃ (a : Addr) (ns : List Int) (i : Int), vs = [.ref a, .int i] ∧ SqL K H a (ns.map V.int) ∧ 0 ≤ i ∧ i ≤ 100 ∧
  ∀ (p : Addr) (H' : Hp), H p = none → Same H H' → Bag H' p 0 → Q (.ref p) H'
theorem ok_law_bag (T : Txt K mg) : FnOk P w K mg base CX0 1 T.f_law_bag T.d_law_bag ["_law_script", "_law_at"] (sp_law_bag K) := by
  refine T.F_law_bag.ok sc_law_bag (fun vs H Q E h => ?_) (fun cdv A outer s H vs Q E hr h => ?_)
  · obtain ⟨a, ns, i, rfl, _⟩ := h
    rfl
  · obtain ⟨a, ns, i, rfl, hS, i0, i1, kk⟩ := h
    refine ⟨_, (pss_cons (ps_set (i := 2) sc_law_bag.nd rfl (.inl rfl) (pe_cut (pe_ifExp (pt_cmpR op_lt (pv 1) (pe_callB call_len_seq (by rfl) T.z_len (by decide +kernel) (pa_cons (pv 0) pa_nil)) (nomark _)) (pe_ix (ix_list : IxR _ (rIxL K)) (pv 0) (pv 1) (fun _ _ => rfl)) pe_int)))
        (pss_cons (ps_set (i := 3) sc_law_bag.nd rfl (.inl rfl) (pe_cut (pe_ifExp (pt_cmpR op_ge (pe_callB call_abs (by rfl) T.z_abs (by decide +kernel) (pa_cons (pv 2) pa_nil)) (pe_op op_pow pe_int pe_int) (nomark _)) (pe_callB call_abs (by rfl) T.z_abs (by decide +kernel) (pa_cons (pv 2) pa_nil)) pe_int)))
        (pss_one (ps_ret (pe_lst (pa_cons (pv 3) (pa_cons (pe_op op_mod (pe_op op_add (pe_op op_add (pe_op op_mul (pe_op op_mod (pv 2) pe_int) pe_int) (pe_op op_mul pe_int (pv 1))) pe_int) pe_int) (pa_cons pe_int pa_nil)))))))), ?_⟩
    refine ⟨fun v H' => (∃ c : Int, v = .int c) ∧ H' = H, ⟨_, rfl, _, rfl, a, _, rfl, .inl hS, _, _, rfl, rfl, _, rfl, ite2 (fun hc => ?_) (fun _ => ⟨⟨0, rfl⟩, rfl⟩)⟩, ?_⟩
    · have hc' : i < ((ns.map V.int).length : Int) := of_decide_eq_true hc
      rw [List.length_map] at hc'
      have hl : i.toNat < ns.length := by omega
      exact ⟨_, rfl, _, rfl, a, _, i, .int ns[i.toNat], rfl, rfl, hS, at_of (j := i.toNat) (by omega) (by rw [List.getElem?_map, List.getElem?_eq_getElem hl] <;> rfl), ⟨_, rfl⟩, rfl⟩
    rintro v H' ⟨⟨c, rfl⟩, rfl⟩
    refine ⟨fun v H1 => (∃ g : Int, v = .int g) ∧ H1 = H', ⟨_, rfl, c, rfl, _, _, rfl, rfl, ⟨by decide, by decide, by decide⟩, _, _, rfl, rfl, _, rfl, ite2 (fun _ => ⟨_, rfl, c, rfl, ⟨_, rfl⟩, rfl⟩) (fun _ => ⟨⟨0, rfl⟩, rfl⟩)⟩, ?_⟩
    rintro v H1 ⟨⟨g, rfl⟩, rfl⟩
    refine ⟨_, rfl, _, rfl, _, _, rfl, rfl, (by decide : (0 : Int) < 2147483629), _, _, rfl, rfl, .inr ⟨by decide, by decide⟩, _, rfl, _, _, rfl, rfl, .inl ⟨by decide, by decide⟩, _, _, rfl, rfl, _, _, rfl, rfl, _, _, rfl, rfl, (by decide : (0 : Int) < 2147483587), by show 3 ≤ sizeLine; decide, fun p hp => ?_⟩
    refine kk p _ hp (fun b o e => by rw [upd_ne (ne_of_none e hp)]; exact e) ⟨g, _, 0, upd_same, Int.emod_nonneg _ (by decide), Int.emod_lt_of_pos _ (by decide), by decide, by decide⟩

def sp_law_take : Sp := fun vs H Q _ => ∃ (p : Addr) (k : Int) (b : Nat), vs = [.ref p, .int k] ∧ 0 < k ∧ k < 2 ^ 30 ∧ Bag H p b ∧ b ≤ 1000000000 ∧
  ∀ (r : Int) (H' : Hp), 0 ≤ r → r < k → Bag H' p (b + 1) → Gr p H H' → Q (.int r) H'
theorem ok_law_take (T : Txt K mg) : FnOk P w K mg base CX0 1 T.f_law_take T.d_law_take ["_law_bag_here", "_law_many"] sp_law_take := by
  refine T.F_law_take.ok sc_law_take (fun vs H Q E h => ?_) (fun cdv A outer s H vs Q E hr h => ?_)
  · obtain ⟨p, k, b, rfl, _⟩ := h
    rfl
  · obtain ⟨p, k, b, rfl, k0, k1, ⟨g, m, n, hp, m0, m1, n0, n1⟩, hb, kk⟩ := h
    have hkd : CDivW 0 k := ⟨k0, by
      have h2 : k.natAbs < 2 ^ 30 := by omega
      have := PySem.Flt.log2_lt_of (by decide) h2
      omega⟩
    refine ⟨_, (pss_cons (ps_if (pt_cmpR op_gt (pe_ix (ix_list : IxR _ (rIxL K)) (pv 0) pe_int (fun _ _ => rfl)) pe_int (nomark _))
          (pss_cons (ps_set (i := 2) sc_law_take.nd rfl (.inl rfl) (pe_op op_mod (pe_ix (ix_list : IxR _ (rIxL K)) (pv 0) pe_int (fun _ _ => rfl)) (pv 1)))
          (pss_cons (ps_asg (pe_op op_fdivW (pe_ix (ix_list : IxR _ (rIxL K)) (pv 0) pe_int (fun _ _ => rfl)) (pv 1)) (pg_sub (pv 0) pe_int set_list))
          (pss_one (ps_ret (pv 2)))))
          pss_nil)
        (pss_cons (ps_asg (pe_op op_add (pe_ix (ix_list : IxR _ (rIxL K)) (pv 0) pe_int (fun _ _ => rfl)) pe_int) (pg_sub (pv 0) pe_int set_list))
        (pss_cons (ps_set (i := 3) sc_law_take.nd rfl (.inl rfl) (pe_op op_mod (pe_op op_pow (pe_op op_add (pe_ix (ix_list : IxR _ (rIxL K)) (pv 0) pe_int (fun _ _ => rfl)) (pe_op op_mul pe_int (pe_ix (ix_list : IxR _ (rIxL K)) (pv 0) pe_int (fun _ _ => rfl)))) pe_int) pe_int))
        (pss_one (ps_ret (pe_op op_mod (pe_op op_fdivW (pe_op op_mod (pe_op op_add (pe_op op_mul (pv 3) pe_int) (pe_op op_mul pe_int (pe_ix (ix_list : IxR _ (rIxL K)) (pv 0) pe_int (fun _ _ => rfl)))) pe_int) pe_int) (pv 1))))))), ?_⟩
    refine ⟨_, rfl, p, _, 0, _, rfl, rfl, SqL.of hp, rfl, _, _, rfl, rfl, _, rfl, ite2 (fun hc => ?_) (fun hc => ?_)⟩
    · refine ⟨_, rfl, p, _, 0, _, rfl, rfl, SqL.of hp, rfl, _, rfl, _, _, rfl, rfl, k0, ?_⟩
      refine ⟨_, rfl, p, _, 0, _, rfl, rfl, SqL.of hp, rfl, _, rfl, _, _, rfl, rfl, hkd, _, rfl, ?_⟩
      refine ⟨p, _, 0, 0, rfl, rfl, hp, rfl, ?_⟩
      refine ⟨_, rfl, ?_⟩
      exact kk _ _ (Int.emod_nonneg _ (by omega)) (Int.emod_lt_of_pos _ k0) ⟨_, m, n, upd_same, m0, m1, n0, by omega⟩ fun q o hq e => by rw [upd_ne hq]; exact e
    · refine ⟨_, rfl, p, _, 2, _, rfl, rfl, SqL.of hp, rfl, _, _, rfl, rfl, _, rfl, ?_⟩
      refine ⟨p, _, 2, 2, rfl, rfl, hp, rfl, ?_⟩
      have small : CPow (m + 79190251 * (n + 1)) 3 := ⟨by decide, by decide, by omega⟩
      refine ⟨_, rfl, p, _, 1, _, rfl, rfl, SqL.of upd_same, rfl, _, rfl, p, _, 2, _, rfl, rfl, SqL.of upd_same, rfl, _, _, rfl, rfl, .inl ⟨by decide, by decide⟩, _, _, rfl, rfl, _, _, rfl, rfl, small, _, _, rfl, rfl, (by decide : (0 : Int) < 2305843009213693951), ?_⟩
      refine ⟨_, rfl, _, _, rfl, rfl, .inr ⟨by decide, by decide⟩, _, rfl, p, _, 2, _, rfl, rfl, SqL.of upd_same, rfl, _, _, rfl, rfl, .inl ⟨by decide, by decide⟩, _, _, rfl, rfl, _, _, rfl, rfl, (by decide : (0 : Int) < 2305843009213693921), _, _, rfl, rfl, (⟨by decide, by decide +kernel⟩ : CDivW 0 4096), _, rfl, _, _, rfl, rfl, k0, ?_⟩
      exact kk _ _ (Int.emod_nonneg _ (by omega)) (Int.emod_lt_of_pos _ k0) ⟨_, _, _, upd_same, m0, m1, by omega, by omega⟩ fun q o hq e => by rw [upd_ne hq]; exact e

/-- distinct names -/
def nmZ (x : Str) : Bool := nmB x && decide (x ≠ "zzz")
def namesB (ns : List Str) : Bool := decide ns.Nodup && ns.all nmZ
abbrev nm1 : List Str := ["a", "b", "c", "d", "e", "f"]
abbrev nm2 : List Str := ["kept", "merged", "base", "moved", "turned", "filled"]
abbrev nm3 : List Str := ["zz", "az", "za", "a", "z", "abcdef"]
abbrev nm4 : List Str := ["abcdef", "abcdeg", "bbcdef", "by", "keys", "with"]
def nmLines : List (List Str) := [nm1, nm2, nm3, nm4]
theorem nmLines_ok : ∀ l ∈ nmLines, ∀ a ∈ List.range 6, ∀ m ∈ List.range 7, namesB ((l.drop a ++ l.take a).take m) = true ∧ ((l.drop a ++ l.take a).take m).length = m := by decide +kernel
def sp_law_names : Sp := fun vs H Q _ => ∃ (p : Addr) (m : Int) (b : Nat), vs = [.ref p, .int m] ∧ 0 ≤ m ∧ m ≤ 6 ∧ Bag H p b ∧ b ≤ 999999990 ∧
  ∀ (q : Addr) (ns : List Str) (H' : Hp), namesB ns = true → (ns.length : Int) = m → H q = none → H' q = some (.lst (ns.map V.str)) → Gr p H H' → Bag H' p (b + 2) → Q (.ref q) H'
theorem ok_law_names (T : Txt K mg) : FnOk P w K mg base CX0 2 T.f_law_names T.d_law_names ["_law_bag_here", "_law_many"] sp_law_names := by
  refine T.F_law_names.ok sc_law_names (fun vs H Q E h => ?_) (fun cdv A outer s H vs Q E hr h => ?_)
  · obtain ⟨p, m, b, rfl, _⟩ := h
    rfl
  · obtain ⟨p, m, b, rfl, m0, m1, B, hb, kk⟩ := h
    obtain ⟨bl, hp⟩ : ∃ l, H p = some (.lst l) := by
      obtain ⟨g, m, n, h, _⟩ := B.ex
      exact ⟨_, h⟩
    refine ⟨_, (pss_cons (ps_set (i := 2) sc_law_names.nd rfl (.inl rfl) (pe_lst (pa_cons (pe_lst (pa_cons pe_str (pa_cons pe_str (pa_cons pe_str (pa_cons pe_str (pa_cons pe_str (pa_cons pe_str pa_nil))))))) (pa_cons (pe_lst (pa_cons pe_str (pa_cons pe_str (pa_cons pe_str (pa_cons pe_str (pa_cons pe_str (pa_cons pe_str pa_nil))))))) pa_nil))))
        (pss_cons (ps_set (i := 2) sc_law_names.nd rfl (.inl rfl) (pe_op op_cat (pv 2) (pe_lst (pa_cons (pe_lst (pa_cons pe_str (pa_cons pe_str (pa_cons pe_str (pa_cons pe_str (pa_cons pe_str (pa_cons pe_str pa_nil))))))) (pa_cons (pe_lst (pa_cons pe_str (pa_cons pe_str (pa_cons pe_str (pa_cons pe_str (pa_cons pe_str (pa_cons pe_str pa_nil))))))) pa_nil)))))
        (pss_cons (ps_par (i := 3) (j := 4) rfl sc_law_names.nd rfl rfl (by decide) rfl rfl (pa_cons (pe_ix (ix_list : IxR _ (rIxL K)) (pv 2) (pe_call (ok_law_take T) (hr.mono (by decide)) rfl T.m_law_take T.F_law_take.kp T.b_law_take .nil pass0 (pa_cons (pv 0) (pa_cons pe_int pa_nil))) (fun _ _ => rfl)) (pa_cons (pe_call (ok_law_take T) (hr.mono (by decide)) rfl T.m_law_take T.F_law_take.kp T.b_law_take .nil pass0 (pa_cons (pv 0) (pa_cons pe_int pa_nil))) pa_nil)) (by rfl))
        (pss_one (ps_ret (pe_slice (sl_list : SlR _ (rSlL K)) (pe_op op_cat (pe_slice (sl_list : SlR _ (rSlL K)) (pv 3) (po_some (pv 4)) po_none) (pe_slice (sl_list : SlR _ (rSlL K)) (pv 3) po_none (po_some (pv 4)))) po_none (po_some (pv 1)))))))), ?_⟩
    refine ⟨by show 6 ≤ sizeLine; decide, fun p1 n1 => ⟨by show 6 ≤ sizeLine; decide, fun p2 n2 => ⟨by show 2 ≤ sizeLine; decide, fun p3 n3 => ?_⟩⟩⟩
    refine ⟨_, rfl, by show 6 ≤ sizeLine; decide, fun p4 n4 => ⟨by show 6 ≤ sizeLine; decide, fun p5 n5 => ⟨by show 2 ≤ sizeLine; decide, fun p6 n6 => ?_⟩⟩⟩
    have s1 := Same.mk1 (o := .lst (nm1.map V.str)) n1
    have s2 := Same.mk1 (o := .lst (nm2.map V.str)) n2
    have s3 := Same.mk1 (o := .lst [.ref p1, .ref p2]) n3
    have s4 := Same.mk1 (o := .lst (nm3.map V.str)) n4
    have s5 := Same.mk1 (o := .lst (nm4.map V.str)) n5
    have s6 := Same.mk1 (o := .lst [.ref p4, .ref p5]) n6
    have e3 := (s4.trans (s5.trans s6)) p3 _ upd_same
    refine ⟨p3, p6, _, _, rfl, rfl, e3, upd_same, by show 4 ≤ sizeLine; decide, fun p7 n7 => ?_⟩
    have s7 := Same.mk1 (o := .lst ([.ref p1, .ref p2] ++ [.ref p4, .ref p5])) n7
    have e1 := (s2.trans (s3.trans (s4.trans (s5.trans (s6.trans s7))))) p1 _ upd_same
    have e2 := (s3.trans (s4.trans (s5.trans (s6.trans s7)))) p2 _ upd_same
    have e4 := (s5.trans (s6.trans s7)) p4 _ upd_same
    have e5 := (s6.trans s7) p5 _ upd_same
    have s17 := s1.trans (s2.trans (s3.trans (s4.trans (s5.trans (s6.trans s7)))))
    have np : ∀ {q : Addr}, H q = none → q ≠ p := fun {q} h z => by
      rw [z, hp] at h
      cases h
    have q1 := np n1
    have q2 := np (s1.free n2)
    have q4 := np ((s1.trans (s2.trans s3)).free n4)
    have q5 := np ((s1.trans (s2.trans (s3.trans s4))).free n5)
    have q7 := np ((s1.trans (s2.trans (s3.trans (s4.trans (s5.trans s6))))).free n7)
    obtain ⟨g, mm, n, hB, rB⟩ := B.ex
    refine ⟨_, rfl, _, rfl, p, 4, b, rfl, by decide, by decide, ⟨g, mm, n, s17 p _ hB, rB⟩, by omega, fun r H8 r0 r1 B8 g8 => ?_⟩
    have pick : ∃ (q : Addr) (l : List Str), atI ([.ref p1, .ref p2] ++ [.ref p4, .ref p5] : List V) r = some (.ref q) ∧ H8 q = some (.lst (l.map V.str)) ∧ l ∈ nmLines := by
      rcases (by omega : r = 0 ∨ r = 1 ∨ r = 2 ∨ r = 3) with rfl | rfl | rfl | rfl
      · exact ⟨p1, nm1, rfl, g8 _ _ q1 e1, by simp [nmLines]⟩
      · exact ⟨p2, nm2, rfl, g8 _ _ q2 e2, by simp [nmLines]⟩
      · exact ⟨p4, nm3, rfl, g8 _ _ q4 e4, by simp [nmLines]⟩
      · exact ⟨p5, nm4, rfl, g8 _ _ q5 e5, by simp [nmLines]⟩
    obtain ⟨q, l, ha, hq, hl⟩ := pick
    refine ⟨p7, _, r, .ref q, rfl, rfl, SqL.of (g8 _ _ q7 upd_same), ha, ?_⟩
    refine ⟨_, rfl, p, 6, b + 1, rfl, by decide, by decide, B8, by omega, fun a H9 a0 a1 B9 g9 => ?_⟩
    have hqp : q ≠ p := by
      obtain ⟨g', m', n', h', _⟩ := B8.ex
      intro z
      rw [z, h'] at hq
      cases l with
      | nil => exact absurd hl (by decide)
      | cons x l => cases Option.some.inj hq
    have hq9 : H9 q = some (.lst (l.map V.str)) := g9 _ _ hqp hq
    refine ⟨_, _, rfl, ?_⟩
    refine ⟨_, rfl, _, rfl, a, rfl, q, _, rfl, SqL.of hq9, fun p8 n8 => ?_⟩
    have s8 := Same.mk1 (o := .lst (cutV (l.map V.str) (some a) none)) n8
    refine ⟨_, rfl, _, rfl, a, rfl, q, _, rfl, SqL.of (s8 _ _ hq9), fun p9 n9 => ?_⟩
    have s9 := Same.mk1 (o := .lst (cutV (l.map V.str) none (some a))) n9
    refine ⟨p8, p9, _, _, rfl, rfl, s9 _ _ upd_same, upd_same, ?_, fun p10 n10 => ?_⟩
    · have h1 := cutV_length (l.map V.str) (some a) none
      have h2 := cutV_length (l.map V.str) none (some a)
      have h3 : l.length = 6 := by
        revert hl
        exact (by decide +kernel : ∀ l ∈ nmLines, l.length = 6) l
      rw [List.length_map] at h1 h2
      exact Nat.le_trans (by omega : _ ≤ 12) (by decide)
    have s10 := Same.mk1 (o := .lst (cutV (l.map V.str) (some a) none ++ cutV (l.map V.str) none (some a))) n10
    refine ⟨_, rfl, m, rfl, p10, _, rfl, SqL.of upd_same, fun p11 n11 => ?_⟩
    have s11 := Same.mk1 (o := .lst (((l.drop a.toNat ++ l.take a.toNat).take m.toNat).map V.str)) n11
    have ec : cutV (cutV (l.map V.str) (some a) none ++ cutV (l.map V.str) none (some a)) none (some m) = ((l.drop a.toNat ++ l.take a.toNat).take m.toNat).map V.str := by
      rw [cut_from a0, cut_to a0, cut_to m0, ← List.map_drop, ← List.map_take, ← List.map_append, ← List.map_take]
    obtain ⟨k1, k2⟩ := nmLines_ok l hl a.toNat (List.mem_range.mpr (by omega)) m.toNat (List.mem_range.mpr (by omega))
    have gr9 := (Gr.same s17).trans (g8.trans g9)
    have gr := gr9.trans (Gr.same (s8.trans (s9.trans (s10.trans s11))))
    obtain ⟨g', m', n', h', r'⟩ := B9.ex
    have fresh : H p11 = none := Gr.back gr9 (by rw [h']; exact fun z => nomatch z) ((s8.trans (s9.trans s10)).free n11)
    rw [ec]
    exact kk p11 _ _ k1 (by rw [k2]; omega) fresh upd_same gr ⟨g', m', n', (s8.trans (s9.trans (s10.trans s11))) _ _ h', r'⟩

def sp_law_tree (K : PySem.W.Frag) (d : Nat) : Sp := fun vs H Q _ => ∃ (p q : Addr) (ns : List Str) (b : Nat), vs = [.ref p, .ref q, .int (d : Nat)] ∧ SqL K H q (ns.map V.str) ∧ q ≠ p ∧ ns ≠ [] ∧ ns.length ≤ 8 ∧ Bag H p b ∧ b + costT d ≤ 1000000000 ∧
  ∀ (a : Addr) (r : RT) (H' : Hp), TreeAt H' r a → RT.good ns d r → Gr p H H' → Bag H' p (b + costT d) → Q (.ref a) H'
theorem costT_two (d : Nat) : 2 ≤ costT d := by
  cases d with
  | zero => exact Nat.le_refl _
  | succ d => exact Nat.le_add_right _ _
theorem tree_at (T : Txt K mg) (lvl : Nat) (hl : 1 ≤ lvl) (d : Nat) (spp : Sp) (prev : FnOk P w K mg base CX0 lvl T.f_law_tree T.d_law_tree ["_law_bag_here", "_law_names_here", "_law_deep"] spp) (hp : ∀ e, d = e + 1 → spp = sp_law_tree K e) :
    FnOk P w K mg base CX0 (lvl + 1) T.f_law_tree T.d_law_tree ["_law_bag_here", "_law_names_here", "_law_deep"] (sp_law_tree K d) := by
  refine T.F_law_tree.ok sc_law_tree (fun vs H Q E h => ?_) (fun cdv A outer s H vs Q E hr h => ?_)
  · obtain ⟨p, q, ns, b, rfl, _⟩ := h
    rfl
  · obtain ⟨p, q, ns, b, rfl, hS, hqp, hne, hns, B, hb, kk⟩ := h
    have ok_law_tree : Txt K mg → FnOk P w K mg base CX0 lvl T.f_law_tree T.d_law_tree ["_law_bag_here", "_law_names_here", "_law_deep"] spp := fun _ => prev
    refine ⟨_, (pss_cons (ps_set (i := 3) sc_law_tree.nd rfl (.inl rfl) (pe_call (ok_law_take T) (hr.mono (by omega)) rfl T.m_law_take T.F_law_take.kp T.b_law_take .nil pass0 (pa_cons (pv 0) (pa_cons pe_int pa_nil))))
        (pss_cons (ps_if (pt_cut (PW.pt (pw_or (pt_cmpR op_eq (pv 2) pe_int (nomark _)) (pw_or1 (pt_cmpR op_eq (pv 3) pe_int (nomark _))))))
          (pss_one (ps_ret (pe_tup (pa_cons pe_str (pa_cons (pe_ix (ix_list : IxR _ (rIxL K)) (pv 1) (pe_call (ok_law_take T) (hr.mono (by omega)) rfl T.m_law_take T.F_law_take.kp T.b_law_take .nil pass0 (pa_cons (pv 0) (pa_cons (pe_callB call_len_seq (by rfl) T.z_len (by decide +kernel) (pa_cons (pv 1) pa_nil)) pa_nil))) (fun _ _ => rfl)) pa_nil)))))
          pss_nil)
        (pss_cons (ps_set (i := 4) sc_law_tree.nd rfl (.inl rfl) (pe_lst (pa_cons pe_str (pa_cons pe_str (pa_cons pe_str (pa_cons pe_str (pa_cons pe_str (pa_cons pe_str (pa_cons pe_str (pa_cons pe_str (pa_cons pe_str (pa_cons pe_str pa_nil))))))))))))
        (pss_cons (ps_set (i := 5) sc_law_tree.nd rfl (.inl rfl) pe_int)
        (pss_cons (ps_cut (ps_if (pt_cmpR op_lt (pv 3) pe_int (nomark _))
          (pss_one (ps_set (i := 5) sc_law_tree.nd rfl (.inl rfl) (pe_ix (ix_list : IxR _ (rIxL K)) (pe_lst (pa_cons pe_int (pa_cons pe_int (pa_cons pe_int (pa_cons pe_int (pa_cons pe_int (pa_cons pe_int pa_nil))))))) (pe_call (ok_law_take T) (hr.mono (by omega)) rfl T.m_law_take T.F_law_take.kp T.b_law_take .nil pass0 (pa_cons (pv 0) (pa_cons pe_int pa_nil))) (fun _ _ => rfl))))
          (pss_one (ps_if (pt_cmpR op_lt (pv 3) pe_int (nomark _))
            (pss_one (ps_set (i := 5) sc_law_tree.nd rfl (.inl rfl) pe_int))
            pss_nil))))
        (pss_one (ps_ret (pe_tup (pa_cons (pe_ix (ix_list : IxR _ (rIxL K)) (pv 4) (pe_op op_sub (pv 3) pe_int) (fun _ _ => rfl)) (pa_cons (pe_callTy call_tuple_of (by rfl) T.z_tuple (by decide +kernel) (pa_cons (pe_lc (own := [("_law_k", 6)]) (g := (gName 6)) (tt := tYes) rfl sc_law_tree.nd (pi_range1 rfl T.z_range (pa_cons (pv 5) pa_nil)) (blkOk_by (own := [("_law_k", 6)]) (N := N_law_tree) (sc := defScope s_law_tree) (by decide +kernel)) (fun _ _ _ _ _ => (pg_name (i := 6) sc_law_tree.nd rfl (.inl rfl))) (fun _ _ _ _ _ => pts_nil) (fun _ _ _ _ _ => (pe_call (ok_law_tree T) (hr.mono (by omega)) rfl T.m_law_tree T.F_law_tree.kp T.b_law_tree .nil pass0 (pa_cons (pv 0) (pa_cons (pv 1) (pa_cons (pe_op op_sub (pv 2) pe_int) pa_nil)))))) pa_nil)) pa_nil)))))))))), ?_⟩
    have yes : ∀ {c : Bool} {a b : Prop}, c = true → a → if c = true then a else b := fun h q => by rw [if_pos h]; exact q
    have no : ∀ {c : Bool} {a b : Prop}, c = false → b → if c = true then a else b := fun h q => by rw [h]; exact q
    have two := costT_two d
    refine ⟨_, rfl, p, 11, b, rfl, by decide, by decide, B, by omega, fun way H1 w0 w1 B1 g1 => ?_⟩
    have hS1 := g1.seq hqp hS
    refine ⟨fun c H' => c = decide (d = 0 ∨ way = 0) ∧ H1 = H', ⟨_, rfl, rfl, _, rfl, ?_⟩, ?_⟩
    · by_cases e : d = 0
      · exact yes (by simp [e]) ⟨by simp [e], rfl⟩
      · refine no (by simp [e]) ⟨_, rfl, rfl, _, rfl, ?_, rfl⟩
        simp [e]
    rintro _ _ ⟨rfl, rfl⟩
    by_cases e : d = 0 ∨ way = 0
    · refine yes (decide_eq_true e) ?_
      have pos : 0 < ns.length := List.length_pos_iff.mpr hne
      refine ⟨_, rfl, _, rfl, _, rfl, q, _, rfl, .inl hS1, p, _, b + 1, rfl, (by rw [List.length_map]; omega), (by rw [List.length_map]; omega), B1, by omega, fun j H2 j0 j1 B2 g2 => ?_⟩
      rw [List.length_map] at j1
      obtain ⟨j, rfl⟩ : ∃ k : Nat, j = (k : Nat) := ⟨j.toNat, by omega⟩
      have hj : j < ns.length := by omega
      have hS2 := g2.seq hqp hS1
      refine ⟨q, _, (j : Nat), .str ns[j], rfl, rfl, hS2, atI_nat (by rw [List.getElem?_map, List.getElem?_eq_getElem hj]; rfl), (by show 2 ≤ sizeLine; decide), fun a na => ?_⟩
      have sa := Same.mk1 (o := .tup [.str "base", .str ns[j]]) na
      refine kk a (.base ns[j]) _ upd_same (by cases d <;> exact List.getElem_mem hj) (g1.trans (g2.trans (Gr.same sa))) ((B2.grow sa).mono (by omega))
    · refine no (decide_eq_false e) ?_
      obtain ⟨d, rfl⟩ : ∃ k, d = k + 1 := ⟨d - 1, by omega⟩
      have hsp := hp d rfl
      subst hsp
      have wn : ¬ way = 0 := fun z => e (.inr z)
      refine ⟨(by show 10 ≤ sizeLine; decide), fun W nW => ?_⟩
      have sW := Same.mk1 (o := .lst [.str "merged", .str "merged", .str "chained", .str "without", .str "kept", .str "filled", .str "moved", .str "moved", .str "turned", .str "by_keys"]) nW
      have c3 : costT (d + 1) = 2 + 3 * costT d := rfl
      refine ⟨fun σ' H' => ∃ (many : Nat) (wd : Str), σ' = [some (.ref p), some (.ref q), some (.int ((d + 1 : Nat) : Int)), some (.int way), some (.ref W), some (.int (many : Nat)), none] ∧ atI [V.str "merged", .str "merged", .str "chained", .str "without", .str "kept", .str "filled", .str "moved", .str "moved", .str "turned", .str "by_keys"] (way - 1) = some (.str wd) ∧
          fitsW wd many ∧ many ≤ 3 ∧ H' W = some (.lst [.str "merged", .str "merged", .str "chained", .str "without", .str "kept", .str "filled", .str "moved", .str "moved", .str "turned", .str "by_keys"]) ∧ Gr p H H' ∧ Bag H' p (b + 2), ?_, ?_⟩
      · have Wp : W ≠ p := B1.ne nW
        have BW := B1.grow sW
        refine ⟨_, rfl, _, _, rfl, rfl, _, rfl, ?_⟩
        by_cases w4 : way < 4
        · refine yes (decide_eq_true w4) ?_
          refine ⟨(by show 6 ≤ sizeLine; decide), fun L nL => ?_⟩
          have sL := Same.mk1 (o := .lst [.int 2, .int 2, .int 3, .int 1, .int 0, .int 2]) nL
          have Lp : L ≠ p := BW.ne nL
          refine ⟨_, rfl, p, 6, b + 1, rfl, by decide, by decide, BW.grow sL, by omega, fun j H4 j0 j1 B4 g4 => ?_⟩
          obtain ⟨many, hm, h3⟩ : ∃ m : Nat, atI ([.int 2, .int 2, .int 3, .int 1, .int 0, .int 2] : List V) j = some (.int (m : Nat)) ∧ m ≤ 3 := by
            have : j = 0 ∨ j = 1 ∨ j = 2 ∨ j = 3 ∨ j = 4 ∨ j = 5 := by omega
            rcases this with rfl | rfl | rfl | rfl | rfl | rfl
            · exact ⟨2, rfl, by decide⟩
            · exact ⟨2, rfl, by decide⟩
            · exact ⟨3, rfl, by decide⟩
            · exact ⟨1, rfl, by decide⟩
            · exact ⟨0, rfl, by decide⟩
            · exact ⟨2, rfl, by decide⟩
          obtain ⟨wd, hwd, hf⟩ : ∃ wd : Str, atI [V.str "merged", .str "merged", .str "chained", .str "without", .str "kept", .str "filled", .str "moved", .str "moved", .str "turned", .str "by_keys"] (way - 1) = some (.str wd) ∧ fitsW wd many := by
            have : way = 1 ∨ way = 2 ∨ way = 3 := by omega
            rcases this with rfl | rfl | rfl
            · exact ⟨"merged", rfl, .inl rfl⟩
            · exact ⟨"merged", rfl, .inl rfl⟩
            · exact ⟨"chained", rfl, .inr (.inl rfl)⟩
          exact ⟨L, _, j, .int (many : Nat), rfl, rfl, SqL.of (g4 _ _ Lp upd_same), hm, many, wd, rfl, hwd, hf, h3, g4 _ _ Wp (sL _ _ upd_same), g1.trans ((Gr.same sW).trans ((Gr.same sL).trans g4)), B4.mono (by omega)⟩
        · refine no (decide_eq_false w4) ?_
          refine ⟨_, rfl, _, _, rfl, rfl, _, rfl, ?_⟩
          by_cases w9 : way < 9
          · refine yes (decide_eq_true w9) ?_
            obtain ⟨wd, hwd, hf⟩ : ∃ wd : Str, atI [V.str "merged", .str "merged", .str "chained", .str "without", .str "kept", .str "filled", .str "moved", .str "moved", .str "turned", .str "by_keys"] (way - 1) = some (.str wd) ∧ fitsW wd 2 := by
              have : way = 4 ∨ way = 5 ∨ way = 6 ∨ way = 7 ∨ way = 8 := by omega
              rcases this with rfl | rfl | rfl | rfl | rfl
              · exact ⟨"without", rfl, .inr (.inr (.inr ⟨.inl rfl, rfl⟩))⟩
              · exact ⟨"kept", rfl, .inr (.inr (.inr ⟨.inr (.inl rfl), rfl⟩))⟩
              · exact ⟨"filled", rfl, .inr (.inr (.inr ⟨.inr (.inr (.inl rfl)), rfl⟩))⟩
              · exact ⟨"moved", rfl, .inr (.inr (.inr ⟨.inr (.inr (.inr rfl)), rfl⟩))⟩
              · exact ⟨"moved", rfl, .inr (.inr (.inr ⟨.inr (.inr (.inr rfl)), rfl⟩))⟩
            exact ⟨2, wd, rfl, hwd, hf, by decide, upd_same, g1.trans (Gr.same sW), BW.mono (by omega)⟩
          · refine no (decide_eq_false w9) ?_
            obtain ⟨wd, hwd, hf⟩ : ∃ wd : Str, atI [V.str "merged", .str "merged", .str "chained", .str "without", .str "kept", .str "filled", .str "moved", .str "moved", .str "turned", .str "by_keys"] (way - 1) = some (.str wd) ∧ fitsW wd 1 := by
              have : way = 9 ∨ way = 10 := by omega
              rcases this with rfl | rfl
              · exact ⟨"turned", rfl, .inr (.inr (.inl ⟨.inl rfl, rfl⟩))⟩
              · exact ⟨"by_keys", rfl, .inr (.inr (.inl ⟨.inr rfl, rfl⟩))⟩
            exact ⟨1, wd, rfl, hwd, hf, by decide, upd_same, g1.trans (Gr.same sW), BW.mono (by omega)⟩
      · rintro σ' H3 ⟨many, wd, rfl, hwd, hf, h3, hW, g3, B3⟩
        refine ⟨_, rfl, _, rfl, _, _, rfl, rfl, W, _, way - 1, .str wd, rfl, rfl, SqL.of hW, hwd, ?_⟩
        refine ⟨_, rfl, (many : Nat), rfl, by omega, by omega, fun D hD => ?_⟩
        have Dp := B3.ne hD
        have sD := Same.mk1 (o := .lst []) hD
        have hS3 := g3.seq hqp hS
        refine lc_it (walk_range (lo := 0) (n := many)) (fun i H4 => ∃ (ls : List Addr) (ps : List RT), H4 D = some (.lst (ls.map V.ref)) ∧ TreesAt H4 ps ls ∧ ps.length = i ∧ (∀ r ∈ ps, RT.good ns d r) ∧ Gr p H3 H4 ∧ Bag H4 p (b + 2 + costT d * i))
          ⟨[], [], upd_same, rfl, rfl, (fun _ h => nomatch h), Gr.same sD, B3.grow sD⟩ (fun _ _ _ _ => True.intro) ?_ ?_
        · rintro i x H4 H5 hi ⟨ls, ps, hD4, hT4, hi4, hg4, g4, B4⟩ ⟨rfl, rfl⟩
          have mul : costT d * i + costT d ≤ 3 * costT d := by
            have : costT d * (i + 1) ≤ costT d * 3 := Nat.mul_le_mul_left _ (by omega)
            rw [Nat.mul_add, Nat.mul_one] at this
            omega
          refine ⟨rfl, ?_⟩
          refine ⟨_, rfl, _, rfl, _, rfl, _, _, rfl, rfl, p, q, ns, b + 2 + costT d * i, ?_, g4.seq hqp hS3, hqp, hne, hns, B4, by omega, fun a r H6 hr6 gd g6 B6 => ?_⟩
          · show [V.ref p, V.ref q, V.int (((d + 1 : Nat) : Int) - 1)] = _
            rw [show ((d + 1 : Nat) : Int) - 1 = (d : Nat) by omega]
          have hD6 := g6 _ _ Dp hD4
          obtain ⟨gg, mm, nn, hb4, _⟩ := B4.ex
          have keep : ∀ b o, H5 b = some o → (∀ xs, o ≠ .lst xs) → (upd H6 D (.lst (ls.map V.ref ++ [.ref a]))) b = some o := fun c o h n => by
            rw [upd_ne fun z => by rw [z, hD4] at h; exact n _ (Option.some.inj h).symm]
            exact g6 _ _ (fun z => by rw [z, hb4] at h; exact n _ (Option.some.inj h).symm) h
          have keep2 : ∀ b o, H6 b = some o → (∀ xs, o ≠ .lst xs) → (upd H6 D (.lst (ls.map V.ref ++ [.ref a]))) b = some o := fun c o h n => by
            rw [upd_ne fun z => by rw [z, hD6] at h; exact n _ (Option.some.inj h).symm]
            exact h
          have lenls := hT4.len
          refine ⟨ls.map V.ref, hD6, (by rw [List.length_map, sizeLine_eq]; omega), ls ++ [a], ps ++ [r], (by rw [upd_same, List.map_append]; rfl), (TreesAt.keep keep ps ls hT4).add (TreeAt.keep keep2 r a hr6), (by rw [List.length_append, hi4]; rfl), fun t ht => ?_, (g4.trans g6).put hD, ?_⟩
          · rcases List.mem_append.mp ht with z | z
            · exact hg4 t z
            · rw [List.mem_singleton.mp z]
              exact gd
          · obtain ⟨g', m', n', h', k1, k2, k3, k4⟩ := B6.ex
            exact ⟨g', m', n', (upd_ne Dp.symm).trans h', k1, k2, k3, by rw [Nat.mul_add, Nat.mul_one]; omega⟩
        · rintro H4 ⟨ls, ps, hD4, hT4, hi4, hg4, g4, B4⟩
          refine ⟨D, _, rfl, .inl ⟨SqL.of hD4, fun t nt => ?_⟩⟩
          have st := Same.mk1 (o := .tup (ls.map V.ref)) nt
          refine ⟨(by show 2 ≤ sizeLine; decide), fun a na => ?_⟩
          have sa := Same.mk1 (o := .tup [.str wd, .ref t]) na
          have len4 := hT4.len
          refine kk a (.op wd ps) _ ⟨t, ls, upd_same, sa _ _ upd_same, TreesAt.keep (fun b o h _ => sa _ _ (st _ _ h)) ps ls hT4⟩ ⟨by rw [hi4]; exact hf, by omega, hg4⟩ (g3.trans (g4.trans ((Gr.same st).trans (Gr.same sa)))) (((B4.grow st).grow sa).mono ?_)
          have : costT d * many ≤ costT d * 3 := Nat.mul_le_mul_left _ h3
          omega
theorem never_tree (T : Txt K mg) : FnOk P w K mg base CX0 1 T.f_law_tree T.d_law_tree ["_law_bag_here", "_law_names_here", "_law_deep"] (fun _ _ _ _ => False) :=
  T.F_law_tree.ok sc_law_tree (fun _ _ _ _ h => h.elim) (fun _ _ _ _ _ _ _ _ _ h => h.elim)
theorem ok_law_tree_at (T : Txt K mg) : ∀ d : Nat, FnOk P w K mg base CX0 (d + 2) T.f_law_tree T.d_law_tree ["_law_bag_here", "_law_names_here", "_law_deep"] (sp_law_tree K d)
  | 0 => tree_at T 1 (by omega) 0 _ (never_tree T) (fun e h => by cases h)
  | d + 1 => tree_at T (d + 2) (by omega) (d + 1) _ (ok_law_tree_at T d) (fun e h => by cases h; rfl)
def sp_law_trees (K : PySem.W.Frag) : Sp := fun vs H Q E => ∃ d : Nat, d ≤ 3 ∧ sp_law_tree K d vs H Q E
theorem ok_law_tree (T : Txt K mg) : FnOk P w K mg base CX0 5 T.f_law_tree T.d_law_tree ["_law_bag_here", "_law_names_here", "_law_deep"] (sp_law_trees K) :=
  ⟨fun vs H Q E ⟨d, hd, h⟩ => (ok_law_tree_at (P := P) (w := w) (base := base) T d).len vs H Q E h, fun A outer s H args us vs Q E hr e0 hb r ⟨d, hd, h⟩ => ((ok_law_tree_at T d).mono (by omega)).run A outer s H args us vs Q E hr e0 hb r h⟩

def sp_law_joined (C CT : Addr) : Sp := fun vs H Q E => ∃ (wd : Str) (q : Addr) (ls : List Addr) (ps : List RT), vs = [.str wd, .ref q] ∧ (wd = "merged" ∨ wd = "chained") ∧ H q = some (.lst (ls.map V.ref)) ∧ RulesAt C H ps ls ∧ ps.length ≤ 3 ∧ wts ps ≤ 100000 ∧ (∀ l : List Str, l.Nodup → (∀ x ∈ l, x ∈ basesL ps) → l.length ≤ 60) ∧ endR C CT wd ps H Q E
theorem ok_law_joined (T : Txt K mg) : FnOk P w K mg base (L2.CX P w) 8 T.f_law_joined T.d_law_joined ["_law_word", "_law_some"] (sp_law_joined T.C_Rule T.C_TooMany) := by
  refine T.F_law_joined.okX sc_law_joined (fun vs H Q E h => ?_) (fun cdv A outer s H vs Q E hr h => ?_)
  · obtain ⟨wd, q, ls, ps, rfl, _⟩ := h
    rfl
  · obtain ⟨wd, q, ls, ps, rfl, hw, hq, hR, len, hwt, few, kk⟩ := h
    refine ⟨_, (pss_cons (ps_set (i := 2) sc_law_joined.nd rfl (.inl rfl) (pe_cmpR op_eq (pv 0) pe_str (nomark _)))
        (pss_cons (ps_if (pt_cmpR op_eq (pe_callB call_len_seq (by rfl) T.z_len (by decide +kernel) (pa_cons (pv 1) pa_nil)) pe_int (nomark _))
          (pss_one (ps_ret (pe_cut (pe_ifExp (pt_val (pv 2)) (pe_callR0 (ok_merged T) (hr.mono (by decide)) rfl T.m_merged T.F_merged.kp (passE rfl rfl rfl rfl)) (pe_callR0 (ok_chained T) (hr.mono (by decide)) rfl T.m_chained T.F_chained.kp (passE rfl rfl rfl rfl))))))
          pss_nil)
        (pss_cons (ps_if (pt_cmpR op_eq (pe_callB call_len_seq (by rfl) T.z_len (by decide +kernel) (pa_cons (pv 1) pa_nil)) pe_int (nomark _))
          (pss_one (ps_ret (pe_cut (pe_ifExp (pt_val (pv 2)) (pe_callR (ok_merged T) (hr.mono (by decide)) rfl T.m_merged T.F_merged.kp (passE rfl rfl rfl rfl) (pa_cons (pe_ix (ix_list : IxR _ (rIxL K)) (pv 1) pe_int (fun _ _ => rfl)) pa_nil)) (pe_callR (ok_chained T) (hr.mono (by decide)) rfl T.m_chained T.F_chained.kp (passE rfl rfl rfl rfl) (pa_cons (pe_ix (ix_list : IxR _ (rIxL K)) (pv 1) pe_int (fun _ _ => rfl)) pa_nil))))))
          pss_nil)
        (pss_cons (ps_if (pt_cmpR op_eq (pe_callB call_len_seq (by rfl) T.z_len (by decide +kernel) (pa_cons (pv 1) pa_nil)) pe_int (nomark _))
          (pss_one (ps_ret (pe_cut (pe_ifExp (pt_val (pv 2)) (pe_callR (ok_merged T) (hr.mono (by decide)) rfl T.m_merged T.F_merged.kp (passE rfl rfl rfl rfl) (pa_cons (pe_ix (ix_list : IxR _ (rIxL K)) (pv 1) pe_int (fun _ _ => rfl)) (pa_cons (pe_ix (ix_list : IxR _ (rIxL K)) (pv 1) pe_int (fun _ _ => rfl)) pa_nil))) (pe_callR (ok_chained T) (hr.mono (by decide)) rfl T.m_chained T.F_chained.kp (passE rfl rfl rfl rfl) (pa_cons (pe_ix (ix_list : IxR _ (rIxL K)) (pv 1) pe_int (fun _ _ => rfl)) (pa_cons (pe_ix (ix_list : IxR _ (rIxL K)) (pv 1) pe_int (fun _ _ => rfl)) pa_nil)))))))
          pss_nil)
        (pss_one (ps_ret (pe_cut (pe_ifExp (pt_val (pv 2)) (pe_callR (ok_merged T) (hr.mono (by decide)) rfl T.m_merged T.F_merged.kp (passE rfl rfl rfl rfl) (pa_cons (pe_ix (ix_list : IxR _ (rIxL K)) (pv 1) pe_int (fun _ _ => rfl)) (pa_cons (pe_ix (ix_list : IxR _ (rIxL K)) (pv 1) pe_int (fun _ _ => rfl)) (pa_cons (pe_ix (ix_list : IxR _ (rIxL K)) (pv 1) pe_int (fun _ _ => rfl)) pa_nil)))) (pe_callR (ok_chained T) (hr.mono (by decide)) rfl T.m_chained T.F_chained.kp (passE rfl rfl rfl rfl) (pa_cons (pe_ix (ix_list : IxR _ (rIxL K)) (pv 1) pe_int (fun _ _ => rfl)) (pa_cons (pe_ix (ix_list : IxR _ (rIxL K)) (pv 1) pe_int (fun _ _ => rfl)) (pa_cons (pe_ix (ix_list : IxR _ (rIxL K)) (pv 1) pe_int (fun _ _ => rfl)) pa_nil)))))))))))), ?_⟩
    have yes : ∀ {c : Bool} {a b : Prop}, c = true → a → if c = true then a else b := fun h q => by rw [if_pos h]; exact q
    have no : ∀ {c : Bool} {a b : Prop}, c = false → b → if c = true then a else b := fun h q => by rw [h]; exact q
    have lenL := hR.len
    rcases hw with rfl | rfl
    · refine ⟨_, rfl, rfl, ?_⟩
      match ls, hR, lenL, hq with
      | [], hR, lenL, hq =>
        refine ⟨_, rfl, q, _, rfl, .inl (SqL.of hq), rfl, _, rfl, yes (by simp) ?_⟩
        exact ⟨Q, ⟨_, rfl, _, rfl, yes (by decide +kernel) ⟨[], ps, rfl, hR, hwt, few, kk⟩⟩, fun _ _ h => h⟩
      | [x], hR, lenL, hq =>
        refine ⟨_, rfl, q, _, rfl, .inl (SqL.of hq), rfl, _, rfl, no (by simp) ?_⟩
        refine ⟨_, rfl, q, _, rfl, .inl (SqL.of hq), rfl, _, rfl, yes (by simp) ?_⟩
        exact ⟨Q, ⟨_, rfl, _, rfl, yes (by decide +kernel) ⟨_, rfl, q, _, 0, .ref x, rfl, rfl, SqL.of hq, rfl, [x], ps, rfl, hR, hwt, few, kk⟩⟩, fun _ _ h => h⟩
      | [x, y], hR, lenL, hq =>
        refine ⟨_, rfl, q, _, rfl, .inl (SqL.of hq), rfl, _, rfl, no (by simp) ?_⟩
        refine ⟨_, rfl, q, _, rfl, .inl (SqL.of hq), rfl, _, rfl, no (by simp) ?_⟩
        refine ⟨_, rfl, q, _, rfl, .inl (SqL.of hq), rfl, _, rfl, yes (by simp) ?_⟩
        exact ⟨Q, ⟨_, rfl, _, rfl, yes (by decide +kernel) ⟨_, rfl, q, _, 0, .ref x, rfl, rfl, SqL.of hq, rfl, _, rfl, q, _, 1, .ref y, rfl, rfl, SqL.of hq, rfl, [x, y], ps, rfl, hR, hwt, few, kk⟩⟩, fun _ _ h => h⟩
      | [x, y, z], hR, lenL, hq =>
        refine ⟨_, rfl, q, _, rfl, .inl (SqL.of hq), rfl, _, rfl, no (by simp) ?_⟩
        refine ⟨_, rfl, q, _, rfl, .inl (SqL.of hq), rfl, _, rfl, no (by simp) ?_⟩
        refine ⟨_, rfl, q, _, rfl, .inl (SqL.of hq), rfl, _, rfl, no (by simp) ?_⟩
        exact ⟨Q, ⟨_, rfl, _, rfl, yes (by decide +kernel) ⟨_, rfl, q, _, 0, .ref x, rfl, rfl, SqL.of hq, rfl, _, rfl, q, _, 1, .ref y, rfl, rfl, SqL.of hq, rfl, _, rfl, q, _, 2, .ref z, rfl, rfl, SqL.of hq, rfl, [x, y, z], ps, rfl, hR, hwt, few, kk⟩⟩, fun _ _ h => h⟩
      | _ :: _ :: _ :: _ :: _, _, lenL, _ =>
        simp only [List.length_cons] at lenL
        omega
    · refine ⟨_, rfl, rfl, ?_⟩
      match ls, hR, lenL, hq with
      | [], hR, lenL, hq =>
        refine ⟨_, rfl, q, _, rfl, .inl (SqL.of hq), rfl, _, rfl, yes (by simp) ?_⟩
        exact ⟨Q, ⟨_, rfl, _, rfl, no (by decide +kernel) ⟨[], ps, rfl, hR, hwt, few, kk⟩⟩, fun _ _ h => h⟩
      | [x], hR, lenL, hq =>
        refine ⟨_, rfl, q, _, rfl, .inl (SqL.of hq), rfl, _, rfl, no (by simp) ?_⟩
        refine ⟨_, rfl, q, _, rfl, .inl (SqL.of hq), rfl, _, rfl, yes (by simp) ?_⟩
        exact ⟨Q, ⟨_, rfl, _, rfl, no (by decide +kernel) ⟨_, rfl, q, _, 0, .ref x, rfl, rfl, SqL.of hq, rfl, [x], ps, rfl, hR, hwt, few, kk⟩⟩, fun _ _ h => h⟩
      | [x, y], hR, lenL, hq =>
        refine ⟨_, rfl, q, _, rfl, .inl (SqL.of hq), rfl, _, rfl, no (by simp) ?_⟩
        refine ⟨_, rfl, q, _, rfl, .inl (SqL.of hq), rfl, _, rfl, no (by simp) ?_⟩
        refine ⟨_, rfl, q, _, rfl, .inl (SqL.of hq), rfl, _, rfl, yes (by simp) ?_⟩
        exact ⟨Q, ⟨_, rfl, _, rfl, no (by decide +kernel) ⟨_, rfl, q, _, 0, .ref x, rfl, rfl, SqL.of hq, rfl, _, rfl, q, _, 1, .ref y, rfl, rfl, SqL.of hq, rfl, [x, y], ps, rfl, hR, hwt, few, kk⟩⟩, fun _ _ h => h⟩
      | [x, y, z], hR, lenL, hq =>
        refine ⟨_, rfl, q, _, rfl, .inl (SqL.of hq), rfl, _, rfl, no (by simp) ?_⟩
        refine ⟨_, rfl, q, _, rfl, .inl (SqL.of hq), rfl, _, rfl, no (by simp) ?_⟩
        refine ⟨_, rfl, q, _, rfl, .inl (SqL.of hq), rfl, _, rfl, no (by simp) ?_⟩
        exact ⟨Q, ⟨_, rfl, _, rfl, no (by decide +kernel) ⟨_, rfl, q, _, 0, .ref x, rfl, rfl, SqL.of hq, rfl, _, rfl, q, _, 1, .ref y, rfl, rfl, SqL.of hq, rfl, _, rfl, q, _, 2, .ref z, rfl, rfl, SqL.of hq, rfl, [x, y, z], ps, rfl, hR, hwt, few, kk⟩⟩, fun _ _ h => h⟩
      | _ :: _ :: _ :: _ :: _, _, lenL, _ =>
        simp only [List.length_cons] at lenL
        omega

def sp_law_by_word (C CT : Addr) : Sp := fun vs H Q E => ∃ (wd : Str) (q : Addr) (ls : List Addr) (ps : List RT), vs = [.str wd, .ref q] ∧ fitsW wd ps.length ∧ H q = some (.lst (ls.map V.ref)) ∧ RulesAt C H ps ls ∧ ps.length ≤ 3 ∧ wts ps ≤ 100000 ∧ (∀ l : List Str, l.Nodup → (∀ x ∈ l, x ∈ basesL ps) → l.length ≤ 60) ∧ endR C CT wd ps H Q E
theorem ok_law_by_word (T : Txt K mg) : FnOk P w K mg base (L2.CX P w) 9 T.f_law_by_word T.d_law_by_word ["_law_word", "_law_some"] (sp_law_by_word T.C_Rule T.C_TooMany) := by
  refine T.F_law_by_word.okX sc_law_by_word (fun vs H Q E h => ?_) (fun cdv A outer s H vs Q E hr h => ?_)
  · obtain ⟨wd, q, ls, ps, rfl, _⟩ := h
    rfl
  · obtain ⟨wd, q, ls, ps, rfl, hw, hq, hR, len, hwt, few, kk⟩ := h
    refine ⟨_, (pss_cons (ps_if (pt_cut (PW.pt (pw_or (pt_cmpR op_eq (pv 0) pe_str (nomark _)) (pw_or1 (pt_cmpR op_eq (pv 0) pe_str (nomark _))))))
          (pss_one (ps_ret (pe_call (ok_law_joined T) (hr.mono (by decide)) rfl T.m_law_joined T.F_law_joined.kp T.b_law_joined .nil (passE rfl rfl rfl rfl) (pa_cons (pv 0) (pa_cons (pv 1) pa_nil)))))
          pss_nil)
        (pss_cons (ps_if (pt_cut (PW.pt (pw_or (pt_cmpR op_eq (pv 0) pe_str (nomark _)) (pw_or1 (pt_cmpR op_eq (pv 0) pe_str (nomark _))))))
          (pss_one (ps_ret (pe_cut (pe_ifExp (pt_cmpR op_eq (pv 0) pe_str (nomark _)) (pe_call (ok_turned T) (hr.mono (by decide)) rfl T.m_turned T.F_turned.kp T.b_turned .nil (passE rfl rfl rfl rfl) (pa_cons (pe_ix (ix_list : IxR _ (rIxL K)) (pv 1) pe_int (fun _ _ => rfl)) pa_nil)) (pe_call (ok_by_keys T) (hr.mono (by decide)) rfl T.m_by_keys T.F_by_keys.kp T.b_by_keys .nil (passE rfl rfl rfl rfl) (pa_cons (pe_ix (ix_list : IxR _ (rIxL K)) (pv 1) pe_int (fun _ _ => rfl)) pa_nil))))))
          pss_nil)
        (pss_cons (ps_if (pt_cut (PW.pt (pw_or (pt_cmpR op_eq (pv 0) pe_str (nomark _)) (pw_or1 (pt_cmpR op_eq (pv 0) pe_str (nomark _))))))
          (pss_one (ps_ret (pe_cut (pe_ifExp (pt_cmpR op_eq (pv 0) pe_str (nomark _)) (pe_call (ok_without T) (hr.mono (by decide)) rfl T.m_without T.F_without.kp T.b_without .nil (passE rfl rfl rfl rfl) (pa_cons (pe_ix (ix_list : IxR _ (rIxL K)) (pv 1) pe_int (fun _ _ => rfl)) (pa_cons (pe_ix (ix_list : IxR _ (rIxL K)) (pv 1) pe_int (fun _ _ => rfl)) pa_nil))) (pe_call (ok_kept T) (hr.mono (by decide)) rfl T.m_kept T.F_kept.kp T.b_kept .nil (passE rfl rfl rfl rfl) (pa_cons (pe_ix (ix_list : IxR _ (rIxL K)) (pv 1) pe_int (fun _ _ => rfl)) (pa_cons (pe_ix (ix_list : IxR _ (rIxL K)) (pv 1) pe_int (fun _ _ => rfl)) pa_nil)))))))
          pss_nil)
        (pss_one (ps_ret (pe_cut (pe_ifExp (pt_cmpR op_eq (pv 0) pe_str (nomark _)) (pe_call (ok_filled T) (hr.mono (by decide)) rfl T.m_filled T.F_filled.kp T.b_filled .nil (passE rfl rfl rfl rfl) (pa_cons (pe_ix (ix_list : IxR _ (rIxL K)) (pv 1) pe_int (fun _ _ => rfl)) (pa_cons (pe_ix (ix_list : IxR _ (rIxL K)) (pv 1) pe_int (fun _ _ => rfl)) pa_nil))) (pe_call (ok_moved T) (hr.mono (by decide)) rfl T.m_moved T.F_moved.kp T.b_moved .nil (passE rfl rfl rfl rfl) (pa_cons (pe_ix (ix_list : IxR _ (rIxL K)) (pv 1) pe_int (fun _ _ => rfl)) (pa_cons (pe_ix (ix_list : IxR _ (rIxL K)) (pv 1) pe_int (fun _ _ => rfl)) pa_nil)))))))))), ?_⟩
    have yes : ∀ {c : Bool} {a b : Prop}, c = true → a → if c = true then a else b := fun h q => by rw [if_pos h]; exact q
    have no : ∀ {c : Bool} {a b : Prop}, c = false → b → if c = true then a else b := fun h q => by rw [h]; exact q
    have lenL := hR.len
    rcases hw with rfl | rfl | ⟨rfl | rfl, n⟩ | ⟨rfl | rfl | rfl | rfl, n⟩
    · refine ⟨fun b H1 => b = true ∧ H = H1, ⟨_, rfl, rfl, _, rfl, yes (by decide +kernel) ⟨rfl, rfl⟩⟩, ?_⟩
      rintro _ _ ⟨rfl, rfl⟩
      refine yes rfl ?_
      exact ⟨_, rfl, _, rfl, _, q, ls, ps, rfl, .inl rfl, hq, hR, len, hwt, few, kk⟩
    · refine ⟨fun b H1 => b = true ∧ H = H1, ⟨_, rfl, rfl, _, rfl, no (by decide +kernel) ⟨_, rfl, rfl, _, rfl, by decide +kernel, rfl⟩⟩, ?_⟩
      rintro _ _ ⟨rfl, rfl⟩
      refine yes rfl ?_
      exact ⟨_, rfl, _, rfl, _, q, ls, ps, rfl, .inr rfl, hq, hR, len, hwt, few, kk⟩
    · refine ⟨fun b H1 => b = false ∧ H = H1, ⟨_, rfl, rfl, _, rfl, no (by decide +kernel) ⟨_, rfl, rfl, _, rfl, by decide +kernel, rfl⟩⟩, ?_⟩
      rintro _ _ ⟨rfl, rfl⟩
      refine no rfl ?_
      refine ⟨fun b H1 => b = true ∧ H = H1, ⟨_, rfl, rfl, _, rfl, yes (by decide +kernel) ⟨rfl, rfl⟩⟩, ?_⟩
      rintro _ _ ⟨rfl, rfl⟩
      refine yes rfl ?_
      rw [n] at lenL
      match ls, hR, lenL, hq with
      | [x], hR, lenL, hq =>
        exact ⟨Q, ⟨_, rfl, rfl, _, rfl, yes (by decide +kernel) ⟨_, rfl, q, _, 0, .ref x, rfl, rfl, SqL.of hq, rfl, rfl, [x], ps, rfl, hR, hwt, few, kk⟩⟩, fun _ _ h => h⟩
      | [], _, lenL, _ => cases lenL
      | _ :: _ :: _, _, lenL, _ => cases lenL
    · refine ⟨fun b H1 => b = false ∧ H = H1, ⟨_, rfl, rfl, _, rfl, no (by decide +kernel) ⟨_, rfl, rfl, _, rfl, by decide +kernel, rfl⟩⟩, ?_⟩
      rintro _ _ ⟨rfl, rfl⟩
      refine no rfl ?_
      refine ⟨fun b H1 => b = true ∧ H = H1, ⟨_, rfl, rfl, _, rfl, no (by decide +kernel) ⟨_, rfl, rfl, _, rfl, by decide +kernel, rfl⟩⟩, ?_⟩
      rintro _ _ ⟨rfl, rfl⟩
      refine yes rfl ?_
      rw [n] at lenL
      match ls, hR, lenL, hq with
      | [x], hR, lenL, hq =>
        exact ⟨Q, ⟨_, rfl, rfl, _, rfl, no (by decide +kernel) ⟨_, rfl, q, _, 0, .ref x, rfl, rfl, SqL.of hq, rfl, rfl, [x], ps, rfl, hR, hwt, few, kk⟩⟩, fun _ _ h => h⟩
      | [], _, lenL, _ => cases lenL
      | _ :: _ :: _, _, lenL, _ => cases lenL
    · refine ⟨fun b H1 => b = false ∧ H = H1, ⟨_, rfl, rfl, _, rfl, no (by decide +kernel) ⟨_, rfl, rfl, _, rfl, by decide +kernel, rfl⟩⟩, ?_⟩
      rintro _ _ ⟨rfl, rfl⟩
      refine no rfl ?_
      refine ⟨fun b H1 => b = false ∧ H = H1, ⟨_, rfl, rfl, _, rfl, no (by decide +kernel) ⟨_, rfl, rfl, _, rfl, by decide +kernel, rfl⟩⟩, ?_⟩
      rintro _ _ ⟨rfl, rfl⟩
      refine no rfl ?_
      refine ⟨fun b H1 => b = true ∧ H = H1, ⟨_, rfl, rfl, _, rfl, yes (by decide +kernel) ⟨rfl, rfl⟩⟩, ?_⟩
      rintro _ _ ⟨rfl, rfl⟩
      refine yes rfl ?_
      rw [n] at lenL
      match ls, hR, lenL, hq with
      | [x, y], hR, lenL, hq =>
        exact ⟨Q, ⟨_, rfl, rfl, _, rfl, yes (by decide +kernel) ⟨_, rfl, q, _, 0, .ref x, rfl, rfl, SqL.of hq, rfl, _, rfl, q, _, 1, .ref y, rfl, rfl, SqL.of hq, rfl, rfl, [x, y], ps, rfl, hR, hwt, few, kk⟩⟩, fun _ _ h => h⟩
      | [], _, lenL, _ => cases lenL
      | [_], _, lenL, _ => cases lenL
      | _ :: _ :: _ :: _, _, lenL, _ => cases lenL
    · refine ⟨fun b H1 => b = false ∧ H = H1, ⟨_, rfl, rfl, _, rfl, no (by decide +kernel) ⟨_, rfl, rfl, _, rfl, by decide +kernel, rfl⟩⟩, ?_⟩
      rintro _ _ ⟨rfl, rfl⟩
      refine no rfl ?_
      refine ⟨fun b H1 => b = false ∧ H = H1, ⟨_, rfl, rfl, _, rfl, no (by decide +kernel) ⟨_, rfl, rfl, _, rfl, by decide +kernel, rfl⟩⟩, ?_⟩
      rintro _ _ ⟨rfl, rfl⟩
      refine no rfl ?_
      refine ⟨fun b H1 => b = true ∧ H = H1, ⟨_, rfl, rfl, _, rfl, no (by decide +kernel) ⟨_, rfl, rfl, _, rfl, by decide +kernel, rfl⟩⟩, ?_⟩
      rintro _ _ ⟨rfl, rfl⟩
      refine yes rfl ?_
      rw [n] at lenL
      match ls, hR, lenL, hq with
      | [x, y], hR, lenL, hq =>
        exact ⟨Q, ⟨_, rfl, rfl, _, rfl, no (by decide +kernel) ⟨_, rfl, q, _, 0, .ref x, rfl, rfl, SqL.of hq, rfl, _, rfl, q, _, 1, .ref y, rfl, rfl, SqL.of hq, rfl, rfl, [x, y], ps, rfl, hR, hwt, few, kk⟩⟩, fun _ _ h => h⟩
      | [], _, lenL, _ => cases lenL
      | [_], _, lenL, _ => cases lenL
      | _ :: _ :: _ :: _, _, lenL, _ => cases lenL
    · refine ⟨fun b H1 => b = false ∧ H = H1, ⟨_, rfl, rfl, _, rfl, no (by decide +kernel) ⟨_, rfl, rfl, _, rfl, by decide +kernel, rfl⟩⟩, ?_⟩
      rintro _ _ ⟨rfl, rfl⟩
      refine no rfl ?_
      refine ⟨fun b H1 => b = false ∧ H = H1, ⟨_, rfl, rfl, _, rfl, no (by decide +kernel) ⟨_, rfl, rfl, _, rfl, by decide +kernel, rfl⟩⟩, ?_⟩
      rintro _ _ ⟨rfl, rfl⟩
      refine no rfl ?_
      refine ⟨fun b H1 => b = false ∧ H = H1, ⟨_, rfl, rfl, _, rfl, no (by decide +kernel) ⟨_, rfl, rfl, _, rfl, by decide +kernel, rfl⟩⟩, ?_⟩
      rintro _ _ ⟨rfl, rfl⟩
      refine no rfl ?_
      rw [n] at lenL
      match ls, hR, lenL, hq with
      | [x, y], hR, lenL, hq =>
        exact ⟨Q, ⟨_, rfl, rfl, _, rfl, yes (by decide +kernel) ⟨_, rfl, q, _, 0, .ref x, rfl, rfl, SqL.of hq, rfl, _, rfl, q, _, 1, .ref y, rfl, rfl, SqL.of hq, rfl, rfl, [x, y], ps, rfl, hR, hwt, few, kk⟩⟩, fun _ _ h => h⟩
      | [], _, lenL, _ => cases lenL
      | [_], _, lenL, _ => cases lenL
      | _ :: _ :: _ :: _, _, lenL, _ => cases lenL
    · refine ⟨fun b H1 => b = false ∧ H = H1, ⟨_, rfl, rfl, _, rfl, no (by decide +kernel) ⟨_, rfl, rfl, _, rfl, by decide +kernel, rfl⟩⟩, ?_⟩
      rintro _ _ ⟨rfl, rfl⟩
      refine no rfl ?_
      refine ⟨fun b H1 => b = false ∧ H = H1, ⟨_, rfl, rfl, _, rfl, no (by decide +kernel) ⟨_, rfl, rfl, _, rfl, by decide +kernel, rfl⟩⟩, ?_⟩
      rintro _ _ ⟨rfl, rfl⟩
      refine no rfl ?_
      refine ⟨fun b H1 => b = false ∧ H = H1, ⟨_, rfl, rfl, _, rfl, no (by decide +kernel) ⟨_, rfl, rfl, _, rfl, by decide +kernel, rfl⟩⟩, ?_⟩
      rintro _ _ ⟨rfl, rfl⟩
      refine no rfl ?_
      rw [n] at lenL
      match ls, hR, lenL, hq with
      | [x, y], hR, lenL, hq =>
        exact ⟨Q, ⟨_, rfl, rfl, _, rfl, no (by decide +kernel) ⟨_, rfl, q, _, 0, .ref x, rfl, rfl, SqL.of hq, rfl, _, rfl, q, _, 1, .ref y, rfl, rfl, SqL.of hq, rfl, rfl, [x, y], ps, rfl, hR, hwt, few, kk⟩⟩, fun _ _ h => h⟩
      | [], _, lenL, _ => cases lenL
      | [_], _, lenL, _ => cases lenL
      | _ :: _ :: _ :: _, _, lenL, _ => cases lenL

/-- the operations where no name is too many -/
def sp_law_by_word0 (C : Addr) : Sp := fun vs H Q _ => ∃ (wd : Str) (q : Addr) (ls : List Addr) (ps : List RT), vs = [.str wd, .ref q] ∧ fitsW wd ps.length ∧ H q = some (.lst (ls.map V.ref)) ∧ RulesAt C H ps ls ∧ ps.length ≤ 3 ∧ wts ps ≤ 100000 ∧ (∀ l : List Str, l.Nodup → (∀ x ∈ l, x ∈ basesL ps) → l.length ≤ 5) ∧
  ∀ (a : Addr) (H' : Hp), H a = none → Same H H' → RuleAt C H' (.op wd ps) a → Q (.ref a) H'
theorem endR_few {C CT : Addr} {wd : Str} {ps : List RT} {H : Hp} {Q : VK} {E : XK} (few : ∀ l : List Str, l.Nodup → (∀ x ∈ l, x ∈ basesL ps) → l.length ≤ 5) (kk : ∀ (a : Addr) (H' : Hp), H a = none → Same H H' → RuleAt C H' (.op wd ps) a → Q (.ref a) H') : endR C CT wd ps H Q E := fun ns hN =>
  ⟨fun _ => kk, fun n5 => absurd (few ns hN.nd fun x hx => (hN.mem x).mp hx) (by omega)⟩
theorem ok_law_by_word0 (T : Txt K mg) : FnOk P w K mg base CX0 9 T.f_law_by_word T.d_law_by_word ["_law_word", "_law_some"] (sp_law_by_word0 T.C_Rule) :=
  FnOk.weaken (FnOk.calm (ok_law_by_word T)) fun vs H Q E ⟨wd, q, ls, ps, e, hf, hq, hR, h3, hw, few, kk⟩ => ⟨wd, q, ls, ps, e, hf, hq, hR, h3, hw, fun l nd s => Nat.le_trans (few l nd s) (by decide), endR_few few kk⟩

def wtT : Nat → Nat
  | 0 => 20
  | d + 1 => 20 + 3 * (wtT d + 2)
theorem wtT_min (d : Nat) : 20 ≤ wtT d := by
  cases d with
  | zero => exact Nat.le_refl _
  | succ d => exact Nat.le_add_right _ _
theorem fitsW_len {w : Str} {n : Nat} (h : fitsW w n) : w.length ≤ 7 := by
  rcases h with rfl | rfl | ⟨rfl | rfl, _⟩ | ⟨rfl | rfl | rfl | rfl, _⟩ <;> decide +kernel
theorem nmB_len {n : Str} (h : nmB n = true) : n.length ≤ 6 := by
  unfold nmB at h
  rw [Bool.and_eq_true, Bool.and_eq_true] at h
  exact of_decide_eq_true h.1.2
theorem wts_bound {k : Nat} : ∀ ps : List RT, (∀ p ∈ ps, p.wt ≤ k) → wts ps ≤ ps.length * (k + 2)
  | [], _ => Nat.zero_le _
  | p :: r, h => by
    have h1 := h p List.mem_cons_self
    have h2 := wts_bound r fun q hq => h q (List.mem_cons_of_mem _ hq)
    simp only [wts, List.length_cons, Nat.succ_mul]
    omega
theorem good_wt {ns : List Str} (hn : ∀ n ∈ ns, nmB n = true) : ∀ {d : Nat} {r : RT}, RT.good ns d r → r.wt ≤ wtT d
  | d, .base n, h => by
    have h : n ∈ ns := by cases d <;> exact h
    have h1 := nmB_len (hn n h)
    have h2 := wtT_min d
    show n.length + 1 ≤ wtT d
    omega
  | 0, .op _ _, h => h.elim
  | d + 1, .op w ps, h => by
    obtain ⟨h1, h2, h3⟩ := h
    have b := wts_bound ps fun p hp => good_wt hn (h3 p hp)
    have z : ps.length * (wtT d + 2) ≤ 3 * (wtT d + 2) := Nat.mul_le_mul_right _ h2
    have l := fitsW_len h1
    show w.length + 3 + wts ps ≤ 20 + 3 * (wtT d + 2)
    omega
theorem good_bases {ns : List Str} : ∀ {d : Nat} {r : RT}, RT.good ns d r → ∀ x ∈ r.bases, x ∈ ns
  | d, .base n, h, x, hx => by
    have h : n ∈ ns := by cases d <;> exact h
    cases List.mem_singleton.mp (show x ∈ [n] from hx)
    exact h
  | 0, .op _ _, h, _, _ => h.elim
  | d + 1, .op w ps, h, x, hx => by
    obtain ⟨p, hp, hb⟩ := basesL_mem.mp (show x ∈ basesL ps from hx)
    exact good_bases (h.2.2 p hp) x hb
theorem nodup_le {ns l : List Str} (nd : l.Nodup) (sub : ∀ x ∈ l, x ∈ ns) : l.length ≤ ns.length := by
  induction l generalizing ns with
  | nil => exact Nat.zero_le _
  | cons a l ih =>
    have ha := sub a List.mem_cons_self
    have h := ih (ns := ns.erase a) (List.nodup_cons.mp nd).2 fun x hx => by
      refine (List.mem_erase_of_ne fun e => ?_).mpr (sub x (List.mem_cons_of_mem _ hx))
      exact (List.nodup_cons.mp nd).1 (e ▸ hx)
    rw [List.length_erase_of_mem ha] at h
    have := List.length_pos_of_mem ha
    rw [List.length_cons]
    omega
def sp_law_made (C : Addr) (d : Nat) : Sp := fun vs H Q _ => ∃ (ns : List Str) (a : Addr) (r : RT), vs = [.ref a] ∧ TreeAt H r a ∧ RT.good ns d r ∧ (∀ n ∈ ns, nmB n = true) ∧ ns.length ≤ 5 ∧ wtT d ≤ 10000 ∧
  ∀ (x : Addr) (H' : Hp), H x = none → Same H H' → RuleAt C H' r x → Q (.ref x) H'
theorem made_at (T : Txt K mg) (lvl : Nat) (hl : 9 ≤ lvl) (d : Nat) (spp : Sp) (prev : FnOk P w K mg base CX0 lvl T.f_law_made T.d_law_made ["_law_tree_here"] spp) (hp : ∀ e, d = e + 1 → spp = sp_law_made T.C_Rule e) :
    FnOk P w K mg base CX0 (lvl + 1) T.f_law_made T.d_law_made ["_law_tree_here"] (sp_law_made T.C_Rule d) := by
  refine T.F_law_made.ok sc_law_made (fun vs H Q E h => ?_) (fun cdv A outer s H vs Q E hr h => ?_)
  · obtain ⟨ns, a, r, rfl, _⟩ := h
    rfl
  · obtain ⟨ns, a, r, rfl, hT, hg, hn, h5, hw, kk⟩ := h
    have ok_law_made : Txt K mg → FnOk P w K mg base CX0 lvl T.f_law_made T.d_law_made ["_law_tree_here"] spp := fun _ => prev
    refine ⟨_, (pss_cons (ps_asg (pv 0) (pg_tup rfl (pgs_cons (pg_name (i := 1) sc_law_made.nd rfl (.inl rfl)) (pgs_cons (pg_name (i := 2) sc_law_made.nd rfl (.inl rfl)) pgs_nil))))
        (pss_cons (ps_if (pt_cmpR op_eq (pv 1) pe_str (nomark _))
          (pss_one (ps_ret (pe_call (ok_base T) (hr.mono (by omega)) rfl T.m_base T.F_base.kp T.b_base .nil pass0 (pa_cons (pv 2) pa_nil))))
          pss_nil)
        (pss_one (ps_ret (pe_call (ok_law_by_word0 T) (hr.mono (by omega)) rfl T.m_law_by_word T.F_law_by_word.kp T.b_law_by_word .nil pass0 (pa_cons (pv 1) (pa_cons (pe_lc (own := [("_law_part", 3)]) (g := (gName 3)) (tt := tYes) rfl sc_law_made.nd (pi_tup (pv 2)) (blkOk_by (own := [("_law_part", 3)]) (N := N_law_made) (sc := defScope s_law_made) (by decide +kernel)) (fun _ _ _ _ _ => (pg_name (i := 3) sc_law_made.nd rfl (.inl rfl))) (fun _ _ _ _ _ => pts_nil) (fun _ _ _ _ _ => (pe_call (ok_law_made T) (hr.mono (by omega)) rfl T.m_law_made T.F_law_made.kp T.b_law_made .nil pass0 (pa_cons (pv 3) pa_nil)))) pa_nil))))))), ?_⟩
    cases r with
    | base n =>
      have hn1 : n ∈ ns := by cases d <;> exact hg
      refine ⟨_, rfl, a, _, rfl, SqT.of hT, rfl, _, _, rfl, _, _, rfl, rfl, ?_⟩
      refine ⟨_, rfl, rfl, _, rfl, ?_⟩
      refine iteT ?_
      exact ⟨_, rfl, n, rfl, hn n hn1, kk⟩
    | op wd ps =>
      cases d with
      | zero => exact hg.elim
      | succ d =>
      have hsp := hp d rfl
      subst hsp
      obtain ⟨hf, h3, hgs⟩ := hg
      obtain ⟨t, ls, h1, h2, hTs⟩ := hT
      have wle : wtT d ≤ 10000 := by
        have : wtT (d + 1) = 20 + 3 * (wtT d + 2) := rfl
        omega
      refine ⟨_, rfl, a, _, rfl, SqT.of h1, rfl, _, _, rfl, _, _, rfl, rfl, ?_⟩
      refine ⟨_, rfl, rfl, _, rfl, ?_⟩
      rw [decide_eq_false fun z => fitsW_ne hf (V.str.inj z)]
      refine iteF ?_
      refine ⟨_, rfl, _, rfl, t, rfl, ⟨_, SqT.of h2⟩, fun D hD => ?_⟩
      refine lc_it (walk_tup (K := K) (a := t) (xs := ls.map V.ref)) (fun i H2 => ∃ xs : List Addr, H2 D = some (.lst (xs.map V.ref)) ∧ RulesAt T.C_Rule H2 (ps.take i) xs ∧ Same H H2)
        ⟨[], upd_same, rfl, Same.mk1 hD⟩ (fun i H2 _ ⟨_, _, _, s2⟩ => SqT.of (s2 _ _ h2)) ?_ ?_
      · rintro i x H2 H3 hi ⟨xs, hD2, hR2, s2⟩ ⟨rfl, hx⟩
        obtain ⟨b, hb, rfl⟩ := getElem?_map' hx
        obtain ⟨r0, hr0, hT0⟩ := hTs.get hb
        have hmem : r0 ∈ ps := List.mem_of_getElem? hr0
        have hin := (List.getElem?_eq_some_iff.mp hr0).1
        have lenx := hR2.len
        rw [List.length_take] at lenx
        refine ⟨rfl, ?_⟩
        refine ⟨_, rfl, ns, b, r0, rfl, TreeAt.keep (fun c o h _ => s2 _ _ h) r0 b hT0, hgs r0 hmem, hn, h5, wle, fun x H5 nx s5 hA => ?_⟩
        have hD5 := s5 _ _ hD2
        have keep : ∀ b o, H5 b = some o → (∀ xs, o ≠ .lst xs) → (upd H5 D (.lst (xs.map V.ref ++ [.ref x]))) b = some o := fun c o h n => by
          rw [upd_ne fun z => by rw [z, hD5] at h; exact n _ (Option.some.inj h).symm]
          exact h
        refine ⟨xs.map V.ref, hD5, (by rw [List.length_map, sizeLine_eq]; omega), xs ++ [x], (by rw [upd_same, List.map_append]; rfl), ?_, Same.put (s2.trans s5) hD⟩
        rw [take_next hr0]
        exact (RulesAt.keep keep _ _ (RulesAt.same s5 _ _ hR2)).append (.one (RuleAt.keep keep _ _ hA))
      · rintro H2 ⟨xs, hD2, hR2, s2⟩
        rw [List.length_map, hTs.len, List.take_length] at hR2
        have ball : ∀ x ∈ basesL ps, x ∈ ns := fun x hx => by
          obtain ⟨p, hp, hb⟩ := basesL_mem.mp hx
          exact good_bases (hgs p hp) x hb
        have wb := wts_bound ps fun p hp => good_wt hn (hgs p hp)
        have z : ps.length * (wtT d + 2) ≤ 3 * (wtT d + 2) := Nat.mul_le_mul_right _ h3
        exact ⟨wd, D, xs, ps, rfl, hf, hD2, hR2, h3, (by omega), (fun l nd sub => Nat.le_trans (nodup_le nd fun x hx => ball x (sub x hx)) h5), fun x H' nx s' hA => kk x H' (s2.free nx) (s2.trans s') hA⟩
theorem never_made (T : Txt K mg) : FnOk P w K mg base CX0 9 T.f_law_made T.d_law_made ["_law_tree_here"] (fun _ _ _ _ => False) :=
  T.F_law_made.ok sc_law_made (fun _ _ _ _ h => h.elim) (fun _ _ _ _ _ _ _ _ _ h => h.elim)
theorem ok_law_made (T : Txt K mg) : FnOk P w K mg base CX0 13 T.f_law_made T.d_law_made ["_law_tree_here"] (sp_law_made T.C_Rule 3) :=
  made_at T 12 (by decide) 3 _ (made_at T 11 (by decide) 2 _ (made_at T 10 (by decide) 1 _ (made_at T 9 (by decide) 0 _ (never_made T) (fun e h => by cases h)) (fun e h => by cases h; rfl)) (fun e h => by cases h; rfl)) (fun e h => by cases h; rfl)

def sp_law_number : Sp := fun vs H Q _ => ∃ (p : Addr) (b : Nat), vs = [.ref p] ∧ Bag H p b ∧ b ≤ 999999990 ∧
  ∀ (r : Int) (H' : Hp), Num r → Gr p H H' → Bag H' p (b + 2) → Q (.int r) H'
theorem ok_law_number (T : Txt K mg) : FnOk P w K mg base CX0 2 T.f_law_number T.d_law_number ["_law_bag_here"] sp_law_number := by
  refine T.F_law_number.ok sc_law_number (fun vs H Q E h => ?_) (fun cdv A outer s H vs Q E hr h => ?_)
  · obtain ⟨p, b, rfl, _⟩ := h
    rfl
  · obtain ⟨p, b, rfl, B, hb, kk⟩ := h
    refine ⟨_, (pss_cons (ps_set (i := 1) sc_law_number.nd rfl (.inl rfl) (pe_call (ok_law_take T) (hr.mono (by decide)) rfl T.m_law_take T.F_law_take.kp T.b_law_take .nil pass0 (pa_cons (pv 0) (pa_cons pe_int pa_nil))))
        (pss_cons (ps_if (pt_cmpR op_lt (pv 1) pe_int (nomark _))
          (pss_one (ps_ret (pe_op op_sub (pe_call (ok_law_take T) (hr.mono (by decide)) rfl T.m_law_take T.F_law_take.kp T.b_law_take .nil pass0 (pa_cons (pv 0) (pa_cons pe_int pa_nil))) pe_int)))
          pss_nil)
        (pss_cons (ps_set (i := 2) sc_law_number.nd rfl (.inl rfl) (pe_ix (ix_list : IxR _ (rIxL K)) (pe_lst (pa_cons (pe_op op_pow pe_int pe_int) (pa_cons (pe_op op_add (pe_op op_pow pe_int pe_int) pe_int) (pa_cons (pe_op op_mul pe_int (pe_op op_pow pe_int pe_int)) pa_nil)))) (pe_call (ok_law_take T) (hr.mono (by decide)) rfl T.m_law_take T.F_law_take.kp T.b_law_take .nil pass0 (pa_cons (pv 0) (pa_cons pe_int pa_nil))) (fun _ _ => rfl)))
        (pss_one (ps_ret (pe_cut (pe_ifExp (pt_cmpR op_eq (pv 1) pe_int (nomark _)) (pv 2) (pe_op op_sub pe_int (pv 2))))))))), ?_⟩
    refine ⟨_, rfl, p, 9, b, rfl, by decide, by decide, B, by omega, fun r H1 r0 r1 B1 g1 => ?_⟩
    refine ⟨_, rfl, _, _, rfl, rfl, _, rfl, ite2 (fun hc => ?_) (fun hc => ?_)⟩
    · refine ⟨_, rfl, p, 8, b + 1, rfl, by decide, by decide, B1, by omega, fun r2 H2 s0 s1 B2 g2 => ?_⟩
      exact ⟨_, _, rfl, rfl, kk _ _ ⟨by omega, by omega⟩ (g1.trans g2) B2⟩
    · refine ⟨_, _, rfl, rfl, ⟨by decide, by decide, by decide⟩, _, _, rfl, rfl, ⟨by decide, by decide, by decide⟩, _, _, rfl, rfl, _, _, rfl, rfl, ⟨by decide, by decide, by decide⟩, _, _, rfl, rfl, .inl ⟨by decide, by decide⟩, by show 3 ≤ sizeLine; decide, fun q nq => ?_⟩
      refine ⟨_, rfl, p, 3, b + 1, rfl, by decide, by decide, B1.grow (Same.mk1 nq), by omega, fun r2 H2 s0 s1 B2 g2 => ?_⟩
      have hqp : q ≠ p := B1.ne nq
      have hq := g2 q _ hqp upd_same
      have pick : ∃ z : Int, atI ([.int (10 ^ (29 : Int).toNat), .int (10 ^ (29 : Int).toNat + 7), .int (3 * 10 ^ (29 : Int).toNat)] : List V) r2 = some (.int z) ∧ 0 ≤ z ∧ z < 10 ^ 30 := by
        rcases (by omega : r2 = 0 ∨ r2 = 1 ∨ r2 = 2) with rfl | rfl | rfl
        · exact ⟨_, rfl, by decide, by decide⟩
        · exact ⟨_, rfl, by decide, by decide⟩
        · exact ⟨_, rfl, by decide, by decide⟩
      obtain ⟨z, ha, z0, z1⟩ := pick
      refine ⟨q, _, r2, .int z, rfl, rfl, SqL.of hq, ha, ?_⟩
      have gr := g1.trans ((Gr.same (Same.mk1 nq)).trans g2)
      refine ⟨fun v H' => (∃ z : Int, v = .int z ∧ Num z) ∧ H' = H2, ⟨_, rfl, rfl, _, rfl, ite2 (fun _ => ⟨_, rfl, ⟨z, rfl, by unfold Num; omega⟩, rfl⟩) (fun _ => ⟨_, rfl, _, _, rfl, rfl, ⟨_, rfl, by unfold Num; omega⟩, rfl⟩)⟩, ?_⟩
      rintro v H' ⟨⟨z, rfl, hz⟩, rfl⟩
      exact kk _ _ hz gr B2

theorem num_showable {r : Int} (h : Num r) : r.natAbs.log2 < 1920 := by
  have h2 : r.natAbs < 2 ^ 100 := by
    have := h.1
    have := h.2
    omega
  have := PySem.Flt.log2_lt_of (by decide) h2
  omega
def sp_law_table : Sp := fun vs H Q _ => ∃ (p : Addr) (m : Int) (b : Nat), vs = [.ref p, .int m] ∧ 0 ≤ m ∧ m ≤ 60 ∧ Bag H p b ∧ b ≤ 999990000 ∧
  ∀ (d : Addr) (l : Tab) (H' : Hp), H d = none → TabAt H' d l → TabOk l → (l.length : Int) ≤ m → Gr p H H' → Bag H' p (b + 300) → Q (.ref d) H'
theorem ok_law_table (T : Txt K mg) : FnOk P w K mg base CX0 3 T.f_law_table T.d_law_table ["_law_bag_here", "_law_most"] sp_law_table := by
  refine T.F_law_table.ok sc_law_table (fun vs H Q E h => ?_) (fun cdv A outer s H vs Q E hr h => ?_)
  · obtain ⟨p, m, b, rfl, _⟩ := h
    rfl
  · obtain ⟨p, m, b, rfl, m0, m1, B, hb, kk⟩ := h
    refine ⟨_, (pss_cons (ps_set (i := 2) sc_law_table.nd rfl (.inl rfl) pe_dnewK)
        (pss_cons (ps_for PassesOwn.never rfl (pi_range1 rfl T.z_range (pa_cons (pe_call (ok_law_take T) (hr.mono (by decide)) rfl T.m_law_take T.F_law_take.kp T.b_law_take .nil pass0 (pa_cons (pv 0) (pa_cons (pe_op op_add (pv 1) pe_int) pa_nil))) pa_nil)) (pg_name (i := 3) sc_law_table.nd rfl (.inl rfl))
          (pss_cons (ps_set (i := 4) sc_law_table.nd rfl (.inl rfl) (pe_call (ok_law_number T) (hr.mono (by decide)) rfl T.m_law_number T.F_law_number.kp T.b_law_number .nil pass0 (pa_cons (pv 0) pa_nil)))
          (pss_one (ps_dput (hu_of hr) (pv 2) (pv 4) (pe_call (ok_law_number T) (hr.mono (by decide)) rfl T.m_law_number T.F_law_number.kp T.b_law_number .nil pass0 (pa_cons (pv 0) pa_nil)) rfl))))
        (pss_one (ps_ret (pv 2))))), ?_⟩
    intro d hd
    have B0 := B.grow (Same.mk1 (o := .dK []) hd)
    have hdp := B.ne hd
    refine ⟨_, rfl, _, rfl, _, _, rfl, rfl, p, m + 1, b, rfl, by omega, by omega, B0, by omega, fun r H1 r0 r1 B1 g1 => ?_⟩
    refine ⟨r, rfl, by omega, by omega, ?_⟩
    refine for_range (lo := 0) (n := r.toNat) (fun i σ H2 => ∃ (l : Tab) (v3 v4 : Option V), σ = [some (.ref p), some (.int m), some (.ref d), v3, v4] ∧ TabAt H2 d l ∧ TabOk l ∧ l.length ≤ i ∧ Gr p H H2 ∧ Bag H2 p (b + 1 + 4 * i))
      ⟨[], none, none, rfl, g1 d _ hdp upd_same, TabOk.nil, Nat.le_refl _, (Gr.same (Same.mk1 hd)).trans g1, B1⟩ ?_ ?_
    · rintro i σ H2 hi ⟨l, v3, v4, rfl, hl, ok, hn, g2, B2⟩
      refine ⟨_, rfl, p, b + 1 + 4 * i, rfl, B2, by omega, fun k H3 hk g3 B3 => ?_⟩
      refine ⟨_, rfl, p, b + 1 + 4 * i + 2, rfl, B3, by omega, fun v H4 hv g4 B4 => ?_⟩
      have hl4 : H4 d = some (.dK (tab l)) := g4 d _ hdp (g3 d _ hdp hl)
      refine ⟨_, rfl, _, rfl, d, _, rfl, DPut.k (k := Sum.inl k) hl4 (by rw [tab_len]; exact small1000 (by omega)), ?_⟩
      rw [putK_tab]
      refine ⟨putL l k v, _, _, rfl, upd_same, ok.put hk hv, by have := putL_length l k v; omega, (g2.trans (g3.trans g4)).put hd, ?_⟩
      obtain ⟨g', m', n', h', r'⟩ := B4.ex
      exact Bag.mono (b := b + 1 + 4 * i + 2 + 2) ⟨g', m', n', by rw [upd_ne hdp.symm]; exact h', r'⟩ (by omega)
    · rintro σ H2 ⟨l, v3, v4, rfl, hl, ok, hn, g2, B2⟩
      exact ⟨_, rfl, kk d l H2 hd hl ok (by omega) g2 (B2.mono (by omega))⟩

def sp_law_tables (K : PySem.W.Frag) : Sp := fun vs H Q _ => ∃ (p q : Addr) (ns : List Str) (m : Int) (b : Nat), vs = [.ref p, .ref q, .int m] ∧ SqL K H q (ns.map V.str) ∧ q ≠ p ∧ ns.Nodup ∧ ns.length ≤ 8 ∧ 0 ≤ m ∧ m ≤ 60 ∧ Bag H p b ∧ b ≤ 999980000 ∧
  ∀ (d : Addr) (sh : Sheets) (H' : Hp), H d = none → SheetsAt H' d sh → sh.map (·.1) = ns → (∀ s ∈ sh, H s.2.1 = none ∧ TabOk s.2.2 ∧ (s.2.2.length : Int) ≤ m) → Gr p H H' → Bag H' p (b + 2400) → Q (.ref d) H'
theorem ok_law_tables (T : Txt K mg) : FnOk P w K mg base CX0 4 T.f_law_tables T.d_law_tables ["_law_bag_here", "_law_names_here", "_law_most"] (sp_law_tables K) := by
  refine T.F_law_tables.ok sc_law_tables (fun vs H Q E h => ?_) (fun cdv A outer s H vs Q E hr h => ?_)
  · obtain ⟨p, q, ns, m, b, rfl, _⟩ := h
    rfl
  · obtain ⟨p, q, ns, m, b, rfl, hS, hqp, nd, hl, m0, m1, B, hb, kk⟩ := h
    refine ⟨_, (pss_one (ps_ret (pe_callTy (call_dictP rfl) (by rfl) T.z_dict (by decide +kernel) (pa_cons (pe_lc (own := [("_law_name", 3)]) (g := (gName 3)) (tt := tYes) rfl sc_law_tables.nd (pi_list (pv 1)) (blkOk_by (own := [("_law_name", 3)]) (N := N_law_tables) (sc := defScope s_law_tables) (by decide +kernel)) (fun _ _ _ _ _ => (pg_name (i := 3) sc_law_tables.nd rfl (.inl rfl))) (fun _ _ _ _ _ => pts_nil) (fun _ _ _ _ _ => (pe_tup (pa_cons (pv 3) (pa_cons (pe_call (ok_law_table T) (hr.mono (by decide)) rfl T.m_law_table T.F_law_table.kp T.b_law_table .nil pass0 (pa_cons (pv 0) (pa_cons (pv 2) pa_nil))) pa_nil))))) pa_nil)))), ?_⟩
    refine ⟨_, rfl, q, rfl, ⟨_, hS⟩, fun D hD => ?_⟩
    have hDp := B.ne hD
    refine lc_list (K := K) (a := q) (xs := ns.map V.str) (fun i H2 => ∃ es : List (Addr × Str × Addr × Tab), H2 D = some (.lst (es.map fun e => V.ref e.1)) ∧ es.map (·.2.1) = ns.take i ∧
        (∀ e ∈ es, H2 e.1 = some (.tup [.str e.2.1, .ref e.2.2.1]) ∧ e.1 ≠ D ∧ TabAt H2 e.2.2.1 e.2.2.2 ∧ TabOk e.2.2.2 ∧ (e.2.2.2.length : Int) ≤ m ∧ H e.2.2.1 = none) ∧ Gr p H H2 ∧ Bag H2 p (b + 300 * i))
      ⟨[], upd_same, rfl, (fun _ h => nomatch h), Gr.same (Same.mk1 hD), B.grow (Same.mk1 hD)⟩ (fun i H2 _ ⟨_, _, _, _, g, _⟩ => g.seq hqp hS) ?_ ?_
    · rintro i x H2 hi ⟨es, hD2, hn, hall, g2, B2⟩
      obtain ⟨x, hx, rfl⟩ := getElem?_map' hi
      have hin : i < ns.length := (List.getElem?_eq_some_iff.mp hx).1
      refine ⟨rfl, ?_⟩
      refine ⟨_, rfl, _, rfl, _, rfl, p, m, b + 300 * i, rfl, m0, m1, B2, by omega, fun d l H3 nd3 hT ok hlen g3 B3 => ?_⟩
      refine ⟨by show 2 ≤ sizeLine; decide, fun t nt => ?_⟩
      have hD3 : H3 D = some (.lst (es.map fun e => V.ref e.1)) := g3 _ _ hDp hD2
      have s4 := Same.mk1 (o := .tup [.str x, .ref d]) nt
      have gr := g2.trans (g3.trans (Gr.same s4))
      have tD : t ≠ D := fun z => by rw [z, hD3] at nt; cases nt
      have hlen2 : es.length = i := by
        have := congrArg List.length hn
        rw [List.length_map, List.length_take] at this
        omega
      refine ⟨es.map fun e => V.ref e.1, s4 _ _ hD3, by rw [List.length_map]; exact small1000 (by omega), es ++ [(t, x, d, l)], ?_, ?_, ?_, gr.put hD, ?_⟩
      · rw [List.map_append]
        exact upd_same
      · rw [List.map_append, hn, take_next hx]
        rfl
      · intro e he
        rcases List.mem_append.mp he with he | he
        · obtain ⟨a1, a2, a3, a4, a5, a6⟩ := hall e he
          have ne1 : e.1 ≠ p := fun z => by
            obtain ⟨g', m', n', h', _⟩ := B2.ex
            rw [z, h'] at a1
            cases a1
          have ne2 : e.2.2.1 ≠ p := B.ne a6
          have ne3 : e.2.2.1 ≠ D := fun z => by
            have q : H2 e.2.2.1 = some (.dK (tab e.2.2.2)) := a3
            rw [z, hD2] at q
            cases q
          refine ⟨?_, a2, ?_, a4, a5, a6⟩
          · rw [upd_ne a2]
            exact s4 _ _ (g3 _ _ ne1 a1)
          · show upd (upd H3 t _) D _ e.2.2.1 = _
            rw [upd_ne ne3]
            exact s4 _ _ (g3 _ _ ne2 a3)
        · cases List.mem_singleton.mp he
          have ne3 : d ≠ D := fun z => by
            have q : H3 d = some (.dK (tab l)) := hT
            rw [z, hD3] at q
            cases q
          refine ⟨?_, tD, ?_, ok, hlen, Gr.back g2 B2.some nd3⟩
          · rw [upd_ne tD]
            exact upd_same
          · show upd (upd H3 t _) D _ d = _
            rw [upd_ne ne3]
            exact s4 _ _ hT
      · obtain ⟨g', m', n', h', r'⟩ := B3.ex
        exact Bag.mono (b := b + 300 * i + 300) ⟨g', m', n', by rw [upd_ne hDp.symm]; exact s4 _ _ h', r'⟩ (by omega)
    · rintro H2 ⟨es, hD2, hn, hall, g2, B2⟩
      rw [List.length_map, List.take_length] at hn
      rw [List.length_map] at B2
      have ek : (es.map fun e => kS e.2).map (·.1) = ns.map (Sum.inr : Str → Key) := by
        rw [← hn, List.map_map, List.map_map]
        rfl
      refine ⟨D, es.map (·.1), es.map fun e => kS e.2, rfl, SqL.of (by rw [List.map_map]; exact hD2), paired_map _ _ _ fun e he => SqT.of (hall e he).1, fun d nd4 => ?_⟩
      have s5 := Same.mk1 (o := .dK (mergeK [] (es.map fun e => kS e.2))) nd4
      refine kk d (es.map (·.2)) _ (Gr.back g2 B2.some nd4) ⟨?_, ?_, ?_⟩ ?_ ?_ (g2.trans (Gr.same s5)) ((B2.grow s5).mono (by omega))
      · rw [upd_same, mergeK_id (by rw [ek]; exact inr_nodup nd), List.map_map]
        rfl
      · rw [List.map_map]
        rw [show (es.map ((·.1) ∘ (·.2))) = es.map (·.2.1) from rfl, hn]
        exact nd
      · intro s hs
        obtain ⟨e, he, rfl⟩ := List.mem_map.mp hs
        exact s5 _ _ (hall e he).2.2.1
      · rw [List.map_map]
        exact hn
      · intro s hs
        obtain ⟨e, he, rfl⟩ := List.mem_map.mp hs
        obtain ⟨a1, a2, a3, a4, a5, a6⟩ := hall e he
        exact ⟨a6, a4, a5⟩

theorem pairsD_facts {l : Tab} (h : TabOk l) (hl : l.length ≤ 1000) : (pairsD l).showable = true ∧ (pairsD l).hasDict = false ∧ (pairsD l).depth ≤ 60 ∧ signsD (pairsD l) = true ∧ costD (pairsD l) ≤ 16000000 := by
  have c := cost_map pairD 4007 l (fun p _ => Nat.le_refl _)
  refine ⟨?_, ?_, ?_, ?_, ?_⟩
  · show PyData.showableAll _ = true
    refine showable_map _ l fun p hp => ?_
    simp [pairD, PyData.showable, PyData.showableAll, num_showable (h.sm p hp).1, num_showable (h.sm p hp).2]
  · show PyData.hasDictAll _ = false
    exact nodict_map _ l fun p _ => rfl
  · have := depth_map pairD 1 l fun p _ => Nat.le_refl _
    show PyData.depthAll _ + 1 ≤ 60
    omega
  · show signsL _ = true
    exact signs_map _ l fun p _ => rfl
  · show costL _ + 2 ≤ 16000000
    have h2 : l.length * (4007 + 2) ≤ 1000 * (4007 + 2) := Nat.mul_le_mul_right _ hl
    omega
/-- two tables that are equal, item by item -/
def sp_law_same : Sp := fun vs H Q _ => ∃ (a b : Addr) (l : Tab), vs = [.ref a, .ref b] ∧ H a = some (.dK (tab l)) ∧ H b = some (.dK (tab l)) ∧ TabOk l ∧ l.length ≤ 1000 ∧ ∀ H', Same H H' → Q (.bl true) H'
theorem ok_law_same (T : Txt K mg) : FnG P w K mg base CX0 1 T.f_law_same T.d_law_same ["_law_found", "_law_due"] sp_law_same := by
  refine okG T.F_law_same sc_law_same (fun vs H Q E h => ?_) (fun cdv A outer s H vs Q E hr hg h => ?_)
  · obtain ⟨a, b, l, rfl, _⟩ := h
    rfl
  · obtain ⟨a, b, l, rfl, ha, hb, ok, few, kk⟩ := h
    refine ⟨_, (pss_one (ps_ret (pe_cut (pe_and (pe_callB call_isi (by rfl) T.z_isinstance (by decide +kernel) (pa_cons (pv 0) (pa_cons (pe_bltn (v := .ty "dict") (by rfl) T.z_dict (by decide +kernel) rfl) pa_nil))) (pe_one (pe_cmpR op_eq (pe_callB (call_repr hr hg) (by rfl) T.z_repr (by decide +kernel) (pa_cons (LiI.pe_listItems rfl (pv 0) (by rfl) T.z_list (by decide +kernel)) pa_nil)) (pe_callB (call_repr hr hg) (by rfl) T.z_repr (by decide +kernel) (pa_cons (LiI.pe_listItems rfl (pv 1) (by rfl) T.z_list (by decide +kernel)) pa_nil)) (nomark _))))))), ?_⟩
    have yes : ∀ {c : Bool} {a b : Prop}, c = true → a → if c = true then a else b := fun h q => by rw [if_pos h]; exact q
    obtain ⟨f1, f2, f3, f4, f5⟩ := pairsD_facts ok few
    refine ⟨Q, ?_, fun _ _ h => h⟩
    refine ⟨_, rfl, .ref a, .ty "dict", .type "dict", .type "dict", true, rfl, .ty _, .base (.dK ha), rfl, true, rfl, ?_⟩
    refine yes rfl ?_
    refine ⟨_, rfl, a, tab l, rfl, ha, fun H2 p ts s2 _ _ _ hp hpr => ?_⟩
    refine ⟨p, pairsD l, rfl, pairs_dp hp (PairsAt.of hpr), f1, f2, f3, repr_z f1 f4 f5, ?_⟩
    have hb2 := (show Same H H2 from s2) _ _ hb
    refine ⟨_, rfl, b, tab l, rfl, hb2, fun H3 p3 ts3 s3 _ _ _ hp3 hpr3 => ?_⟩
    refine ⟨p3, pairsD l, rfl, pairs_dp hp3 (PairsAt.of hpr3), f1, f2, f3, repr_z f1 f4 f5, ?_⟩
    refine ⟨rfl, ?_⟩
    rw [decide_eq_true rfl]
    exact kk _ (Same.trans s2 s3)

theorem Gr.fresh {p q : Addr} {H H' : Hp} {b : Nat} (g : Gr p H H') (B : Bag H' p b) (h : H' q = none) : H q = none := Gr.back g B.some h
theorem Bag.put {H : Hp} {p q : Addr} {b : Nat} {o : HO} (B : Bag H p b) (n : p ≠ q) : Bag (upd H q o) p b := by
  obtain ⟨g, m, k, h, r⟩ := B.ex
  exact ⟨g, m, k, by rw [upd_ne n]; exact h, r⟩
theorem Bag.gr {H H' : Hp} {p q : Addr} {b : Nat} (B : Bag H p b) (g : Gr q H H') (n : p ≠ q) : Bag H' p b := by
  obtain ⟨g0, m, k, h, r⟩ := B.ex
  exact ⟨g0, m, k, g _ _ n h, r⟩
/-- what is no list stays, where the heap grows but for the bag -/
theorem bag_keep {H H' : Hp} {p : Addr} {b : Nat} (B : Bag H p b) (g : Gr p H H') : ∀ c o, H c = some o → (∀ xs, o ≠ .lst xs) → H' c = some o := fun c o e n => by
  obtain ⟨g0, m, k, h, r⟩ := B.ex
  refine g _ _ (fun z => ?_) e
  rw [z, h] at e
  exact n _ (Option.some.inj e).symm
theorem sheets_gr {H H' : Hp} {d p : Addr} {sh : Sheets} {b : Nat} (S : SheetsAt H d sh) (B : Bag H p b) (g : Gr p H H') : SheetsAt H' d sh := by
  have k := bag_keep B g
  exact ⟨k _ _ S.top (fun _ z => nomatch z), S.nd, fun x hx => k _ _ (S.all x hx) (fun _ z => nomatch z)⟩
/-- what evaluate asks, of a rule that the law has drawn and tables of at most thirty items -/
theorem eval_facts {r : RT} {sh : Sheets} {ns : List Str} (g : RT.good ns 3 r) (hin : ∀ n ∈ ns, n ∈ sh.map (·.1)) (hok : ∀ s ∈ sh, TabOk s.2.2) (hlen : ∀ s ∈ sh, s.2.2.length ≤ 30) :
    r.subs.length ≤ 1000 ∧ (∀ n, RT.base n ∈ r.subs → n ∈ sh.map (·.1)) ∧ (∀ n ∈ r.bases, n ∈ sh.map (·.1)) ∧ (∀ w ps, RT.op w ps ∈ r.subs → fitsW w ps.length) ∧ leafs (tabOf sh) r.subs ≤ 1000 ∧
      (evalT (tabOf sh) r).length ≤ 810 ∧ TabOk (evalT (tabOf sh) r) := by
  have F := g.fine
  have ok : ∀ n, TabOk (tabOf sh n) := fun n => tabOf_of (P := TabOk) hok TabOk.nil n
  have few : ∀ n, (tabOf sh n).length ≤ 30 := fun n => tabOf_of (P := fun l => l.length ≤ 30) hlen (Nat.zero_le _) n
  have lf : leafs (tabOf sh) r.subs ≤ 27 * 30 := F.leaf _ _ few
  exact ⟨Nat.le_trans F.cnt (by decide), fun n hn => hin n (F.base n hn), fun n hn => hin n (good_bases g n hn), F.fits, Nat.le_trans lf (by decide), Nat.le_trans (evalT_len ok r) lf, evalT_ok ok r⟩

theorem Fit.of_good {ns : List Str} (hn : ∀ n ∈ ns, nmB n = true) {d : Nat} {r : RT} (g : RT.good ns d r) : Fit ns (nodesT d) (leafsT d) (wtT d) r := ⟨g.fine, good_wt hn g, good_bases g⟩
theorem rules2 {C : Addr} {H : Hp} {a b : Addr} {r1 r2 : RT} (h1 : RuleAt C H r1 a) (h2 : RuleAt C H r2 b) : RulesAt C H [r1, r2] [a, b] := ⟨a, [b], rfl, h1, b, [], rfl, h2, rfl⟩
theorem rules3 {C : Addr} {H : Hp} {a b c : Addr} {r1 r2 r3 : RT} (h1 : RuleAt C H r1 a) (h2 : RuleAt C H r2 b) (h3 : RuleAt C H r3 c) : RulesAt C H [r1, r2, r3] [a, b, c] := ⟨a, [b, c], rfl, h1, b, [c], rfl, h2, c, [], rfl, h3, rfl⟩
theorem rules1 {C : Addr} {H : Hp} {a : Addr} {r1 : RT} (h1 : RuleAt C H r1 a) : RulesAt C H [r1] [a] := ⟨a, [], rfl, h1, rfl⟩
/-- what a word asks of its parts -/
theorem Fit.word {wd : Str} {ps : List RT} {ns : List Str} {k l z : Nat} (f : Fit ns k l z (.op wd ps)) (hz : z ≤ 100000) (h5 : ns.length ≤ 5) : wts ps ≤ 100000 ∧ ∀ l : List Str, l.Nodup → (∀ x ∈ l, x ∈ basesL ps) → l.length ≤ 5 :=
  ⟨by
    have := f.wt
    have e : (RT.op wd ps).wt = wd.length + 3 + wts ps := rfl
    omega, fun l nd sub => Nat.le_trans (nodup_le nd fun x hx => f.bs x (sub x hx)) h5⟩
/-- what evaluate asks -/
theorem Fit.eval {r : RT} {sh : Sheets} {ns : List Str} {k l z : Nat} (m : Nat) (f : Fit ns k l z r) (hk : k ≤ 1000) (hlm : l * m ≤ 1000) (hin : ∀ n ∈ ns, n ∈ sh.map (·.1)) (hlen : ∀ s ∈ sh, s.2.2.length ≤ m) :
    r.subs.length ≤ 1000 ∧ (∀ n, RT.base n ∈ r.subs → n ∈ sh.map (·.1)) ∧ (∀ n ∈ r.bases, n ∈ sh.map (·.1)) ∧ (∀ w ps, RT.op w ps ∈ r.subs → fitsW w ps.length) ∧ leafs (tabOf sh) r.subs ≤ 1000 :=
  ⟨Nat.le_trans f.fine.cnt hk, fun n hn => hin n (f.fine.base n hn), fun n hn => hin n (f.bs n hn), f.fine.fits,
    Nat.le_trans (f.fine.leaf _ m fun n => tabOf_of (P := fun l => l.length ≤ m) hlen (Nat.zero_le _) n) hlm⟩
theorem TreeAt.same {H H' : Hp} (s : Same H H') (r : RT) (a : Addr) (h : TreeAt H r a) : TreeAt H' r a := TreeAt.keep (fun b o e _ => s b o e) r a h
/-- what evaluate asks of a rule and tables -/
structure EvOk (r : RT) (sh : Sheets) : Prop where
  e1 : r.subs.length ≤ 1000
  e2 : ∀ n, RT.base n ∈ r.subs → n ∈ sh.map (·.1)
  e3 : ∀ n ∈ r.bases, n ∈ sh.map (·.1)
  e4 : ∀ w ps, RT.op w ps ∈ r.subs → fitsW w ps.length
  e5 : leafs (tabOf sh) r.subs ≤ 1000
  e6 : ∀ s ∈ sh, TabOk s.2.2
theorem Fit.evOk {r : RT} {sh : Sheets} {ns : List Str} {k l z : Nat} (m : Nat) (f : Fit ns k l z r) (hk : k ≤ 1000) (hlm : l * m ≤ 1000) (hin : ∀ n ∈ ns, n ∈ sh.map (·.1)) (hlen : ∀ s ∈ sh, s.2.2.length ≤ m) (hok : ∀ s ∈ sh, TabOk s.2.2) : EvOk r sh := by
  obtain ⟨e1, e2, e3, e4, e5⟩ := f.eval m hk hlm hin hlen
  exact ⟨e1, e2, e3, e4, e5, hok⟩

def sp_words0 (C : Addr) (wd : Str) : Sp := fun vs H Q _ => ∃ (ls : List Addr) (ps : List RT), vs = ls.map V.ref ∧ RulesAt C H ps ls ∧ wts ps ≤ 100000 ∧ (∀ l : List Str, l.Nodup → (∀ x ∈ l, x ∈ basesL ps) → l.length ≤ 5) ∧
  ∀ (a : Addr) (H' : Hp), H a = none → Same H H' → RuleAt C H' (.op wd ps) a → Q (.ref a) H'
theorem FnR.calm {k : Nat} {f : Addr} {sp : Sp} (F : FnR P w K mg base (L2.CX P w) k f sp) : FnR P w K mg base CX0 k f (fun vs H Q _ => sp vs H Q fun _ _ _ => False) := fun A outer s H us vs Q E hr e0 r h => by
  refine codeAny_mono (F A outer s H us vs Q (fun _ _ _ => False) hr e0 r h) fun r s' z => ?_
  match r, z with
  | .error e, z => obtain ⟨_, _, _, _, _, _, _, _, _, _, _, _, _, _, _, z⟩ := z
  | .ok .next, z => exact z
  | .ok .brk, z => exact z
  | .ok .cont, z => exact z
  | .ok (.ret u), z => exact z
theorem ok_merged0 (T : Txt K mg) : FnR P w K mg base CX0 7 T.f_merged (sp_words0 T.C_Rule "merged") :=
  (FnR.calm (ok_merged T)).imp fun vs H Q E ⟨ls, ps, e, hR, hw, few, kk⟩ => ⟨ls, ps, e, hR, hw, fun l nd s => Nat.le_trans (few l nd s) (by decide), endR_few few kk⟩
theorem ok_without0 (T : Txt K mg) : FnOk P w K mg base CX0 7 T.f_without T.d_without ["rule", "other"] (fun vs H Q E => vs.length = 2 ∧ sp_words0 T.C_Rule "without" vs H Q E) :=
  FnOk.weaken (FnOk.calm (ok_without T)) fun vs H Q E ⟨h2, ls, ps, e, hR, hw, few, kk⟩ => ⟨h2, ls, ps, e, hR, hw, fun l nd s => Nat.le_trans (few l nd s) (by decide), endR_few few kk⟩
theorem ok_kept0 (T : Txt K mg) : FnOk P w K mg base CX0 7 T.f_kept T.d_kept ["rule", "other"] (fun vs H Q E => vs.length = 2 ∧ sp_words0 T.C_Rule "kept" vs H Q E) :=
  FnOk.weaken (FnOk.calm (ok_kept T)) fun vs H Q E ⟨h2, ls, ps, e, hR, hw, few, kk⟩ => ⟨h2, ls, ps, e, hR, hw, fun l nd s => Nat.le_trans (few l nd s) (by decide), endR_few few kk⟩
theorem ok_turned0 (T : Txt K mg) : FnOk P w K mg base CX0 7 T.f_turned T.d_turned ["rule"] (fun vs H Q E => vs.length = 1 ∧ sp_words0 T.C_Rule "turned" vs H Q E) :=
  FnOk.weaken (FnOk.calm (ok_turned T)) fun vs H Q E ⟨h2, ls, ps, e, hR, hw, few, kk⟩ => ⟨h2, ls, ps, e, hR, hw, fun l nd s => Nat.le_trans (few l nd s) (by decide), endR_few few kk⟩
theorem ok_Rule_or0 (T : Txt K mg) : FnOk P w K mg base CX0 8 T.f_Rule_or T.d_Rule_or ["self", "other"] (fun vs H Q E => vs.length = 2 ∧ sp_words0 T.C_Rule "merged" vs H Q E) :=
  FnOk.weaken (FnOk.calm (ok_Rule_or T)) fun vs H Q E ⟨h2, ls, ps, e, hR, hw, few, kk⟩ => ⟨h2, ls, ps, e, hR, hw, fun l nd s => Nat.le_trans (few l nd s) (by decide), endR_few few kk⟩
theorem ok_Rule_sub0 (T : Txt K mg) : FnOk P w K mg base CX0 8 T.f_Rule_sub T.d_Rule_sub ["self", "other"] (fun vs H Q E => vs.length = 2 ∧ sp_words0 T.C_Rule "without" vs H Q E) :=
  FnOk.weaken (FnOk.calm (ok_Rule_sub T)) fun vs H Q E ⟨h2, ls, ps, e, hR, hw, few, kk⟩ => ⟨h2, ls, ps, e, hR, hw, fun l nd s => Nat.le_trans (few l nd s) (by decide), endR_few few kk⟩
theorem ok_Rule_and0 (T : Txt K mg) : FnOk P w K mg base CX0 8 T.f_Rule_and T.d_Rule_and ["self", "other"] (fun vs H Q E => vs.length = 2 ∧ sp_words0 T.C_Rule "kept" vs H Q E) :=
  FnOk.weaken (FnOk.calm (ok_Rule_and T)) fun vs H Q E ⟨h2, ls, ps, e, hR, hw, few, kk⟩ => ⟨h2, ls, ps, e, hR, hw, fun l nd s => Nat.le_trans (few l nd s) (by decide), endR_few few kk⟩
theorem ok_Rule_invert0 (T : Txt K mg) : FnOk P w K mg base CX0 8 T.f_Rule_invert T.d_Rule_invert ["self"] (fun vs H Q E => vs.length = 1 ∧ sp_words0 T.C_Rule "turned" vs H Q E) :=
  FnOk.weaken (FnOk.calm (ok_Rule_invert T)) fun vs H Q E ⟨h2, ls, ps, e, hR, hw, few, kk⟩ => ⟨h2, ls, ps, e, hR, hw, fun l nd s => Nat.le_trans (few l nd s) (by decide), endR_few few kk⟩

theorem lst_keepR {H : Hp} {F : Addr} {us : List V} {o : HO} (hF : H F = some (.lst us)) : ∀ b u, H b = some u → (∀ xs, u ≠ .lst xs) → (upd H F o) b = some u := fun b u e n => by
  rw [upd_ne fun z => by rw [z, hF] at e; exact n _ (Option.some.inj e).symm]
  exact e
theorem few_two {ns : List Str} {r q : RT} (n5 : ns.length ≤ 5) (f1 : ∀ x ∈ r.bases, x ∈ ns) (f2 : ∀ x ∈ q.bases, x ∈ ns) : ∀ l : List Str, l.Nodup → (∀ x ∈ l, x ∈ basesL [r, q]) → l.length ≤ 5 := fun l nd s => Nat.le_trans (nodup_le nd fun x hx => by
  obtain ⟨p, hp, hb⟩ := basesL_mem.mp (s x hx)
  rcases List.mem_cons.mp hp with z | z
  · subst z
    exact f1 x hb
  · cases List.mem_singleton.mp z
    exact f2 x hb) n5
theorem few_one {ns : List Str} {r : RT} (n5 : ns.length ≤ 5) (f1 : ∀ x ∈ r.bases, x ∈ ns) : ∀ l : List Str, l.Nodup → (∀ x ∈ l, x ∈ basesL [r]) → l.length ≤ 5 := fun l nd s => Nat.le_trans (nodup_le nd fun x hx => by
  obtain ⟨p, hp, hb⟩ := basesL_mem.mp (s x hx)
  cases List.mem_singleton.mp hp
  exact f1 x hb) n5
theorem wt_two {ns : List Str} {r q : RT} {k1 l1 z1 k2 l2 z2 : Nat} (f1 : Fit ns k1 l1 z1 r) (f2 : Fit ns k2 l2 z2 q) (hz : z1 + z2 + 14 ≤ 100000) : wts [r, q] ≤ 100000 := by
  have x1 := f1.wt
  have x2 := f2.wt
  have e : wts [r, q] = (r.wt + 2) + ((q.wt + 2) + 0) := rfl
  omega
theorem wt_one {ns : List Str} {r : RT} {k1 l1 z1 : Nat} (f1 : Fit ns k1 l1 z1 r) (hz : z1 + 12 ≤ 100000) : wts [r] ≤ 100000 := by
  have x1 := f1.wt
  have e : wts [r] = (r.wt + 2) + 0 := rfl
  omega
theorem w2_at {C : Addr} {w : Str} (hw : fitsW w 2) (hl : w.length ≤ 7) {H : Hp} {a b : Addr} {r q : RT} {ns : List Str} {k1 l1 z1 k2 l2 z2 : Nat} (h1 : RuleAt C H r a) (h2 : RuleAt C H q b) (f1 : Fit ns k1 l1 z1 r) (f2 : Fit ns k2 l2 z2 q) (n5 : ns.length ≤ 5) (hz : z1 + z2 + 14 ≤ 100000) {Q : VK} {E : XK}
    (k : ∀ (c : Addr) (H' : Hp), Same H H' → RuleAt C H' (.op w [r, q]) c → Q (.ref c) H') : sp_words0 C w [.ref a, .ref b] H Q E :=
  ⟨[a, b], [r, q], rfl, rules2 h1 h2, by
    have x1 := f1.wt
    have x2 := f2.wt
    have e : wts [r, q] = (r.wt + 2) + ((q.wt + 2) + 0) := rfl
    omega, few_two n5 f1.bs f2.bs, fun c H' _ s hA => k c H' s hA⟩
theorem bin_at {C : Addr} {w : Str} (hw : fitsW w 2) (hl : w.length ≤ 7) {H : Hp} {a b : Addr} {r q : RT} {ns : List Str} {k1 l1 z1 k2 l2 z2 : Nat} (h1 : RuleAt C H r a) (h2 : RuleAt C H q b) (f1 : Fit ns k1 l1 z1 r) (f2 : Fit ns k2 l2 z2 q) (n5 : ns.length ≤ 5) (hz : z1 + z2 + 14 ≤ 100000) {Q : VK} {E : XK}
    (k : ∀ (c : Addr) (H' : Hp), Same H H' → RuleAt C H' (.op w [r, q]) c → Q (.ref c) H') : rBin C (fun vs H Q E => vs.length = 2 ∧ sp_words0 C w vs H Q E) E (.ref a) (.ref b) H Q := by
  obtain ⟨_, _, dx, _, _, _, _, e1, _⟩ := h1.fields
  obtain ⟨_, _, dy, _, _, _, _, e2, _⟩ := h2.fields
  exact ⟨a, b, dx, dy, _, _, rfl, rfl, e1, e2, rfl, w2_at hw hl h1 h2 f1 f2 n5 hz fun c H' s hA => ⟨c, rfl, k c H' s hA⟩⟩
theorem w1_at {C : Addr} {w : Str} {H : Hp} {a : Addr} {r : RT} {ns : List Str} {k1 l1 z1 : Nat} (h1 : RuleAt C H r a) (f1 : Fit ns k1 l1 z1 r) (n5 : ns.length ≤ 5) (hz : z1 + 12 ≤ 100000) {Q : VK} {E : XK}
    (k : ∀ (c : Addr) (H' : Hp), Same H H' → RuleAt C H' (.op w [r]) c → Q (.ref c) H') : sp_words0 C w [.ref a] H Q E :=
  ⟨[a], [r], rfl, rules1 h1, by
    have x1 := f1.wt
    have e : wts [r] = (r.wt + 2) + 0 := rfl
    omega, fun l nd s => Nat.le_trans (nodup_le nd fun x hx => by
      obtain ⟨p, hp, hb⟩ := basesL_mem.mp (s x hx)
      cases List.mem_singleton.mp hp
      exact f1.bs x hb) n5, fun c H' _ s hA => k c H' s hA⟩
theorem inv_at {C : Addr} {w : Str} {H : Hp} {a : Addr} {r : RT} {ns : List Str} {k1 l1 z1 : Nat} (h1 : RuleAt C H r a) (f1 : Fit ns k1 l1 z1 r) (n5 : ns.length ≤ 5) (hz : z1 + 12 ≤ 100000) {Q : VK} {E : XK}
    (k : ∀ (c : Addr) (H' : Hp), Same H H' → RuleAt C H' (.op w [r]) c → Q (.ref c) H') : rInv C (fun vs H Q E => vs.length = 1 ∧ sp_words0 C w vs H Q E) E (.ref a) H Q := by
  obtain ⟨_, _, dx, _, _, _, _, e1, _⟩ := h1.fields
  exact ⟨a, dx, _, rfl, e1, rfl, w1_at h1 f1 n5 hz k⟩
abbrev PairE := Addr × Addr × Addr × RT
/-- a tuple of two rules that stand for the same -/
def PairOk (C : Addr) (ns : List Str) (H : Hp) (e : PairE) : Prop := H e.1 = some (.tup [.ref e.2.1, .ref e.2.2.1]) ∧ RuleAt C H e.2.2.2 e.2.1 ∧ RuleAt C H e.2.2.2 e.2.2.1 ∧ Fit ns 20 9 400 e.2.2.2
theorem pairs_keep {C : Addr} {ns : List Str} {H H' : Hp} {es : List PairE} (s : ∀ b o, H b = some o → (∀ xs, o ≠ .lst xs) → H' b = some o) (h : ∀ e ∈ es, PairOk C ns H e) : ∀ e ∈ es, PairOk C ns H' e := fun e he => by
  obtain ⟨h1, h2, h3, h4⟩ := h e he
  exact ⟨s _ _ h1 (fun _ z => nomatch z), RuleAt.keep s _ _ h2, RuleAt.keep s _ _ h3, h4⟩
theorem pairs_same {C : Addr} {ns : List Str} {H H' : Hp} {es : List PairE} (s : Same H H') (h : ∀ e ∈ es, PairOk C ns H e) : ∀ e ∈ es, PairOk C ns H' e := pairs_keep (fun b o e _ => s b o e) h
theorem pairs_add {C : Addr} {ns : List Str} {H : Hp} {es : List PairE} {e : PairE} (h : ∀ e ∈ es, PairOk C ns H e) (he : PairOk C ns H e) : ∀ x ∈ es ++ [e], PairOk C ns H x := fun x hx => by
  rcases List.mem_append.mp hx with z | z
  · exact h x z
  · rw [List.mem_singleton.mp z]
    exact he
theorem fw_merged : fitsW "merged" 2 := .inl rfl
theorem fw_without : fitsW "without" 2 := .inr (.inr (.inr ⟨.inl rfl, rfl⟩))
theorem fw_kept : fitsW "kept" 2 := .inr (.inr (.inr ⟨.inr (.inl rfl), rfl⟩))
theorem fw_turned : fitsW "turned" 1 := .inr (.inr (.inl ⟨.inl rfl, rfl⟩))
theorem lw_merged : ("merged" : Str).length ≤ 7 := by decide +kernel
theorem lw_without : ("without" : Str).length ≤ 7 := by decide +kernel
theorem lw_kept : ("kept" : Str).length ≤ 7 := by decide +kernel
theorem lw_turned : ("turned" : Str).length ≤ 7 := by decide +kernel
def sp_law_pairs (C : Addr) : Sp := fun vs H Q _ => ∃ (a1 a2 a3 : Addr) (ra rb rc : RT) (ns : List Str), vs = [.ref a1, .ref a2, .ref a3] ∧ RuleAt C H ra a1 ∧ RuleAt C H rb a2 ∧ RuleAt C H rc a3 ∧ Fit ns 4 3 86 ra ∧ Fit ns 4 3 86 rb ∧ Fit ns 4 3 86 rc ∧ ns.length ≤ 5 ∧
  ∀ (L : Addr) (es : List PairE) (H' : Hp), H' L = some (.lst (es.map fun e => V.ref e.1)) → (∀ e ∈ es, PairOk C ns H' e) → Same H H' → es.length = 15 → Q (.ref L) H'
theorem ok_law_pairs (T : Txt K mg) : FnOk P w K mg base CX0 10 T.f_law_pairs T.d_law_pairs ["_law_one", "_law_two", "_law_last"] (sp_law_pairs T.C_Rule) := by
  refine T.F_law_pairs.ok sc_law_pairs (fun vs H Q E h => ?_) (fun cdv A outer s H vs Q E hr h => ?_)
  · obtain ⟨a1, a2, a3, ra, rb, rc, ns, rfl, _⟩ := h
    rfl
  · obtain ⟨a1, a2, a3, ra, rb, rc, ns, rfl, hA1, hA2, hA3, fa, fb, fc, n5, kk⟩ := h
    refine ⟨_, (pss_cons (ps_set (i := 3) sc_law_pairs.nd rfl (.inl rfl) (pe_lst (pa_cons (pe_tup (pa_cons (pe_op (op_orC T.om_Rule_or T.sf_Rule (ok_Rule_or0 T) (hr.mono (by decide)) T.b_Rule_or pass0) (pv 0) (pv 1)) (pa_cons (pe_callR (ok_merged0 T) (hr.mono (by decide)) rfl T.m_merged T.F_merged.kp pass0 (pa_cons (pv 0) (pa_cons (pv 1) pa_nil))) pa_nil))) (pa_cons (pe_tup (pa_cons (pe_op (op_subC T.om_Rule_sub T.sf_Rule (ok_Rule_sub0 T) (hr.mono (by decide)) T.b_Rule_sub pass0) (pv 0) (pv 1)) (pa_cons (pe_call (ok_without0 T) (hr.mono (by decide)) rfl T.m_without T.F_without.kp T.b_without .nil pass0 (pa_cons (pv 0) (pa_cons (pv 1) pa_nil))) pa_nil))) (pa_cons (pe_tup (pa_cons (pe_op (op_andC T.om_Rule_and T.sf_Rule (ok_Rule_and0 T) (hr.mono (by decide)) T.b_Rule_and pass0) (pv 0) (pv 1)) (pa_cons (pe_call (ok_kept0 T) (hr.mono (by decide)) rfl T.m_kept T.F_kept.kp T.b_kept .nil pass0 (pa_cons (pv 0) (pa_cons (pv 1) pa_nil))) pa_nil))) pa_nil)))))
        (pss_cons (ps_set (i := 3) sc_law_pairs.nd rfl (.inl rfl) (pe_op op_cat (pv 3) (pe_lst (pa_cons (pe_tup (pa_cons (pe_un (un_own T.om_Rule_invert (ok_Rule_invert0 T) (hr.mono (by decide)) T.b_Rule_invert pass0) (pv 0)) (pa_cons (pe_call (ok_turned0 T) (hr.mono (by decide)) rfl T.m_turned T.F_turned.kp T.b_turned .nil pass0 (pa_cons (pv 0) pa_nil)) pa_nil))) (pa_cons (pe_tup (pa_cons (pe_un (un_own T.om_Rule_invert (ok_Rule_invert0 T) (hr.mono (by decide)) T.b_Rule_invert pass0) (pe_un (un_own T.om_Rule_invert (ok_Rule_invert0 T) (hr.mono (by decide)) T.b_Rule_invert pass0) (pv 0))) (pa_cons (pe_call (ok_turned0 T) (hr.mono (by decide)) rfl T.m_turned T.F_turned.kp T.b_turned .nil pass0 (pa_cons (pe_call (ok_turned0 T) (hr.mono (by decide)) rfl T.m_turned T.F_turned.kp T.b_turned .nil pass0 (pa_cons (pv 0) pa_nil)) pa_nil)) pa_nil))) pa_nil)))))
        (pss_cons (ps_expr (pe_bm PySem.F.plainAttrs_list PySem.F.slot_list_append PySem.F.type_list_append mt_append (pv 3) (pa_cons (pe_tup (pa_cons (pe_op (op_orC T.om_Rule_or T.sf_Rule (ok_Rule_or0 T) (hr.mono (by decide)) T.b_Rule_or pass0) (pe_op (op_orC T.om_Rule_or T.sf_Rule (ok_Rule_or0 T) (hr.mono (by decide)) T.b_Rule_or pass0) (pv 0) (pv 1)) (pv 2)) (pa_cons (pe_callR (ok_merged0 T) (hr.mono (by decide)) rfl T.m_merged T.F_merged.kp pass0 (pa_cons (pe_callR (ok_merged0 T) (hr.mono (by decide)) rfl T.m_merged T.F_merged.kp pass0 (pa_cons (pv 0) (pa_cons (pv 1) pa_nil))) (pa_cons (pv 2) pa_nil))) pa_nil))) pa_nil)))
        (pss_cons (ps_expr (pe_bm PySem.F.plainAttrs_list PySem.F.slot_list_append PySem.F.type_list_append mt_append (pv 3) (pa_cons (pe_tup (pa_cons (pe_op (op_orC T.om_Rule_or T.sf_Rule (ok_Rule_or0 T) (hr.mono (by decide)) T.b_Rule_or pass0) (pv 0) (pe_op (op_subC T.om_Rule_sub T.sf_Rule (ok_Rule_sub0 T) (hr.mono (by decide)) T.b_Rule_sub pass0) (pv 1) (pv 2))) (pa_cons (pe_callR (ok_merged0 T) (hr.mono (by decide)) rfl T.m_merged T.F_merged.kp pass0 (pa_cons (pv 0) (pa_cons (pe_call (ok_without0 T) (hr.mono (by decide)) rfl T.m_without T.F_without.kp T.b_without .nil pass0 (pa_cons (pv 1) (pa_cons (pv 2) pa_nil))) pa_nil))) pa_nil))) pa_nil)))
        (pss_cons (ps_expr (pe_bm PySem.F.plainAttrs_list PySem.F.slot_list_append PySem.F.type_list_append mt_append (pv 3) (pa_cons (pe_tup (pa_cons (pe_op (op_subC T.om_Rule_sub T.sf_Rule (ok_Rule_sub0 T) (hr.mono (by decide)) T.b_Rule_sub pass0) (pe_op (op_subC T.om_Rule_sub T.sf_Rule (ok_Rule_sub0 T) (hr.mono (by decide)) T.b_Rule_sub pass0) (pv 0) (pv 1)) (pv 2)) (pa_cons (pe_call (ok_without0 T) (hr.mono (by decide)) rfl T.m_without T.F_without.kp T.b_without .nil pass0 (pa_cons (pe_call (ok_without0 T) (hr.mono (by decide)) rfl T.m_without T.F_without.kp T.b_without .nil pass0 (pa_cons (pv 0) (pa_cons (pv 1) pa_nil))) (pa_cons (pv 2) pa_nil))) pa_nil))) pa_nil)))
        (pss_cons (ps_expr (pe_bm PySem.F.plainAttrs_list PySem.F.slot_list_append PySem.F.type_list_append mt_append (pv 3) (pa_cons (pe_tup (pa_cons (pe_op (op_subC T.om_Rule_sub T.sf_Rule (ok_Rule_sub0 T) (hr.mono (by decide)) T.b_Rule_sub pass0) (pv 0) (pe_op (op_subC T.om_Rule_sub T.sf_Rule (ok_Rule_sub0 T) (hr.mono (by decide)) T.b_Rule_sub pass0) (pv 1) (pv 2))) (pa_cons (pe_call (ok_without0 T) (hr.mono (by decide)) rfl T.m_without T.F_without.kp T.b_without .nil pass0 (pa_cons (pv 0) (pa_cons (pe_call (ok_without0 T) (hr.mono (by decide)) rfl T.m_without T.F_without.kp T.b_without .nil pass0 (pa_cons (pv 1) (pa_cons (pv 2) pa_nil))) pa_nil))) pa_nil))) pa_nil)))
        (pss_cons (ps_expr (pe_bm PySem.F.plainAttrs_list PySem.F.slot_list_append PySem.F.type_list_append mt_append (pv 3) (pa_cons (pe_tup (pa_cons (pe_op (op_orC T.om_Rule_or T.sf_Rule (ok_Rule_or0 T) (hr.mono (by decide)) T.b_Rule_or pass0) (pe_op (op_andC T.om_Rule_and T.sf_Rule (ok_Rule_and0 T) (hr.mono (by decide)) T.b_Rule_and pass0) (pv 0) (pv 1)) (pv 2)) (pa_cons (pe_callR (ok_merged0 T) (hr.mono (by decide)) rfl T.m_merged T.F_merged.kp pass0 (pa_cons (pe_call (ok_kept0 T) (hr.mono (by decide)) rfl T.m_kept T.F_kept.kp T.b_kept .nil pass0 (pa_cons (pv 0) (pa_cons (pv 1) pa_nil))) (pa_cons (pv 2) pa_nil))) pa_nil))) pa_nil)))
        (pss_cons (ps_expr (pe_bm PySem.F.plainAttrs_list PySem.F.slot_list_append PySem.F.type_list_append mt_append (pv 3) (pa_cons (pe_tup (pa_cons (pe_op (op_orC T.om_Rule_or T.sf_Rule (ok_Rule_or0 T) (hr.mono (by decide)) T.b_Rule_or pass0) (pv 0) (pe_op (op_andC T.om_Rule_and T.sf_Rule (ok_Rule_and0 T) (hr.mono (by decide)) T.b_Rule_and pass0) (pv 1) (pv 2))) (pa_cons (pe_callR (ok_merged0 T) (hr.mono (by decide)) rfl T.m_merged T.F_merged.kp pass0 (pa_cons (pv 0) (pa_cons (pe_call (ok_kept0 T) (hr.mono (by decide)) rfl T.m_kept T.F_kept.kp T.b_kept .nil pass0 (pa_cons (pv 1) (pa_cons (pv 2) pa_nil))) pa_nil))) pa_nil))) pa_nil)))
        (pss_cons (ps_expr (pe_bm PySem.F.plainAttrs_list PySem.F.slot_list_append PySem.F.type_list_append mt_append (pv 3) (pa_cons (pe_tup (pa_cons (pe_op (op_andC T.om_Rule_and T.sf_Rule (ok_Rule_and0 T) (hr.mono (by decide)) T.b_Rule_and pass0) (pe_op (op_subC T.om_Rule_sub T.sf_Rule (ok_Rule_sub0 T) (hr.mono (by decide)) T.b_Rule_sub pass0) (pv 0) (pv 1)) (pv 2)) (pa_cons (pe_call (ok_kept0 T) (hr.mono (by decide)) rfl T.m_kept T.F_kept.kp T.b_kept .nil pass0 (pa_cons (pe_call (ok_without0 T) (hr.mono (by decide)) rfl T.m_without T.F_without.kp T.b_without .nil pass0 (pa_cons (pv 0) (pa_cons (pv 1) pa_nil))) (pa_cons (pv 2) pa_nil))) pa_nil))) pa_nil)))
        (pss_cons (ps_expr (pe_bm PySem.F.plainAttrs_list PySem.F.slot_list_append PySem.F.type_list_append mt_append (pv 3) (pa_cons (pe_tup (pa_cons (pe_op (op_subC T.om_Rule_sub T.sf_Rule (ok_Rule_sub0 T) (hr.mono (by decide)) T.b_Rule_sub pass0) (pe_un (un_own T.om_Rule_invert (ok_Rule_invert0 T) (hr.mono (by decide)) T.b_Rule_invert pass0) (pv 0)) (pv 1)) (pa_cons (pe_call (ok_without0 T) (hr.mono (by decide)) rfl T.m_without T.F_without.kp T.b_without .nil pass0 (pa_cons (pe_call (ok_turned0 T) (hr.mono (by decide)) rfl T.m_turned T.F_turned.kp T.b_turned .nil pass0 (pa_cons (pv 0) pa_nil)) (pa_cons (pv 1) pa_nil))) pa_nil))) pa_nil)))
        (pss_cons (ps_expr (pe_bm PySem.F.plainAttrs_list PySem.F.slot_list_append PySem.F.type_list_append mt_append (pv 3) (pa_cons (pe_tup (pa_cons (pe_un (un_own T.om_Rule_invert (ok_Rule_invert0 T) (hr.mono (by decide)) T.b_Rule_invert pass0) (pe_op (op_orC T.om_Rule_or T.sf_Rule (ok_Rule_or0 T) (hr.mono (by decide)) T.b_Rule_or pass0) (pv 0) (pv 1))) (pa_cons (pe_call (ok_turned0 T) (hr.mono (by decide)) rfl T.m_turned T.F_turned.kp T.b_turned .nil pass0 (pa_cons (pe_callR (ok_merged0 T) (hr.mono (by decide)) rfl T.m_merged T.F_merged.kp pass0 (pa_cons (pv 0) (pa_cons (pv 1) pa_nil))) pa_nil)) pa_nil))) pa_nil)))
        (pss_one (ps_ret (pe_op op_cat (pv 3) (pe_lst (pa_cons (pe_tup (pa_cons (pe_op (op_andC T.om_Rule_and T.sf_Rule (ok_Rule_and0 T) (hr.mono (by decide)) T.b_Rule_and pass0) (pe_op (op_orC T.om_Rule_or T.sf_Rule (ok_Rule_or0 T) (hr.mono (by decide)) T.b_Rule_or pass0) (pv 0) (pv 1)) (pe_un (un_own T.om_Rule_invert (ok_Rule_invert0 T) (hr.mono (by decide)) T.b_Rule_invert pass0) (pv 2))) (pa_cons (pe_call (ok_kept0 T) (hr.mono (by decide)) rfl T.m_kept T.F_kept.kp T.b_kept .nil pass0 (pa_cons (pe_callR (ok_merged0 T) (hr.mono (by decide)) rfl T.m_merged T.F_merged.kp pass0 (pa_cons (pv 0) (pa_cons (pv 1) pa_nil))) (pa_cons (pe_call (ok_turned0 T) (hr.mono (by decide)) rfl T.m_turned T.F_turned.kp T.b_turned .nil pass0 (pa_cons (pv 2) pa_nil)) pa_nil))) pa_nil))) pa_nil)))))))))))))))), ?_⟩
    have s0 : Same H H := Same.refl H
    have hP : ∀ e ∈ ([] : List PairE), PairOk T.C_Rule ns H e := fun _ h => nomatch h
    refine ⟨_, rfl, _, rfl, bin_at fw_merged lw_merged hA1 hA2 fa fb n5 (by decide) fun x1 G1 t1 g1 => ?_⟩
    have hA1 := RuleAt.same t1 _ _ hA1
    have hA2 := RuleAt.same t1 _ _ hA2
    have hA3 := RuleAt.same t1 _ _ hA3
    have hP := pairs_same t1 hP
    have s0 := Same.trans s0 t1
    clear t1
    refine ⟨_, rfl, _, rfl, [a1, a2], [ra, rb], rfl, rules2 hA1 hA2, wt_two fa fb (by decide), few_two n5 (Fit.bs fa) (Fit.bs fb), fun x2 G2 _ t2 g2 => ?_⟩
    have hA1 := RuleAt.same t2 _ _ hA1
    have hA2 := RuleAt.same t2 _ _ hA2
    have hA3 := RuleAt.same t2 _ _ hA3
    have g1 := RuleAt.same t2 _ _ g1
    have hP := pairs_same t2 hP
    have s0 := Same.trans s0 t2
    clear t2
    refine ⟨by show 2 ≤ sizeLine; decide, fun u3 n3 => ?_⟩
    have t3 := Same.mk1 (o := .tup [.ref x1, .ref x2]) n3
    have hu : (upd G2 u3 (.tup [.ref x1, .ref x2])) u3 = some (.tup [.ref x1, .ref x2]) := upd_same
    generalize upd G2 u3 (.tup [.ref x1, .ref x2]) = G3 at *
    have hA1 := RuleAt.same t3 _ _ hA1
    have hA2 := RuleAt.same t3 _ _ hA2
    have hA3 := RuleAt.same t3 _ _ hA3
    have g1 := RuleAt.same t3 _ _ g1
    have g2 := RuleAt.same t3 _ _ g2
    have hP := pairs_same t3 hP
    have s0 := Same.trans s0 t3
    clear t3
    have hP := pairs_add hP (e := (u3, x1, x2, (RT.op "merged" [ra, rb]))) ⟨hu, g1, g2, (Fit.op2 fa fb fw_merged lw_merged).mono (by decide) (by decide) (by decide)⟩
    clear hu n3
    refine ⟨_, rfl, _, rfl, bin_at fw_without lw_without hA1 hA2 fa fb n5 (by decide) fun x4 G4 t4 g4 => ?_⟩
    have hA1 := RuleAt.same t4 _ _ hA1
    have hA2 := RuleAt.same t4 _ _ hA2
    have hA3 := RuleAt.same t4 _ _ hA3
    have hP := pairs_same t4 hP
    have s0 := Same.trans s0 t4
    clear t4
    refine ⟨_, rfl, _, rfl, rfl, [a1, a2], [ra, rb], rfl, rules2 hA1 hA2, wt_two fa fb (by decide), few_two n5 (Fit.bs fa) (Fit.bs fb), fun x5 G5 _ t5 g5 => ?_⟩
    have hA1 := RuleAt.same t5 _ _ hA1
    have hA2 := RuleAt.same t5 _ _ hA2
    have hA3 := RuleAt.same t5 _ _ hA3
    have g4 := RuleAt.same t5 _ _ g4
    have hP := pairs_same t5 hP
    have s0 := Same.trans s0 t5
    clear t5
    refine ⟨by show 2 ≤ sizeLine; decide, fun u6 n6 => ?_⟩
    have t6 := Same.mk1 (o := .tup [.ref x4, .ref x5]) n6
    have hu : (upd G5 u6 (.tup [.ref x4, .ref x5])) u6 = some (.tup [.ref x4, .ref x5]) := upd_same
    generalize upd G5 u6 (.tup [.ref x4, .ref x5]) = G6 at *
    have hA1 := RuleAt.same t6 _ _ hA1
    have hA2 := RuleAt.same t6 _ _ hA2
    have hA3 := RuleAt.same t6 _ _ hA3
    have g4 := RuleAt.same t6 _ _ g4
    have g5 := RuleAt.same t6 _ _ g5
    have hP := pairs_same t6 hP
    have s0 := Same.trans s0 t6
    clear t6
    have hP := pairs_add hP (e := (u6, x4, x5, (RT.op "without" [ra, rb]))) ⟨hu, g4, g5, (Fit.op2 fa fb fw_without lw_without).mono (by decide) (by decide) (by decide)⟩
    clear hu n6
    refine ⟨_, rfl, _, rfl, bin_at fw_kept lw_kept hA1 hA2 fa fb n5 (by decide) fun x7 G7 t7 g7 => ?_⟩
    have hA1 := RuleAt.same t7 _ _ hA1
    have hA2 := RuleAt.same t7 _ _ hA2
    have hA3 := RuleAt.same t7 _ _ hA3
    have hP := pairs_same t7 hP
    have s0 := Same.trans s0 t7
    clear t7
    refine ⟨_, rfl, _, rfl, rfl, [a1, a2], [ra, rb], rfl, rules2 hA1 hA2, wt_two fa fb (by decide), few_two n5 (Fit.bs fa) (Fit.bs fb), fun x8 G8 _ t8 g8 => ?_⟩
    have hA1 := RuleAt.same t8 _ _ hA1
    have hA2 := RuleAt.same t8 _ _ hA2
    have hA3 := RuleAt.same t8 _ _ hA3
    have g7 := RuleAt.same t8 _ _ g7
    have hP := pairs_same t8 hP
    have s0 := Same.trans s0 t8
    clear t8
    refine ⟨by show 2 ≤ sizeLine; decide, fun u9 n9 => ?_⟩
    have t9 := Same.mk1 (o := .tup [.ref x7, .ref x8]) n9
    have hu : (upd G8 u9 (.tup [.ref x7, .ref x8])) u9 = some (.tup [.ref x7, .ref x8]) := upd_same
    generalize upd G8 u9 (.tup [.ref x7, .ref x8]) = G9 at *
    have hA1 := RuleAt.same t9 _ _ hA1
    have hA2 := RuleAt.same t9 _ _ hA2
    have hA3 := RuleAt.same t9 _ _ hA3
    have g7 := RuleAt.same t9 _ _ g7
    have g8 := RuleAt.same t9 _ _ g8
    have hP := pairs_same t9 hP
    have s0 := Same.trans s0 t9
    clear t9
    have hP := pairs_add hP (e := (u9, x7, x8, (RT.op "kept" [ra, rb]))) ⟨hu, g7, g8, (Fit.op2 fa fb fw_kept lw_kept).mono (by decide) (by decide) (by decide)⟩
    clear hu n9
    refine ⟨by show 3 ≤ sizeLine; decide, fun L10 n10 => ?_⟩
    have t10 := Same.mk1 (o := .lst [.ref u3, .ref u6, .ref u9]) n10
    have hL : (upd G9 L10 (.lst [.ref u3, .ref u6, .ref u9])) L10 = some (.lst [.ref u3, .ref u6, .ref u9]) := upd_same
    generalize upd G9 L10 (.lst [.ref u3, .ref u6, .ref u9]) = G10 at *
    have hA1 := RuleAt.same t10 _ _ hA1
    have hA2 := RuleAt.same t10 _ _ hA2
    have hA3 := RuleAt.same t10 _ _ hA3
    have hP := pairs_same t10 hP
    have s0 := Same.trans s0 t10
    clear t10
    clear n10
    refine ⟨_, rfl, _, rfl, inv_at hA1 fa n5 (by decide) fun x11 G11 t11 g11 => ?_⟩
    have hA1 := RuleAt.same t11 _ _ hA1
    have hA2 := RuleAt.same t11 _ _ hA2
    have hA3 := RuleAt.same t11 _ _ hA3
    have hP := pairs_same t11 hP
    have hL := t11 _ _ hL
    have s0 := Same.trans s0 t11
    clear t11
    refine ⟨_, rfl, rfl, [a1], [ra], rfl, rules1 hA1, wt_one fa (by decide), few_one n5 (Fit.bs fa), fun x12 G12 _ t12 g12 => ?_⟩
    have hA1 := RuleAt.same t12 _ _ hA1
    have hA2 := RuleAt.same t12 _ _ hA2
    have hA3 := RuleAt.same t12 _ _ hA3
    have g11 := RuleAt.same t12 _ _ g11
    have hP := pairs_same t12 hP
    have hL := t12 _ _ hL
    have s0 := Same.trans s0 t12
    clear t12
    refine ⟨by show 2 ≤ sizeLine; decide, fun u13 n13 => ?_⟩
    have t13 := Same.mk1 (o := .tup [.ref x11, .ref x12]) n13
    have hu : (upd G12 u13 (.tup [.ref x11, .ref x12])) u13 = some (.tup [.ref x11, .ref x12]) := upd_same
    generalize upd G12 u13 (.tup [.ref x11, .ref x12]) = G13 at *
    have hA1 := RuleAt.same t13 _ _ hA1
    have hA2 := RuleAt.same t13 _ _ hA2
    have hA3 := RuleAt.same t13 _ _ hA3
    have g11 := RuleAt.same t13 _ _ g11
    have g12 := RuleAt.same t13 _ _ g12
    have hP := pairs_same t13 hP
    have hL := t13 _ _ hL
    have s0 := Same.trans s0 t13
    clear t13
    have hP := pairs_add hP (e := (u13, x11, x12, (RT.op "turned" [ra]))) ⟨hu, g11, g12, (Fit.op1 fa fw_turned lw_turned).mono (by decide) (by decide) (by decide)⟩
    clear hu n13
    refine ⟨_, rfl, inv_at hA1 fa n5 (by decide) fun x14 G14 t14 g14 => ?_⟩
    have hA1 := RuleAt.same t14 _ _ hA1
    have hA2 := RuleAt.same t14 _ _ hA2
    have hA3 := RuleAt.same t14 _ _ hA3
    have hP := pairs_same t14 hP
    have hL := t14 _ _ hL
    have s0 := Same.trans s0 t14
    clear t14
    refine inv_at g14 (Fit.op1 fa fw_turned lw_turned) n5 (by decide) fun x15 G15 t15 g15 => ?_
    have hA1 := RuleAt.same t15 _ _ hA1
    have hA2 := RuleAt.same t15 _ _ hA2
    have hA3 := RuleAt.same t15 _ _ hA3
    have hP := pairs_same t15 hP
    have hL := t15 _ _ hL
    have s0 := Same.trans s0 t15
    clear t15
    refine ⟨_, rfl, rfl, [a1], [ra], rfl, rules1 hA1, wt_one fa (by decide), few_one n5 (Fit.bs fa), fun x16 G16 _ t16 g16 => ?_⟩
    have hA1 := RuleAt.same t16 _ _ hA1
    have hA2 := RuleAt.same t16 _ _ hA2
    have hA3 := RuleAt.same t16 _ _ hA3
    have g15 := RuleAt.same t16 _ _ g15
    have hP := pairs_same t16 hP
    have hL := t16 _ _ hL
    have s0 := Same.trans s0 t16
    clear t16
    refine ⟨rfl, [x16], [(RT.op "turned" [ra])], rfl, rules1 g16, wt_one (Fit.op1 fa fw_turned lw_turned) (by decide), few_one n5 (Fit.bs (Fit.op1 fa fw_turned lw_turned)), fun x17 G17 _ t17 g17 => ?_⟩
    have hA1 := RuleAt.same t17 _ _ hA1
    have hA2 := RuleAt.same t17 _ _ hA2
    have hA3 := RuleAt.same t17 _ _ hA3
    have g15 := RuleAt.same t17 _ _ g15
    have hP := pairs_same t17 hP
    have hL := t17 _ _ hL
    have s0 := Same.trans s0 t17
    clear t17
    refine ⟨by show 2 ≤ sizeLine; decide, fun u18 n18 => ?_⟩
    have t18 := Same.mk1 (o := .tup [.ref x15, .ref x17]) n18
    have hu : (upd G17 u18 (.tup [.ref x15, .ref x17])) u18 = some (.tup [.ref x15, .ref x17]) := upd_same
    generalize upd G17 u18 (.tup [.ref x15, .ref x17]) = G18 at *
    have hA1 := RuleAt.same t18 _ _ hA1
    have hA2 := RuleAt.same t18 _ _ hA2
    have hA3 := RuleAt.same t18 _ _ hA3
    have g15 := RuleAt.same t18 _ _ g15
    have g17 := RuleAt.same t18 _ _ g17
    have hP := pairs_same t18 hP
    have hL := t18 _ _ hL
    have s0 := Same.trans s0 t18
    clear t18
    have hP := pairs_add hP (e := (u18, x15, x17, (RT.op "turned" [(RT.op "turned" [ra])]))) ⟨hu, g15, g17, (Fit.op1 (Fit.op1 fa fw_turned lw_turned) fw_turned lw_turned).mono (by decide) (by decide) (by decide)⟩
    clear hu n18
    refine ⟨by show 2 ≤ sizeLine; decide, fun L19 n19 => ?_⟩
    have t19 := Same.mk1 (o := .lst [.ref u13, .ref u18]) n19
    have hM : (upd G18 L19 (.lst [.ref u13, .ref u18])) L19 = some (.lst [.ref u13, .ref u18]) := upd_same
    generalize upd G18 L19 (.lst [.ref u13, .ref u18]) = G19 at *
    have hA1 := RuleAt.same t19 _ _ hA1
    have hA2 := RuleAt.same t19 _ _ hA2
    have hA3 := RuleAt.same t19 _ _ hA3
    have hP := pairs_same t19 hP
    have hL := t19 _ _ hL
    have s0 := Same.trans s0 t19
    clear t19
    refine ⟨L10, L19, _, _, rfl, rfl, hL, hM, by show 5 ≤ sizeLine; decide, fun L20 n20 => ?_⟩
    have nL : H L20 = none := s0.free n20
    have t20 := Same.mk1 (o := .lst ([.ref u3, .ref u6, .ref u9] ++ [.ref u13, .ref u18])) n20
    have hN : (upd G19 L20 (.lst ([.ref u3, .ref u6, .ref u9] ++ [.ref u13, .ref u18]))) L20 = some (.lst [.ref u3, .ref u6, .ref u9, .ref u13, .ref u18]) := upd_same
    generalize upd G19 L20 (.lst ([.ref u3, .ref u6, .ref u9] ++ [.ref u13, .ref u18])) = G20 at *
    have hA1 := RuleAt.same t20 _ _ hA1
    have hA2 := RuleAt.same t20 _ _ hA2
    have hA3 := RuleAt.same t20 _ _ hA3
    have hP := pairs_same t20 hP
    have hL := t20 _ _ hL
    have s0 := Same.trans s0 t20
    clear t20
    have hL := hN
    clear hN hM n19 n20
    refine ⟨_, rfl, .inl ⟨rfl, _, SqL.of hL⟩, ?_⟩
    refine ⟨_, rfl, _, rfl, bin_at fw_merged lw_merged hA1 hA2 fa fb n5 (by decide) fun x21 G21 t21 g21 => ?_⟩
    have hA1 := RuleAt.same t21 _ _ hA1
    have hA2 := RuleAt.same t21 _ _ hA2
    have hA3 := RuleAt.same t21 _ _ hA3
    have hP := pairs_same t21 hP
    have hL := t21 _ _ hL
    have s0 := Same.trans s0 t21
    clear t21
    refine ⟨_, rfl, bin_at fw_merged lw_merged g21 hA3 (Fit.op2 fa fb fw_merged lw_merged) fc n5 (by decide) fun x22 G22 t22 g22 => ?_⟩
    have hA1 := RuleAt.same t22 _ _ hA1
    have hA2 := RuleAt.same t22 _ _ hA2
    have hA3 := RuleAt.same t22 _ _ hA3
    have hP := pairs_same t22 hP
    have hL := t22 _ _ hL
    have s0 := Same.trans s0 t22
    clear t22
    refine ⟨_, rfl, _, rfl, [a1, a2], [ra, rb], rfl, rules2 hA1 hA2, wt_two fa fb (by decide), few_two n5 (Fit.bs fa) (Fit.bs fb), fun x23 G23 _ t23 g23 => ?_⟩
    have hA1 := RuleAt.same t23 _ _ hA1
    have hA2 := RuleAt.same t23 _ _ hA2
    have hA3 := RuleAt.same t23 _ _ hA3
    have g22 := RuleAt.same t23 _ _ g22
    have hP := pairs_same t23 hP
    have hL := t23 _ _ hL
    have s0 := Same.trans s0 t23
    clear t23
    refine ⟨_, rfl, [x23, a3], [(RT.op "merged" [ra, rb]), rc], rfl, rules2 g23 hA3, wt_two (Fit.op2 fa fb fw_merged lw_merged) fc (by decide), few_two n5 (Fit.bs (Fit.op2 fa fb fw_merged lw_merged)) (Fit.bs fc), fun x24 G24 _ t24 g24 => ?_⟩
    have hA1 := RuleAt.same t24 _ _ hA1
    have hA2 := RuleAt.same t24 _ _ hA2
    have hA3 := RuleAt.same t24 _ _ hA3
    have g22 := RuleAt.same t24 _ _ g22
    have hP := pairs_same t24 hP
    have hL := t24 _ _ hL
    have s0 := Same.trans s0 t24
    clear t24
    refine ⟨by show 2 ≤ sizeLine; decide, fun u25 n25 => ?_⟩
    have t25 := Same.mk1 (o := .tup [.ref x22, .ref x24]) n25
    have hu : (upd G24 u25 (.tup [.ref x22, .ref x24])) u25 = some (.tup [.ref x22, .ref x24]) := upd_same
    generalize upd G24 u25 (.tup [.ref x22, .ref x24]) = G25 at *
    have hA1 := RuleAt.same t25 _ _ hA1
    have hA2 := RuleAt.same t25 _ _ hA2
    have hA3 := RuleAt.same t25 _ _ hA3
    have g22 := RuleAt.same t25 _ _ g22
    have g24 := RuleAt.same t25 _ _ g24
    have hP := pairs_same t25 hP
    have hL := t25 _ _ hL
    have s0 := Same.trans s0 t25
    clear t25
    have hP := pairs_add hP (e := (u25, x22, x24, (RT.op "merged" [(RT.op "merged" [ra, rb]), rc]))) ⟨hu, g22, g24, (Fit.op2 (Fit.op2 fa fb fw_merged lw_merged) fc fw_merged lw_merged).mono (by decide) (by decide) (by decide)⟩
    clear hu n25
    refine ⟨L20, _, _, rfl, rfl, hL, by show 5 < sizeLine; decide, ?_⟩
    have kp : ∀ b o, G25 b = some o → (∀ xs, o ≠ .lst xs) → (upd G25 L20 (.lst ([.ref u3, .ref u6, .ref u9, .ref u13, .ref u18] ++ [.ref u25]))) b = some o := lst_keepR hL
    have hN : (upd G25 L20 (.lst ([.ref u3, .ref u6, .ref u9, .ref u13, .ref u18] ++ [.ref u25]))) L20 = some (.lst [.ref u3, .ref u6, .ref u9, .ref u13, .ref u18, .ref u25]) := upd_same
    have s0 : Same H (upd G25 L20 (.lst ([.ref u3, .ref u6, .ref u9, .ref u13, .ref u18] ++ [.ref u25]))) := Same.put s0 nL
    have hA1 := RuleAt.keep kp _ _ hA1
    have hA2 := RuleAt.keep kp _ _ hA2
    have hA3 := RuleAt.keep kp _ _ hA3
    have hP := pairs_keep kp hP
    clear hL kp
    generalize upd G25 L20 (.lst ([.ref u3, .ref u6, .ref u9, .ref u13, .ref u18] ++ [.ref u25])) = G26 at *
    have hL := hN
    clear hN
    refine ⟨_, rfl, .inl ⟨rfl, _, SqL.of hL⟩, ?_⟩
    refine ⟨_, rfl, _, rfl, _, rfl, bin_at fw_without lw_without hA2 hA3 fb fc n5 (by decide) fun x27 G27 t27 g27 => ?_⟩
    have hA1 := RuleAt.same t27 _ _ hA1
    have hA2 := RuleAt.same t27 _ _ hA2
    have hA3 := RuleAt.same t27 _ _ hA3
    have hP := pairs_same t27 hP
    have hL := t27 _ _ hL
    have s0 := Same.trans s0 t27
    clear t27
    refine bin_at fw_merged lw_merged hA1 g27 fa (Fit.op2 fb fc fw_without lw_without) n5 (by decide) fun x28 G28 t28 g28 => ?_
    have hA1 := RuleAt.same t28 _ _ hA1
    have hA2 := RuleAt.same t28 _ _ hA2
    have hA3 := RuleAt.same t28 _ _ hA3
    have hP := pairs_same t28 hP
    have hL := t28 _ _ hL
    have s0 := Same.trans s0 t28
    clear t28
    refine ⟨_, rfl, _, rfl, _, rfl, rfl, [a2, a3], [rb, rc], rfl, rules2 hA2 hA3, wt_two fb fc (by decide), few_two n5 (Fit.bs fb) (Fit.bs fc), fun x29 G29 _ t29 g29 => ?_⟩
    have hA1 := RuleAt.same t29 _ _ hA1
    have hA2 := RuleAt.same t29 _ _ hA2
    have hA3 := RuleAt.same t29 _ _ hA3
    have g28 := RuleAt.same t29 _ _ g28
    have hP := pairs_same t29 hP
    have hL := t29 _ _ hL
    have s0 := Same.trans s0 t29
    clear t29
    refine ⟨[a1, x29], [ra, (RT.op "without" [rb, rc])], rfl, rules2 hA1 g29, wt_two fa (Fit.op2 fb fc fw_without lw_without) (by decide), few_two n5 (Fit.bs fa) (Fit.bs (Fit.op2 fb fc fw_without lw_without)), fun x30 G30 _ t30 g30 => ?_⟩
    have hA1 := RuleAt.same t30 _ _ hA1
    have hA2 := RuleAt.same t30 _ _ hA2
    have hA3 := RuleAt.same t30 _ _ hA3
    have g28 := RuleAt.same t30 _ _ g28
    have hP := pairs_same t30 hP
    have hL := t30 _ _ hL
    have s0 := Same.trans s0 t30
    clear t30
    refine ⟨by show 2 ≤ sizeLine; decide, fun u31 n31 => ?_⟩
    have t31 := Same.mk1 (o := .tup [.ref x28, .ref x30]) n31
    have hu : (upd G30 u31 (.tup [.ref x28, .ref x30])) u31 = some (.tup [.ref x28, .ref x30]) := upd_same
    generalize upd G30 u31 (.tup [.ref x28, .ref x30]) = G31 at *
    have hA1 := RuleAt.same t31 _ _ hA1
    have hA2 := RuleAt.same t31 _ _ hA2
    have hA3 := RuleAt.same t31 _ _ hA3
    have g28 := RuleAt.same t31 _ _ g28
    have g30 := RuleAt.same t31 _ _ g30
    have hP := pairs_same t31 hP
    have hL := t31 _ _ hL
    have s0 := Same.trans s0 t31
    clear t31
    have hP := pairs_add hP (e := (u31, x28, x30, (RT.op "merged" [ra, (RT.op "without" [rb, rc])]))) ⟨hu, g28, g30, (Fit.op2 fa (Fit.op2 fb fc fw_without lw_without) fw_merged lw_merged).mono (by decide) (by decide) (by decide)⟩
    clear hu n31
    refine ⟨L20, _, _, rfl, rfl, hL, by show 6 < sizeLine; decide, ?_⟩
    have kp : ∀ b o, G31 b = some o → (∀ xs, o ≠ .lst xs) → (upd G31 L20 (.lst ([.ref u3, .ref u6, .ref u9, .ref u13, .ref u18, .ref u25] ++ [.ref u31]))) b = some o := lst_keepR hL
    have hN : (upd G31 L20 (.lst ([.ref u3, .ref u6, .ref u9, .ref u13, .ref u18, .ref u25] ++ [.ref u31]))) L20 = some (.lst [.ref u3, .ref u6, .ref u9, .ref u13, .ref u18, .ref u25, .ref u31]) := upd_same
    have s0 : Same H (upd G31 L20 (.lst ([.ref u3, .ref u6, .ref u9, .ref u13, .ref u18, .ref u25] ++ [.ref u31]))) := Same.put s0 nL
    have hA1 := RuleAt.keep kp _ _ hA1
    have hA2 := RuleAt.keep kp _ _ hA2
    have hA3 := RuleAt.keep kp _ _ hA3
    have hP := pairs_keep kp hP
    clear hL kp
    generalize upd G31 L20 (.lst ([.ref u3, .ref u6, .ref u9, .ref u13, .ref u18, .ref u25] ++ [.ref u31])) = G32 at *
    have hL := hN
    clear hN
    refine ⟨_, rfl, .inl ⟨rfl, _, SqL.of hL⟩, ?_⟩
    refine ⟨_, rfl, _, rfl, bin_at fw_without lw_without hA1 hA2 fa fb n5 (by decide) fun x33 G33 t33 g33 => ?_⟩
    have hA1 := RuleAt.same t33 _ _ hA1
    have hA2 := RuleAt.same t33 _ _ hA2
    have hA3 := RuleAt.same t33 _ _ hA3
    have hP := pairs_same t33 hP
    have hL := t33 _ _ hL
    have s0 := Same.trans s0 t33
    clear t33
    refine ⟨_, rfl, bin_at fw_without lw_without g33 hA3 (Fit.op2 fa fb fw_without lw_without) fc n5 (by decide) fun x34 G34 t34 g34 => ?_⟩
    have hA1 := RuleAt.same t34 _ _ hA1
    have hA2 := RuleAt.same t34 _ _ hA2
    have hA3 := RuleAt.same t34 _ _ hA3
    have hP := pairs_same t34 hP
    have hL := t34 _ _ hL
    have s0 := Same.trans s0 t34
    clear t34
    refine ⟨_, rfl, _, rfl, rfl, [a1, a2], [ra, rb], rfl, rules2 hA1 hA2, wt_two fa fb (by decide), few_two n5 (Fit.bs fa) (Fit.bs fb), fun x35 G35 _ t35 g35 => ?_⟩
    have hA1 := RuleAt.same t35 _ _ hA1
    have hA2 := RuleAt.same t35 _ _ hA2
    have hA3 := RuleAt.same t35 _ _ hA3
    have g34 := RuleAt.same t35 _ _ g34
    have hP := pairs_same t35 hP
    have hL := t35 _ _ hL
    have s0 := Same.trans s0 t35
    clear t35
    refine ⟨_, rfl, rfl, [x35, a3], [(RT.op "without" [ra, rb]), rc], rfl, rules2 g35 hA3, wt_two (Fit.op2 fa fb fw_without lw_without) fc (by decide), few_two n5 (Fit.bs (Fit.op2 fa fb fw_without lw_without)) (Fit.bs fc), fun x36 G36 _ t36 g36 => ?_⟩
    have hA1 := RuleAt.same t36 _ _ hA1
    have hA2 := RuleAt.same t36 _ _ hA2
    have hA3 := RuleAt.same t36 _ _ hA3
    have g34 := RuleAt.same t36 _ _ g34
    have hP := pairs_same t36 hP
    have hL := t36 _ _ hL
    have s0 := Same.trans s0 t36
    clear t36
    refine ⟨by show 2 ≤ sizeLine; decide, fun u37 n37 => ?_⟩
    have t37 := Same.mk1 (o := .tup [.ref x34, .ref x36]) n37
    have hu : (upd G36 u37 (.tup [.ref x34, .ref x36])) u37 = some (.tup [.ref x34, .ref x36]) := upd_same
    generalize upd G36 u37 (.tup [.ref x34, .ref x36]) = G37 at *
    have hA1 := RuleAt.same t37 _ _ hA1
    have hA2 := RuleAt.same t37 _ _ hA2
    have hA3 := RuleAt.same t37 _ _ hA3
    have g34 := RuleAt.same t37 _ _ g34
    have g36 := RuleAt.same t37 _ _ g36
    have hP := pairs_same t37 hP
    have hL := t37 _ _ hL
    have s0 := Same.trans s0 t37
    clear t37
    have hP := pairs_add hP (e := (u37, x34, x36, (RT.op "without" [(RT.op "without" [ra, rb]), rc]))) ⟨hu, g34, g36, (Fit.op2 (Fit.op2 fa fb fw_without lw_without) fc fw_without lw_without).mono (by decide) (by decide) (by decide)⟩
    clear hu n37
    refine ⟨L20, _, _, rfl, rfl, hL, by show 7 < sizeLine; decide, ?_⟩
    have kp : ∀ b o, G37 b = some o → (∀ xs, o ≠ .lst xs) → (upd G37 L20 (.lst ([.ref u3, .ref u6, .ref u9, .ref u13, .ref u18, .ref u25, .ref u31] ++ [.ref u37]))) b = some o := lst_keepR hL
    have hN : (upd G37 L20 (.lst ([.ref u3, .ref u6, .ref u9, .ref u13, .ref u18, .ref u25, .ref u31] ++ [.ref u37]))) L20 = some (.lst [.ref u3, .ref u6, .ref u9, .ref u13, .ref u18, .ref u25, .ref u31, .ref u37]) := upd_same
    have s0 : Same H (upd G37 L20 (.lst ([.ref u3, .ref u6, .ref u9, .ref u13, .ref u18, .ref u25, .ref u31] ++ [.ref u37]))) := Same.put s0 nL
    have hA1 := RuleAt.keep kp _ _ hA1
    have hA2 := RuleAt.keep kp _ _ hA2
    have hA3 := RuleAt.keep kp _ _ hA3
    have hP := pairs_keep kp hP
    clear hL kp
    generalize upd G37 L20 (.lst ([.ref u3, .ref u6, .ref u9, .ref u13, .ref u18, .ref u25, .ref u31] ++ [.ref u37])) = G38 at *
    have hL := hN
    clear hN
    refine ⟨_, rfl, .inl ⟨rfl, _, SqL.of hL⟩, ?_⟩
    refine ⟨_, rfl, _, rfl, _, rfl, bin_at fw_without lw_without hA2 hA3 fb fc n5 (by decide) fun x39 G39 t39 g39 => ?_⟩
    have hA1 := RuleAt.same t39 _ _ hA1
    have hA2 := RuleAt.same t39 _ _ hA2
    have hA3 := RuleAt.same t39 _ _ hA3
    have hP := pairs_same t39 hP
    have hL := t39 _ _ hL
    have s0 := Same.trans s0 t39
    clear t39
    refine bin_at fw_without lw_without hA1 g39 fa (Fit.op2 fb fc fw_without lw_without) n5 (by decide) fun x40 G40 t40 g40 => ?_
    have hA1 := RuleAt.same t40 _ _ hA1
    have hA2 := RuleAt.same t40 _ _ hA2
    have hA3 := RuleAt.same t40 _ _ hA3
    have hP := pairs_same t40 hP
    have hL := t40 _ _ hL
    have s0 := Same.trans s0 t40
    clear t40
    refine ⟨_, rfl, _, rfl, _, rfl, rfl, [a2, a3], [rb, rc], rfl, rules2 hA2 hA3, wt_two fb fc (by decide), few_two n5 (Fit.bs fb) (Fit.bs fc), fun x41 G41 _ t41 g41 => ?_⟩
    have hA1 := RuleAt.same t41 _ _ hA1
    have hA2 := RuleAt.same t41 _ _ hA2
    have hA3 := RuleAt.same t41 _ _ hA3
    have g40 := RuleAt.same t41 _ _ g40
    have hP := pairs_same t41 hP
    have hL := t41 _ _ hL
    have s0 := Same.trans s0 t41
    clear t41
    refine ⟨rfl, [a1, x41], [ra, (RT.op "without" [rb, rc])], rfl, rules2 hA1 g41, wt_two fa (Fit.op2 fb fc fw_without lw_without) (by decide), few_two n5 (Fit.bs fa) (Fit.bs (Fit.op2 fb fc fw_without lw_without)), fun x42 G42 _ t42 g42 => ?_⟩
    have hA1 := RuleAt.same t42 _ _ hA1
    have hA2 := RuleAt.same t42 _ _ hA2
    have hA3 := RuleAt.same t42 _ _ hA3
    have g40 := RuleAt.same t42 _ _ g40
    have hP := pairs_same t42 hP
    have hL := t42 _ _ hL
    have s0 := Same.trans s0 t42
    clear t42
    refine ⟨by show 2 ≤ sizeLine; decide, fun u43 n43 => ?_⟩
    have t43 := Same.mk1 (o := .tup [.ref x40, .ref x42]) n43
    have hu : (upd G42 u43 (.tup [.ref x40, .ref x42])) u43 = some (.tup [.ref x40, .ref x42]) := upd_same
    generalize upd G42 u43 (.tup [.ref x40, .ref x42]) = G43 at *
    have hA1 := RuleAt.same t43 _ _ hA1
    have hA2 := RuleAt.same t43 _ _ hA2
    have hA3 := RuleAt.same t43 _ _ hA3
    have g40 := RuleAt.same t43 _ _ g40
    have g42 := RuleAt.same t43 _ _ g42
    have hP := pairs_same t43 hP
    have hL := t43 _ _ hL
    have s0 := Same.trans s0 t43
    clear t43
    have hP := pairs_add hP (e := (u43, x40, x42, (RT.op "without" [ra, (RT.op "without" [rb, rc])]))) ⟨hu, g40, g42, (Fit.op2 fa (Fit.op2 fb fc fw_without lw_without) fw_without lw_without).mono (by decide) (by decide) (by decide)⟩
    clear hu n43
    refine ⟨L20, _, _, rfl, rfl, hL, by show 8 < sizeLine; decide, ?_⟩
    have kp : ∀ b o, G43 b = some o → (∀ xs, o ≠ .lst xs) → (upd G43 L20 (.lst ([.ref u3, .ref u6, .ref u9, .ref u13, .ref u18, .ref u25, .ref u31, .ref u37] ++ [.ref u43]))) b = some o := lst_keepR hL
    have hN : (upd G43 L20 (.lst ([.ref u3, .ref u6, .ref u9, .ref u13, .ref u18, .ref u25, .ref u31, .ref u37] ++ [.ref u43]))) L20 = some (.lst [.ref u3, .ref u6, .ref u9, .ref u13, .ref u18, .ref u25, .ref u31, .ref u37, .ref u43]) := upd_same
    have s0 : Same H (upd G43 L20 (.lst ([.ref u3, .ref u6, .ref u9, .ref u13, .ref u18, .ref u25, .ref u31, .ref u37] ++ [.ref u43]))) := Same.put s0 nL
    have hA1 := RuleAt.keep kp _ _ hA1
    have hA2 := RuleAt.keep kp _ _ hA2
    have hA3 := RuleAt.keep kp _ _ hA3
    have hP := pairs_keep kp hP
    clear hL kp
    generalize upd G43 L20 (.lst ([.ref u3, .ref u6, .ref u9, .ref u13, .ref u18, .ref u25, .ref u31, .ref u37] ++ [.ref u43])) = G44 at *
    have hL := hN
    clear hN
    refine ⟨_, rfl, .inl ⟨rfl, _, SqL.of hL⟩, ?_⟩
    refine ⟨_, rfl, _, rfl, bin_at fw_kept lw_kept hA1 hA2 fa fb n5 (by decide) fun x45 G45 t45 g45 => ?_⟩
    have hA1 := RuleAt.same t45 _ _ hA1
    have hA2 := RuleAt.same t45 _ _ hA2
    have hA3 := RuleAt.same t45 _ _ hA3
    have hP := pairs_same t45 hP
    have hL := t45 _ _ hL
    have s0 := Same.trans s0 t45
    clear t45
    refine ⟨_, rfl, bin_at fw_merged lw_merged g45 hA3 (Fit.op2 fa fb fw_kept lw_kept) fc n5 (by decide) fun x46 G46 t46 g46 => ?_⟩
    have hA1 := RuleAt.same t46 _ _ hA1
    have hA2 := RuleAt.same t46 _ _ hA2
    have hA3 := RuleAt.same t46 _ _ hA3
    have hP := pairs_same t46 hP
    have hL := t46 _ _ hL
    have s0 := Same.trans s0 t46
    clear t46
    refine ⟨_, rfl, _, rfl, rfl, [a1, a2], [ra, rb], rfl, rules2 hA1 hA2, wt_two fa fb (by decide), few_two n5 (Fit.bs fa) (Fit.bs fb), fun x47 G47 _ t47 g47 => ?_⟩
    have hA1 := RuleAt.same t47 _ _ hA1
    have hA2 := RuleAt.same t47 _ _ hA2
    have hA3 := RuleAt.same t47 _ _ hA3
    have g46 := RuleAt.same t47 _ _ g46
    have hP := pairs_same t47 hP
    have hL := t47 _ _ hL
    have s0 := Same.trans s0 t47
    clear t47
    refine ⟨_, rfl, [x47, a3], [(RT.op "kept" [ra, rb]), rc], rfl, rules2 g47 hA3, wt_two (Fit.op2 fa fb fw_kept lw_kept) fc (by decide), few_two n5 (Fit.bs (Fit.op2 fa fb fw_kept lw_kept)) (Fit.bs fc), fun x48 G48 _ t48 g48 => ?_⟩
    have hA1 := RuleAt.same t48 _ _ hA1
    have hA2 := RuleAt.same t48 _ _ hA2
    have hA3 := RuleAt.same t48 _ _ hA3
    have g46 := RuleAt.same t48 _ _ g46
    have hP := pairs_same t48 hP
    have hL := t48 _ _ hL
    have s0 := Same.trans s0 t48
    clear t48
    refine ⟨by show 2 ≤ sizeLine; decide, fun u49 n49 => ?_⟩
    have t49 := Same.mk1 (o := .tup [.ref x46, .ref x48]) n49
    have hu : (upd G48 u49 (.tup [.ref x46, .ref x48])) u49 = some (.tup [.ref x46, .ref x48]) := upd_same
    generalize upd G48 u49 (.tup [.ref x46, .ref x48]) = G49 at *
    have hA1 := RuleAt.same t49 _ _ hA1
    have hA2 := RuleAt.same t49 _ _ hA2
    have hA3 := RuleAt.same t49 _ _ hA3
    have g46 := RuleAt.same t49 _ _ g46
    have g48 := RuleAt.same t49 _ _ g48
    have hP := pairs_same t49 hP
    have hL := t49 _ _ hL
    have s0 := Same.trans s0 t49
    clear t49
    have hP := pairs_add hP (e := (u49, x46, x48, (RT.op "merged" [(RT.op "kept" [ra, rb]), rc]))) ⟨hu, g46, g48, (Fit.op2 (Fit.op2 fa fb fw_kept lw_kept) fc fw_merged lw_merged).mono (by decide) (by decide) (by decide)⟩
    clear hu n49
    refine ⟨L20, _, _, rfl, rfl, hL, by show 9 < sizeLine; decide, ?_⟩
    have kp : ∀ b o, G49 b = some o → (∀ xs, o ≠ .lst xs) → (upd G49 L20 (.lst ([.ref u3, .ref u6, .ref u9, .ref u13, .ref u18, .ref u25, .ref u31, .ref u37, .ref u43] ++ [.ref u49]))) b = some o := lst_keepR hL
    have hN : (upd G49 L20 (.lst ([.ref u3, .ref u6, .ref u9, .ref u13, .ref u18, .ref u25, .ref u31, .ref u37, .ref u43] ++ [.ref u49]))) L20 = some (.lst [.ref u3, .ref u6, .ref u9, .ref u13, .ref u18, .ref u25, .ref u31, .ref u37, .ref u43, .ref u49]) := upd_same
    have s0 : Same H (upd G49 L20 (.lst ([.ref u3, .ref u6, .ref u9, .ref u13, .ref u18, .ref u25, .ref u31, .ref u37, .ref u43] ++ [.ref u49]))) := Same.put s0 nL
    have hA1 := RuleAt.keep kp _ _ hA1
    have hA2 := RuleAt.keep kp _ _ hA2
    have hA3 := RuleAt.keep kp _ _ hA3
    have hP := pairs_keep kp hP
    clear hL kp
    generalize upd G49 L20 (.lst ([.ref u3, .ref u6, .ref u9, .ref u13, .ref u18, .ref u25, .ref u31, .ref u37, .ref u43] ++ [.ref u49])) = G50 at *
    have hL := hN
    clear hN
    refine ⟨_, rfl, .inl ⟨rfl, _, SqL.of hL⟩, ?_⟩
    refine ⟨_, rfl, _, rfl, _, rfl, bin_at fw_kept lw_kept hA2 hA3 fb fc n5 (by decide) fun x51 G51 t51 g51 => ?_⟩
    have hA1 := RuleAt.same t51 _ _ hA1
    have hA2 := RuleAt.same t51 _ _ hA2
    have hA3 := RuleAt.same t51 _ _ hA3
    have hP := pairs_same t51 hP
    have hL := t51 _ _ hL
    have s0 := Same.trans s0 t51
    clear t51
    refine bin_at fw_merged lw_merged hA1 g51 fa (Fit.op2 fb fc fw_kept lw_kept) n5 (by decide) fun x52 G52 t52 g52 => ?_
    have hA1 := RuleAt.same t52 _ _ hA1
    have hA2 := RuleAt.same t52 _ _ hA2
    have hA3 := RuleAt.same t52 _ _ hA3
    have hP := pairs_same t52 hP
    have hL := t52 _ _ hL
    have s0 := Same.trans s0 t52
    clear t52
    refine ⟨_, rfl, _, rfl, _, rfl, rfl, [a2, a3], [rb, rc], rfl, rules2 hA2 hA3, wt_two fb fc (by decide), few_two n5 (Fit.bs fb) (Fit.bs fc), fun x53 G53 _ t53 g53 => ?_⟩
    have hA1 := RuleAt.same t53 _ _ hA1
    have hA2 := RuleAt.same t53 _ _ hA2
    have hA3 := RuleAt.same t53 _ _ hA3
    have g52 := RuleAt.same t53 _ _ g52
    have hP := pairs_same t53 hP
    have hL := t53 _ _ hL
    have s0 := Same.trans s0 t53
    clear t53
    refine ⟨[a1, x53], [ra, (RT.op "kept" [rb, rc])], rfl, rules2 hA1 g53, wt_two fa (Fit.op2 fb fc fw_kept lw_kept) (by decide), few_two n5 (Fit.bs fa) (Fit.bs (Fit.op2 fb fc fw_kept lw_kept)), fun x54 G54 _ t54 g54 => ?_⟩
    have hA1 := RuleAt.same t54 _ _ hA1
    have hA2 := RuleAt.same t54 _ _ hA2
    have hA3 := RuleAt.same t54 _ _ hA3
    have g52 := RuleAt.same t54 _ _ g52
    have hP := pairs_same t54 hP
    have hL := t54 _ _ hL
    have s0 := Same.trans s0 t54
    clear t54
    refine ⟨by show 2 ≤ sizeLine; decide, fun u55 n55 => ?_⟩
    have t55 := Same.mk1 (o := .tup [.ref x52, .ref x54]) n55
    have hu : (upd G54 u55 (.tup [.ref x52, .ref x54])) u55 = some (.tup [.ref x52, .ref x54]) := upd_same
    generalize upd G54 u55 (.tup [.ref x52, .ref x54]) = G55 at *
    have hA1 := RuleAt.same t55 _ _ hA1
    have hA2 := RuleAt.same t55 _ _ hA2
    have hA3 := RuleAt.same t55 _ _ hA3
    have g52 := RuleAt.same t55 _ _ g52
    have g54 := RuleAt.same t55 _ _ g54
    have hP := pairs_same t55 hP
    have hL := t55 _ _ hL
    have s0 := Same.trans s0 t55
    clear t55
    have hP := pairs_add hP (e := (u55, x52, x54, (RT.op "merged" [ra, (RT.op "kept" [rb, rc])]))) ⟨hu, g52, g54, (Fit.op2 fa (Fit.op2 fb fc fw_kept lw_kept) fw_merged lw_merged).mono (by decide) (by decide) (by decide)⟩
    clear hu n55
    refine ⟨L20, _, _, rfl, rfl, hL, by show 10 < sizeLine; decide, ?_⟩
    have kp : ∀ b o, G55 b = some o → (∀ xs, o ≠ .lst xs) → (upd G55 L20 (.lst ([.ref u3, .ref u6, .ref u9, .ref u13, .ref u18, .ref u25, .ref u31, .ref u37, .ref u43, .ref u49] ++ [.ref u55]))) b = some o := lst_keepR hL
    have hN : (upd G55 L20 (.lst ([.ref u3, .ref u6, .ref u9, .ref u13, .ref u18, .ref u25, .ref u31, .ref u37, .ref u43, .ref u49] ++ [.ref u55]))) L20 = some (.lst [.ref u3, .ref u6, .ref u9, .ref u13, .ref u18, .ref u25, .ref u31, .ref u37, .ref u43, .ref u49, .ref u55]) := upd_same
    have s0 : Same H (upd G55 L20 (.lst ([.ref u3, .ref u6, .ref u9, .ref u13, .ref u18, .ref u25, .ref u31, .ref u37, .ref u43, .ref u49] ++ [.ref u55]))) := Same.put s0 nL
    have hA1 := RuleAt.keep kp _ _ hA1
    have hA2 := RuleAt.keep kp _ _ hA2
    have hA3 := RuleAt.keep kp _ _ hA3
    have hP := pairs_keep kp hP
    clear hL kp
    generalize upd G55 L20 (.lst ([.ref u3, .ref u6, .ref u9, .ref u13, .ref u18, .ref u25, .ref u31, .ref u37, .ref u43, .ref u49] ++ [.ref u55])) = G56 at *
    have hL := hN
    clear hN
    refine ⟨_, rfl, .inl ⟨rfl, _, SqL.of hL⟩, ?_⟩
    refine ⟨_, rfl, _, rfl, bin_at fw_without lw_without hA1 hA2 fa fb n5 (by decide) fun x57 G57 t57 g57 => ?_⟩
    have hA1 := RuleAt.same t57 _ _ hA1
    have hA2 := RuleAt.same t57 _ _ hA2
    have hA3 := RuleAt.same t57 _ _ hA3
    have hP := pairs_same t57 hP
    have hL := t57 _ _ hL
    have s0 := Same.trans s0 t57
    clear t57
    refine ⟨_, rfl, bin_at fw_kept lw_kept g57 hA3 (Fit.op2 fa fb fw_without lw_without) fc n5 (by decide) fun x58 G58 t58 g58 => ?_⟩
    have hA1 := RuleAt.same t58 _ _ hA1
    have hA2 := RuleAt.same t58 _ _ hA2
    have hA3 := RuleAt.same t58 _ _ hA3
    have hP := pairs_same t58 hP
    have hL := t58 _ _ hL
    have s0 := Same.trans s0 t58
    clear t58
    refine ⟨_, rfl, _, rfl, rfl, [a1, a2], [ra, rb], rfl, rules2 hA1 hA2, wt_two fa fb (by decide), few_two n5 (Fit.bs fa) (Fit.bs fb), fun x59 G59 _ t59 g59 => ?_⟩
    have hA1 := RuleAt.same t59 _ _ hA1
    have hA2 := RuleAt.same t59 _ _ hA2
    have hA3 := RuleAt.same t59 _ _ hA3
    have g58 := RuleAt.same t59 _ _ g58
    have hP := pairs_same t59 hP
    have hL := t59 _ _ hL
    have s0 := Same.trans s0 t59
    clear t59
    refine ⟨_, rfl, rfl, [x59, a3], [(RT.op "without" [ra, rb]), rc], rfl, rules2 g59 hA3, wt_two (Fit.op2 fa fb fw_without lw_without) fc (by decide), few_two n5 (Fit.bs (Fit.op2 fa fb fw_without lw_without)) (Fit.bs fc), fun x60 G60 _ t60 g60 => ?_⟩
    have hA1 := RuleAt.same t60 _ _ hA1
    have hA2 := RuleAt.same t60 _ _ hA2
    have hA3 := RuleAt.same t60 _ _ hA3
    have g58 := RuleAt.same t60 _ _ g58
    have hP := pairs_same t60 hP
    have hL := t60 _ _ hL
    have s0 := Same.trans s0 t60
    clear t60
    refine ⟨by show 2 ≤ sizeLine; decide, fun u61 n61 => ?_⟩
    have t61 := Same.mk1 (o := .tup [.ref x58, .ref x60]) n61
    have hu : (upd G60 u61 (.tup [.ref x58, .ref x60])) u61 = some (.tup [.ref x58, .ref x60]) := upd_same
    generalize upd G60 u61 (.tup [.ref x58, .ref x60]) = G61 at *
    have hA1 := RuleAt.same t61 _ _ hA1
    have hA2 := RuleAt.same t61 _ _ hA2
    have hA3 := RuleAt.same t61 _ _ hA3
    have g58 := RuleAt.same t61 _ _ g58
    have g60 := RuleAt.same t61 _ _ g60
    have hP := pairs_same t61 hP
    have hL := t61 _ _ hL
    have s0 := Same.trans s0 t61
    clear t61
    have hP := pairs_add hP (e := (u61, x58, x60, (RT.op "kept" [(RT.op "without" [ra, rb]), rc]))) ⟨hu, g58, g60, (Fit.op2 (Fit.op2 fa fb fw_without lw_without) fc fw_kept lw_kept).mono (by decide) (by decide) (by decide)⟩
    clear hu n61
    refine ⟨L20, _, _, rfl, rfl, hL, by show 11 < sizeLine; decide, ?_⟩
    have kp : ∀ b o, G61 b = some o → (∀ xs, o ≠ .lst xs) → (upd G61 L20 (.lst ([.ref u3, .ref u6, .ref u9, .ref u13, .ref u18, .ref u25, .ref u31, .ref u37, .ref u43, .ref u49, .ref u55] ++ [.ref u61]))) b = some o := lst_keepR hL
    have hN : (upd G61 L20 (.lst ([.ref u3, .ref u6, .ref u9, .ref u13, .ref u18, .ref u25, .ref u31, .ref u37, .ref u43, .ref u49, .ref u55] ++ [.ref u61]))) L20 = some (.lst [.ref u3, .ref u6, .ref u9, .ref u13, .ref u18, .ref u25, .ref u31, .ref u37, .ref u43, .ref u49, .ref u55, .ref u61]) := upd_same
    have s0 : Same H (upd G61 L20 (.lst ([.ref u3, .ref u6, .ref u9, .ref u13, .ref u18, .ref u25, .ref u31, .ref u37, .ref u43, .ref u49, .ref u55] ++ [.ref u61]))) := Same.put s0 nL
    have hA1 := RuleAt.keep kp _ _ hA1
    have hA2 := RuleAt.keep kp _ _ hA2
    have hA3 := RuleAt.keep kp _ _ hA3
    have hP := pairs_keep kp hP
    clear hL kp
    generalize upd G61 L20 (.lst ([.ref u3, .ref u6, .ref u9, .ref u13, .ref u18, .ref u25, .ref u31, .ref u37, .ref u43, .ref u49, .ref u55] ++ [.ref u61])) = G62 at *
    have hL := hN
    clear hN
    refine ⟨_, rfl, .inl ⟨rfl, _, SqL.of hL⟩, ?_⟩
    refine ⟨_, rfl, inv_at hA1 fa n5 (by decide) fun x63 G63 t63 g63 => ?_⟩
    have hA1 := RuleAt.same t63 _ _ hA1
    have hA2 := RuleAt.same t63 _ _ hA2
    have hA3 := RuleAt.same t63 _ _ hA3
    have hP := pairs_same t63 hP
    have hL := t63 _ _ hL
    have s0 := Same.trans s0 t63
    clear t63
    refine ⟨_, rfl, bin_at fw_without lw_without g63 hA2 (Fit.op1 fa fw_turned lw_turned) fb n5 (by decide) fun x64 G64 t64 g64 => ?_⟩
    have hA1 := RuleAt.same t64 _ _ hA1
    have hA2 := RuleAt.same t64 _ _ hA2
    have hA3 := RuleAt.same t64 _ _ hA3
    have hP := pairs_same t64 hP
    have hL := t64 _ _ hL
    have s0 := Same.trans s0 t64
    clear t64
    refine ⟨_, rfl, rfl, [a1], [ra], rfl, rules1 hA1, wt_one fa (by decide), few_one n5 (Fit.bs fa), fun x65 G65 _ t65 g65 => ?_⟩
    have hA1 := RuleAt.same t65 _ _ hA1
    have hA2 := RuleAt.same t65 _ _ hA2
    have hA3 := RuleAt.same t65 _ _ hA3
    have g64 := RuleAt.same t65 _ _ g64
    have hP := pairs_same t65 hP
    have hL := t65 _ _ hL
    have s0 := Same.trans s0 t65
    clear t65
    refine ⟨_, rfl, rfl, [x65, a2], [(RT.op "turned" [ra]), rb], rfl, rules2 g65 hA2, wt_two (Fit.op1 fa fw_turned lw_turned) fb (by decide), few_two n5 (Fit.bs (Fit.op1 fa fw_turned lw_turned)) (Fit.bs fb), fun x66 G66 _ t66 g66 => ?_⟩
    have hA1 := RuleAt.same t66 _ _ hA1
    have hA2 := RuleAt.same t66 _ _ hA2
    have hA3 := RuleAt.same t66 _ _ hA3
    have g64 := RuleAt.same t66 _ _ g64
    have hP := pairs_same t66 hP
    have hL := t66 _ _ hL
    have s0 := Same.trans s0 t66
    clear t66
    refine ⟨by show 2 ≤ sizeLine; decide, fun u67 n67 => ?_⟩
    have t67 := Same.mk1 (o := .tup [.ref x64, .ref x66]) n67
    have hu : (upd G66 u67 (.tup [.ref x64, .ref x66])) u67 = some (.tup [.ref x64, .ref x66]) := upd_same
    generalize upd G66 u67 (.tup [.ref x64, .ref x66]) = G67 at *
    have hA1 := RuleAt.same t67 _ _ hA1
    have hA2 := RuleAt.same t67 _ _ hA2
    have hA3 := RuleAt.same t67 _ _ hA3
    have g64 := RuleAt.same t67 _ _ g64
    have g66 := RuleAt.same t67 _ _ g66
    have hP := pairs_same t67 hP
    have hL := t67 _ _ hL
    have s0 := Same.trans s0 t67
    clear t67
    have hP := pairs_add hP (e := (u67, x64, x66, (RT.op "without" [(RT.op "turned" [ra]), rb]))) ⟨hu, g64, g66, (Fit.op2 (Fit.op1 fa fw_turned lw_turned) fb fw_without lw_without).mono (by decide) (by decide) (by decide)⟩
    clear hu n67
    refine ⟨L20, _, _, rfl, rfl, hL, by show 12 < sizeLine; decide, ?_⟩
    have kp : ∀ b o, G67 b = some o → (∀ xs, o ≠ .lst xs) → (upd G67 L20 (.lst ([.ref u3, .ref u6, .ref u9, .ref u13, .ref u18, .ref u25, .ref u31, .ref u37, .ref u43, .ref u49, .ref u55, .ref u61] ++ [.ref u67]))) b = some o := lst_keepR hL
    have hN : (upd G67 L20 (.lst ([.ref u3, .ref u6, .ref u9, .ref u13, .ref u18, .ref u25, .ref u31, .ref u37, .ref u43, .ref u49, .ref u55, .ref u61] ++ [.ref u67]))) L20 = some (.lst [.ref u3, .ref u6, .ref u9, .ref u13, .ref u18, .ref u25, .ref u31, .ref u37, .ref u43, .ref u49, .ref u55, .ref u61, .ref u67]) := upd_same
    have s0 : Same H (upd G67 L20 (.lst ([.ref u3, .ref u6, .ref u9, .ref u13, .ref u18, .ref u25, .ref u31, .ref u37, .ref u43, .ref u49, .ref u55, .ref u61] ++ [.ref u67]))) := Same.put s0 nL
    have hA1 := RuleAt.keep kp _ _ hA1
    have hA2 := RuleAt.keep kp _ _ hA2
    have hA3 := RuleAt.keep kp _ _ hA3
    have hP := pairs_keep kp hP
    clear hL kp
    generalize upd G67 L20 (.lst ([.ref u3, .ref u6, .ref u9, .ref u13, .ref u18, .ref u25, .ref u31, .ref u37, .ref u43, .ref u49, .ref u55, .ref u61] ++ [.ref u67])) = G68 at *
    have hL := hN
    clear hN
    refine ⟨_, rfl, .inl ⟨rfl, _, SqL.of hL⟩, ?_⟩
    refine ⟨_, rfl, _, rfl, bin_at fw_merged lw_merged hA1 hA2 fa fb n5 (by decide) fun x69 G69 t69 g69 => ?_⟩
    have hA1 := RuleAt.same t69 _ _ hA1
    have hA2 := RuleAt.same t69 _ _ hA2
    have hA3 := RuleAt.same t69 _ _ hA3
    have hP := pairs_same t69 hP
    have hL := t69 _ _ hL
    have s0 := Same.trans s0 t69
    clear t69
    refine inv_at g69 (Fit.op2 fa fb fw_merged lw_merged) n5 (by decide) fun x70 G70 t70 g70 => ?_
    have hA1 := RuleAt.same t70 _ _ hA1
    have hA2 := RuleAt.same t70 _ _ hA2
    have hA3 := RuleAt.same t70 _ _ hA3
    have hP := pairs_same t70 hP
    have hL := t70 _ _ hL
    have s0 := Same.trans s0 t70
    clear t70
    refine ⟨_, rfl, _, rfl, [a1, a2], [ra, rb], rfl, rules2 hA1 hA2, wt_two fa fb (by decide), few_two n5 (Fit.bs fa) (Fit.bs fb), fun x71 G71 _ t71 g71 => ?_⟩
    have hA1 := RuleAt.same t71 _ _ hA1
    have hA2 := RuleAt.same t71 _ _ hA2
    have hA3 := RuleAt.same t71 _ _ hA3
    have g70 := RuleAt.same t71 _ _ g70
    have hP := pairs_same t71 hP
    have hL := t71 _ _ hL
    have s0 := Same.trans s0 t71
    clear t71
    refine ⟨rfl, [x71], [(RT.op "merged" [ra, rb])], rfl, rules1 g71, wt_one (Fit.op2 fa fb fw_merged lw_merged) (by decide), few_one n5 (Fit.bs (Fit.op2 fa fb fw_merged lw_merged)), fun x72 G72 _ t72 g72 => ?_⟩
    have hA1 := RuleAt.same t72 _ _ hA1
    have hA2 := RuleAt.same t72 _ _ hA2
    have hA3 := RuleAt.same t72 _ _ hA3
    have g70 := RuleAt.same t72 _ _ g70
    have hP := pairs_same t72 hP
    have hL := t72 _ _ hL
    have s0 := Same.trans s0 t72
    clear t72
    refine ⟨by show 2 ≤ sizeLine; decide, fun u73 n73 => ?_⟩
    have t73 := Same.mk1 (o := .tup [.ref x70, .ref x72]) n73
    have hu : (upd G72 u73 (.tup [.ref x70, .ref x72])) u73 = some (.tup [.ref x70, .ref x72]) := upd_same
    generalize upd G72 u73 (.tup [.ref x70, .ref x72]) = G73 at *
    have hA1 := RuleAt.same t73 _ _ hA1
    have hA2 := RuleAt.same t73 _ _ hA2
    have hA3 := RuleAt.same t73 _ _ hA3
    have g70 := RuleAt.same t73 _ _ g70
    have g72 := RuleAt.same t73 _ _ g72
    have hP := pairs_same t73 hP
    have hL := t73 _ _ hL
    have s0 := Same.trans s0 t73
    clear t73
    have hP := pairs_add hP (e := (u73, x70, x72, (RT.op "turned" [(RT.op "merged" [ra, rb])]))) ⟨hu, g70, g72, (Fit.op1 (Fit.op2 fa fb fw_merged lw_merged) fw_turned lw_turned).mono (by decide) (by decide) (by decide)⟩
    clear hu n73
    refine ⟨L20, _, _, rfl, rfl, hL, by show 13 < sizeLine; decide, ?_⟩
    have kp : ∀ b o, G73 b = some o → (∀ xs, o ≠ .lst xs) → (upd G73 L20 (.lst ([.ref u3, .ref u6, .ref u9, .ref u13, .ref u18, .ref u25, .ref u31, .ref u37, .ref u43, .ref u49, .ref u55, .ref u61, .ref u67] ++ [.ref u73]))) b = some o := lst_keepR hL
    have hN : (upd G73 L20 (.lst ([.ref u3, .ref u6, .ref u9, .ref u13, .ref u18, .ref u25, .ref u31, .ref u37, .ref u43, .ref u49, .ref u55, .ref u61, .ref u67] ++ [.ref u73]))) L20 = some (.lst [.ref u3, .ref u6, .ref u9, .ref u13, .ref u18, .ref u25, .ref u31, .ref u37, .ref u43, .ref u49, .ref u55, .ref u61, .ref u67, .ref u73]) := upd_same
    have s0 : Same H (upd G73 L20 (.lst ([.ref u3, .ref u6, .ref u9, .ref u13, .ref u18, .ref u25, .ref u31, .ref u37, .ref u43, .ref u49, .ref u55, .ref u61, .ref u67] ++ [.ref u73]))) := Same.put s0 nL
    have hA1 := RuleAt.keep kp _ _ hA1
    have hA2 := RuleAt.keep kp _ _ hA2
    have hA3 := RuleAt.keep kp _ _ hA3
    have hP := pairs_keep kp hP
    clear hL kp
    generalize upd G73 L20 (.lst ([.ref u3, .ref u6, .ref u9, .ref u13, .ref u18, .ref u25, .ref u31, .ref u37, .ref u43, .ref u49, .ref u55, .ref u61, .ref u67] ++ [.ref u73])) = G74 at *
    have hL := hN
    clear hN
    refine ⟨_, rfl, _, rfl, _, rfl, bin_at fw_merged lw_merged hA1 hA2 fa fb n5 (by decide) fun x75 G75 t75 g75 => ?_⟩
    have hA1 := RuleAt.same t75 _ _ hA1
    have hA2 := RuleAt.same t75 _ _ hA2
    have hA3 := RuleAt.same t75 _ _ hA3
    have hP := pairs_same t75 hP
    have hL := t75 _ _ hL
    have s0 := Same.trans s0 t75
    clear t75
    refine ⟨_, rfl, inv_at hA3 fc n5 (by decide) fun x76 G76 t76 g76 => ?_⟩
    have hA1 := RuleAt.same t76 _ _ hA1
    have hA2 := RuleAt.same t76 _ _ hA2
    have hA3 := RuleAt.same t76 _ _ hA3
    have g75 := RuleAt.same t76 _ _ g75
    have hP := pairs_same t76 hP
    have hL := t76 _ _ hL
    have s0 := Same.trans s0 t76
    clear t76
    refine bin_at fw_kept lw_kept g75 g76 (Fit.op2 fa fb fw_merged lw_merged) (Fit.op1 fc fw_turned lw_turned) n5 (by decide) fun x77 G77 t77 g77 => ?_
    have hA1 := RuleAt.same t77 _ _ hA1
    have hA2 := RuleAt.same t77 _ _ hA2
    have hA3 := RuleAt.same t77 _ _ hA3
    have hP := pairs_same t77 hP
    have hL := t77 _ _ hL
    have s0 := Same.trans s0 t77
    clear t77
    refine ⟨_, rfl, _, rfl, [a1, a2], [ra, rb], rfl, rules2 hA1 hA2, wt_two fa fb (by decide), few_two n5 (Fit.bs fa) (Fit.bs fb), fun x78 G78 _ t78 g78 => ?_⟩
    have hA1 := RuleAt.same t78 _ _ hA1
    have hA2 := RuleAt.same t78 _ _ hA2
    have hA3 := RuleAt.same t78 _ _ hA3
    have g77 := RuleAt.same t78 _ _ g77
    have hP := pairs_same t78 hP
    have hL := t78 _ _ hL
    have s0 := Same.trans s0 t78
    clear t78
    refine ⟨_, rfl, rfl, [a3], [rc], rfl, rules1 hA3, wt_one fc (by decide), few_one n5 (Fit.bs fc), fun x79 G79 _ t79 g79 => ?_⟩
    have hA1 := RuleAt.same t79 _ _ hA1
    have hA2 := RuleAt.same t79 _ _ hA2
    have hA3 := RuleAt.same t79 _ _ hA3
    have g77 := RuleAt.same t79 _ _ g77
    have g78 := RuleAt.same t79 _ _ g78
    have hP := pairs_same t79 hP
    have hL := t79 _ _ hL
    have s0 := Same.trans s0 t79
    clear t79
    refine ⟨rfl, [x78, x79], [(RT.op "merged" [ra, rb]), (RT.op "turned" [rc])], rfl, rules2 g78 g79, wt_two (Fit.op2 fa fb fw_merged lw_merged) (Fit.op1 fc fw_turned lw_turned) (by decide), few_two n5 (Fit.bs (Fit.op2 fa fb fw_merged lw_merged)) (Fit.bs (Fit.op1 fc fw_turned lw_turned)), fun x80 G80 _ t80 g80 => ?_⟩
    have hA1 := RuleAt.same t80 _ _ hA1
    have hA2 := RuleAt.same t80 _ _ hA2
    have hA3 := RuleAt.same t80 _ _ hA3
    have g77 := RuleAt.same t80 _ _ g77
    have hP := pairs_same t80 hP
    have hL := t80 _ _ hL
    have s0 := Same.trans s0 t80
    clear t80
    refine ⟨by show 2 ≤ sizeLine; decide, fun u81 n81 => ?_⟩
    have t81 := Same.mk1 (o := .tup [.ref x77, .ref x80]) n81
    have hu : (upd G80 u81 (.tup [.ref x77, .ref x80])) u81 = some (.tup [.ref x77, .ref x80]) := upd_same
    generalize upd G80 u81 (.tup [.ref x77, .ref x80]) = G81 at *
    have hA1 := RuleAt.same t81 _ _ hA1
    have hA2 := RuleAt.same t81 _ _ hA2
    have hA3 := RuleAt.same t81 _ _ hA3
    have g77 := RuleAt.same t81 _ _ g77
    have g80 := RuleAt.same t81 _ _ g80
    have hP := pairs_same t81 hP
    have hL := t81 _ _ hL
    have s0 := Same.trans s0 t81
    clear t81
    have hP := pairs_add hP (e := (u81, x77, x80, (RT.op "kept" [(RT.op "merged" [ra, rb]), (RT.op "turned" [rc])]))) ⟨hu, g77, g80, (Fit.op2 (Fit.op2 fa fb fw_merged lw_merged) (Fit.op1 fc fw_turned lw_turned) fw_kept lw_kept).mono (by decide) (by decide) (by decide)⟩
    clear hu n81
    refine ⟨by show 1 ≤ sizeLine; decide, fun L82 n82 => ?_⟩
    have t82 := Same.mk1 (o := .lst [.ref u81]) n82
    have hM : (upd G81 L82 (.lst [.ref u81])) L82 = some (.lst [.ref u81]) := upd_same
    generalize upd G81 L82 (.lst [.ref u81]) = G82 at *
    have hA1 := RuleAt.same t82 _ _ hA1
    have hA2 := RuleAt.same t82 _ _ hA2
    have hA3 := RuleAt.same t82 _ _ hA3
    have hP := pairs_same t82 hP
    have hL := t82 _ _ hL
    have s0 := Same.trans s0 t82
    clear t82
    refine ⟨L20, L82, _, _, rfl, rfl, hL, hM, by show 15 ≤ sizeLine; decide, fun L83 n83 => ?_⟩
    have nL : H L83 = none := s0.free n83
    have t83 := Same.mk1 (o := .lst ([.ref u3, .ref u6, .ref u9, .ref u13, .ref u18, .ref u25, .ref u31, .ref u37, .ref u43, .ref u49, .ref u55, .ref u61, .ref u67, .ref u73] ++ [.ref u81])) n83
    have hN : (upd G82 L83 (.lst ([.ref u3, .ref u6, .ref u9, .ref u13, .ref u18, .ref u25, .ref u31, .ref u37, .ref u43, .ref u49, .ref u55, .ref u61, .ref u67, .ref u73] ++ [.ref u81]))) L83 = some (.lst [.ref u3, .ref u6, .ref u9, .ref u13, .ref u18, .ref u25, .ref u31, .ref u37, .ref u43, .ref u49, .ref u55, .ref u61, .ref u67, .ref u73, .ref u81]) := upd_same
    generalize upd G82 L83 (.lst ([.ref u3, .ref u6, .ref u9, .ref u13, .ref u18, .ref u25, .ref u31, .ref u37, .ref u43, .ref u49, .ref u55, .ref u61, .ref u67, .ref u73] ++ [.ref u81])) = G83 at *
    have hA1 := RuleAt.same t83 _ _ hA1
    have hA2 := RuleAt.same t83 _ _ hA2
    have hA3 := RuleAt.same t83 _ _ hA3
    have hP := pairs_same t83 hP
    have hL := t83 _ _ hL
    have s0 := Same.trans s0 t83
    clear t83
    have hL := hN
    clear hN hM n82 n83
    exact kk L83 _ _ (by exact hL) hP s0 rfl

open LamX hiding takes0
/-- the text of the rule that the lambda makes, or the limit -/
def TTout (C CT : Addr) : (XK → Hp → VK → Prop) → Hp → VK → Prop := fun tl H Q => ∀ G : VK, (∀ v H', (∃ (q : Addr) (r : RT), v = .ref q ∧ RuleAt C H' r q ∧ Q (.str r.text) H') → G v H') → tl (fun cls d H' => cls = .ref CT ∧ ∃ (dx : Addr) (v : V), d = some dx ∧ H' dx = some (.xd [("limit", v)]) ∧ Q v H') H G
theorem gives_law_too_many {X : Cx} (T : Txt X.K X.mg) (hr0 : Room 13 X.A) {g : Addr} {cdg : Value} {q : Str} : GivesTo X N_law_too_many "_law_too_many" (defScope s_law_too_many) g cdg (defBody s_law_too_many) "_law_deed" q (TTout T.C_Rule T.C_TooMany) := by
  intro f c' s H Q tl act hc h
  have hr := hr0.deeper (envOfC "_law_too_many" (defScope s_law_too_many) s.heap.objs.size g cdg)
  refine ⟨_, (pss_one (ps_try_as (i := 1) (Wout := fun _ _ _ _ => False) rfl rfl sc_law_too_many.nd rfl rfl ⟨rfl, by decide, .inl T.m_TooMany⟩ takes0
          (fun W pn xe tk _ => (pss_one (ps_ret (pe_callTy (call_strC T.om_Rule_str (ok_Rule_str T) (hr.mono (by decide)) T.b_Rule_str pass0) (by rfl) T.z_str (by decide +kernel) (pa_cons (pe_actW act tk) pa_nil)))))
          (fun a oe cls d pn hz hf => (pss_one (ps_ret (pe_xf T.x_TooMany.xf T.x_TooMany.nf hz hf (pv 1))))))), ?_⟩
  refine ⟨fun cls d H' => cls = .ref T.C_TooMany ∧ ∃ (dx : Addr) (v : V), d = some dx ∧ H' dx = some (.xd [("limit", v)]) ∧ Q v H', fun cls d σ' H' l2 e => ?_, rfl, hc, h _ fun v H' hg => ?_⟩
  · obtain ⟨rfl, dx, v, rfl, hd, kk⟩ := e
    obtain ⟨x0, x1, rfl⟩ : ∃ x0 x1, σ' = [x0, x1] := by
      match σ', l2 with
      | [x0, x1], _ => exact ⟨x0, x1, rfl⟩
    refine ⟨true, T.x_TooMany.ex, fun _ a na => ?_, fun z => nomatch z⟩
    exact ⟨_, rfl, rfl, rfl, dx, _, v, rfl, hd, rfl, kk⟩
  · obtain ⟨q, r, rfl, hA, kk⟩ := hg
    obtain ⟨_, _, dx, _, _, _, _, h1, _⟩ := hA.fields
    exact ⟨q, dx, _, rfl, h1, q, r, rfl, hA, _, rfl, kk⟩
theorem tm_many {C CT : Addr} {tl : XK → Hp → VK → Prop} {H : Hp} {Q : VK} (k : ∀ (G : VK) (E : XK), (∀ (d : Addr) (H' : Hp), Same H H' → H' d = some (.xd [("limit", .int 5)]) → E (.ref CT) (some d) H') → tl E H G) (hQ : ∀ H', Same H H' → Q (.int 5) H') : TTout C CT tl H Q :=
  fun G _ => k G _ fun d H' s hd => ⟨rfl, d, .int 5, rfl, hd, hQ H' s⟩
theorem tm_rule {C CT : Addr} {tl : XK → Hp → VK → Prop} {H : Hp} {Q : VK} {r : RT} (k : ∀ (G : VK) (E : XK), (∀ (a : Addr) (H' : Hp), Same H H' → RuleAt C H' r a → G (.ref a) H') → tl E H G) (hQ : ∀ H', Same H H' → Q (.str r.text) H') : TTout C CT tl H Q :=
  fun G hG => k G _ fun a H' s hA => hG _ _ ⟨a, r, rfl, hA, hQ H' s⟩

open LamX hiding takes0
def sp_law (K : PySem.W.Frag) (P : Addr) : Sp := fun vs H Q _ => ∃ (a : Addr) (ns : List Int), vs = [.ref a] ∧ SqL K H a (ns.map V.int) ∧ ns.length ≤ 63 ∧ H P = some (.tbl #[]) ∧ ∀ H', Q (.bl true) H'
abbrev lamQ (f c : Addr) : Str := (envOfC "law" (defScope s_law) 0 f (.ref c)).qual ++ "<lambda>"
theorem ExtN.seq {H H' : Hp} {a : Addr} {xs : List V} (e : ExtN H H') (h : SqL K H a xs) : SqL K H' a xs := by
  rcases h with (z | ⟨o, z⟩) | z
  · exact .inl (.inl (e _ _ z fun _ y => nomatch y))
  · exact .inl (.inr ⟨o, e _ _ z fun _ y => nomatch y⟩)
  · exact .inr z
/-- nothing but a table stands at p -/
def NoN (H : Hp) (p : Addr) : Prop := ∀ o, H p = some o → (∀ ps, o ≠ .tbl ps) → False
theorem ExtN.grN {H H1 H2 : Hp} {p : Addr} (e : ExtN H H1) (g : Gr p H1 H2) (hp : NoN H p) : ExtN H H2 := fun b o h n => g _ _ (fun z => hp o (z ▸ h) n) (e b o h n)
theorem good_over {ns ms : List Str} : ∀ {d : Nat} {r : RT}, RT.good ns d r → (∀ x ∈ r.bases, x ∈ ms) → RT.good ms d r
  | 0, .base n, _, s => s n (List.mem_singleton.mpr rfl)
  | d + 1, .base n, _, s => s n (List.mem_singleton.mpr rfl)
  | 0, .op _ _, h, _ => h.elim
  | d + 1, .op w ps, h, s => ⟨h.1, h.2.1, fun p hp => good_over (h.2.2 p hp) fun x hx => s x (basesL_mem.mpr ⟨p, hp, hx⟩)⟩
theorem nmZ_nm {x : Str} (h : nmZ x = true) : nmB x = true := (Bool.and_eq_true_iff.mp h).1
theorem nmZ_z {x : Str} (h : nmZ x = true) : x ≠ "zzz" := of_decide_eq_true (Bool.and_eq_true_iff.mp h).2
theorem inC_data {C a : Addr} {H : Hp} {r : RT} {y : V} {d : PyData} {b : Bool} {Q : VK} {E : XK} (hA : RuleAt C H r a) (hn : ∀ x ∈ r.bases, nmB x = true) (hd : Dp K H y d) (sd : SeqAt.shaped d = true) (hb : ∀ ns, NamesOk ns r.bases → ((ns.map PyData.str).any fun z => PyData.eqv z d) = b) (k : Q (.bl b) H) :
    rInC C false (sp_Rule_contains K C) E y (.ref a) H Q := by
  obtain ⟨_, _, dx, _, _, _, _, h1, _⟩ := hA.fields
  exact ⟨a, dx, _, rfl, h1, a, r, y, rfl, hA, hn, .inl ⟨d, hd, sd, fun ns hN => ⟨_, rfl, by rw [hb ns hN]; exact k⟩⟩⟩
theorem inC_rule {C a b : Addr} {H : Hp} {r q : RT} {Q : VK} {E : XK} (hA : RuleAt C H r a) (hn : ∀ x ∈ r.bases, nmB x = true) (hB : RuleAt C H q b) (k : Q (.bl false) H) : rInC C false (sp_Rule_contains K C) E (.ref b) (.ref a) H Q := by
  obtain ⟨_, _, dx, _, _, _, _, h1, _⟩ := hA.fields
  exact ⟨a, dx, _, rfl, h1, a, r, _, rfl, hA, hn, .inr ⟨b, q, rfl, hB, _, rfl, k⟩⟩
theorem any_str (x : Str) : ∀ ns : List Str, ((ns.map PyData.str).any fun z => PyData.eqv z (.str x)) = decide (x ∈ ns)
  | [] => by simp
  | a :: r => by
    rw [List.map_cons, List.any_cons, any_str x r]
    by_cases c : a = x
    · subst c
      simp [PyData.eqv]
    · have e : PyData.eqv (.str a) (.str x) = false := by simp [PyData.eqv, c]
      rw [e, Bool.false_or]
      by_cases m : x ∈ r
      · rw [decide_eq_true m, decide_eq_true (List.mem_cons_of_mem _ m)]
      · rw [decide_eq_false m, decide_eq_false fun z => (List.mem_cons.mp z).elim (fun e => c e.symm) m]
theorem any_no {d : PyData} (h : ∀ x : Str, PyData.eqv (.str x) d = false) (ns : List Str) : ((ns.map PyData.str).any fun z => PyData.eqv z d) = false := by
  rw [List.any_map]
  induction ns with
  | nil => rfl
  | cons a r ih => rw [List.any_cons, ih, Bool.or_false]; exact h a
theorem inV_strs (k : Str) (ks : List Str) : inV (.str k) (ks.map V.str) = decide (k ∈ ks) := by
  unfold inV
  rw [List.any_map]
  induction ks with
  | nil => rfl
  | cons a r ih =>
    rw [List.any_cons, ih]
    have e : (((fun y => eqV y (V.str k)) ∘ V.str) a) = decide (a = k) := by
      show eqV (.str a) (.str k) = decide (a = k)
      unfold eqV
      by_cases c : a = k
      · simp [c]
      · simp [c]
    rw [e]
    by_cases c : a = k
    · subst c
      simp
    · rw [decide_eq_false c, Bool.false_or]
      by_cases m : k ∈ r
      · rw [decide_eq_true m, decide_eq_true (List.mem_cons_of_mem _ m)]
      · rw [decide_eq_false m, decide_eq_false fun z => (List.mem_cons.mp z).elim (fun e => c e.symm) m]
theorem flatStrs (ks : List Str) : (ks.map V.str).all flatV = true := by
  rw [List.all_eq_true]
  intro v hv
  obtain ⟨k, _, rfl⟩ := List.mem_map.mp hv
  rfl
def boolsD (l : List Bool) : PyData := .list (l.map .bool)
theorem bools_dp {K : PySem.W.Frag} {H : Hp} {a : Addr} {l : List Bool} (h : SqL K H a (l.map V.bl)) : Dp K H (.ref a) (boolsD l) := .lst h (dps_map V.bl PyData.bool l fun k _ => .bl k)
theorem bools_eqv : ∀ l : List Bool, PyData.eqv (boolsD l) (boolsD l) = true := by
  intro l
  unfold boolsD
  rw [PyData.eqv]
  induction l with
  | nil => rfl
  | cons k r ih =>
    rw [List.map_cons, PyData.eqvAll, ih]
    simp [PyData.eqv]
theorem bools_shaped (l : List Bool) : SeqAt.shaped (boolsD l) = true := by
  have lay : ∀ l : List Bool, PyData.canLayAll0 (l.map .bool) = true := by
    intro l
    induction l with
    | nil => rfl
    | cons k r ih =>
      rw [List.map_cons, PyData.canLayAll0, ih]
      simp [PyData.canLay0]
  unfold SeqAt.shaped
  rw [Bool.and_eq_true]
  refine ⟨?_, ?_⟩
  · unfold boolsD
    rw [PyData.canLay0]
    exact lay l
  · have := depth_map PyData.bool 0 l fun k _ => Nat.le_refl _
    refine decide_eq_true ?_
    show PyData.depthAll _ + 1 ≤ 64
    omega
theorem nm_sign {x : Str} (h : nmB x = true) : ∀ c ∈ x.cps.toList, 97 ≤ c := by
  simp only [nmB, Bool.and_eq_true, List.all_eq_true, decide_eq_true_eq] at h
  exact fun c hc => (h.2 c hc).1
theorem not_gap (t : Str) : ¬ nmB (t ++ " ") = true := fun h => by
  have hm : 32 ∈ (t ++ " ").cps.toList := by
    show 32 ∈ (t.cps ++ (" " : Str).cps).toList
    rw [Array.toList_append]
    exact List.mem_append_right _ (by decide +kernel)
  have := nm_sign h 32 hm
  omega
theorem ok_app {a b : Str} (ha : PyData.strOk a = true) (hb : PyData.strOk b = true) : PyData.strOk (a ++ b) = true := by
  show (a.cps ++ b.cps).all _ = true
  rw [Array.all_append, Bool.and_eq_true]
  exact ⟨ha, hb⟩
theorem ok_join {sep : Str} (hs : PyData.strOk sep = true) : ∀ ts : List Str, (∀ t ∈ ts, PyData.strOk t = true) → PyData.strOk (Str.join sep ts) = true
  | [], _ => (by decide +kernel : PyData.strOk Str.empty = true)
  | [x], h => h x List.mem_cons_self
  | x :: y :: r, h => ok_app (ok_app (h x List.mem_cons_self) hs) (ok_join hs (y :: r) fun t ht => h t (List.mem_cons_of_mem _ ht))
theorem fitsW_ok {w : Str} {n : Nat} (h : fitsW w n) : PyData.strOk w = true := by
  rcases h with rfl | rfl | ⟨rfl | rfl, _⟩ | ⟨rfl | rfl | rfl | rfl, _⟩ <;> decide +kernel
mutual
theorem text_okF : ∀ r : RT, (∀ x ∈ r.bases, nmB x = true) → (∀ w ps, RT.op w ps ∈ r.subs → fitsW w ps.length) → PyData.strOk r.text = true
  | .base n, hb, _ => strOk_nm (hb n List.mem_cons_self)
  | .op w ps, hb, hf => by
    show PyData.strOk (w ++ "(" ++ PySem.Txt.join ", " (texts ps) ++ ")") = true
    refine ok_app (ok_app (ok_app (fitsW_ok (hf w ps (List.mem_append_right _ List.mem_cons_self))) (by decide +kernel)) ?_) (by decide +kernel)
    show PyData.strOk (PySem.Txt.join _ _) = true
    unfold PySem.Txt.join
    rw [StrLaws.glued_eq_join]
    exact ok_join (by decide +kernel) _ (texts_okF ps hb fun v qs h => hf v qs (List.mem_append_left _ h))
theorem texts_okF : ∀ ps : List RT, (∀ x ∈ basesL ps, nmB x = true) → (∀ w qs, RT.op w qs ∈ subsL ps → fitsW w qs.length) → ∀ t ∈ texts ps, PyData.strOk t = true
  | [], _, _, _, h => nomatch h
  | p :: r, hb, hf, t, ht => by
    rcases List.mem_cons.mp (show t ∈ p.text :: texts r from ht) with z | z
    · rw [z]
      exact text_okF p (fun x hx => hb x (List.mem_append_left _ hx)) fun v qs h => hf v qs (List.mem_append_left _ h)
    · exact texts_okF r (fun x hx => hb x (List.mem_append_right _ hx)) (fun v qs h => hf v qs (List.mem_append_right _ h)) t z
end
theorem str_shaped {z : Str} (h : PyData.strOk z = true) : SeqAt.shaped (.str z) = true := by
  simp [SeqAt.shaped, PyData.canLay0, h, PyData.depth]
theorem one_shaped {z : Str} (h : PyData.strOk z = true) : SeqAt.shaped (.list [.str z]) = true := by
  simp [SeqAt.shaped, PyData.canLay0, PyData.canLayAll0, h, PyData.depth, PyData.depthAll]
theorem one_shapedT {z : Str} (h : PyData.strOk z = true) : SeqAt.shaped (.tuple [.str z]) = true := by
  simp [SeqAt.shaped, PyData.canLay0, PyData.canLayAll0, h, PyData.depth, PyData.depthAll]
theorem ExtN.putn {H H' : Hp} {M : Addr} {o : HO} (e : ExtN H H') (n : NoN H M) : ExtN H (upd H' M o) := fun b u h k => by
  rw [upd_ne fun z => n u (by rw [← z]; exact h) k]
  exact e b u h k
theorem ExtN.newN {H H' : Hp} {M : Addr} (e : ExtN H H') (n : H' M = none) : NoN H M := fun o h k => by
  rw [e _ _ h k] at n
  cases n
theorem binX_many {C CT : Addr} {w : Str} {H : Hp} {a b : Addr} {r q : RT} {Q : VK} {E : XK} (h1 : RuleAt C H r a) (h2 : RuleAt C H q b) (hw : wts [r, q] ≤ 100000) (few : ∀ l : List Str, l.Nodup → (∀ x ∈ l, x ∈ basesL [r, q]) → l.length ≤ 60) (six : ∀ ns, NamesOk ns (basesL [r, q]) → 5 < ns.length)
    (k : ∀ (d : Addr) (H' : Hp), Same H H' → H' d = some (.xd [("limit", .int 5)]) → E (.ref CT) (some d) H') : rBin C (fun vs H Q E => vs.length = 2 ∧ sp_words C CT w vs H Q E) E (.ref a) (.ref b) H Q := by
  obtain ⟨_, _, dx, _, _, _, _, e1, _⟩ := h1.fields
  obtain ⟨_, _, dy, _, _, _, _, e2, _⟩ := h2.fields
  exact ⟨a, b, dx, dy, _, _, rfl, rfl, e1, e2, rfl, [a, b], [r, q], rfl, rules2 h1 h2, hw, few, fun ns hN => ⟨fun n5 => absurd (six ns hN) (by omega), fun _ d H' _ s hd => k d H' s hd⟩⟩
theorem binX_rule {C CT : Addr} {w : Str} {H : Hp} {a b : Addr} {r q : RT} {Q : VK} {E : XK} (h1 : RuleAt C H r a) (h2 : RuleAt C H q b) (hw : wts [r, q] ≤ 100000) (few : ∀ l : List Str, l.Nodup → (∀ x ∈ l, x ∈ basesL [r, q]) → l.length ≤ 5)
    (k : ∀ (c : Addr) (H' : Hp), Same H H' → RuleAt C H' (.op w [r, q]) c → Q (.ref c) H') : rBin C (fun vs H Q E => vs.length = 2 ∧ sp_words C CT w vs H Q E) E (.ref a) (.ref b) H Q := by
  obtain ⟨_, _, dx, _, _, _, _, e1, _⟩ := h1.fields
  obtain ⟨_, _, dy, _, _, _, _, e2, _⟩ := h2.fields
  exact ⟨a, b, dx, dy, _, _, rfl, rfl, e1, e2, rfl, [a, b], [r, q], rfl, rules2 h1 h2, hw, fun l nd s => Nat.le_trans (few l nd s) (by decide), fun ns hN => ⟨fun _ c H' _ s hA => ⟨c, rfl, k c H' s hA⟩, fun n5 => absurd (few ns hN.nd fun x hx => (hN.mem x).mp hx) (by omega)⟩⟩
/-- the rule of more and more names -/
def wideN (a0 : Str) (l : List Str) : Nat → RT
  | 0 => .base a0
  | m + 1 => .op "merged" [wideN a0 l m, .base (l.getD m "a")]
theorem fit_base {ns : List Str} {n : Str} (hn : ∀ x ∈ ns, nmB x = true) (h : n ∈ ns) : Fit ns 1 1 20 (.base n) := Fit.of_good (d := 0) hn h
theorem fit_wide {ns : List Str} {a0 : Str} {l : List Str} (hn : ∀ x ∈ ns, nmB x = true) (h0 : a0 ∈ ns) : ∀ m, (∀ i, i < m → l.getD i "a" ∈ ns) → Fit ns (2 * m + 1) (m + 1) (34 * m + 20) (wideN a0 l m)
  | 0, _ => fit_base hn h0
  | m + 1, h => (Fit.op2 (fit_wide hn h0 m fun i hi => h i (by omega)) (fit_base hn (h m (by omega))) fw_merged lw_merged).mono (by omega) (by omega) (by omega)
theorem ok_law_ {f_law c_law P_law : Addr} {d_law : FuncData} (F_law : FunC K "law" "law" s_law f_law c_law d_law) (T : Txt K mg) (TB : TabB base mg c_law P_law) : FnG P w K mg base CX0 14 f_law d_law ["_law_script"] (sp_law K P_law) := by
  refine okGC F_law sc_law (fun vs H Q E h => ?_) (fun A outer s H vs Q E hr hg h => ?_)
  · obtain ⟨a, ns, rfl, _⟩ := h
    rfl
  · obtain ⟨a, ns, rfl, hS, hl, hP, kk⟩ := h
    refine ⟨_, (pss_cons (ps_for PassesOwn.never rfl (pi_range1 rfl T.z_range (pa_cons (pe_callB (call_max2 rfl) (by rfl) T.z_max (by decide +kernel) (pa_cons pe_int (pa_cons (pe_callB (call_min2 rfl) (by rfl) T.z_min (by decide +kernel) (pa_cons pe_int (pa_cons (pe_callB call_len_seq (by rfl) T.z_len (by decide +kernel) (pa_cons (pv 0) pa_nil)) pa_nil))) pa_nil))) pa_nil)) (pg_name (i := 1) sc_law.nd rfl (.inr rfl))
          (pss_cons (ps_set (i := 2) sc_law.nd rfl (.inr rfl) (pe_call (ok_law_bag T) (hr.mono (by decide)) rfl T.m_law_bag T.F_law_bag.kp T.b_law_bag .nil pass0 (pa_cons (pv 0) (pa_cons (pv 1) pa_nil))))
          (pss_cons (ps_set (i := 3) sc_law.nd rfl (.inr rfl) (pe_call (ok_law_names T) (hr.mono (by decide)) rfl T.m_law_names T.F_law_names.kp T.b_law_names .nil pass0 (pa_cons (pv 2) (pa_cons pe_int pa_nil))))
          (pss_cons (ps_for PassesOwn.never rfl (pi_range1 rfl T.z_range (pa_cons pe_int pa_nil)) (pg_name (i := 4) sc_law.nd rfl (.inl rfl))
            (pss_cons (ps_setLc (i := 5) (own := [("_law_k", 6)]) (g := (gName 6)) (tt := tYes) rfl sc_law.nd rfl rfl (sw_true rfl rfl rfl (by decide +kernel)) (pi_range1 rfl T.z_range (pa_cons pe_int pa_nil)) (blkOk_by (own := [("_law_k", 6)]) (N := N_law) (sc := defScope s_law) (by decide +kernel)) (fun _ _ _ _ _ => (pg_name (i := 6) sc_law.nd rfl (.inl rfl))) (fun _ _ _ _ _ => pts_nil) (fun _ _ _ _ _ => (pe_call (ok_law_made T) (hr.mono (by decide)) rfl T.m_law_made T.F_law_made.kp T.b_law_made .nil pass0 (pa_cons (pe_call (ok_law_tree T) (hr.mono (by decide)) rfl T.m_law_tree T.F_law_tree.kp T.b_law_tree .nil pass0 (pa_cons (pv 2) (pa_cons (pe_slice (sl_list : SlR _ (rSlL K)) (pv 3) po_none (po_some (pe_op op_add pe_int (pe_call (ok_law_take T) (hr.mono (by decide)) rfl T.m_law_take T.F_law_take.kp T.b_law_take .nil pass0 (pa_cons (pv 2) (pa_cons pe_int pa_nil)))))) (pa_cons pe_int pa_nil)))) pa_nil))))
            (pss_cons (ps_set (i := 7) sc_law.nd rfl (.inl rfl) (pe_call (ok_law_tables T) (hr.mono (by decide)) rfl T.m_law_tables T.F_law_tables.kp T.b_law_tables .nil pass0 (pa_cons (pv 2) (pa_cons (pv 3) (pa_cons pe_int pa_nil)))))
            (pss_one (ps_for PassesOwn.never rfl (pi_list (pe_call (ok_law_pairs T) (hr.mono (by decide)) rfl T.m_law_pairs T.F_law_pairs.kp T.b_law_pairs .nil pass0 (pa_cons (pe_ix (ix_list : IxR _ (rIxL K)) (pv 5) pe_int (fun _ _ => rfl)) (pa_cons (pe_ix (ix_list : IxR _ (rIxL K)) (pv 5) pe_int (fun _ _ => rfl)) (pa_cons (pe_ix (ix_list : IxR _ (rIxL K)) (pv 5) pe_int (fun _ _ => rfl)) pa_nil))))) (pg_tup rfl (pgs_cons (pg_name (i := 8) sc_law.nd rfl (.inr rfl)) (pgs_cons (pg_name (i := 9) sc_law.nd rfl (.inr rfl)) pgs_nil)))
              (pss_cons (ps_if (pt_cut (PW.pt (pw_or (pt_cmpR (op_neC T.om_Rule_eq T.ne_Rule T.ic_Rule.hm (ok_Rule_eq T) (hr.mono (by decide)) T.b_Rule_eq pass0) (pv 8) (pv 9) (nomark _)) (pw_or1 (pt_cmpR op_ne (pe_callTy (call_strC T.om_Rule_str (ok_Rule_str T) (hr.mono (by decide)) T.b_Rule_str pass0) (by rfl) T.z_str (by decide +kernel) (pa_cons (pv 8) pa_nil)) (pe_callTy (call_strC T.om_Rule_str (ok_Rule_str T) (hr.mono (by decide)) T.b_Rule_str pass0) (by rfl) T.z_str (by decide +kernel) (pa_cons (pv 9) pa_nil)) (nomark _))))))
                (pss_one (ps_ret pe_bl))
                pss_nil)
              (pss_cons (ps_if (pt_not (pt_val (pe_callG (ok_law_same T) (hr.mono (by decide)) hg rfl T.m_law_same T.F_law_same.kp T.b_law_same .nil pass0 (pa_cons (pe_call (ok_evaluate T) (hr.mono (by decide)) rfl T.m_evaluate T.F_evaluate.kp T.b_evaluate .nil pass0 (pa_cons (pv 8) (pa_cons (pv 7) pa_nil))) (pa_cons (pe_call (ok_evaluate T) (hr.mono (by decide)) rfl T.m_evaluate T.F_evaluate.kp T.b_evaluate .nil pass0 (pa_cons (pv 9) (pa_cons (pv 7) pa_nil))) pa_nil)))))
                (pss_one (ps_ret pe_bl))
                pss_nil)
              (pss_cons (ps_set (i := 10) sc_law.nd rfl (.inl rfl) (pe_lst (pa_cons (pe_op op_add_str (pe_callTy (call_strC T.om_Rule_str (ok_Rule_str T) (hr.mono (by decide)) T.b_Rule_str pass0) (by rfl) T.z_str (by decide +kernel) (pa_cons (pv 8) pa_nil)) pe_str) (pa_cons (pv 8) (pa_cons pe_non (pa_cons pe_bl (pa_cons pe_int (pa_cons (pe_lst pa_nil) (pa_cons (pe_tup pa_nil) (pa_cons pe_str (pa_cons (pe_lst (pa_cons pe_str pa_nil)) pa_nil)))))))))))
              (pss_cons (ps_if (pt_cmpR (op_neD hr.units : OpR _ _ (rNeD K)) (pe_lc (own := [("_law_name", 11)]) (g := (gName 11)) (tt := tYes) rfl sc_law.nd (pi_list (pv 3)) (blkOk_by (own := [("_law_name", 11)]) (N := N_law) (sc := defScope s_law) (by decide +kernel)) (fun _ _ _ _ _ => (pg_name (i := 11) sc_law.nd rfl (.inl rfl))) (fun _ _ _ _ _ => pts_nil) (fun _ _ _ _ _ => (pe_cmpR (op_inC false T.om_Rule_contains (ok_Rule_contains T) (hr.mono (by decide)) T.b_Rule_contains pass0) (pv 11) (pv 8) (by rfl)))) (pe_lc (own := [("_law_name", 11)]) (g := (gName 11)) (tt := tYes) rfl sc_law.nd (pi_list (pv 3)) (blkOk_by (own := [("_law_name", 11)]) (N := N_law) (sc := defScope s_law) (by decide +kernel)) (fun _ _ _ _ _ => (pg_name (i := 11) sc_law.nd rfl (.inl rfl))) (fun _ _ _ _ _ => pts_nil) (fun _ _ _ _ _ => (pe_cmpR (op_in_seq : OpR _ _ (rIn K false)) (pv 11) (pe_prop (pv 9) T.cl_Rule T.pr_Rule_names (ok_Rule_names T) (hr.mono (by decide)) T.b_Rule_names .nil pass0 rfl) (by rfl)))) (nomark _))
                (pss_one (ps_ret pe_bl))
                pss_nil)
              (pss_cons (ps_if (pt_cmpR (op_neD hr.units : OpR _ _ (rNeD K)) (pe_lc (own := [("_law_thing", 12)]) (g := (gName 12)) (tt := tYes) rfl sc_law.nd (pi_list (pv 10)) (blkOk_by (own := [("_law_thing", 12)]) (N := N_law) (sc := defScope s_law) (by decide +kernel)) (fun _ _ _ _ _ => (pg_name (i := 12) sc_law.nd rfl (.inl rfl))) (fun _ _ _ _ _ => pts_nil) (fun _ _ _ _ _ => (pe_cmpR (op_inC false T.om_Rule_contains (ok_Rule_contains T) (hr.mono (by decide)) T.b_Rule_contains pass0) (pv 12) (pv 8) (by rfl)))) (pe_op op_rep (pe_lst (pa_cons pe_bl pa_nil)) pe_int) (nomark _))
                (pss_one (ps_ret pe_bl))
                pss_nil)
              (pss_one (ps_for PassesOwn.never rfl (pi_list (pv 3)) (pg_name (i := 11) sc_law.nd rfl (.inl rfl))
                (pss_one (ps_if (pt_cut (PW.pt (pw_or (pt_cmpR (op_inC false T.om_Rule_contains (ok_Rule_contains T) (hr.mono (by decide)) T.b_Rule_contains pass0) (pe_call (ok_base T) (hr.mono (by decide)) rfl T.m_base T.F_base.kp T.b_base .nil pass0 (pa_cons (pv 11) pa_nil)) (pv 8) (by rfl)) (pw_or (pt_cmpR (op_inC false T.om_Rule_contains (ok_Rule_contains T) (hr.mono (by decide)) T.b_Rule_contains pass0) (pe_tup (pa_cons (pv 11) pa_nil)) (pv 8) (by rfl)) (pw_or1 (pt_cmpR (op_inC false T.om_Rule_contains (ok_Rule_contains T) (hr.mono (by decide)) T.b_Rule_contains pass0) (pe_lst (pa_cons (pv 11) pa_nil)) (pv 8) (by rfl)))))))
                  (pss_one (ps_ret pe_bl))
                  pss_nil))))))))))))))
          (pss_cons (ps_set (i := 13) sc_law.nd rfl (.inr rfl) (pe_call (ok_base T) (hr.mono (by decide)) rfl T.m_base T.F_base.kp T.b_base .nil pass0 (pa_cons (pe_ix (ix_list : IxR _ (rIxL K)) (pv 3) pe_int (fun _ _ => rfl)) pa_nil)))
          (pss_cons (ps_for PassesOwn.never rfl (pi_list (pe_slice (sl_list : SlR _ (rSlL K)) (pv 3) (po_some pe_int) (po_some pe_int))) (pg_name (i := 11) sc_law.nd rfl (.inl rfl))
            (pss_one (ps_set (i := 13) sc_law.nd rfl (.inr rfl) (pe_op (op_orC T.om_Rule_or T.sf_Rule (ok_Rule_or0 T) (hr.mono (by decide)) T.b_Rule_or pass0) (pv 13) (pe_call (ok_base T) (hr.mono (by decide)) rfl T.m_base T.F_base.kp T.b_base .nil pass0 (pa_cons (pv 11) pa_nil))))))
          (pss_cons (ps_cut (ps_set (i := 14) sc_law.nd rfl (.inl rfl) (pe_lst (pa_cons (pe_lamF (k := 11) T.F_law_too_many T.m_law_too_many T.b_law_too_many sc_law_too_many rfl (.inl rfl) (fun _ => gives_law_too_many (X := (cxOf CX0 P w K mg base N_law "law" (defScope s_law) f_law (.ref c_law) A outer s H E).nox) T hr) TB rfl rfl hr (lamS_by (sc := defScope s_law) (by decide +kernel)) rfl (fun _ _ _ _ _ => rfl) (fun _ _ _ _ _ _ _ hr => (pe_op (op_orC T.om_Rule_or T.sf_Rule (ok_Rule_or T) (hr.mono (by decide)) T.b_Rule_or (passE rfl rfl rfl rfl)) (pv 13) (pe_call (ok_base T) (hr.mono (by decide)) rfl T.m_base T.F_base.kp T.b_base .nil pass0 (pa_cons (pe_ix (ix_list : IxR _ (rIxL K)) (pv 3) pe_int (fun _ _ => rfl)) pa_nil))))) pa_nil))))
          (pss_cons (ps_expr (pe_bm PySem.F.plainAttrs_list PySem.F.slot_list_append PySem.F.type_list_append mt_append (pv 14) (pa_cons (pe_lamF (k := 11) T.F_law_too_many T.m_law_too_many T.b_law_too_many sc_law_too_many rfl (.inl rfl) (fun _ => gives_law_too_many (X := (cxOf CX0 P w K mg base N_law "law" (defScope s_law) f_law (.ref c_law) A outer s H E).nox) T hr) TB rfl rfl hr (lamS_by (sc := defScope s_law) (by decide +kernel)) rfl (fun _ _ _ _ _ => rfl) (fun _ _ _ _ _ _ _ hr => (pe_op (op_subC T.om_Rule_sub T.sf_Rule (ok_Rule_sub T) (hr.mono (by decide)) T.b_Rule_sub (passE rfl rfl rfl rfl)) (pe_call (ok_base T) (hr.mono (by decide)) rfl T.m_base T.F_base.kp T.b_base .nil pass0 (pa_cons (pe_ix (ix_list : IxR _ (rIxL K)) (pv 3) pe_int (fun _ _ => rfl)) pa_nil)) (pv 13)))) pa_nil)))
          (pss_cons (ps_expr (pe_bm PySem.F.plainAttrs_list PySem.F.slot_list_append PySem.F.type_list_append mt_append (pv 14) (pa_cons (pe_lamF (k := 11) T.F_law_too_many T.m_law_too_many T.b_law_too_many sc_law_too_many rfl (.inl rfl) (fun _ => gives_law_too_many (X := (cxOf CX0 P w K mg base N_law "law" (defScope s_law) f_law (.ref c_law) A outer s H E).nox) T hr) TB rfl rfl hr (lamS_by (sc := defScope s_law) (by decide +kernel)) rfl (fun _ _ _ _ _ => rfl) (fun _ _ _ _ _ _ _ hr => (pe_op (op_andC T.om_Rule_and T.sf_Rule (ok_Rule_and T) (hr.mono (by decide)) T.b_Rule_and (passE rfl rfl rfl rfl)) (pv 13) (pe_call (ok_base T) (hr.mono (by decide)) rfl T.m_base T.F_base.kp T.b_base .nil pass0 (pa_cons (pe_ix (ix_list : IxR _ (rIxL K)) (pv 3) pe_int (fun _ _ => rfl)) pa_nil))))) pa_nil)))
          (pss_cons (ps_expr (pe_bm PySem.F.plainAttrs_list PySem.F.slot_list_append PySem.F.type_list_append mt_append (pv 14) (pa_cons (pe_lamF (k := 11) T.F_law_too_many T.m_law_too_many T.b_law_too_many sc_law_too_many rfl (.inl rfl) (fun _ => gives_law_too_many (X := (cxOf CX0 P w K mg base N_law "law" (defScope s_law) f_law (.ref c_law) A outer s H E).nox) T hr) TB rfl rfl hr (lamS_by (sc := defScope s_law) (by decide +kernel)) rfl (fun _ _ _ _ _ => rfl) (fun _ _ _ _ _ _ _ hr => (pe_op (op_subC T.om_Rule_sub T.sf_Rule (ok_Rule_sub T) (hr.mono (by decide)) T.b_Rule_sub (passE rfl rfl rfl rfl)) (pv 13) (pe_call (ok_base T) (hr.mono (by decide)) rfl T.m_base T.F_base.kp T.b_base .nil pass0 (pa_cons (pe_ix (ix_list : IxR _ (rIxL K)) (pv 3) (pe_op op_mod (pv 1) pe_int) (fun _ _ => rfl)) pa_nil))))) pa_nil)))
          (pss_one (ps_if (pt_cut (PW.pt (pw_or (pt_cmpR op_ne (pe_callB (call_repr hr hg) (by rfl) T.z_repr (by decide +kernel) (pa_cons (pe_slice (sl_list : SlR _ (rSlL K)) (pv 14) po_none (po_some pe_int)) pa_nil)) pe_str (nomark _)) (pw_or1 (pt_cmpR (op_neD hr.units : OpR _ _ (rNeD K)) (pe_ix (ix_list : IxR _ (rIxL K)) (pv 14) pe_int (fun _ _ => rfl)) (pe_callTy (call_strC T.om_Rule_str (ok_Rule_str T) (hr.mono (by decide)) T.b_Rule_str pass0) (by rfl) T.z_str (by decide +kernel) (pa_cons (pe_call (ok_without0 T) (hr.mono (by decide)) rfl T.m_without T.F_without.kp T.b_without .nil pass0 (pa_cons (pv 13) (pa_cons (pe_call (ok_base T) (hr.mono (by decide)) rfl T.m_base T.F_base.kp T.b_base .nil pass0 (pa_cons (pe_ix (ix_list : IxR _ (rIxL K)) (pv 3) (pe_op op_mod (pv 1) pe_int) (fun _ _ => rfl)) pa_nil)) pa_nil))) pa_nil)) (nomark _))))))
            (pss_one (ps_ret pe_bl))
            pss_nil))))))))))))
        (pss_cons (ps_if (pt_cut (PW.pt (pw_or (pt_cmpR (op_inC false T.om_Rule_contains (ok_Rule_contains T) (hr.mono (by decide)) T.b_Rule_contains pass0) (pe_call (ok_base T) (hr.mono (by decide)) rfl T.m_base T.F_base.kp T.b_base .nil pass0 (pa_cons pe_str pa_nil)) (pe_call (ok_base T) (hr.mono (by decide)) rfl T.m_base T.F_base.kp T.b_base .nil pass0 (pa_cons pe_str pa_nil)) (by rfl)) (pw_or1 (pt_cmpR (op_inC false T.om_Rule_contains (ok_Rule_contains T) (hr.mono (by decide)) T.b_Rule_contains pass0) (pe_call (ok_base T) (hr.mono (by decide)) rfl T.m_base T.F_base.kp T.b_base .nil pass0 (pa_cons pe_str pa_nil)) (pe_callR (ok_merged0 T) (hr.mono (by decide)) rfl T.m_merged T.F_merged.kp pass0 (pa_cons (pe_call (ok_base T) (hr.mono (by decide)) rfl T.m_base T.F_base.kp T.b_base .nil pass0 (pa_cons pe_str pa_nil)) pa_nil)) (by rfl))))))
          (pss_one (ps_ret pe_bl))
          pss_nil)
        (pss_one (ps_ret (pe_cut (pe_and (pe_cmpR (op_inB (eqB_own T.om_Rule_eq T.od_Rule (ok_Rule_eq T) (hr.mono (by decide)) T.b_Rule_eq pass0) true) (pe_call (ok_base T) (hr.mono (by decide)) rfl T.m_base T.F_base.kp T.b_base .nil pass0 (pa_cons pe_str pa_nil)) (pe_lst (pa_cons (pe_call (ok_base T) (hr.mono (by decide)) rfl T.m_base T.F_base.kp T.b_base .nil pass0 (pa_cons pe_str pa_nil)) pa_nil)) (by rfl)) (pe_and (pe_cmpR op_is_bl (pe_cmpR (op_inC false T.om_Rule_contains (ok_Rule_contains T) (hr.mono (by decide)) T.b_Rule_contains pass0) pe_str (pe_call (ok_base T) (hr.mono (by decide)) rfl T.m_base T.F_base.kp T.b_base .nil pass0 (pa_cons pe_str pa_nil)) (by rfl)) pe_bl (nomark _)) (pe_one (pe_cmpR op_is_bl (pe_cmpR (op_inC false T.om_Rule_contains (ok_Rule_contains T) (hr.mono (by decide)) T.b_Rule_contains pass0) pe_str (pe_callR0 (ok_merged0 T) (hr.mono (by decide)) rfl T.m_merged T.F_merged.kp pass0) (by rfl)) pe_bl (nomark _)))))))))), ?_⟩
    have yes : ∀ {c : Bool} {a b : Prop}, c = true → a → if c = true then a else b := fun h q => by rw [if_pos h]; exact q
    have no : ∀ {c : Bool} {a b : Prop}, c = false → b → if c = true then a else b := fun h q => by rw [h]; exact iteF q
    have hT0 : Tabs [(P_law, lamQ f_law c_law)] H := fun z hz => by
      rw [List.mem_singleton.mp hz]
      exact TabS.nil hP
    obtain ⟨mx, hmx, m0, m1⟩ : ∃ mx : Int, mx = (if (if (((ns.map V.int).length : Nat) : Int) < 5 then (((ns.map V.int).length : Nat) : Int) else 5) > 2 then (if (((ns.map V.int).length : Nat) : Int) < 5 then (((ns.map V.int).length : Nat) : Int) else 5) else 2) ∧ 0 ≤ mx ∧ mx ≤ 5 := ⟨_, rfl, by split <;> split <;> omega, by split <;> split <;> omega⟩
    refine ⟨_, rfl, a, _, rfl, .inl hS, _, _, rfl, _, _, rfl, ?_⟩
    rw [← hmx]
    refine ⟨mx, rfl, by omega, by omega, ?_⟩
    refine for_range (lo := 0) (n := mx.toNat) (fun i σ H2 => ∃ v1 v2 v3 v4 v5 v6 v7 v8 v9 v10 v11 v12 v13 v14 : Option V, σ = [some (.ref a), v1, v2, v3, v4, v5, v6, v7, v8, v9, v10, v11, v12, v13, v14] ∧ ExtN H H2 ∧ Tabs [(P_law, lamQ f_law c_law)] H2)
      ⟨_, _, _, _, _, _, _, _, _, _, _, _, _, _, rfl, ExtN.refl H, hT0⟩ ?_ ?_
    · rintro ii σ H1 hii ⟨v1, v2, v3, v4, v5, v6, v7, v8, v9, v10, v11, v12, v13, v14, rfl, e1, T1⟩
      refine ⟨_, rfl, _, rfl, a, ns, _, rfl, ExtN.seq e1 hS, by omega, by omega, fun p H2 hp s2 B2 => ?_⟩
      have e2 : ExtN H H2 := ExtN.same e1 s2
      have T2 := Tabs.keep T1 fun b o h _ => s2 b o h
      have hp0 : NoN H p := fun o z n => by
        have := e1 _ _ z n
        rw [hp] at this
        cases this
      refine ⟨_, rfl, p, 6, 0, rfl, by decide, by decide, B2, by omega, fun q nms H5 hnm hlen nq hq g5 B5 => ?_⟩
      obtain ⟨hnd, hnZ⟩ : nms.Nodup ∧ ∀ x ∈ nms, nmZ x = true := by
        simp only [namesB, Bool.and_eq_true, decide_eq_true_eq, List.all_eq_true] at hnm
        exact hnm
      have hn : ∀ x ∈ nms, nmB x = true := fun x hx => nmZ_nm (hnZ x hx)
      have hqp : q ≠ p := B2.ne nq
      have e5 : ExtN H H5 := ExtN.grN e2 g5 hp0
      have T5 := Tabs.keep T2 (bag_keep B2 g5)
      have n6 : nms.length = 6 := by omega
      clear hnm hlen T2 e2 T1 e1 s2 hT0
      refine ⟨3, rfl, by decide, by decide, ?_⟩
      refine for_range (lo := 0) (n := 3) (fun j σ H3 => ∃ v4 v5 v6 v7 v8 v9 v10 v11 v12 v13 v14 : Option V, σ = [some (.ref a), some (.int (0 + (ii : Int))), some (.ref p), some (.ref q), v4, v5, v6, v7, v8, v9, v10, v11, v12, v13, v14] ∧ Gr p H5 H3 ∧ H3 q = some (.lst (nms.map V.str)) ∧ Bag H3 p (10 + 3000 * j))
        ⟨_, _, _, _, _, _, _, _, _, _, _, rfl, fun _ _ _ z => z, hq, B5.mono (by omega)⟩ ?_ ?_
      · rintro j σ H3 hj ⟨v4, v5, v6, v7, v8, v9, v10, v11, v12, v13, v14, rfl, g3, q3, B3⟩
        -- the rules
        refine ⟨3, rfl, by decide, by decide, fun D nD => ?_⟩
        have Dp := B3.ne nD
        have sD := Same.mk1 (o := .lst []) nD
        refine lc_it (walk_range (lo := 0) (n := 3)) (fun k H6 => ∃ (xs : List Addr) (rs : List RT), H6 D = some (.lst (xs.map V.ref)) ∧ RulesAt T.C_Rule H6 rs xs ∧ rs.length = k ∧ (∀ r ∈ rs, RT.good (nms.take 3) 1 r) ∧ Gr p H3 H6 ∧ Bag H6 p (10 + 3000 * j + 20 * k))
          ⟨[], [], upd_same, rfl, rfl, (fun _ h => nomatch h), Gr.same sD, (B3.grow sD).mono (by omega)⟩ (fun _ _ _ _ => True.intro) ?_ ?_
        · rintro k x H6 H6' hk ⟨xs, rs, hD6, hR6, hk6, hg6, g6, B6⟩ ⟨rfl, rfl⟩
          refine ⟨rfl, ?_⟩
          have q6 := g6 _ _ hqp q3
          refine ⟨_, rfl, _, rfl, _, rfl, p, 3, _, rfl, by decide, by decide, B6, by omega, fun r H7 r0 r1 B7 g7 => ?_⟩
          have q7 := g7 _ _ hqp q6
          refine ⟨_, _, rfl, rfl, _, rfl, q, _, rfl, SqL.of q7, fun sl nsl => ?_⟩
          rw [show cutV (nms.map V.str) none (some (1 + r)) = (nms.take (1 + r).toNat).map V.str from by rw [cut_to (by omega), List.map_take]] at *
          have ssl := Same.mk1 (o := .lst ((nms.take (1 + r).toNat).map V.str)) nsl
          have slp := B7.ne nsl
          have ntk : nms.take (1 + r).toNat ≠ [] := fun z => by
            have := congrArg List.length z
            rw [List.length_take] at this
            have : ([] : List Str).length = 0 := rfl
            omega
          have tk3 : (nms.take (1 + r).toNat).length ≤ 3 := by
            rw [List.length_take]
            omega
          have sub3 : ∀ x ∈ nms.take (1 + r).toNat, x ∈ nms.take 3 := fun x h => by
            have e : nms.take (1 + r).toNat = (nms.take 3).take (1 + r).toNat := by rw [List.take_take, Nat.min_eq_left (by omega)]
            rw [e] at h
            exact List.mem_of_mem_take h
          generalize nms.take (1 + r).toNat = ns4 at *
          refine ⟨1, by decide, p, sl, ns4, _, rfl, SqL.of upd_same, slp, ntk, by omega, B7.grow ssl, (by show 10 + 3000 * j + 20 * k + 1 + 8 ≤ _; omega), fun t0 tr H8 hT8 hg8 g8 B8 => ?_⟩
          have hn4 : ∀ n ∈ ns4, nmB n = true := fun n h => hn n (List.mem_of_mem_take (sub3 n h))
          refine ⟨ns4, t0, tr, rfl, hT8, good_le (by decide) hg8, hn4, by omega, by decide, fun x H9 nx s9 hA => ?_⟩
          have g69 := (g7.trans (Gr.same ssl)).trans (g8.trans (Gr.same s9))
          have hD9 := g69 _ _ Dp hD6
          refine ⟨xs.map V.ref, hD9, (by rw [List.length_map, hR6.len, sizeLine_eq]; omega), xs ++ [x], rs ++ [tr], (by rw [upd_same, List.map_append]; rfl), (RulesAt.keep (lst_keepR hD9) _ _ (RulesAt.keep (bag_keep B6 g69) _ _ hR6)).append (.one (RuleAt.keep (lst_keepR hD9) _ _ hA)), (by rw [List.length_append, hk6]; rfl), fun t ht => ?_, (g6.trans g69).put nD, ((B8.grow s9).put Dp.symm).mono (by show 10 + 3000 * j + 20 * k + 1 + 8 ≤ _; omega)⟩
          rcases List.mem_append.mp ht with z | z
          · exact hg6 t z
          · rw [List.mem_singleton.mp z]
            exact good_over hg8 fun x hx => sub3 x (good_bases hg8 x hx)
        rintro H6 ⟨xs, rs, hD6, hR6, hk6, hg6, g6, B6⟩
        have q6 := g6 _ _ hqp q3
        obtain ⟨ra, rb, rc, rfl⟩ : ∃ ra rb rc, rs = [ra, rb, rc] := by
          match rs, hk6 with
          | [ra, rb, rc], _ => exact ⟨ra, rb, rc, rfl⟩
        obtain ⟨x1, _, rfl, hA1, x2, _, rfl, hA2, x3, _, rfl, hA3, rfl⟩ := hR6
        have hn3 : ∀ x ∈ nms.take 3, nmB x = true := fun x hx => hn x (List.mem_of_mem_take hx)
        have len3 : (nms.take 3).length ≤ 5 := by
          rw [List.length_take]
          omega
        have fa : Fit (nms.take 3) 4 3 86 ra := Fit.of_good hn3 (hg6 ra (.head _))
        have fb : Fit (nms.take 3) 4 3 86 rb := Fit.of_good hn3 (hg6 rb (.tail _ (.head _)))
        have fc : Fit (nms.take 3) 4 3 86 rc := Fit.of_good hn3 (hg6 rc (.tail _ (.tail _ (.head _))))
        -- the tables
        refine ⟨_, rfl, _, rfl, p, q, nms, 6, _, rfl, SqL.of q6, hqp, hnd, by omega, by decide, by decide, B6, by omega, fun d0 sh H7 nd0 hSh hnames hok0 g7 B7 => ?_⟩
        have hok : ∀ s ∈ sh, TabOk s.2.2 := fun s hs => (hok0 s hs).2.1
        have hln : ∀ s ∈ sh, s.2.2.length ≤ 6 := fun s hs => by
          have := (hok0 s hs).2.2
          omega
        have hin : ∀ n ∈ nms.take 3, n ∈ sh.map (·.1) := fun n hn => by rw [hnames]; exact List.mem_of_mem_take hn
        have k7 := bag_keep B6 g7
        have hA17 := RuleAt.keep k7 _ _ hA1
        have hA27 := RuleAt.keep k7 _ _ hA2
        have hA37 := RuleAt.keep k7 _ _ hA3
        have hD7 := g7 _ _ Dp hD6
        refine ⟨_, rfl, D, _, 0, .ref x1, rfl, rfl, SqL.of hD7, atI_nat (j := 0) rfl, _, rfl, D, _, 1, .ref x2, rfl, rfl, SqL.of hD7, atI_nat (j := 1) rfl, _, rfl, D, _, 2, .ref x3, rfl, rfl, SqL.of hD7, atI_nat (j := 2) rfl, x1, x2, x3, ra, rb, rc, nms.take 3, rfl, hA17, hA27, hA37, fa, fb, fc, len3, fun L es HA hL hPs sA l15 => ?_⟩
        have gA : Gr p H3 HA := g6.trans (g7.trans (Gr.same sA))
        have BA := B7.grow sA
        have qA := gA _ _ hqp q3
        have hShA := sheets_same hSh sA
        clear hA17 hA27 hA37 hA1 hA2 hA3 k7 hok0 nd0 hSh hD7 hD6 hg6 fa fb fc g7 B7 g6 B6 q6 sA Dp nD sD
        refine ⟨L, rfl, ⟨_, SqL.of hL⟩, ?_⟩
        refine for_it (walk_list (K := K) (a := L) (xs := es.map fun e => V.ref e.1)) (fun k σ HB => ∃ v8 v9 v10 v11 v12 : Option V, σ = [some (.ref a), some (.int (0 + (ii : Int))), some (.ref p), some (.ref q), some (.int (0 + (j : Int))), some (.ref D), v6, some (.ref d0), v8, v9, v10, v11, v12, v13, v14] ∧ Same HA HB)
          ⟨_, _, _, _, _, rfl, Same.refl HA⟩ (fun k σ HB _ ⟨_, _, _, _, _, _, s⟩ => SqL.of (s _ _ hL)) ?_ ?_
        · rintro k v σ Hx HB hk ⟨v8, v9, v10, v11, v12, rfl, sB⟩ ⟨rfl, hv⟩
          obtain ⟨e, he, rfl⟩ := getElem?_map' hv
          obtain ⟨hT, hX, hY, fr⟩ := pairs_same sB hPs e (List.mem_of_getElem? he)
          obtain ⟨tt, x, y, r⟩ := e
          dsimp only at hT hX hY fr
          have hShB := sheets_same hShA sB
          have qB := sB _ _ qA
          obtain ⟨_, _, dx, _, _, _, _, ex1, _⟩ := hX.fields
          obtain ⟨_, _, dy, _, _, _, _, ey1, _⟩ := hY.fields
          have hnm : ∀ n ∈ r.bases, nmB n = true := fun n hx => hn3 n (fr.bs n hx)
          have wr := fr.wt
          have tle := r.text_le
          refine ⟨tt, _, rfl, SqT.of hT, rfl, _, _, rfl, _, _, rfl, rfl, ?_⟩
          refine ⟨fun c H' => c = false ∧ HB = H', ?_, ?_⟩
          · refine ⟨_, rfl, _, rfl, x, y, dx, dy, _, _, rfl, rfl, ex1, ey1, .inl ⟨x, y, r, r, rfl, hX, hY, _, rfl, ?_⟩⟩
            refine ⟨_, rfl, no (by rw [decide_eq_true rfl]; rfl) ?_⟩
            refine ⟨_, rfl, x, dx, _, rfl, ex1, x, r, rfl, hX, _, rfl, _, rfl, y, dy, _, rfl, ey1, y, r, rfl, hY, _, rfl, ?_⟩
            exact ⟨rfl, _, rfl, by rw [decide_eq_true rfl]; rfl, rfl⟩
          rintro c H' ⟨rfl, rfl⟩
          refine iteF ?_
          -- the results
          obtain ⟨e1, e2, e3, e4, e5⟩ := fr.eval 6 (by decide) (by decide) hin hln
          obtain ⟨okL, leL⟩ := fr.ans hok hln
          refine ⟨_, rfl, _, rfl, x, d0, r, sh, rfl, hX, hShB, e1, e2, e3, e4, hok, e5, fun qa H13 hqa s13 => ?_⟩
          refine ⟨_, rfl, _, rfl, y, d0, r, sh, rfl, RuleAt.same s13 _ _ hY, sheets_same hShB s13, e1, e2, e3, e4, hok, e5, fun qb H14 hqb s14 => ?_⟩
          refine ⟨qa, qb, _, rfl, s14 _ _ hqa, hqb, okL, by omega, fun H15 s15 => ?_⟩
          refine ⟨true, rfl, iteF ?_⟩
          have s5 := s13.trans (s14.trans (show Same H14 H15 from s15))
          have hX5 := RuleAt.same s5 _ _ hX
          have ex5 := s5 _ _ ex1
          have sC := sB.trans s5
          -- the other things
          refine ⟨_, rfl, x, dx, _, rfl, ex5, x, r, rfl, hX5, _, rfl, r.text, " ", rfl, rfl, (by have z : ((" " : String) : Str).length = 1 := rfl; rw [z, sizeLine_eq]; omega), ?_⟩
          refine ⟨_, rfl, by show 0 ≤ sizeLine; decide, fun l0 n0 => ⟨by show 0 ≤ sizeLine; decide, fun u0 m0 => ⟨by show 1 ≤ sizeLine; decide, fun l1 n1 => ⟨by show 9 ≤ sizeLine; decide, fun O nO => ?_⟩⟩⟩⟩
          have t1 := Same.mk1 (o := .lst []) n0
          have t2 := Same.mk1 (o := .tup []) m0
          have t3 := Same.mk1 (o := .lst [.str "a"]) n1
          obtain ⟨things, hth⟩ : ∃ things : List V, things = [.str (r.text ++ " "), .ref x, .non, .bl true, .int 0, .ref l0, .ref u0, .str "zzz", .ref l1] := ⟨_, rfl⟩
          rw [← hth]
          have t4 := Same.mk1 (o := .lst things) nO
          have el0 := t4 _ _ (t3 _ _ (t2 _ _ (upd_same (H := H15) (a := l0) (o := .lst []))))
          have eu0 := t4 _ _ (t3 _ _ (upd_same (H := upd H15 l0 (.lst [])) (a := u0) (o := .tup [])))
          have el1 := t4 _ _ (upd_same (H := upd (upd H15 l0 (.lst [])) u0 (.tup [])) (a := l1) (o := .lst [.str "a"]))
          have eO : (upd (upd (upd (upd H15 l0 (.lst [])) u0 (.tup [])) l1 (.lst [.str "a"])) O (.lst things)) O = some (.lst things) := upd_same
          have t5 := t1.trans (t2.trans (t3.trans t4))
          revert el0 eu0 el1 eO t5
          generalize upd (upd (upd (upd H15 l0 (.lst [])) u0 (.tup [])) l1 (.lst [.str "a"])) O (.lst things) = HE
          intro el0 eu0 el1 eO t5
          clear t1 t2 t3 t4 n0 m0 n1 nO
          have sE := sC.trans t5
          have hXE := RuleAt.same t5 _ _ hX5
          have hYE := RuleAt.same (s5.trans t5) _ _ hY
          have qE := sE _ _ qA
          have names : ∀ ns, NamesOk ns r.bases → ∀ n, decide (n ∈ ns) = decide (n ∈ r.bases) := fun ns hN n => decide_eq_decide.mpr (hN.mem n)
          have zz : ("zzz" : Str) ∉ r.bases := fun h => nmZ_z (hnZ _ (List.mem_of_mem_take (fr.bs _ h))) rfl
          have odd : ∀ v ∈ things, (∃ d, Dp K HE v d ∧ SeqAt.shaped d = true ∧ ∀ ns, NamesOk ns r.bases → ((ns.map PyData.str).any fun z => PyData.eqv z d) = false) ∨ v = .ref x := by
            intro v hv
            rw [hth] at hv
            simp only [List.mem_cons, List.not_mem_nil, or_false] at hv
            rcases hv with rfl | rfl | rfl | rfl | rfl | rfl | rfl | rfl | rfl
            · refine .inl ⟨_, .str _, ?_, fun ns hN => ?_⟩
              · exact str_shaped (ok_app (text_okF r hnm fr.fine.fits) (by decide +kernel))
              · rw [any_str, names ns hN]
                exact decide_eq_false fun h => not_gap _ (hnm _ h)
            · exact .inr rfl
            · exact .inl ⟨_, .non, by decide +kernel, fun ns _ => any_no (fun x => by simp [PyData.eqv]) ns⟩
            · exact .inl ⟨_, .bl _, by decide +kernel, fun ns _ => any_no (fun x => by simp [PyData.eqv]) ns⟩
            · exact .inl ⟨_, .int _, by decide +kernel, fun ns _ => any_no (fun x => by simp [PyData.eqv]) ns⟩
            · exact .inl ⟨.list [], .lst (SqL.of el0) .nil, by decide +kernel, fun ns _ => any_no (fun x => by simp [PyData.eqv]) ns⟩
            · exact .inl ⟨.tuple [], .tup (SqT.of eu0) .nil, by decide +kernel, fun ns _ => any_no (fun x => by simp [PyData.eqv]) ns⟩
            · refine .inl ⟨_, .str _, by decide +kernel, fun ns hN => ?_⟩
              rw [any_str, names ns hN]
              exact decide_eq_false zz
            · exact .inl ⟨.list [.str "a"], .lst (SqL.of el1) (.cons (.str _) .nil), by decide +kernel, fun ns _ => any_no (fun x => by simp [PyData.eqv]) ns⟩
          have lth : things.length = 9 := by rw [hth]; rfl
          clear hth el0 eu0 el1 sC s5 hX5 ex5 hqa hqb s13 s14 s15 hX hY ex1 ey1 qB hShB e1 e2 e3 e4 e5 okL leL zz
          -- the names in it
          refine ⟨_, rfl, q, rfl, ⟨_, SqL.of qE⟩, fun F nF => ?_⟩
          refine lc_it (walk_list (K := K) (a := q) (xs := nms.map V.str)) (fun m HF => HF F = some (.lst (((nms.take m).map fun n => decide (n ∈ r.bases)).map V.bl)) ∧ Same HE HF)
            ⟨upd_same, Same.mk1 nF⟩ (fun m HF _ ⟨_, s⟩ => SqL.of (s _ _ qE)) ?_ ?_
          · rintro m w HF HG hm ⟨hF, sF⟩ ⟨rfl, hw⟩
            obtain ⟨n, hn', rfl⟩ := getElem?_map' hw
            have nmn := hn n (List.mem_of_getElem? hn')
            refine ⟨rfl, ?_⟩
            refine ⟨_, rfl, _, rfl, inC_data (RuleAt.same sF _ _ hXE) hnm (.str n) (str_shaped (strOk_nm nmn)) (fun ns hN => by rw [any_str, names ns hN]) ?_⟩
            refine ⟨_, hF, by rw [List.length_map, List.length_map, List.length_take, sizeLine_eq]; omega, ?_, Same.put sF nF⟩
            rw [upd_same, take_next hn', List.map_append, List.map_append]
            rfl
          rintro HF ⟨hF, sF⟩
          rw [List.length_map, List.take_length] at hF
          have qF := sF _ _ qE
          have hYF := RuleAt.same sF _ _ hYE
          refine ⟨_, rfl, q, rfl, ⟨_, SqL.of qF⟩, fun G nG => ?_⟩
          refine lc_it (walk_list (K := K) (a := q) (xs := nms.map V.str)) (fun m HG => HG G = some (.lst (((nms.take m).map fun n => decide (n ∈ r.bases)).map V.bl)) ∧ Same HF HG)
            ⟨upd_same, Same.mk1 nG⟩ (fun m HG _ ⟨_, s⟩ => SqL.of (s _ _ qF)) ?_ ?_
          · rintro m w HG HG' hm ⟨hG, sG⟩ ⟨rfl, hw⟩
            obtain ⟨n, hn', rfl⟩ := getElem?_map' hw
            have hYG := RuleAt.same sG _ _ hYF
            obtain ⟨_, _, dY, _, _, bY, nsY, eY, _, eb, hNY⟩ := hYG.fields
            refine ⟨rfl, ?_⟩
            refine ⟨_, rfl, _, rfl, y, dY, _, rfl, eY, y, dY, _, .ref bY, rfl, eY, fR_base_names, bY, _, rfl, .inr (SqT.of eb), rfl, flatStrs _, ?_⟩
            refine ⟨_, hG, by rw [List.length_map, List.length_map, List.length_take, sizeLine_eq]; omega, ?_, Same.put sG nG⟩
            rw [upd_same, take_next hn', List.map_append, List.map_append]
            show some (HO.lst (_ ++ [V.bl (inV (.str n) (nsY.map V.str))])) = _
            rw [inV_strs, names nsY hNY]
            rfl
          rintro HG ⟨hG, sG⟩
          rw [List.length_map, List.take_length] at hG
          refine ⟨boolsD _, boolsD _, bools_dp (SqL.of (sG _ _ hF)), bools_dp (SqL.of hG), bools_shaped _, bools_shaped _, _, rfl, ?_⟩
          rw [bools_eqv]
          refine iteF ?_
          have sEG := sF.trans sG
          have hXG := RuleAt.same sEG _ _ hXE
          have oG := sEG _ _ eO
          have qG := sEG _ _ qE
          have sAG := sE.trans sEG
          -- the other things are not in it
          refine ⟨_, rfl, O, rfl, ⟨_, SqL.of oG⟩, fun M nM => ?_⟩
          refine lc_it (walk_list (K := K) (a := O) (xs := things)) (fun m HM => HM M = some (.lst ((List.replicate m false).map V.bl)) ∧ Same HG HM)
            ⟨upd_same, Same.mk1 nM⟩ (fun m HM _ ⟨_, s⟩ => SqL.of (s _ _ oG)) ?_ ?_
          · rintro m w Hx' HM hm ⟨hM, sM⟩ ⟨rfl, hw⟩
            have hXM := RuleAt.same sM _ _ hXG
            have fin : ∃ us, HM M = some (.lst us) ∧ us.length < sizeLine ∧ (upd HM M (.lst (us ++ [V.bl false]))) M = some (.lst ((List.replicate (m + 1) false).map V.bl)) ∧ Same HG (upd HM M (.lst (us ++ [V.bl false]))) := by
              refine ⟨_, hM, by rw [List.length_map, List.length_replicate, sizeLine_eq]; omega, ?_, Same.put sM nM⟩
              rw [upd_same, List.replicate_succ', List.map_append]
              rfl
            refine ⟨rfl, ?_⟩
            rcases odd w (List.mem_of_getElem? hw) with ⟨d, hd, sd, hb⟩ | rfl
            · exact ⟨_, rfl, _, rfl, inC_data hXM hnm (dp_same (sEG.trans sM) _ _ hd) sd hb fin⟩
            · exact ⟨_, rfl, _, rfl, inC_rule hXM hnm hXM fin⟩
          rintro HM ⟨hM, sM⟩
          rw [lth] at hM
          refine ⟨by show 1 ≤ sizeLine; decide, fun N1 nN1 => ⟨N1, 9, [.bl false], rfl, rfl, upd_same, by decide, by decide, by show 1 * 9 ≤ sizeLine; decide, fun N2 nN2 => ?_⟩⟩
          have sN := (Same.mk1 (o := .lst [.bl false]) nN1).trans (Same.mk1 (o := .lst (List.replicate (Int.toNat 9) [V.bl false]).flatten) nN2)
          have eN : (upd (upd HM N1 (.lst [.bl false])) N2 (.lst (List.replicate (Int.toNat 9) [V.bl false]).flatten)) N2 = some (.lst ((List.replicate 9 false).map V.bl)) := upd_same
          refine ⟨boolsD _, boolsD _, bools_dp (SqL.of (sN _ _ hM)), bools_dp (SqL.of eN), bools_shaped _, bools_shaped _, _, rfl, ?_⟩
          rw [bools_eqv]
          refine iteF ?_
          have sGN := sM.trans sN
          revert sGN
          generalize upd (upd HM N1 (.lst [.bl false])) N2 (.lst (List.replicate (Int.toNat 9) [V.bl false]).flatten) = HN
          intro sGN
          have hXN := RuleAt.same sGN _ _ hXG
          have qN := sGN _ _ qG
          -- neither are these
          refine ⟨_, rfl, q, rfl, ⟨_, SqL.of qN⟩, ?_⟩
          refine for_it (walk_list (K := K) (a := q) (xs := nms.map V.str)) (fun m σ HO' => ∃ v11' : Option V, σ = [some (.ref a), some (.int (0 + (ii : Int))), some (.ref p), some (.ref q), some (.int (0 + (j : Int))), some (.ref D), v6, some (.ref d0), some (.ref x), some (.ref y), some (.ref O), v11', v12, v13, v14] ∧ Same HN HO')
            ⟨_, rfl, Same.refl HN⟩ (fun m σ HO' _ ⟨_, _, s⟩ => SqL.of (s _ _ qN)) ?_ ?_
          · rintro m w σ Hy HP hm ⟨v11', rfl, sP⟩ ⟨rfl, hw⟩
            obtain ⟨n, hn', rfl⟩ := getElem?_map' hw
            have nmn := hn n (List.mem_of_getElem? hn')
            have hXP := RuleAt.same sP _ _ hXN
            refine ⟨fun c H' => c = false ∧ Same HP H', ?_, ?_⟩
            · refine ⟨_, rfl, n, rfl, nmn, fun z HQ nz sQ hB => ?_⟩
              have hXQ := RuleAt.same sQ _ _ hXP
              refine ⟨_, rfl, inC_rule hXQ hnm hB ?_⟩
              refine ⟨_, rfl, no rfl ?_⟩
              refine ⟨_, rfl, by show 1 ≤ sizeLine; decide, fun u nu => ⟨_, rfl, inC_data (RuleAt.same (Same.mk1 nu) _ _ hXQ) hnm (.tup (SqT.of upd_same) (.cons (.str n) .nil)) (one_shapedT (strOk_nm nmn)) (fun ns _ => any_no (fun x => by simp [PyData.eqv]) ns) ?_⟩⟩
              refine ⟨_, rfl, no rfl ?_⟩
              have su := Same.mk1 (o := .tup [.str n]) nu
              refine ⟨_, rfl, by show 1 ≤ sizeLine; decide, fun l nl => ⟨_, rfl, inC_data (RuleAt.same (su.trans (Same.mk1 nl)) _ _ hXQ) hnm (.lst (SqL.of upd_same) (.cons (.str n) .nil)) (one_shaped (strOk_nm nmn)) (fun ns _ => any_no (fun x => by simp [PyData.eqv]) ns) ?_⟩⟩
              exact ⟨_, rfl, rfl, sQ.trans (su.trans (Same.mk1 nl))⟩
            · rintro c HQ ⟨rfl, sQ⟩
              refine iteF ?_
              exact ⟨_, rfl, sP.trans sQ⟩
          · rintro σ HP ⟨v11', rfl, sP⟩
            exact ⟨_, _, _, _, _, rfl, sAG.trans (sGN.trans sP)⟩
        · rintro σ HB ⟨v8, v9, v10, v11, v12, rfl, sB⟩
          exact ⟨_, _, _, _, _, _, _, _, _, _, _, rfl, g3.trans (gA.trans (Gr.same sB)), sB _ _ qA, (BA.grow sB).mono (by omega)⟩
      · rintro σ H3 ⟨v4, v5, v6, v7, v8, v9, v10, v11, v12, v13, v14, rfl, g3, q3, B3⟩
        have e3 := ExtN.grN e5 g3 hp0
        have T3 := Tabs.keep T5 (bag_keep B5 g3)
        clear g3 B3 T5 e5 B5 g5 hq hqp
        obtain ⟨a0, a1, a2, a3, a4, a5, rfl⟩ : ∃ a0 a1 a2 a3 a4 a5, nms = [a0, a1, a2, a3, a4, a5] := by
          match nms, n6 with
          | [a0, a1, a2, a3, a4, a5], _ => exact ⟨_, _, _, _, _, _, rfl⟩
        have hn5 : ∀ x ∈ [a0, a1, a2, a3, a4], nmB x = true := fun x hx => hn x (by
          simp only [List.mem_cons, List.not_mem_nil, or_false] at hx ⊢
          rcases hx with z | z | z | z | z <;> simp [z])
        have in5 : ∀ i, i < 4 → ([a1, a2, a3, a4] : List Str).getD i "a" ∈ [a0, a1, a2, a3, a4] := fun i hi => by
          rcases (by omega : i = 0 ∨ i = 1 ∨ i = 2 ∨ i = 3) with rfl | rfl | rfl | rfl <;> simp
        -- the widest rule
        refine ⟨_, rfl, q, _, 0, .str a0, rfl, rfl, SqL.of q3, atI_nat (j := 0) rfl, a0, rfl, hn5 a0 (.head _), fun w0 H4 nw0 s4 hW0 => ?_⟩
        have q4 := s4 _ _ q3
        refine ⟨_, rfl, 1, rfl, 5, rfl, q, _, rfl, SqL.of q4, fun sl nsl => ?_⟩
        rw [show cutV (([a0, a1, a2, a3, a4, a5] : List Str).map V.str) (some 1) (some 5) = ([a1, a2, a3, a4] : List Str).map V.str from rfl] at *
        have ssl := Same.mk1 (o := .lst (([a1, a2, a3, a4] : List Str).map V.str)) nsl
        have esl : (upd H4 sl (.lst (([a1, a2, a3, a4] : List Str).map V.str))) sl = some (.lst (([a1, a2, a3, a4] : List Str).map V.str)) := upd_same
        have s5 := s4.trans ssl
        have hW5 := RuleAt.same ssl _ _ hW0
        revert esl s5 hW5
        generalize upd H4 sl (.lst (([a1, a2, a3, a4] : List Str).map V.str)) = H5'
        intro esl s5 hW5
        clear ssl nsl q4 hW0 nw0 s4
        refine ⟨sl, rfl, ⟨_, SqL.of esl⟩, ?_⟩
        refine for_it (walk_list (K := K) (a := sl) (xs := ([a1, a2, a3, a4] : List Str).map V.str)) (fun m σ HB => ∃ (wx : Addr) (v11' : Option V), σ = [some (.ref a), some (.int (0 + (ii : Int))), some (.ref p), some (.ref q), v4, v5, v6, v7, v8, v9, v10, v11', v12, some (.ref wx), v14] ∧ RuleAt T.C_Rule HB (wideN a0 [a1, a2, a3, a4] m) wx ∧ Same H5' HB)
          ⟨w0, _, rfl, hW5, Same.refl H5'⟩ (fun m σ HB _ ⟨_, _, _, _, s⟩ => SqL.of (s _ _ esl)) ?_ ?_
        · rintro m w σ Hx HB hm ⟨wx, v11', rfl, hW, sB⟩ ⟨rfl, hw⟩
          have hm4 : m < 4 := hm
          obtain ⟨n, hn', rfl⟩ := getElem?_map' hw
          have nd : ([a1, a2, a3, a4] : List Str).getD m "a" = n := by rw [List.getD_eq_getElem?_getD, hn']; rfl
          have nin := in5 m hm4
          refine ⟨_, rfl, _, rfl, n, rfl, hn5 n (nd ▸ nin), fun y HQ ny sQ hB => ?_⟩
          refine bin_at fw_merged lw_merged (RuleAt.same sQ _ _ hW) hB (fit_wide hn5 (.head _) m fun i hi => in5 i (by omega)) (fit_base hn5 (nd ▸ nin)) (by show 5 ≤ 5; decide) (by omega) fun wz HR sR hR => ?_
          refine ⟨wz, _, rfl, ?_, (sB.trans sQ).trans sR⟩
          show RuleAt T.C_Rule HR (.op "merged" [wideN a0 [a1, a2, a3, a4] m, .base (([a1, a2, a3, a4] : List Str).getD m "a")]) wz
          rw [nd]
          exact hR
        rintro σ H9 ⟨wx, v11', rfl, hW, sB⟩
        replace hW : RuleAt T.C_Rule H9 (wideN a0 [a1, a2, a3, a4] 4) wx := hW
        have fW : Fit [a0, a1, a2, a3, a4] (2 * 4 + 1) (4 + 1) (34 * 4 + 20) (wideN a0 [a1, a2, a3, a4] 4) := fit_wide hn5 (.head _) 4 in5
        have bW : (wideN a0 [a1, a2, a3, a4] 4).bases = [a0, a1, a2, a3, a4] := rfl
        have s39 := s5.trans sB
        have e9 := ExtN.same e3 s39
        have T9 := Tabs.keep T3 fun b o h _ => s39 b o h
        have q9 := s39 _ _ q3
        clear s39 s5 sB e3 T3 q3 esl hW5
        generalize wideN a0 [a1, a2, a3, a4] 4 = W at hW fW bW
        have hnW : ∀ x ∈ W.bases, x ∈ [a0, a1, a2, a3, a4] := fun x hx => by rw [bW] at hx; exact hx
        have f5 : Fit [a0, a1, a2, a3, a4, a5] 1 1 20 (.base a5) := fit_base hn (by simp)
        have six1 : ∀ ns, NamesOk ns (basesL [W, .base a5]) → 5 < ns.length := fun ns hN => by
          have := nodup_le hnd fun x hx => (hN.mem x).mpr (by
            show x ∈ W.bases ++ ([a5] ++ [])
            rw [bW]
            simpa using hx)
          exact this
        have six2 : ∀ ns, NamesOk ns (basesL [.base a5, W]) → 5 < ns.length := fun ns hN => by
          have := nodup_le hnd fun x hx => (hN.mem x).mpr (by
            show x ∈ [a5] ++ (W.bases ++ [])
            rw [bW]
            simp only [List.mem_cons, List.not_mem_nil, or_false, List.mem_append] at hx ⊢
            rcases hx with z | z | z | z | z | z <;> simp [z])
          exact this
        have few1 : ∀ l : List Str, l.Nodup → (∀ x ∈ l, x ∈ basesL [W, .base a5]) → l.length ≤ 60 := fun l nd s => Nat.le_trans (nodup_le (ns := W.bases ++ ([a5] ++ [])) nd s) (by rw [bW]; show 6 ≤ 60; decide)
        have few2 : ∀ l : List Str, l.Nodup → (∀ x ∈ l, x ∈ basesL [.base a5, W]) → l.length ≤ 60 := fun l nd s => Nat.le_trans (nodup_le (ns := [a5] ++ (W.bases ++ [])) nd s) (by rw [bW]; show 6 ≤ 60; decide)
        have w1 := fW.wt
        have w2 := f5.wt
        have wt1 : wts [W, .base a5] ≤ 100000 := by
          have e : wts [W, .base a5] = (W.wt + 2) + (((RT.base a5).wt + 2) + 0) := rfl
          omega
        have wt2 : wts [.base a5, W] ≤ 100000 := by
          have e : wts [.base a5, W] = ((RT.base a5).wt + 2) + ((W.wt + 2) + 0) := rfl
          omega
        have nm5 : nmB a5 = true := hn a5 (by simp)
        have keepW : ∀ {H' : Hp}, ExtN H9 H' → RuleAt T.C_Rule H' W wx := fun e => RuleAt.keepN (ExtN.keepN e) _ _ hW
        have keepQ : ∀ {H' : Hp}, ExtN H9 H' → H' q = some (.lst (([a0, a1, a2, a3, a4, a5] : List Str).map V.str)) := fun e => e _ _ q9 (fun _ z => nomatch z)
        refine ⟨fun σ' H' => ∃ M, σ' = [some (.ref a), some (.int (0 + (ii : Int))), some (.ref p), some (.ref q), v4, v5, v6, v7, v8, v9, v10, v11', v12, some (.ref wx), some (.ref M)] ∧ ExtN H9 H' ∧ Tabs [(P_law, lamQ f_law c_law)] H' ∧ H' M = some (.lst [.int 5]) ∧ NoN H9 M, ?_, ?_⟩
        · refine ⟨T9, fun H10 eN T10 => tm_many (fun G E' he => ?_) fun H11 s11 => ⟨by show 1 ≤ sizeLine; decide, fun M nM => ⟨M, rfl, ExtN.same (ExtN.same eN s11) (Same.mk1 nM), Tabs.keep (Tabs.keep T10 fun b o h _ => s11 b o h) fun b o h _ => Same.mk1 nM b o h, upd_same, ExtN.newN (ExtN.same eN s11) nM⟩⟩⟩
          refine ⟨_, rfl, _, rfl, q, _, 5, .str a5, rfl, rfl, SqL.of (keepQ eN), atI_nat (j := 5) rfl, a5, rfl, nm5, fun y HQ ny sQ hB => ?_⟩
          exact binX_many (RuleAt.same sQ _ _ (keepW eN)) hB wt1 few1 six1 fun d H' s hd => he d H' (sQ.trans s) hd
        rintro σ H10 ⟨M, rfl, eA, TA, hM, nM⟩
        refine ⟨_, rfl, .inl ⟨rfl, _, SqL.of hM⟩, TA, fun H11 eN T11 => tm_many (fun G E' he => ?_) fun H12 s12 => ?_⟩
        · have eB := ExtN.trans eA eN
          refine ⟨_, rfl, q, _, 5, .str a5, rfl, rfl, SqL.of (keepQ eB), atI_nat (j := 5) rfl, a5, rfl, nm5, fun y HQ ny sQ hB => ?_⟩
          refine ⟨_, rfl, binX_many hB (RuleAt.same sQ _ _ (keepW eB)) wt2 few2 six2 fun d H' s hd => he d H' (sQ.trans s) hd⟩
        have hM2 := s12 _ _ (eN _ _ hM (fun _ z => nomatch z))
        refine ⟨M, _, .int 5, rfl, rfl, hM2, by show 1 < sizeLine; decide, ?_⟩
        have eA2 : ExtN H9 (upd H12 M (.lst ([.int 5] ++ [.int 5]))) := ExtN.putn (ExtN.same (ExtN.trans eA eN) s12) nM
        have TA2 : Tabs [(P_law, lamQ f_law c_law)] (upd H12 M (.lst ([.int 5] ++ [.int 5]))) := Tabs.keep (Tabs.keep T11 fun b o h _ => s12 b o h) (lst_keepR hM2)
        have hM3 : (upd H12 M (.lst ([.int 5] ++ [.int 5]))) M = some (.lst [.int 5, .int 5]) := upd_same
        revert eA2 TA2 hM3
        generalize upd H12 M (.lst ([.int 5] ++ [.int 5])) = H13
        intro eA2 TA2 hM3
        clear hM2 s12 T11 eN hM TA eA
        refine ⟨_, rfl, .inl ⟨rfl, _, SqL.of hM3⟩, TA2, fun H14 eN T14 => tm_many (fun G E' he => ?_) fun H15 s15 => ?_⟩
        · have eB := ExtN.trans eA2 eN
          refine ⟨_, rfl, _, rfl, q, _, 5, .str a5, rfl, rfl, SqL.of (keepQ eB), atI_nat (j := 5) rfl, a5, rfl, nm5, fun y HQ ny sQ hB => ?_⟩
          exact binX_many (RuleAt.same sQ _ _ (keepW eB)) hB wt1 few1 six1 fun d H' s hd => he d H' (sQ.trans s) hd
        have hM4 := s15 _ _ (eN _ _ hM3 (fun _ z => nomatch z))
        refine ⟨M, _, .int 5, rfl, rfl, hM4, by show 2 < sizeLine; decide, ?_⟩
        have eA3 : ExtN H9 (upd H15 M (.lst ([.int 5, .int 5] ++ [.int 5]))) := ExtN.putn (ExtN.same (ExtN.trans eA2 eN) s15) nM
        have TA3 : Tabs [(P_law, lamQ f_law c_law)] (upd H15 M (.lst ([.int 5, .int 5] ++ [.int 5]))) := Tabs.keep (Tabs.keep T14 fun b o h _ => s15 b o h) (lst_keepR hM4)
        have hM5 : (upd H15 M (.lst ([.int 5, .int 5] ++ [.int 5]))) M = some (.lst [.int 5, .int 5, .int 5]) := upd_same
        revert eA3 TA3 hM5
        generalize upd H15 M (.lst ([.int 5, .int 5] ++ [.int 5])) = H16
        intro eA3 TA3 hM5
        clear hM4 s15 T14 eN hM3 TA2 eA2
        -- the last one is a rule
        obtain ⟨b, hb, hbi⟩ : ∃ b : Str, b ∈ [a0, a1, a2, a3, a4] ∧ atI (([a0, a1, a2, a3, a4, a5] : List Str).map V.str) ((0 + (ii : Int)) % 5) = some (.str b) := by
          rcases (by omega : ii = 0 ∨ ii = 1 ∨ ii = 2 ∨ ii = 3 ∨ ii = 4) with rfl | rfl | rfl | rfl | rfl
          · exact ⟨a0, by simp, rfl⟩
          · exact ⟨a1, by simp, rfl⟩
          · exact ⟨a2, by simp, rfl⟩
          · exact ⟨a3, by simp, rfl⟩
          · exact ⟨a4, by simp, rfl⟩
        have fb : Fit [a0, a1, a2, a3, a4] 1 1 20 (.base b) := fit_base hn5 hb
        have few3 : ∀ l : List Str, l.Nodup → (∀ x ∈ l, x ∈ basesL [W, .base b]) → l.length ≤ 5 := few_two (ns := [a0, a1, a2, a3, a4]) (by show 5 ≤ 5; decide) fW.bs fb.bs
        have wt3 : wts [W, .base b] ≤ 100000 := wt_two fW fb (by decide)
        refine ⟨_, rfl, .inl ⟨rfl, _, SqL.of hM5⟩, TA3, fun H17 eN T17 => tm_rule (r := .op "without" [W, .base b]) (fun G E' he => ?_) fun H18 s18 => ?_⟩
        · have eB := ExtN.trans eA3 eN
          refine ⟨_, rfl, _, rfl, _, rfl, _, _, rfl, rfl, (by show (0 : Int) < 5; decide), q, _, _, .str b, rfl, rfl, SqL.of (keepQ eB), hbi, b, rfl, hn5 b hb, fun y HQ ny sQ hB => ?_⟩
          exact binX_rule (RuleAt.same sQ _ _ (keepW eB)) hB wt3 few3 fun c H' s hc => he c H' (sQ.trans s) hc
        have hM6 := s18 _ _ (eN _ _ hM5 (fun _ z => nomatch z))
        refine ⟨M, _, .str (RT.op "without" [W, .base b]).text, rfl, rfl, hM6, by show 3 < sizeLine; decide, ?_⟩
        have eA4 : ExtN H9 (upd H18 M (.lst ([.int 5, .int 5, .int 5] ++ [.str (RT.op "without" [W, .base b]).text]))) := ExtN.putn (ExtN.same (ExtN.trans eA3 eN) s18) nM
        have TA4 : Tabs [(P_law, lamQ f_law c_law)] (upd H18 M (.lst ([.int 5, .int 5, .int 5] ++ [.str (RT.op "without" [W, .base b]).text]))) := Tabs.keep (Tabs.keep T17 fun b o h _ => s18 b o h) (lst_keepR hM6)
        have hM7 : (upd H18 M (.lst ([.int 5, .int 5, .int 5] ++ [.str (RT.op "without" [W, .base b]).text]))) M = some (.lst [.int 5, .int 5, .int 5, .str (RT.op "without" [W, .base b]).text]) := upd_same
        revert eA4 TA4 hM7
        generalize upd H18 M (.lst ([.int 5, .int 5, .int 5] ++ [.str (RT.op "without" [W, .base b]).text])) = H19
        intro eA4 TA4 hM7
        clear hM6 s18 T17 eN hM5 TA3 eA3
        have fR := Fit.op2 fW fb fw_without lw_without
        have okR : PyData.strOk (RT.op "without" [W, .base b]).text = true := text_okF _ (fun x hx => hn5 x (fR.bs x hx)) fR.fine.fits
        refine ⟨fun c H' => c = false ∧ Same H19 H', ?_, ?_⟩
        · refine ⟨_, rfl, 3, rfl, M, _, rfl, SqL.of hM7, fun sl nsl => ?_⟩
          rw [show cutV [V.int 5, V.int 5, V.int 5, V.str (RT.op "without" [W, .base b]).text] none (some 3) = [V.int 5, V.int 5, V.int 5] from rfl] at *
          have ssl := Same.mk1 (o := .lst [.int 5, .int 5, .int 5]) nsl
          refine ⟨sl, .list [.int 5, .int 5, .int 5], rfl, .lst (SqL.of upd_same) (.cons (.int 5) (.cons (.int 5) (.cons (.int 5) .nil))), by decide +kernel, by decide +kernel, by decide +kernel, by decide +kernel, ?_⟩
          refine ⟨rfl, _, rfl, no (by decide +kernel) ?_⟩
          have hM8 := ssl _ _ hM7
          have eA5 := ExtN.same eA4 ssl
          refine ⟨_, rfl, M, _, 3, .str (RT.op "without" [W, .base b]).text, rfl, rfl, SqL.of hM8, atI_nat (j := 3) rfl, ?_⟩
          refine ⟨_, rfl, _, rfl, _, rfl, _, _, rfl, rfl, (by show (0 : Int) < 5; decide), q, _, _, .str b, rfl, rfl, SqL.of (keepQ eA5), hbi, b, rfl, hn5 b hb, fun y HQ ny sQ hB => ?_⟩
          refine ⟨rfl, [wx, y], [W, .base b], rfl, rules2 (RuleAt.same sQ _ _ (keepW eA5)) hB, wt3, few3, fun c HR _ sR hR => ?_⟩
          obtain ⟨_, _, dR, _, _, _, _, eR, _⟩ := hR.fields
          refine ⟨c, dR, _, rfl, eR, c, _, rfl, hR, _, rfl, ?_⟩
          refine ⟨.str _, .str _, .str _, .str _, str_shaped okR, str_shaped okR, _, rfl, ?_⟩
          exact ⟨by simp [PyData.eqv], ssl.trans (sQ.trans sR)⟩
        · rintro c H' ⟨rfl, s'⟩
          refine iteF ?_
          exact ⟨_, _, _, _, _, _, _, _, _, _, _, _, _, _, rfl, ExtN.same (ExtN.trans e9 eA4) s', Tabs.keep TA4 fun b o h _ => s' b o h⟩
    · rintro σ H1 ⟨v1, v2, v3, v4, v5, v6, v7, v8, v9, v10, v11, v12, v13, v14, rfl, e1, T1⟩
      have nmA : ∀ x ∈ (RT.base "a").bases, nmB x = true := fun x hx => by
        rw [List.mem_singleton.mp (show x ∈ (["a"] : List Str) from hx)]
        decide +kernel
      have nmM : ∀ x ∈ (RT.op "merged" [.base "a"]).bases, nmB x = true := fun x hx => by
        rw [List.mem_singleton.mp (show x ∈ (["a"] : List Str) from hx)]
        decide +kernel
      have nm0 : ∀ x ∈ (RT.op "merged" []).bases, nmB x = true := fun x hx => nomatch hx
      have fewA : ∀ l : List Str, l.Nodup → (∀ x ∈ l, x ∈ basesL [RT.base "a"]) → l.length ≤ 5 := fun l nd s => Nat.le_trans (nodup_le (ns := ["a"]) nd s) (by show 1 ≤ 5; decide)
      have few0 : ∀ l : List Str, l.Nodup → (∀ x ∈ l, x ∈ basesL []) → l.length ≤ 5 := fun l nd s => Nat.le_trans (nodup_le (ns := []) nd s) (by show 0 ≤ 5; decide)
      refine ⟨fun c H' => c = false, ?_, ?_⟩
      · refine ⟨"a", rfl, by decide +kernel, fun x1 H2 n2 s2 hB1 => ⟨"a", rfl, by decide +kernel, fun x2 H3 n3 s3 hB2 => inC_rule hB2 nmA (RuleAt.same s3 _ _ hB1) ?_⟩⟩
        refine ⟨_, rfl, no rfl ?_⟩
        refine ⟨"a", rfl, by decide +kernel, fun x3 H4 n4 s4 hB3 => ⟨"a", rfl, by decide +kernel, fun x4 H5 n5 s5 hB4 => ⟨[x4], [.base "a"], rfl, rules1 hB4, by decide +kernel, fewA, fun x5 H6 n6 s6 hA5 => inC_rule hA5 nmM (RuleAt.same (s5.trans s6) _ _ hB3) ?_⟩⟩⟩
        exact ⟨_, rfl, rfl⟩
      rintro c H2 rfl
      refine iteF ?_
      refine ⟨Q, ?_, fun _ _ h => h⟩
      refine ⟨"a", rfl, by decide +kernel, fun x1 H3 n3 s3 hB1 => ⟨"b", rfl, by decide +kernel, fun x2 H4 n4 s4 hB2 => ⟨by show 1 ≤ sizeLine; decide, fun l nl => ?_⟩⟩⟩
      have sl := Same.mk1 (o := .lst [.ref x2]) nl
      have g1 := RuleAt.same (s4.trans sl) _ _ hB1
      have g2 := RuleAt.same sl _ _ hB2
      obtain ⟨_, _, d1, _, _, _, _, e1', _⟩ := g1.fields
      obtain ⟨_, _, d2, _, _, _, _, e2', _⟩ := g2.fields
      have ne : x2 ≠ x1 := fun z => by
        obtain ⟨_, _, d3, _, _, _, _, e3', _⟩ := hB1.fields
        rw [z, e3'] at n4
        cases n4
      have hl : SqL K (upd H4 l (.lst [.ref x2])) l [.ref x2] := SqL.of upd_same
      refine ⟨l, _, rfl, hl, x1, d1, _, rfl, e1', .inl ⟨x2, d2, _, rfl, e2', fun z => absurd z ne, fun _ => .inl ⟨x2, x1, .base "b", .base "a", rfl, g2, g1, _, rfl, hl, _, rfl, ?_⟩⟩⟩
      rw [show decide ((RT.base "b").text = (RT.base "a").text) = false from by decide +kernel]
      refine iteF ?_
      refine ⟨_, rfl, yes rfl ?_⟩
      refine ⟨"a", rfl, by decide +kernel, fun x3 H5 n5 s5 hB3 => inC_data hB3 nmA (.str "a") (by decide +kernel) (b := true) (fun ns hN => by rw [any_str]; exact decide_eq_true ((hN.mem _).mpr (.head _))) ?_⟩
      refine ⟨true, true, rfl, rfl, _, rfl, yes rfl ?_⟩
      refine ⟨[], [], rfl, rfl, by decide +kernel, few0, fun m1 H6 n6 s6 hM1 => inC_data hM1 nm0 (.str "b") (by decide +kernel) (b := false) (fun ns hN => by rw [any_str]; exact decide_eq_false fun h => nomatch (hN.mem _).mp h) ?_⟩
      exact ⟨false, false, rfl, rfl, kk _⟩

end
theorem all_mk {l : PySem.W.OpenLaw} {w : World} {K : PySem.W.Frag} {h : Heap} {mg : Str → Option Value} {fa : Addr} (X : K.In h) (G : h.Ns mainGlobals mg) (hfa : mg "law" = some (.ref fa))
    {C_Rule : Addr} (a_Rule : PySem.W.nsIn K mainGlobals "Rule" = some (some (.ref C_Rule)))
    (pg_Rule : PySem.W.plainGet K C_Rule Str.empty = true) (hd_Rule : PySem.W.hasDictIn K C_Rule = true) (po_Rule : PySem.W.plainOver K C_Rule = true) (sa_Rule : PySem.W.findIn K (.ref C_Rule) "__setattr__" = some (some (.builtin "object.__setattr__"))) (mk_Rule : PySem.W.makesIn K C_Rule = true) (kc_Rule : PySem.W.keepIn K (.ref C_Rule) = true)
    (n_Rule_operation : PySem.W.findIn K (.ref C_Rule) "operation" = some none)
    (n_Rule_name : PySem.W.findIn K (.ref C_Rule) "name" = some none)
    (n_Rule_operands : PySem.W.findIn K (.ref C_Rule) "operands" = some none)
    (n_Rule_flat : PySem.W.findIn K (.ref C_Rule) "flat" = some none)
    (n_Rule_written : PySem.W.findIn K (.ref C_Rule) "written" = some none)
    (n_Rule_base_names : PySem.W.findIn K (.ref C_Rule) "base_names" = some none)
    (ha_Rule : PySem.W.findIn K (.ref C_Rule) "__class__" = some (some (.builtin "object.__class__"))) (hn_Rule : PySem.W.specialIn K (.builtin "object.__class__") "__get__" = some (some (.builtin "getset_descriptor.__get__"))) (ht_Rule : PySem.W.takesIn K (.builtin "object.__class__") = some true) (hm_Rule : PySem.W.mroIn K C_Rule (.type "object") = some true)
    (rd_Rule : PySem.W.readsIn K C_Rule (.type "type") = true) (ga_Rule : PySem.W.specialIn K (.ref C_Rule) "__getattribute__" = some (some (.builtin "type.__getattribute__")))
    {tk_Rule_MOST_NAMES : Tok} (cv_Rule_MOST_NAMES : PySem.W.findCls K (.ref C_Rule) (.type "type") "MOST_NAMES" = some (.val (.int 5 tk_Rule_MOST_NAMES)))
    (sf_Rule : PySem.W.selfFirst K C_Rule = true)
    (os1_Rule : PySem.W.subIn K (.ref C_Rule) (.type "NoneType") = some false)
    (os2_Rule : PySem.W.subIn K (.ref C_Rule) (.type "bool") = some false)
    (os3_Rule : PySem.W.subIn K (.ref C_Rule) (.type "int") = some false)
    (os4_Rule : PySem.W.subIn K (.ref C_Rule) (.type "str") = some false)
    (os5_Rule : PySem.W.subIn K (.ref C_Rule) (.type "list") = some false)
    (os6_Rule : PySem.W.subIn K (.ref C_Rule) (.type "tuple") = some false)
    (ne_Rule : PySem.W.findIn K (.ref C_Rule) "__ne__" = some (some (.builtin "object.__ne__")))
    (ki_Rule_NoneType : PySem.W.kitOne K (.type "NoneType") (.ref C_Rule) = some false)
    (ki_Rule_bool : PySem.W.kitOne K (.type "bool") (.ref C_Rule) = some false)
    (ki_Rule_int : PySem.W.kitOne K (.type "int") (.ref C_Rule) = some false)
    (ki_Rule_str : PySem.W.kitOne K (.type "str") (.ref C_Rule) = some false)
    (ki_Rule_list : PySem.W.kitOne K (.type "list") (.ref C_Rule) = some false)
    (ki_Rule_tuple : PySem.W.kitOne K (.type "tuple") (.ref C_Rule) = some false)
    {C_TooMany : Addr} (a_TooMany : PySem.W.nsIn K mainGlobals "TooMany" = some (some (.ref C_TooMany)))
    (xi_TooMany : PySem.W.excInitIn K C_TooMany bmOverflow "OverflowError.__new__" = true)
    (xo_TooMany : PySem.W.excOver K C_TooMany bmOverflow = true)
    (xh_TooMany : PySem.W.hasDictIn K C_TooMany = true)
    (xs_TooMany : PySem.W.findIn K (.ref C_TooMany) "__setattr__" = some (some (.builtin "object.__setattr__")))
    (xb_TooMany : PySem.W.subIn K (.ref C_TooMany) (.type "BaseException") = some true)
    (xt_TooMany : PySem.W.typeIn K (.ref C_TooMany) = some (.type "type"))
    (xk_TooMany : PySem.W.keepIn K (.ref C_TooMany) = true)
    (xm_TooMany : PySem.W.takerIn K C_TooMany "limit" = some none)
    (xn_TooMany : PySem.W.findIn K (.ref C_TooMany) "limit" = some none)
    (xv_TooMany : PySem.W.findCls K (.type "OverflowError") (.type "type") "__init__" = some (.val (.builtin "OverflowError.__init__")))
    (xg_TooMany : PySem.W.findIn K (.ref C_TooMany) "__getattribute__" = some (some (.builtin "BaseException.__getattribute__")))
    (xa_TooMany : PySem.W.findIn K (.ref C_TooMany) "__getattr__" = some none)
    (xc_TooMany : PySem.W.isClsIn K C_TooMany = true)
    (xe_TooMany : PySem.W.subIn K (.ref C_TooMany) (.ref C_TooMany) = some true)
    {tk_LETTERS : Tok} (a_LETTERS : PySem.W.nsIn K mainGlobals "LETTERS" = some (some (.str "abcdefghijklmnopqrstuvwxyz" tk_LETTERS)))
    {tk_MOST_LETTERS : Tok} (a_MOST_LETTERS : PySem.W.nsIn K mainGlobals "MOST_LETTERS" = some (some (.int 6 tk_MOST_LETTERS)))
    {tk_BASE : Tok} (a_BASE : PySem.W.nsIn K mainGlobals "BASE" = some (some (.str "base" tk_BASE)))
    {tk_GAP : Tok} (a_GAP : PySem.W.nsIn K mainGlobals "GAP" = some (some (.str ", " tk_GAP)))
    {f_TooMany_init : Addr} {od_TooMany_init an_TooMany_init : Option Addr} {sl_TooMany_init : Array (Option Value)} {oc_TooMany_init kV_TooMany_init dc_TooMany_init pm_TooMany_init cd_TooMany_init ct_TooMany_init : Value}
    (a_TooMany_init : PySem.W.findIn K (.ref C_TooMany) "__init__" = some (some (.ref f_TooMany_init))) (i_TooMany_init : PySem.W.isFn K (.ref f_TooMany_init) = true)
    (l_TooMany_init : K.lookup f_TooMany_init = some ⟨oc_TooMany_init, od_TooMany_init, .func (PySem.W.fnOf "__init__" "TooMany.__init__" (defArgs s_TooMany_init) (defBody s_TooMany_init) (defScope s_TooMany_init) .none kV_TooMany_init dc_TooMany_init pm_TooMany_init an_TooMany_init cd_TooMany_init ct_TooMany_init), sl_TooMany_init⟩)
    (c_TooMany_init : PySem.W.codeIn K cd_TooMany_init "TooMany.__init__" = true) (k_TooMany_init : PySem.W.keepIn K (.ref f_TooMany_init) = true)
    (ti_TooMany_init : PySem.W.typeIn K (.ref f_TooMany_init) = some (.type "function"))
    {f_is_name : Addr} {od_is_name an_is_name : Option Addr} {sl_is_name : Array (Option Value)} {oc_is_name kV_is_name dc_is_name pm_is_name cd_is_name ct_is_name : Value}
    (a_is_name : PySem.W.nsIn K mainGlobals "is_name" = some (some (.ref f_is_name)))
    (l_is_name : K.lookup f_is_name = some ⟨oc_is_name, od_is_name, .func (PySem.W.fnOf "is_name" "is_name" (defArgs s_is_name) (defBody s_is_name) (defScope s_is_name) .none kV_is_name dc_is_name pm_is_name an_is_name cd_is_name ct_is_name), sl_is_name⟩)
    (c_is_name : PySem.W.codeIn K cd_is_name "is_name" = true) (k_is_name : PySem.W.keepIn K (.ref f_is_name) = true)
    {f_names_in : Addr} {od_names_in an_names_in : Option Addr} {sl_names_in : Array (Option Value)} {oc_names_in kV_names_in dc_names_in pm_names_in cd_names_in ct_names_in : Value}
    (a_names_in : PySem.W.nsIn K mainGlobals "names_in" = some (some (.ref f_names_in)))
    (l_names_in : K.lookup f_names_in = some ⟨oc_names_in, od_names_in, .func (PySem.W.fnOf "names_in" "names_in" (defArgs s_names_in) (defBody s_names_in) (defScope s_names_in) .none kV_names_in dc_names_in pm_names_in an_names_in cd_names_in ct_names_in), sl_names_in⟩)
    (c_names_in : PySem.W.codeIn K cd_names_in "names_in" = true) (k_names_in : PySem.W.keepIn K (.ref f_names_in) = true)
    {f_Rule_init : Addr} {od_Rule_init an_Rule_init : Option Addr} {sl_Rule_init : Array (Option Value)} {oc_Rule_init kV_Rule_init dc_Rule_init pm_Rule_init cd_Rule_init ct_Rule_init : Value}
    (a_Rule_init : PySem.W.findIn K (.ref C_Rule) "__init__" = some (some (.ref f_Rule_init))) (i_Rule_init : PySem.W.isFn K (.ref f_Rule_init) = true)
    (l_Rule_init : K.lookup f_Rule_init = some ⟨oc_Rule_init, od_Rule_init, .func (PySem.W.fnOf "__init__" "Rule.__init__" (defArgs s_Rule_init) (defBody s_Rule_init) (defScope s_Rule_init) .none kV_Rule_init dc_Rule_init pm_Rule_init an_Rule_init cd_Rule_init ct_Rule_init), sl_Rule_init⟩)
    (c_Rule_init : PySem.W.codeIn K cd_Rule_init "Rule.__init__" = true) (k_Rule_init : PySem.W.keepIn K (.ref f_Rule_init) = true)
    {f_Rule_eq : Addr} {od_Rule_eq an_Rule_eq : Option Addr} {sl_Rule_eq : Array (Option Value)} {oc_Rule_eq kV_Rule_eq dc_Rule_eq pm_Rule_eq cd_Rule_eq ct_Rule_eq : Value}
    (a_Rule_eq : PySem.W.findIn K (.ref C_Rule) "__eq__" = some (some (.ref f_Rule_eq))) (i_Rule_eq : PySem.W.isFn K (.ref f_Rule_eq) = true)
    (l_Rule_eq : K.lookup f_Rule_eq = some ⟨oc_Rule_eq, od_Rule_eq, .func (PySem.W.fnOf "__eq__" "Rule.__eq__" (defArgs s_Rule_eq) (defBody s_Rule_eq) (defScope s_Rule_eq) .none kV_Rule_eq dc_Rule_eq pm_Rule_eq an_Rule_eq cd_Rule_eq ct_Rule_eq), sl_Rule_eq⟩)
    (c_Rule_eq : PySem.W.codeIn K cd_Rule_eq "Rule.__eq__" = true) (k_Rule_eq : PySem.W.keepIn K (.ref f_Rule_eq) = true)
    {f_Rule_or : Addr} {od_Rule_or an_Rule_or : Option Addr} {sl_Rule_or : Array (Option Value)} {oc_Rule_or kV_Rule_or dc_Rule_or pm_Rule_or cd_Rule_or ct_Rule_or : Value}
    (a_Rule_or : PySem.W.findIn K (.ref C_Rule) "__or__" = some (some (.ref f_Rule_or))) (i_Rule_or : PySem.W.isFn K (.ref f_Rule_or) = true)
    (l_Rule_or : K.lookup f_Rule_or = some ⟨oc_Rule_or, od_Rule_or, .func (PySem.W.fnOf "__or__" "Rule.__or__" (defArgs s_Rule_or) (defBody s_Rule_or) (defScope s_Rule_or) .none kV_Rule_or dc_Rule_or pm_Rule_or an_Rule_or cd_Rule_or ct_Rule_or), sl_Rule_or⟩)
    (c_Rule_or : PySem.W.codeIn K cd_Rule_or "Rule.__or__" = true) (k_Rule_or : PySem.W.keepIn K (.ref f_Rule_or) = true)
    {f_Rule_sub : Addr} {od_Rule_sub an_Rule_sub : Option Addr} {sl_Rule_sub : Array (Option Value)} {oc_Rule_sub kV_Rule_sub dc_Rule_sub pm_Rule_sub cd_Rule_sub ct_Rule_sub : Value}
    (a_Rule_sub : PySem.W.findIn K (.ref C_Rule) "__sub__" = some (some (.ref f_Rule_sub))) (i_Rule_sub : PySem.W.isFn K (.ref f_Rule_sub) = true)
    (l_Rule_sub : K.lookup f_Rule_sub = some ⟨oc_Rule_sub, od_Rule_sub, .func (PySem.W.fnOf "__sub__" "Rule.__sub__" (defArgs s_Rule_sub) (defBody s_Rule_sub) (defScope s_Rule_sub) .none kV_Rule_sub dc_Rule_sub pm_Rule_sub an_Rule_sub cd_Rule_sub ct_Rule_sub), sl_Rule_sub⟩)
    (c_Rule_sub : PySem.W.codeIn K cd_Rule_sub "Rule.__sub__" = true) (k_Rule_sub : PySem.W.keepIn K (.ref f_Rule_sub) = true)
    {f_Rule_and : Addr} {od_Rule_and an_Rule_and : Option Addr} {sl_Rule_and : Array (Option Value)} {oc_Rule_and kV_Rule_and dc_Rule_and pm_Rule_and cd_Rule_and ct_Rule_and : Value}
    (a_Rule_and : PySem.W.findIn K (.ref C_Rule) "__and__" = some (some (.ref f_Rule_and))) (i_Rule_and : PySem.W.isFn K (.ref f_Rule_and) = true)
    (l_Rule_and : K.lookup f_Rule_and = some ⟨oc_Rule_and, od_Rule_and, .func (PySem.W.fnOf "__and__" "Rule.__and__" (defArgs s_Rule_and) (defBody s_Rule_and) (defScope s_Rule_and) .none kV_Rule_and dc_Rule_and pm_Rule_and an_Rule_and cd_Rule_and ct_Rule_and), sl_Rule_and⟩)
    (c_Rule_and : PySem.W.codeIn K cd_Rule_and "Rule.__and__" = true) (k_Rule_and : PySem.W.keepIn K (.ref f_Rule_and) = true)
    {f_Rule_invert : Addr} {od_Rule_invert an_Rule_invert : Option Addr} {sl_Rule_invert : Array (Option Value)} {oc_Rule_invert kV_Rule_invert dc_Rule_invert pm_Rule_invert cd_Rule_invert ct_Rule_invert : Value}
    (a_Rule_invert : PySem.W.findIn K (.ref C_Rule) "__invert__" = some (some (.ref f_Rule_invert))) (i_Rule_invert : PySem.W.isFn K (.ref f_Rule_invert) = true)
    (l_Rule_invert : K.lookup f_Rule_invert = some ⟨oc_Rule_invert, od_Rule_invert, .func (PySem.W.fnOf "__invert__" "Rule.__invert__" (defArgs s_Rule_invert) (defBody s_Rule_invert) (defScope s_Rule_invert) .none kV_Rule_invert dc_Rule_invert pm_Rule_invert an_Rule_invert cd_Rule_invert ct_Rule_invert), sl_Rule_invert⟩)
    (c_Rule_invert : PySem.W.codeIn K cd_Rule_invert "Rule.__invert__" = true) (k_Rule_invert : PySem.W.keepIn K (.ref f_Rule_invert) = true)
    {f_Rule_contains : Addr} {od_Rule_contains an_Rule_contains : Option Addr} {sl_Rule_contains : Array (Option Value)} {oc_Rule_contains kV_Rule_contains dc_Rule_contains pm_Rule_contains cd_Rule_contains ct_Rule_contains : Value}
    (a_Rule_contains : PySem.W.findIn K (.ref C_Rule) "__contains__" = some (some (.ref f_Rule_contains))) (i_Rule_contains : PySem.W.isFn K (.ref f_Rule_contains) = true)
    (l_Rule_contains : K.lookup f_Rule_contains = some ⟨oc_Rule_contains, od_Rule_contains, .func (PySem.W.fnOf "__contains__" "Rule.__contains__" (defArgs s_Rule_contains) (defBody s_Rule_contains) (defScope s_Rule_contains) .none kV_Rule_contains dc_Rule_contains pm_Rule_contains an_Rule_contains cd_Rule_contains ct_Rule_contains), sl_Rule_contains⟩)
    (c_Rule_contains : PySem.W.codeIn K cd_Rule_contains "Rule.__contains__" = true) (k_Rule_contains : PySem.W.keepIn K (.ref f_Rule_contains) = true)
    {f_Rule_str : Addr} {od_Rule_str an_Rule_str : Option Addr} {sl_Rule_str : Array (Option Value)} {oc_Rule_str kV_Rule_str dc_Rule_str pm_Rule_str cd_Rule_str ct_Rule_str : Value}
    (a_Rule_str : PySem.W.findIn K (.ref C_Rule) "__str__" = some (some (.ref f_Rule_str))) (i_Rule_str : PySem.W.isFn K (.ref f_Rule_str) = true)
    (l_Rule_str : K.lookup f_Rule_str = some ⟨oc_Rule_str, od_Rule_str, .func (PySem.W.fnOf "__str__" "Rule.__str__" (defArgs s_Rule_str) (defBody s_Rule_str) (defScope s_Rule_str) .none kV_Rule_str dc_Rule_str pm_Rule_str an_Rule_str cd_Rule_str ct_Rule_str), sl_Rule_str⟩)
    (c_Rule_str : PySem.W.codeIn K cd_Rule_str "Rule.__str__" = true) (k_Rule_str : PySem.W.keepIn K (.ref f_Rule_str) = true)
    {p_Rule_word : Addr} {re_Rule_word : List Value}
    {f_Rule_word : Addr} {od_Rule_word an_Rule_word : Option Addr} {sl_Rule_word : Array (Option Value)} {oc_Rule_word kV_Rule_word dc_Rule_word pm_Rule_word cd_Rule_word ct_Rule_word : Value}
    (a_Rule_word : PySem.W.findIn K (.ref C_Rule) "word" = some (some (.ref p_Rule_word))) (g_Rule_word : PySem.W.specialIn K (.ref p_Rule_word) "__get__" = some (some (.builtin "property.__get__"))) (t_Rule_word : PySem.W.takesIn K (.ref p_Rule_word) = some true) (r_Rule_word : PySem.W.recIn K p_Rule_word "property" = some (.ref f_Rule_word :: re_Rule_word))
    (l_Rule_word : K.lookup f_Rule_word = some ⟨oc_Rule_word, od_Rule_word, .func (PySem.W.fnOf "word" "Rule.word" (defArgs s_Rule_word) (defBody s_Rule_word) (defScope s_Rule_word) .none kV_Rule_word dc_Rule_word pm_Rule_word an_Rule_word cd_Rule_word ct_Rule_word), sl_Rule_word⟩)
    (c_Rule_word : PySem.W.codeIn K cd_Rule_word "Rule.word" = true) (k_Rule_word : PySem.W.keepIn K (.ref f_Rule_word) = true)
    {p_Rule_names : Addr} {re_Rule_names : List Value}
    {f_Rule_names : Addr} {od_Rule_names an_Rule_names : Option Addr} {sl_Rule_names : Array (Option Value)} {oc_Rule_names kV_Rule_names dc_Rule_names pm_Rule_names cd_Rule_names ct_Rule_names : Value}
    (a_Rule_names : PySem.W.findIn K (.ref C_Rule) "names" = some (some (.ref p_Rule_names))) (g_Rule_names : PySem.W.specialIn K (.ref p_Rule_names) "__get__" = some (some (.builtin "property.__get__"))) (t_Rule_names : PySem.W.takesIn K (.ref p_Rule_names) = some true) (r_Rule_names : PySem.W.recIn K p_Rule_names "property" = some (.ref f_Rule_names :: re_Rule_names))
    (l_Rule_names : K.lookup f_Rule_names = some ⟨oc_Rule_names, od_Rule_names, .func (PySem.W.fnOf "names" "Rule.names" (defArgs s_Rule_names) (defBody s_Rule_names) (defScope s_Rule_names) .none kV_Rule_names dc_Rule_names pm_Rule_names an_Rule_names cd_Rule_names ct_Rule_names), sl_Rule_names⟩)
    (c_Rule_names : PySem.W.codeIn K cd_Rule_names "Rule.names" = true) (k_Rule_names : PySem.W.keepIn K (.ref f_Rule_names) = true)
    {p_Rule_parts : Addr} {re_Rule_parts : List Value}
    {f_Rule_parts : Addr} {od_Rule_parts an_Rule_parts : Option Addr} {sl_Rule_parts : Array (Option Value)} {oc_Rule_parts kV_Rule_parts dc_Rule_parts pm_Rule_parts cd_Rule_parts ct_Rule_parts : Value}
    (a_Rule_parts : PySem.W.findIn K (.ref C_Rule) "parts" = some (some (.ref p_Rule_parts))) (g_Rule_parts : PySem.W.specialIn K (.ref p_Rule_parts) "__get__" = some (some (.builtin "property.__get__"))) (t_Rule_parts : PySem.W.takesIn K (.ref p_Rule_parts) = some true) (r_Rule_parts : PySem.W.recIn K p_Rule_parts "property" = some (.ref f_Rule_parts :: re_Rule_parts))
    (l_Rule_parts : K.lookup f_Rule_parts = some ⟨oc_Rule_parts, od_Rule_parts, .func (PySem.W.fnOf "parts" "Rule.parts" (defArgs s_Rule_parts) (defBody s_Rule_parts) (defScope s_Rule_parts) .none kV_Rule_parts dc_Rule_parts pm_Rule_parts an_Rule_parts cd_Rule_parts ct_Rule_parts), sl_Rule_parts⟩)
    (c_Rule_parts : PySem.W.codeIn K cd_Rule_parts "Rule.parts" = true) (k_Rule_parts : PySem.W.keepIn K (.ref f_Rule_parts) = true)
    {f_combined : Addr} {od_combined an_combined : Option Addr} {sl_combined : Array (Option Value)} {oc_combined kV_combined dc_combined pm_combined cd_combined ct_combined : Value}
    (a_combined : PySem.W.nsIn K mainGlobals "combined" = some (some (.ref f_combined)))
    (l_combined : K.lookup f_combined = some ⟨oc_combined, od_combined, .func (PySem.W.fnOf "combined" "combined" (defArgs s_combined) (defBody s_combined) (defScope s_combined) .none kV_combined dc_combined pm_combined an_combined cd_combined ct_combined), sl_combined⟩)
    (c_combined : PySem.W.codeIn K cd_combined "combined" = true) (k_combined : PySem.W.keepIn K (.ref f_combined) = true)
    {f_base : Addr} {od_base an_base : Option Addr} {sl_base : Array (Option Value)} {oc_base kV_base dc_base pm_base cd_base ct_base : Value}
    (a_base : PySem.W.nsIn K mainGlobals "base" = some (some (.ref f_base)))
    (l_base : K.lookup f_base = some ⟨oc_base, od_base, .func (PySem.W.fnOf "base" "base" (defArgs s_base) (defBody s_base) (defScope s_base) .none kV_base dc_base pm_base an_base cd_base ct_base), sl_base⟩)
    (c_base : PySem.W.codeIn K cd_base "base" = true) (k_base : PySem.W.keepIn K (.ref f_base) = true)
    {f_merged : Addr} {od_merged an_merged : Option Addr} {sl_merged : Array (Option Value)} {oc_merged kV_merged dc_merged pm_merged cd_merged ct_merged : Value}
    (a_merged : PySem.W.nsIn K mainGlobals "merged" = some (some (.ref f_merged)))
    (l_merged : K.lookup f_merged = some ⟨oc_merged, od_merged, .func (PySem.W.fnOf "merged" "merged" (defArgs s_merged) (defBody s_merged) (defScope s_merged) .none kV_merged dc_merged pm_merged an_merged cd_merged ct_merged), sl_merged⟩)
    (c_merged : PySem.W.codeIn K cd_merged "merged" = true) (k_merged : PySem.W.keepIn K (.ref f_merged) = true)
    {f_chained : Addr} {od_chained an_chained : Option Addr} {sl_chained : Array (Option Value)} {oc_chained kV_chained dc_chained pm_chained cd_chained ct_chained : Value}
    (a_chained : PySem.W.nsIn K mainGlobals "chained" = some (some (.ref f_chained)))
    (l_chained : K.lookup f_chained = some ⟨oc_chained, od_chained, .func (PySem.W.fnOf "chained" "chained" (defArgs s_chained) (defBody s_chained) (defScope s_chained) .none kV_chained dc_chained pm_chained an_chained cd_chained ct_chained), sl_chained⟩)
    (c_chained : PySem.W.codeIn K cd_chained "chained" = true) (k_chained : PySem.W.keepIn K (.ref f_chained) = true)
    {f_without : Addr} {od_without an_without : Option Addr} {sl_without : Array (Option Value)} {oc_without kV_without dc_without pm_without cd_without ct_without : Value}
    (a_without : PySem.W.nsIn K mainGlobals "without" = some (some (.ref f_without)))
    (l_without : K.lookup f_without = some ⟨oc_without, od_without, .func (PySem.W.fnOf "without" "without" (defArgs s_without) (defBody s_without) (defScope s_without) .none kV_without dc_without pm_without an_without cd_without ct_without), sl_without⟩)
    (c_without : PySem.W.codeIn K cd_without "without" = true) (k_without : PySem.W.keepIn K (.ref f_without) = true)
    {f_kept : Addr} {od_kept an_kept : Option Addr} {sl_kept : Array (Option Value)} {oc_kept kV_kept dc_kept pm_kept cd_kept ct_kept : Value}
    (a_kept : PySem.W.nsIn K mainGlobals "kept" = some (some (.ref f_kept)))
    (l_kept : K.lookup f_kept = some ⟨oc_kept, od_kept, .func (PySem.W.fnOf "kept" "kept" (defArgs s_kept) (defBody s_kept) (defScope s_kept) .none kV_kept dc_kept pm_kept an_kept cd_kept ct_kept), sl_kept⟩)
    (c_kept : PySem.W.codeIn K cd_kept "kept" = true) (k_kept : PySem.W.keepIn K (.ref f_kept) = true)
    {f_filled : Addr} {od_filled an_filled : Option Addr} {sl_filled : Array (Option Value)} {oc_filled kV_filled dc_filled pm_filled cd_filled ct_filled : Value}
    (a_filled : PySem.W.nsIn K mainGlobals "filled" = some (some (.ref f_filled)))
    (l_filled : K.lookup f_filled = some ⟨oc_filled, od_filled, .func (PySem.W.fnOf "filled" "filled" (defArgs s_filled) (defBody s_filled) (defScope s_filled) .none kV_filled dc_filled pm_filled an_filled cd_filled ct_filled), sl_filled⟩)
    (c_filled : PySem.W.codeIn K cd_filled "filled" = true) (k_filled : PySem.W.keepIn K (.ref f_filled) = true)
    {f_moved : Addr} {od_moved an_moved : Option Addr} {sl_moved : Array (Option Value)} {oc_moved kV_moved dc_moved pm_moved cd_moved ct_moved : Value}
    (a_moved : PySem.W.nsIn K mainGlobals "moved" = some (some (.ref f_moved)))
    (l_moved : K.lookup f_moved = some ⟨oc_moved, od_moved, .func (PySem.W.fnOf "moved" "moved" (defArgs s_moved) (defBody s_moved) (defScope s_moved) .none kV_moved dc_moved pm_moved an_moved cd_moved ct_moved), sl_moved⟩)
    (c_moved : PySem.W.codeIn K cd_moved "moved" = true) (k_moved : PySem.W.keepIn K (.ref f_moved) = true)
    {f_turned : Addr} {od_turned an_turned : Option Addr} {sl_turned : Array (Option Value)} {oc_turned kV_turned dc_turned pm_turned cd_turned ct_turned : Value}
    (a_turned : PySem.W.nsIn K mainGlobals "turned" = some (some (.ref f_turned)))
    (l_turned : K.lookup f_turned = some ⟨oc_turned, od_turned, .func (PySem.W.fnOf "turned" "turned" (defArgs s_turned) (defBody s_turned) (defScope s_turned) .none kV_turned dc_turned pm_turned an_turned cd_turned ct_turned), sl_turned⟩)
    (c_turned : PySem.W.codeIn K cd_turned "turned" = true) (k_turned : PySem.W.keepIn K (.ref f_turned) = true)
    {f_by_keys : Addr} {od_by_keys an_by_keys : Option Addr} {sl_by_keys : Array (Option Value)} {oc_by_keys kV_by_keys dc_by_keys pm_by_keys cd_by_keys ct_by_keys : Value}
    (a_by_keys : PySem.W.nsIn K mainGlobals "by_keys" = some (some (.ref f_by_keys)))
    (l_by_keys : K.lookup f_by_keys = some ⟨oc_by_keys, od_by_keys, .func (PySem.W.fnOf "by_keys" "by_keys" (defArgs s_by_keys) (defBody s_by_keys) (defScope s_by_keys) .none kV_by_keys dc_by_keys pm_by_keys an_by_keys cd_by_keys ct_by_keys), sl_by_keys⟩)
    (c_by_keys : PySem.W.codeIn K cd_by_keys "by_keys" = true) (k_by_keys : PySem.W.keepIn K (.ref f_by_keys) = true)
    {f_postorder : Addr} {od_postorder an_postorder : Option Addr} {sl_postorder : Array (Option Value)} {oc_postorder kV_postorder dc_postorder pm_postorder cd_postorder ct_postorder : Value}
    (a_postorder : PySem.W.nsIn K mainGlobals "postorder" = some (some (.ref f_postorder)))
    (l_postorder : K.lookup f_postorder = some ⟨oc_postorder, od_postorder, .func (PySem.W.fnOf "postorder" "postorder" (defArgs s_postorder) (defBody s_postorder) (defScope s_postorder) .none kV_postorder dc_postorder pm_postorder an_postorder cd_postorder ct_postorder), sl_postorder⟩)
    (c_postorder : PySem.W.codeIn K cd_postorder "postorder" = true) (k_postorder : PySem.W.keepIn K (.ref f_postorder) = true)
    {f_merged_table : Addr} {od_merged_table an_merged_table : Option Addr} {sl_merged_table : Array (Option Value)} {oc_merged_table kV_merged_table dc_merged_table pm_merged_table cd_merged_table ct_merged_table : Value}
    (a_merged_table : PySem.W.nsIn K mainGlobals "merged_table" = some (some (.ref f_merged_table)))
    (l_merged_table : K.lookup f_merged_table = some ⟨oc_merged_table, od_merged_table, .func (PySem.W.fnOf "merged_table" "merged_table" (defArgs s_merged_table) (defBody s_merged_table) (defScope s_merged_table) .none kV_merged_table dc_merged_table pm_merged_table an_merged_table cd_merged_table ct_merged_table), sl_merged_table⟩)
    (c_merged_table : PySem.W.codeIn K cd_merged_table "merged_table" = true) (k_merged_table : PySem.W.keepIn K (.ref f_merged_table) = true)
    {f_filled_table : Addr} {od_filled_table an_filled_table : Option Addr} {sl_filled_table : Array (Option Value)} {oc_filled_table kV_filled_table dc_filled_table pm_filled_table cd_filled_table ct_filled_table : Value}
    (a_filled_table : PySem.W.nsIn K mainGlobals "filled_table" = some (some (.ref f_filled_table)))
    (l_filled_table : K.lookup f_filled_table = some ⟨oc_filled_table, od_filled_table, .func (PySem.W.fnOf "filled_table" "filled_table" (defArgs s_filled_table) (defBody s_filled_table) (defScope s_filled_table) .none kV_filled_table dc_filled_table pm_filled_table an_filled_table cd_filled_table ct_filled_table), sl_filled_table⟩)
    (c_filled_table : PySem.W.codeIn K cd_filled_table "filled_table" = true) (k_filled_table : PySem.W.keepIn K (.ref f_filled_table) = true)
    {f_moved_table : Addr} {od_moved_table an_moved_table : Option Addr} {sl_moved_table : Array (Option Value)} {oc_moved_table kV_moved_table dc_moved_table pm_moved_table cd_moved_table ct_moved_table : Value}
    (a_moved_table : PySem.W.nsIn K mainGlobals "moved_table" = some (some (.ref f_moved_table)))
    (l_moved_table : K.lookup f_moved_table = some ⟨oc_moved_table, od_moved_table, .func (PySem.W.fnOf "moved_table" "moved_table" (defArgs s_moved_table) (defBody s_moved_table) (defScope s_moved_table) .none kV_moved_table dc_moved_table pm_moved_table an_moved_table cd_moved_table ct_moved_table), sl_moved_table⟩)
    (c_moved_table : PySem.W.codeIn K cd_moved_table "moved_table" = true) (k_moved_table : PySem.W.keepIn K (.ref f_moved_table) = true)
    {f_combined_table : Addr} {od_combined_table an_combined_table : Option Addr} {sl_combined_table : Array (Option Value)} {oc_combined_table kV_combined_table dc_combined_table pm_combined_table cd_combined_table ct_combined_table : Value}
    (a_combined_table : PySem.W.nsIn K mainGlobals "combined_table" = some (some (.ref f_combined_table)))
    (l_combined_table : K.lookup f_combined_table = some ⟨oc_combined_table, od_combined_table, .func (PySem.W.fnOf "combined_table" "combined_table" (defArgs s_combined_table) (defBody s_combined_table) (defScope s_combined_table) .none kV_combined_table dc_combined_table pm_combined_table an_combined_table cd_combined_table ct_combined_table), sl_combined_table⟩)
    (c_combined_table : PySem.W.codeIn K cd_combined_table "combined_table" = true) (k_combined_table : PySem.W.keepIn K (.ref f_combined_table) = true)
    {f_check_names : Addr} {od_check_names an_check_names : Option Addr} {sl_check_names : Array (Option Value)} {oc_check_names kV_check_names dc_check_names pm_check_names cd_check_names ct_check_names : Value}
    (a_check_names : PySem.W.nsIn K mainGlobals "check_names" = some (some (.ref f_check_names)))
    (l_check_names : K.lookup f_check_names = some ⟨oc_check_names, od_check_names, .func (PySem.W.fnOf "check_names" "check_names" (defArgs s_check_names) (defBody s_check_names) (defScope s_check_names) .none kV_check_names dc_check_names pm_check_names an_check_names cd_check_names ct_check_names), sl_check_names⟩)
    (c_check_names : PySem.W.codeIn K cd_check_names "check_names" = true) (k_check_names : PySem.W.keepIn K (.ref f_check_names) = true)
    {f_evaluate : Addr} {od_evaluate an_evaluate : Option Addr} {sl_evaluate : Array (Option Value)} {oc_evaluate kV_evaluate dc_evaluate pm_evaluate cd_evaluate ct_evaluate : Value}
    (a_evaluate : PySem.W.nsIn K mainGlobals "evaluate" = some (some (.ref f_evaluate)))
    (l_evaluate : K.lookup f_evaluate = some ⟨oc_evaluate, od_evaluate, .func (PySem.W.fnOf "evaluate" "evaluate" (defArgs s_evaluate) (defBody s_evaluate) (defScope s_evaluate) .none kV_evaluate dc_evaluate pm_evaluate an_evaluate cd_evaluate ct_evaluate), sl_evaluate⟩)
    (c_evaluate : PySem.W.codeIn K cd_evaluate "evaluate" = true) (k_evaluate : PySem.W.keepIn K (.ref f_evaluate) = true)
    {f_law_bag : Addr} {od_law_bag an_law_bag : Option Addr} {sl_law_bag : Array (Option Value)} {oc_law_bag kV_law_bag dc_law_bag pm_law_bag cd_law_bag ct_law_bag : Value}
    (a_law_bag : PySem.W.nsIn K mainGlobals "_law_bag" = some (some (.ref f_law_bag)))
    (l_law_bag : K.lookup f_law_bag = some ⟨oc_law_bag, od_law_bag, .func (PySem.W.fnOf "_law_bag" "_law_bag" (defArgs s_law_bag) (defBody s_law_bag) (defScope s_law_bag) .none kV_law_bag dc_law_bag pm_law_bag an_law_bag cd_law_bag ct_law_bag), sl_law_bag⟩)
    (c_law_bag : PySem.W.codeIn K cd_law_bag "_law_bag" = true) (k_law_bag : PySem.W.keepIn K (.ref f_law_bag) = true)
    {f_law_take : Addr} {od_law_take an_law_take : Option Addr} {sl_law_take : Array (Option Value)} {oc_law_take kV_law_take dc_law_take pm_law_take cd_law_take ct_law_take : Value}
    (a_law_take : PySem.W.nsIn K mainGlobals "_law_take" = some (some (.ref f_law_take)))
    (l_law_take : K.lookup f_law_take = some ⟨oc_law_take, od_law_take, .func (PySem.W.fnOf "_law_take" "_law_take" (defArgs s_law_take) (defBody s_law_take) (defScope s_law_take) .none kV_law_take dc_law_take pm_law_take an_law_take cd_law_take ct_law_take), sl_law_take⟩)
    (c_law_take : PySem.W.codeIn K cd_law_take "_law_take" = true) (k_law_take : PySem.W.keepIn K (.ref f_law_take) = true)
    {f_law_names : Addr} {od_law_names an_law_names : Option Addr} {sl_law_names : Array (Option Value)} {oc_law_names kV_law_names dc_law_names pm_law_names cd_law_names ct_law_names : Value}
    (a_law_names : PySem.W.nsIn K mainGlobals "_law_names" = some (some (.ref f_law_names)))
    (l_law_names : K.lookup f_law_names = some ⟨oc_law_names, od_law_names, .func (PySem.W.fnOf "_law_names" "_law_names" (defArgs s_law_names) (defBody s_law_names) (defScope s_law_names) .none kV_law_names dc_law_names pm_law_names an_law_names cd_law_names ct_law_names), sl_law_names⟩)
    (c_law_names : PySem.W.codeIn K cd_law_names "_law_names" = true) (k_law_names : PySem.W.keepIn K (.ref f_law_names) = true)
    {f_law_tree : Addr} {od_law_tree an_law_tree : Option Addr} {sl_law_tree : Array (Option Value)} {oc_law_tree kV_law_tree dc_law_tree pm_law_tree cd_law_tree ct_law_tree : Value}
    (a_law_tree : PySem.W.nsIn K mainGlobals "_law_tree" = some (some (.ref f_law_tree)))
    (l_law_tree : K.lookup f_law_tree = some ⟨oc_law_tree, od_law_tree, .func (PySem.W.fnOf "_law_tree" "_law_tree" (defArgs s_law_tree) (defBody s_law_tree) (defScope s_law_tree) .none kV_law_tree dc_law_tree pm_law_tree an_law_tree cd_law_tree ct_law_tree), sl_law_tree⟩)
    (c_law_tree : PySem.W.codeIn K cd_law_tree "_law_tree" = true) (k_law_tree : PySem.W.keepIn K (.ref f_law_tree) = true)
    {f_law_joined : Addr} {od_law_joined an_law_joined : Option Addr} {sl_law_joined : Array (Option Value)} {oc_law_joined kV_law_joined dc_law_joined pm_law_joined cd_law_joined ct_law_joined : Value}
    (a_law_joined : PySem.W.nsIn K mainGlobals "_law_joined" = some (some (.ref f_law_joined)))
    (l_law_joined : K.lookup f_law_joined = some ⟨oc_law_joined, od_law_joined, .func (PySem.W.fnOf "_law_joined" "_law_joined" (defArgs s_law_joined) (defBody s_law_joined) (defScope s_law_joined) .none kV_law_joined dc_law_joined pm_law_joined an_law_joined cd_law_joined ct_law_joined), sl_law_joined⟩)
    (c_law_joined : PySem.W.codeIn K cd_law_joined "_law_joined" = true) (k_law_joined : PySem.W.keepIn K (.ref f_law_joined) = true)
    {f_law_by_word : Addr} {od_law_by_word an_law_by_word : Option Addr} {sl_law_by_word : Array (Option Value)} {oc_law_by_word kV_law_by_word dc_law_by_word pm_law_by_word cd_law_by_word ct_law_by_word : Value}
    (a_law_by_word : PySem.W.nsIn K mainGlobals "_law_by_word" = some (some (.ref f_law_by_word)))
    (l_law_by_word : K.lookup f_law_by_word = some ⟨oc_law_by_word, od_law_by_word, .func (PySem.W.fnOf "_law_by_word" "_law_by_word" (defArgs s_law_by_word) (defBody s_law_by_word) (defScope s_law_by_word) .none kV_law_by_word dc_law_by_word pm_law_by_word an_law_by_word cd_law_by_word ct_law_by_word), sl_law_by_word⟩)
    (c_law_by_word : PySem.W.codeIn K cd_law_by_word "_law_by_word" = true) (k_law_by_word : PySem.W.keepIn K (.ref f_law_by_word) = true)
    {f_law_made : Addr} {od_law_made an_law_made : Option Addr} {sl_law_made : Array (Option Value)} {oc_law_made kV_law_made dc_law_made pm_law_made cd_law_made ct_law_made : Value}
    (a_law_made : PySem.W.nsIn K mainGlobals "_law_made" = some (some (.ref f_law_made)))
    (l_law_made : K.lookup f_law_made = some ⟨oc_law_made, od_law_made, .func (PySem.W.fnOf "_law_made" "_law_made" (defArgs s_law_made) (defBody s_law_made) (defScope s_law_made) .none kV_law_made dc_law_made pm_law_made an_law_made cd_law_made ct_law_made), sl_law_made⟩)
    (c_law_made : PySem.W.codeIn K cd_law_made "_law_made" = true) (k_law_made : PySem.W.keepIn K (.ref f_law_made) = true)
    {f_law_number : Addr} {od_law_number an_law_number : Option Addr} {sl_law_number : Array (Option Value)} {oc_law_number kV_law_number dc_law_number pm_law_number cd_law_number ct_law_number : Value}
    (a_law_number : PySem.W.nsIn K mainGlobals "_law_number" = some (some (.ref f_law_number)))
    (l_law_number : K.lookup f_law_number = some ⟨oc_law_number, od_law_number, .func (PySem.W.fnOf "_law_number" "_law_number" (defArgs s_law_number) (defBody s_law_number) (defScope s_law_number) .none kV_law_number dc_law_number pm_law_number an_law_number cd_law_number ct_law_number), sl_law_number⟩)
    (c_law_number : PySem.W.codeIn K cd_law_number "_law_number" = true) (k_law_number : PySem.W.keepIn K (.ref f_law_number) = true)
    {f_law_table : Addr} {od_law_table an_law_table : Option Addr} {sl_law_table : Array (Option Value)} {oc_law_table kV_law_table dc_law_table pm_law_table cd_law_table ct_law_table : Value}
    (a_law_table : PySem.W.nsIn K mainGlobals "_law_table" = some (some (.ref f_law_table)))
    (l_law_table : K.lookup f_law_table = some ⟨oc_law_table, od_law_table, .func (PySem.W.fnOf "_law_table" "_law_table" (defArgs s_law_table) (defBody s_law_table) (defScope s_law_table) .none kV_law_table dc_law_table pm_law_table an_law_table cd_law_table ct_law_table), sl_law_table⟩)
    (c_law_table : PySem.W.codeIn K cd_law_table "_law_table" = true) (k_law_table : PySem.W.keepIn K (.ref f_law_table) = true)
    {f_law_tables : Addr} {od_law_tables an_law_tables : Option Addr} {sl_law_tables : Array (Option Value)} {oc_law_tables kV_law_tables dc_law_tables pm_law_tables cd_law_tables ct_law_tables : Value}
    (a_law_tables : PySem.W.nsIn K mainGlobals "_law_tables" = some (some (.ref f_law_tables)))
    (l_law_tables : K.lookup f_law_tables = some ⟨oc_law_tables, od_law_tables, .func (PySem.W.fnOf "_law_tables" "_law_tables" (defArgs s_law_tables) (defBody s_law_tables) (defScope s_law_tables) .none kV_law_tables dc_law_tables pm_law_tables an_law_tables cd_law_tables ct_law_tables), sl_law_tables⟩)
    (c_law_tables : PySem.W.codeIn K cd_law_tables "_law_tables" = true) (k_law_tables : PySem.W.keepIn K (.ref f_law_tables) = true)
    {f_law_same : Addr} {od_law_same an_law_same : Option Addr} {sl_law_same : Array (Option Value)} {oc_law_same kV_law_same dc_law_same pm_law_same cd_law_same ct_law_same : Value}
    (a_law_same : PySem.W.nsIn K mainGlobals "_law_same" = some (some (.ref f_law_same)))
    (l_law_same : K.lookup f_law_same = some ⟨oc_law_same, od_law_same, .func (PySem.W.fnOf "_law_same" "_law_same" (defArgs s_law_same) (defBody s_law_same) (defScope s_law_same) .none kV_law_same dc_law_same pm_law_same an_law_same cd_law_same ct_law_same), sl_law_same⟩)
    (c_law_same : PySem.W.codeIn K cd_law_same "_law_same" = true) (k_law_same : PySem.W.keepIn K (.ref f_law_same) = true)
    {f_law_pairs : Addr} {od_law_pairs an_law_pairs : Option Addr} {sl_law_pairs : Array (Option Value)} {oc_law_pairs kV_law_pairs dc_law_pairs pm_law_pairs cd_law_pairs ct_law_pairs : Value}
    (a_law_pairs : PySem.W.nsIn K mainGlobals "_law_pairs" = some (some (.ref f_law_pairs)))
    (l_law_pairs : K.lookup f_law_pairs = some ⟨oc_law_pairs, od_law_pairs, .func (PySem.W.fnOf "_law_pairs" "_law_pairs" (defArgs s_law_pairs) (defBody s_law_pairs) (defScope s_law_pairs) .none kV_law_pairs dc_law_pairs pm_law_pairs an_law_pairs cd_law_pairs ct_law_pairs), sl_law_pairs⟩)
    (c_law_pairs : PySem.W.codeIn K cd_law_pairs "_law_pairs" = true) (k_law_pairs : PySem.W.keepIn K (.ref f_law_pairs) = true)
    {f_law_too_many : Addr} {od_law_too_many an_law_too_many : Option Addr} {sl_law_too_many : Array (Option Value)} {oc_law_too_many kV_law_too_many dc_law_too_many pm_law_too_many cd_law_too_many ct_law_too_many : Value}
    (a_law_too_many : PySem.W.nsIn K mainGlobals "_law_too_many" = some (some (.ref f_law_too_many)))
    (l_law_too_many : K.lookup f_law_too_many = some ⟨oc_law_too_many, od_law_too_many, .func (PySem.W.fnOf "_law_too_many" "_law_too_many" (defArgs s_law_too_many) (defBody s_law_too_many) (defScope s_law_too_many) .none kV_law_too_many dc_law_too_many pm_law_too_many an_law_too_many cd_law_too_many ct_law_too_many), sl_law_too_many⟩)
    (c_law_too_many : PySem.W.codeIn K cd_law_too_many "_law_too_many" = true) (k_law_too_many : PySem.W.keepIn K (.ref f_law_too_many) = true)
    {f_law : Addr} {od_law an_law : Option Addr} {sl_law : Array (Option Value)} {oc_law kV_law dc_law pm_law cd_law ct_law : Value}
    (a_law : PySem.W.nsIn K mainGlobals "law" = some (some (.ref f_law)))
    (l_law : K.lookup f_law = some ⟨oc_law, od_law, .func (PySem.W.fnOf "law" "law" (defArgs s_law) (defBody s_law) (defScope s_law) .none kV_law dc_law pm_law an_law cd_law ct_law), sl_law⟩)
    (c_law : PySem.W.codeIn K cd_law "law" = true) (k_law : PySem.W.keepIn K (.ref f_law) = true)
    (z_NotImplemented : PySem.W.nsIn K mainGlobals "NotImplemented" = some none)
    (z_OverflowError : PySem.W.nsIn K mainGlobals "OverflowError" = some none)
    (z_abs : PySem.W.nsIn K mainGlobals "abs" = some none)
    (z_all : PySem.W.nsIn K mainGlobals "all" = some none)
    (z_dict : PySem.W.nsIn K mainGlobals "dict" = some none)
    (z_enumerate : PySem.W.nsIn K mainGlobals "enumerate" = some none)
    (z_isinstance : PySem.W.nsIn K mainGlobals "isinstance" = some none)
    (z_len : PySem.W.nsIn K mainGlobals "len" = some none)
    (z_list : PySem.W.nsIn K mainGlobals "list" = some none)
    (z_max : PySem.W.nsIn K mainGlobals "max" = some none)
    (z_min : PySem.W.nsIn K mainGlobals "min" = some none)
    (z_range : PySem.W.nsIn K mainGlobals "range" = some none)
    (z_repr : PySem.W.nsIn K mainGlobals "repr" = some none)
    (z_sorted : PySem.W.nsIn K mainGlobals "sorted" = some none)
    (z_str : PySem.W.nsIn K mainGlobals "str" = some none)
    (z_tuple : PySem.W.nsIn K mainGlobals "tuple" = some none)
    {ca_law pt_law : Addr} {ce_law : Option Addr} {cv_law : Array Value} {cs_law : Array (Option Value)} (cq_law : cd_law = .ref ca_law) (ck_law : K.lookup ca_law = some ⟨.type "code", ce_law, .fields cv_law, cs_law⟩)
    (cp_law : cv_law[11]? = some (.ref pt_law)) (ch_law : PySem.W.codeHdIn [(ca_law, ⟨.type "code", ce_law, .fields cv_law, cs_law⟩)] ca_law pt_law = true) (cn_law : K.lookup pt_law = none)
    : ∃ (fd : FuncData) (c T : Addr) (e : Value) (dd : Option Addr) (sl : Array (Option Value)), (∀ (s : Shared) (u : Value), BindsTo s fd ⟨[u], []⟩ [("_law_script", u)]) ∧ K.lookup fa = some ⟨e, dd, .func fd, sl⟩ ∧ fd.code = .ref c ∧ PySem.W.codeHdIn K c T = true ∧ K.lookup T = none ∧
      ∀ base : Heap, K.In base → base.Ns mainGlobals mg → LamX.TabB base mg c T → FnG l.prog w K mg base CX0 14 fa fd ["_law_script"] (sp_law K T) := by
  subst cq_law
  have e := hfa.symm.trans (PySem.W.mg_of X G a_law)
  cases e
  have F_TooMany_init := fun_mk (st := s_TooMany_init) l_TooMany_init c_TooMany_init k_TooMany_init
  have b_TooMany_init := F_TooMany_init.binds (ps := ["self", "limit"]) fun _ _ _ _ _ _ us hl => match us, hl with | [_, _], _ => rfl
  have F_is_name := fun_mk (st := s_is_name) l_is_name c_is_name k_is_name
  have b_is_name := F_is_name.binds (ps := ["value"]) fun _ _ _ _ _ _ us hl => match us, hl with | [_], _ => rfl
  have F_names_in := fun_mk (st := s_names_in) l_names_in c_names_in k_names_in
  have b_names_in := F_names_in.binds (ps := ["rules"]) fun _ _ _ _ _ _ us hl => match us, hl with | [_], _ => rfl
  have F_Rule_init := fun_mk (st := s_Rule_init) l_Rule_init c_Rule_init k_Rule_init
  have b_Rule_init := F_Rule_init.binds (ps := ["self", "operation", "name", "operands"]) fun _ _ _ _ _ _ us hl => match us, hl with | [_, _, _, _], _ => rfl
  have F_Rule_eq := fun_mk (st := s_Rule_eq) l_Rule_eq c_Rule_eq k_Rule_eq
  have b_Rule_eq := F_Rule_eq.binds (ps := ["self", "other"]) fun _ _ _ _ _ _ us hl => match us, hl with | [_, _], _ => rfl
  have F_Rule_or := fun_mk (st := s_Rule_or) l_Rule_or c_Rule_or k_Rule_or
  have b_Rule_or := F_Rule_or.binds (ps := ["self", "other"]) fun _ _ _ _ _ _ us hl => match us, hl with | [_, _], _ => rfl
  have F_Rule_sub := fun_mk (st := s_Rule_sub) l_Rule_sub c_Rule_sub k_Rule_sub
  have b_Rule_sub := F_Rule_sub.binds (ps := ["self", "other"]) fun _ _ _ _ _ _ us hl => match us, hl with | [_, _], _ => rfl
  have F_Rule_and := fun_mk (st := s_Rule_and) l_Rule_and c_Rule_and k_Rule_and
  have b_Rule_and := F_Rule_and.binds (ps := ["self", "other"]) fun _ _ _ _ _ _ us hl => match us, hl with | [_, _], _ => rfl
  have F_Rule_invert := fun_mk (st := s_Rule_invert) l_Rule_invert c_Rule_invert k_Rule_invert
  have b_Rule_invert := F_Rule_invert.binds (ps := ["self"]) fun _ _ _ _ _ _ us hl => match us, hl with | [_], _ => rfl
  have F_Rule_contains := fun_mk (st := s_Rule_contains) l_Rule_contains c_Rule_contains k_Rule_contains
  have b_Rule_contains := F_Rule_contains.binds (ps := ["self", "value"]) fun _ _ _ _ _ _ us hl => match us, hl with | [_, _], _ => rfl
  have F_Rule_str := fun_mk (st := s_Rule_str) l_Rule_str c_Rule_str k_Rule_str
  have b_Rule_str := F_Rule_str.binds (ps := ["self"]) fun _ _ _ _ _ _ us hl => match us, hl with | [_], _ => rfl
  have F_Rule_word := fun_mk (st := s_Rule_word) l_Rule_word c_Rule_word k_Rule_word
  have b_Rule_word := F_Rule_word.binds (ps := ["self"]) fun _ _ _ _ _ _ us hl => match us, hl with | [_], _ => rfl
  have F_Rule_names := fun_mk (st := s_Rule_names) l_Rule_names c_Rule_names k_Rule_names
  have b_Rule_names := F_Rule_names.binds (ps := ["self"]) fun _ _ _ _ _ _ us hl => match us, hl with | [_], _ => rfl
  have F_Rule_parts := fun_mk (st := s_Rule_parts) l_Rule_parts c_Rule_parts k_Rule_parts
  have b_Rule_parts := F_Rule_parts.binds (ps := ["self"]) fun _ _ _ _ _ _ us hl => match us, hl with | [_], _ => rfl
  have F_combined := fun_mk (st := s_combined) l_combined c_combined k_combined
  have b_combined := F_combined.binds (ps := ["operation", "operands"]) fun _ _ _ _ _ _ us hl => match us, hl with | [_, _], _ => rfl
  have F_base := fun_mk (st := s_base) l_base c_base k_base
  have b_base := F_base.binds (ps := ["name"]) fun _ _ _ _ _ _ us hl => match us, hl with | [_], _ => rfl
  have F_merged := fun_mk (st := s_merged) l_merged c_merged k_merged
  have F_chained := fun_mk (st := s_chained) l_chained c_chained k_chained
  have F_without := fun_mk (st := s_without) l_without c_without k_without
  have b_without := F_without.binds (ps := ["rule", "other"]) fun _ _ _ _ _ _ us hl => match us, hl with | [_, _], _ => rfl
  have F_kept := fun_mk (st := s_kept) l_kept c_kept k_kept
  have b_kept := F_kept.binds (ps := ["rule", "other"]) fun _ _ _ _ _ _ us hl => match us, hl with | [_, _], _ => rfl
  have F_filled := fun_mk (st := s_filled) l_filled c_filled k_filled
  have b_filled := F_filled.binds (ps := ["rule", "other"]) fun _ _ _ _ _ _ us hl => match us, hl with | [_, _], _ => rfl
  have F_moved := fun_mk (st := s_moved) l_moved c_moved k_moved
  have b_moved := F_moved.binds (ps := ["rule", "other"]) fun _ _ _ _ _ _ us hl => match us, hl with | [_, _], _ => rfl
  have F_turned := fun_mk (st := s_turned) l_turned c_turned k_turned
  have b_turned := F_turned.binds (ps := ["rule"]) fun _ _ _ _ _ _ us hl => match us, hl with | [_], _ => rfl
  have F_by_keys := fun_mk (st := s_by_keys) l_by_keys c_by_keys k_by_keys
  have b_by_keys := F_by_keys.binds (ps := ["rule"]) fun _ _ _ _ _ _ us hl => match us, hl with | [_], _ => rfl
  have F_postorder := fun_mk (st := s_postorder) l_postorder c_postorder k_postorder
  have b_postorder := F_postorder.binds (ps := ["rule"]) fun _ _ _ _ _ _ us hl => match us, hl with | [_], _ => rfl
  have F_merged_table := fun_mk (st := s_merged_table) l_merged_table c_merged_table k_merged_table
  have b_merged_table := F_merged_table.binds (ps := ["tables"]) fun _ _ _ _ _ _ us hl => match us, hl with | [_], _ => rfl
  have F_filled_table := fun_mk (st := s_filled_table) l_filled_table c_filled_table k_filled_table
  have b_filled_table := F_filled_table.binds (ps := ["table", "other"]) fun _ _ _ _ _ _ us hl => match us, hl with | [_, _], _ => rfl
  have F_moved_table := fun_mk (st := s_moved_table) l_moved_table c_moved_table k_moved_table
  have b_moved_table := F_moved_table.binds (ps := ["table", "other"]) fun _ _ _ _ _ _ us hl => match us, hl with | [_, _], _ => rfl
  have F_combined_table := fun_mk (st := s_combined_table) l_combined_table c_combined_table k_combined_table
  have b_combined_table := F_combined_table.binds (ps := ["word", "tables"]) fun _ _ _ _ _ _ us hl => match us, hl with | [_, _], _ => rfl
  have F_check_names := fun_mk (st := s_check_names) l_check_names c_check_names k_check_names
  have b_check_names := F_check_names.binds (ps := ["names", "tables"]) fun _ _ _ _ _ _ us hl => match us, hl with | [_, _], _ => rfl
  have F_evaluate := fun_mk (st := s_evaluate) l_evaluate c_evaluate k_evaluate
  have b_evaluate := F_evaluate.binds (ps := ["rule", "tables"]) fun _ _ _ _ _ _ us hl => match us, hl with | [_, _], _ => rfl
  have F_law_bag := fun_mk (st := s_law_bag) l_law_bag c_law_bag k_law_bag
  have b_law_bag := F_law_bag.binds (ps := ["_law_script", "_law_at"]) fun _ _ _ _ _ _ us hl => match us, hl with | [_, _], _ => rfl
  have F_law_take := fun_mk (st := s_law_take) l_law_take c_law_take k_law_take
  have b_law_take := F_law_take.binds (ps := ["_law_bag_here", "_law_many"]) fun _ _ _ _ _ _ us hl => match us, hl with | [_, _], _ => rfl
  have F_law_names := fun_mk (st := s_law_names) l_law_names c_law_names k_law_names
  have b_law_names := F_law_names.binds (ps := ["_law_bag_here", "_law_many"]) fun _ _ _ _ _ _ us hl => match us, hl with | [_, _], _ => rfl
  have F_law_tree := fun_mk (st := s_law_tree) l_law_tree c_law_tree k_law_tree
  have b_law_tree := F_law_tree.binds (ps := ["_law_bag_here", "_law_names_here", "_law_deep"]) fun _ _ _ _ _ _ us hl => match us, hl with | [_, _, _], _ => rfl
  have F_law_joined := fun_mk (st := s_law_joined) l_law_joined c_law_joined k_law_joined
  have b_law_joined := F_law_joined.binds (ps := ["_law_word", "_law_some"]) fun _ _ _ _ _ _ us hl => match us, hl with | [_, _], _ => rfl
  have F_law_by_word := fun_mk (st := s_law_by_word) l_law_by_word c_law_by_word k_law_by_word
  have b_law_by_word := F_law_by_word.binds (ps := ["_law_word", "_law_some"]) fun _ _ _ _ _ _ us hl => match us, hl with | [_, _], _ => rfl
  have F_law_made := fun_mk (st := s_law_made) l_law_made c_law_made k_law_made
  have b_law_made := F_law_made.binds (ps := ["_law_tree_here"]) fun _ _ _ _ _ _ us hl => match us, hl with | [_], _ => rfl
  have F_law_number := fun_mk (st := s_law_number) l_law_number c_law_number k_law_number
  have b_law_number := F_law_number.binds (ps := ["_law_bag_here"]) fun _ _ _ _ _ _ us hl => match us, hl with | [_], _ => rfl
  have F_law_table := fun_mk (st := s_law_table) l_law_table c_law_table k_law_table
  have b_law_table := F_law_table.binds (ps := ["_law_bag_here", "_law_most"]) fun _ _ _ _ _ _ us hl => match us, hl with | [_, _], _ => rfl
  have F_law_tables := fun_mk (st := s_law_tables) l_law_tables c_law_tables k_law_tables
  have b_law_tables := F_law_tables.binds (ps := ["_law_bag_here", "_law_names_here", "_law_most"]) fun _ _ _ _ _ _ us hl => match us, hl with | [_, _, _], _ => rfl
  have F_law_same := fun_mk (st := s_law_same) l_law_same c_law_same k_law_same
  have b_law_same := F_law_same.binds (ps := ["_law_found", "_law_due"]) fun _ _ _ _ _ _ us hl => match us, hl with | [_, _], _ => rfl
  have F_law_pairs := fun_mk (st := s_law_pairs) l_law_pairs c_law_pairs k_law_pairs
  have b_law_pairs := F_law_pairs.binds (ps := ["_law_one", "_law_two", "_law_last"]) fun _ _ _ _ _ _ us hl => match us, hl with | [_, _, _], _ => rfl
  have F_law_too_many := fun_mk (st := s_law_too_many) l_law_too_many c_law_too_many k_law_too_many
  have b_law_too_many := F_law_too_many.binds (ps := ["_law_deed"]) fun _ _ _ _ _ _ us hl => match us, hl with | [_], _ => rfl
  have F_law := fun_mk (st := s_law) l_law c_law k_law
  have b_law := F_law.binds (ps := ["_law_script"]) fun _ _ _ _ _ _ us hl => match us, hl with | [_], _ => rfl
  have T : Txt K mg := {
    f_TooMany_init := _,
    d_TooMany_init := _,
    F_TooMany_init := F_TooMany_init,
    b_TooMany_init := b_TooMany_init,
    f_is_name := _,
    d_is_name := _,
    F_is_name := F_is_name,
    m_is_name := PySem.W.mg_of X G a_is_name,
    b_is_name := b_is_name,
    f_names_in := _,
    d_names_in := _,
    F_names_in := F_names_in,
    m_names_in := PySem.W.mg_of X G a_names_in,
    b_names_in := b_names_in,
    f_Rule_init := _,
    d_Rule_init := _,
    F_Rule_init := F_Rule_init,
    b_Rule_init := b_Rule_init,
    f_Rule_eq := _,
    d_Rule_eq := _,
    F_Rule_eq := F_Rule_eq,
    b_Rule_eq := b_Rule_eq,
    f_Rule_or := _,
    d_Rule_or := _,
    F_Rule_or := F_Rule_or,
    b_Rule_or := b_Rule_or,
    f_Rule_sub := _,
    d_Rule_sub := _,
    F_Rule_sub := F_Rule_sub,
    b_Rule_sub := b_Rule_sub,
    f_Rule_and := _,
    d_Rule_and := _,
    F_Rule_and := F_Rule_and,
    b_Rule_and := b_Rule_and,
    f_Rule_invert := _,
    d_Rule_invert := _,
    F_Rule_invert := F_Rule_invert,
    b_Rule_invert := b_Rule_invert,
    f_Rule_contains := _,
    d_Rule_contains := _,
    F_Rule_contains := F_Rule_contains,
    b_Rule_contains := b_Rule_contains,
    f_Rule_str := _,
    d_Rule_str := _,
    F_Rule_str := F_Rule_str,
    b_Rule_str := b_Rule_str,
    f_Rule_word := _,
    d_Rule_word := _,
    F_Rule_word := F_Rule_word,
    b_Rule_word := b_Rule_word,
    f_Rule_names := _,
    d_Rule_names := _,
    F_Rule_names := F_Rule_names,
    b_Rule_names := b_Rule_names,
    f_Rule_parts := _,
    d_Rule_parts := _,
    F_Rule_parts := F_Rule_parts,
    b_Rule_parts := b_Rule_parts,
    f_combined := _,
    d_combined := _,
    F_combined := F_combined,
    m_combined := PySem.W.mg_of X G a_combined,
    b_combined := b_combined,
    f_base := _,
    d_base := _,
    F_base := F_base,
    m_base := PySem.W.mg_of X G a_base,
    b_base := b_base,
    f_merged := _,
    d_merged := _,
    F_merged := F_merged,
    m_merged := PySem.W.mg_of X G a_merged,
    v_merged := fun _ _ _ _ _ _ => rfl,
    w_merged := fun _ _ _ _ _ _ _ _ => rfl,
    f_chained := _,
    d_chained := _,
    F_chained := F_chained,
    m_chained := PySem.W.mg_of X G a_chained,
    v_chained := fun _ _ _ _ _ _ => rfl,
    w_chained := fun _ _ _ _ _ _ _ _ => rfl,
    f_without := _,
    d_without := _,
    F_without := F_without,
    m_without := PySem.W.mg_of X G a_without,
    b_without := b_without,
    f_kept := _,
    d_kept := _,
    F_kept := F_kept,
    m_kept := PySem.W.mg_of X G a_kept,
    b_kept := b_kept,
    f_filled := _,
    d_filled := _,
    F_filled := F_filled,
    m_filled := PySem.W.mg_of X G a_filled,
    b_filled := b_filled,
    f_moved := _,
    d_moved := _,
    F_moved := F_moved,
    m_moved := PySem.W.mg_of X G a_moved,
    b_moved := b_moved,
    f_turned := _,
    d_turned := _,
    F_turned := F_turned,
    m_turned := PySem.W.mg_of X G a_turned,
    b_turned := b_turned,
    f_by_keys := _,
    d_by_keys := _,
    F_by_keys := F_by_keys,
    m_by_keys := PySem.W.mg_of X G a_by_keys,
    b_by_keys := b_by_keys,
    f_postorder := _,
    d_postorder := _,
    F_postorder := F_postorder,
    m_postorder := PySem.W.mg_of X G a_postorder,
    b_postorder := b_postorder,
    f_merged_table := _,
    d_merged_table := _,
    F_merged_table := F_merged_table,
    m_merged_table := PySem.W.mg_of X G a_merged_table,
    b_merged_table := b_merged_table,
    f_filled_table := _,
    d_filled_table := _,
    F_filled_table := F_filled_table,
    m_filled_table := PySem.W.mg_of X G a_filled_table,
    b_filled_table := b_filled_table,
    f_moved_table := _,
    d_moved_table := _,
    F_moved_table := F_moved_table,
    m_moved_table := PySem.W.mg_of X G a_moved_table,
    b_moved_table := b_moved_table,
    f_combined_table := _,
    d_combined_table := _,
    F_combined_table := F_combined_table,
    m_combined_table := PySem.W.mg_of X G a_combined_table,
    b_combined_table := b_combined_table,
    f_check_names := _,
    d_check_names := _,
    F_check_names := F_check_names,
    m_check_names := PySem.W.mg_of X G a_check_names,
    b_check_names := b_check_names,
    f_evaluate := _,
    d_evaluate := _,
    F_evaluate := F_evaluate,
    m_evaluate := PySem.W.mg_of X G a_evaluate,
    b_evaluate := b_evaluate,
    f_law_bag := _,
    d_law_bag := _,
    F_law_bag := F_law_bag,
    m_law_bag := PySem.W.mg_of X G a_law_bag,
    b_law_bag := b_law_bag,
    f_law_take := _,
    d_law_take := _,
    F_law_take := F_law_take,
    m_law_take := PySem.W.mg_of X G a_law_take,
    b_law_take := b_law_take,
    f_law_names := _,
    d_law_names := _,
    F_law_names := F_law_names,
    m_law_names := PySem.W.mg_of X G a_law_names,
    b_law_names := b_law_names,
    f_law_tree := _,
    d_law_tree := _,
    F_law_tree := F_law_tree,
    m_law_tree := PySem.W.mg_of X G a_law_tree,
    b_law_tree := b_law_tree,
    f_law_joined := _,
    d_law_joined := _,
    F_law_joined := F_law_joined,
    m_law_joined := PySem.W.mg_of X G a_law_joined,
    b_law_joined := b_law_joined,
    f_law_by_word := _,
    d_law_by_word := _,
    F_law_by_word := F_law_by_word,
    m_law_by_word := PySem.W.mg_of X G a_law_by_word,
    b_law_by_word := b_law_by_word,
    f_law_made := _,
    d_law_made := _,
    F_law_made := F_law_made,
    m_law_made := PySem.W.mg_of X G a_law_made,
    b_law_made := b_law_made,
    f_law_number := _,
    d_law_number := _,
    F_law_number := F_law_number,
    m_law_number := PySem.W.mg_of X G a_law_number,
    b_law_number := b_law_number,
    f_law_table := _,
    d_law_table := _,
    F_law_table := F_law_table,
    m_law_table := PySem.W.mg_of X G a_law_table,
    b_law_table := b_law_table,
    f_law_tables := _,
    d_law_tables := _,
    F_law_tables := F_law_tables,
    m_law_tables := PySem.W.mg_of X G a_law_tables,
    b_law_tables := b_law_tables,
    f_law_same := _,
    d_law_same := _,
    F_law_same := F_law_same,
    m_law_same := PySem.W.mg_of X G a_law_same,
    b_law_same := b_law_same,
    f_law_pairs := _,
    d_law_pairs := _,
    F_law_pairs := F_law_pairs,
    m_law_pairs := PySem.W.mg_of X G a_law_pairs,
    b_law_pairs := b_law_pairs,
    f_law_too_many := _,
    d_law_too_many := _,
    F_law_too_many := F_law_too_many,
    m_law_too_many := PySem.W.mg_of X G a_law_too_many,
    b_law_too_many := b_law_too_many,
    f_law := _,
    d_law := _,
    F_law := F_law,
    m_law := PySem.W.mg_of X G a_law,
    b_law := b_law,
    C_Rule := _,
    cl_Rule := ⟨pg_Rule, hd_Rule, po_Rule, sa_Rule⟩,
    m_Rule := PySem.W.mg_of X G a_Rule,
    n_Rule_operation := n_Rule_operation,
    n_Rule_name := n_Rule_name,
    n_Rule_operands := n_Rule_operands,
    n_Rule_flat := n_Rule_flat,
    n_Rule_written := n_Rule_written,
    n_Rule_base_names := n_Rule_base_names,
    mk_Rule := ⟨mk_Rule, a_Rule_init, i_Rule_init, kc_Rule⟩,
    p_Rule_word := _,
    pr_Rule_word := ⟨a_Rule_word, g_Rule_word, t_Rule_word, ⟨_, r_Rule_word⟩⟩,
    p_Rule_names := _,
    pr_Rule_names := ⟨a_Rule_names, g_Rule_names, t_Rule_names, ⟨_, r_Rule_names⟩⟩,
    p_Rule_parts := _,
    pr_Rule_parts := ⟨a_Rule_parts, g_Rule_parts, t_Rule_parts, ⟨_, r_Rule_parts⟩⟩,
    om_Rule_eq := ⟨a_Rule_eq, i_Rule_eq⟩,
    om_Rule_or := ⟨a_Rule_or, i_Rule_or⟩,
    om_Rule_sub := ⟨a_Rule_sub, i_Rule_sub⟩,
    om_Rule_and := ⟨a_Rule_and, i_Rule_and⟩,
    om_Rule_invert := ⟨a_Rule_invert, i_Rule_invert⟩,
    om_Rule_contains := ⟨a_Rule_contains, i_Rule_contains⟩,
    om_Rule_str := ⟨a_Rule_str, i_Rule_str⟩,
    ic_Rule := ⟨⟨pg_Rule, hd_Rule, po_Rule, sa_Rule⟩, ha_Rule, hn_Rule, ht_Rule, hm_Rule, if_pos (beq_self_eq_true _)⟩,
    cr_Rule := ⟨rd_Rule, ga_Rule⟩,
    sf_Rule := sf_Rule,
    od_Rule := ⟨os1_Rule, os2_Rule, os3_Rule, os4_Rule, os5_Rule, os6_Rule⟩,
    ne_Rule := ne_Rule,
    ki_Rule_NoneType := ki_Rule_NoneType,
    ki_Rule_bool := ki_Rule_bool,
    ki_Rule_int := ki_Rule_int,
    ki_Rule_str := ki_Rule_str,
    ki_Rule_list := ki_Rule_list,
    ki_Rule_tuple := ki_Rule_tuple,
    u_Rule_MOST_NAMES := _,
    cv_Rule_MOST_NAMES := ⟨cv_Rule_MOST_NAMES, ⟨_, rfl⟩⟩,
    C_TooMany := _,
    m_TooMany := PySem.W.mg_of X G a_TooMany,
    x_TooMany := ⟨⟨xi_TooMany, xo_TooMany, xh_TooMany, xs_TooMany, xb_TooMany, xt_TooMany, xk_TooMany⟩, a_TooMany_init, ti_TooMany_init, xm_TooMany, xn_TooMany, xv_TooMany, ⟨xg_TooMany, xa_TooMany, xb_TooMany, xh_TooMany⟩, exm_self xb_TooMany xc_TooMany xt_TooMany xe_TooMany⟩,
    u_LETTERS := _,
    c_LETTERS := PySem.W.mg_of X G a_LETTERS,
    r_LETTERS := ⟨_, rfl⟩,
    u_MOST_LETTERS := _,
    c_MOST_LETTERS := PySem.W.mg_of X G a_MOST_LETTERS,
    r_MOST_LETTERS := ⟨_, rfl⟩,
    u_BASE := _,
    c_BASE := PySem.W.mg_of X G a_BASE,
    r_BASE := ⟨_, rfl⟩,
    u_GAP := _,
    c_GAP := PySem.W.mg_of X G a_GAP,
    r_GAP := ⟨_, rfl⟩,
    z_NotImplemented := PySem.W.mg_none_of X G z_NotImplemented,
    z_OverflowError := PySem.W.mg_none_of X G z_OverflowError,
    z_abs := PySem.W.mg_none_of X G z_abs,
    z_all := PySem.W.mg_none_of X G z_all,
    z_dict := PySem.W.mg_none_of X G z_dict,
    z_enumerate := PySem.W.mg_none_of X G z_enumerate,
    z_isinstance := PySem.W.mg_none_of X G z_isinstance,
    z_len := PySem.W.mg_none_of X G z_len,
    z_list := PySem.W.mg_none_of X G z_list,
    z_max := PySem.W.mg_none_of X G z_max,
    z_min := PySem.W.mg_none_of X G z_min,
    z_range := PySem.W.mg_none_of X G z_range,
    z_repr := PySem.W.mg_none_of X G z_repr,
    z_sorted := PySem.W.mg_none_of X G z_sorted,
    z_str := PySem.W.mg_none_of X G z_str,
    z_tuple := PySem.W.mg_none_of X G z_tuple }
  have FC_law : FunC K "law" "law" s_law _ ca_law _ := ⟨⟨_, _, _, _, _, _, _, _, rfl, l_law, c_law⟩⟩
  exact ⟨PySem.W.fnOf "law" "law" (defArgs s_law) (defBody s_law) (defScope s_law) .none kV_law dc_law pm_law an_law (.ref ca_law) ct_law, ca_law, pt_law, _, _, _, fun s v => .of_eq rfl, l_law, rfl, codeHd_by ck_law ch_law, cn_law, fun base _ _ TB => ok_law_ FC_law T TB⟩
theorem walk {l : PySem.W.OpenLaw} {q : Program} {loose : List Str} {XP : (Str → Option Value) → Heap → Prop} {YP : World → Heap → Prop} {d : DefRec} {K : Params → PySem.W.Frag} (hn : l.most = some 63) (hdf : d.params.defaults = []) (hrec : ((recsOf q).any fun e => e.name == d.name) = true)
    (hY : ∀ (w : World) (h : Heap), YP w h → (K w.params).In h)
    (F : ∀ (w : World) (mg : Str → Option Value) (fa : Addr) (h : Heap), (K w.params).In h → h.Ns mainGlobals mg → mg d.name = some (.ref fa) →
      ∃ (fd : FuncData) (c T : Addr) (e : Value) (dd : Option Addr) (sl : Array (Option Value)), (∀ (s : Shared) (u : Value), BindsTo s fd ⟨[u], []⟩ [("_law_script", u)]) ∧ (K w.params).lookup fa = some ⟨e, dd, .func fd, sl⟩ ∧ fd.code = .ref c ∧ PySem.W.codeHdIn (K w.params) c T = true ∧ (K w.params).lookup T = none ∧
        ∀ base : Heap, (K w.params).In base → base.Ns mainGlobals mg → LamX.TabB base mg c T → FnG l.prog w (K w.params) mg base CX0 14 fa fd ["_law_script"] (sp_law (K w.params) T)) :
    PySem.W.WalkO q loose XP YP l.row.toRowW d [] (fun f vs => PySem.call f vs) :=
  walkT (n := 63) (k := 14) (x := "_law_script") (CX := fun _ => CX0) (sp := fun w T => sp_law (K w.params) T) hn (by decide) hdf ⟨rfl, by decide, by decide⟩ hrec hY F (fun _ _ _ a ns hl hT hS => ⟨a, ns, rfl, hS, hl, hT, fun _ => rfl⟩) fun _ _ _ _ _ z => z
end PX
open PySem PySem.W PyProof.Rows
set_option maxRecDepth 100000 in
set_option maxHeartbeats 0 in
theorem PySem.Challenge.cw_dictorders_k86_operators_of_rules_holds : PySem.Challenge.rw_dictorders_k86_operators_of_rules.Holds := by
  w_on; o_law; k_head; (case hw => w_witness2)
  k_fill
  refine PX.walk (l := PySem.Challenge.rw_dictorders_k86_operators_of_rules) rfl rfl (by kernel_rfl) (fun w h Y => PySem.W.km_in_of Y) ?F
  case F =>
    intro w mg fa h KX G hmg
    refine' PX.all_mk KX G hmg ?a_Rule ?pg_Rule ?hd_Rule ?po_Rule ?sa_Rule ?mk_Rule ?kc_Rule ?n_Rule_operation ?n_Rule_name ?n_Rule_operands ?n_Rule_flat ?n_Rule_written ?n_Rule_base_names ?ha_Rule ?hn_Rule ?ht_Rule ?hm_Rule ?rd_Rule ?ga_Rule ?cv_Rule_MOST_NAMES ?sf_Rule ?os1_Rule ?os2_Rule ?os3_Rule ?os4_Rule ?os5_Rule ?os6_Rule ?ne_Rule ?ki_Rule_NoneType ?ki_Rule_bool ?ki_Rule_int ?ki_Rule_str ?ki_Rule_list ?ki_Rule_tuple ?a_TooMany ?xi_TooMany ?xo_TooMany ?xh_TooMany ?xs_TooMany ?xb_TooMany ?xt_TooMany ?xk_TooMany ?xm_TooMany ?xn_TooMany ?xv_TooMany ?xg_TooMany ?xa_TooMany ?xc_TooMany ?xe_TooMany ?a_LETTERS ?a_MOST_LETTERS ?a_BASE ?a_GAP ?a_TooMany_init ?i_TooMany_init ?l_TooMany_init ?c_TooMany_init ?k_TooMany_init ?ti_TooMany_init ?a_is_name ?l_is_name ?c_is_name ?k_is_name ?a_names_in ?l_names_in ?c_names_in ?k_names_in ?a_Rule_init ?i_Rule_init ?l_Rule_init ?c_Rule_init ?k_Rule_init ?a_Rule_eq ?i_Rule_eq ?l_Rule_eq ?c_Rule_eq ?k_Rule_eq ?a_Rule_or ?i_Rule_or ?l_Rule_or ?c_Rule_or ?k_Rule_or ?a_Rule_sub ?i_Rule_sub ?l_Rule_sub ?c_Rule_sub ?k_Rule_sub ?a_Rule_and ?i_Rule_and ?l_Rule_and ?c_Rule_and ?k_Rule_and ?a_Rule_invert ?i_Rule_invert ?l_Rule_invert ?c_Rule_invert ?k_Rule_invert ?a_Rule_contains ?i_Rule_contains ?l_Rule_contains ?c_Rule_contains ?k_Rule_contains ?a_Rule_str ?i_Rule_str ?l_Rule_str ?c_Rule_str ?k_Rule_str ?a_Rule_word ?g_Rule_word ?t_Rule_word ?r_Rule_word ?l_Rule_word ?c_Rule_word ?k_Rule_word ?a_Rule_names ?g_Rule_names ?t_Rule_names ?r_Rule_names ?l_Rule_names ?c_Rule_names ?k_Rule_names ?a_Rule_parts ?g_Rule_parts ?t_Rule_parts ?r_Rule_parts ?l_Rule_parts ?c_Rule_parts ?k_Rule_parts ?a_combined ?l_combined ?c_combined ?k_combined ?a_base ?l_base ?c_base ?k_base ?a_merged ?l_merged ?c_merged ?k_merged ?a_chained ?l_chained ?c_chained ?k_chained ?a_without ?l_without ?c_without ?k_without ?a_kept ?l_kept ?c_kept ?k_kept ?a_filled ?l_filled ?c_filled ?k_filled ?a_moved ?l_moved ?c_moved ?k_moved ?a_turned ?l_turned ?c_turned ?k_turned ?a_by_keys ?l_by_keys ?c_by_keys ?k_by_keys ?a_postorder ?l_postorder ?c_postorder ?k_postorder ?a_merged_table ?l_merged_table ?c_merged_table ?k_merged_table ?a_filled_table ?l_filled_table ?c_filled_table ?k_filled_table ?a_moved_table ?l_moved_table ?c_moved_table ?k_moved_table ?a_combined_table ?l_combined_table ?c_combined_table ?k_combined_table ?a_check_names ?l_check_names ?c_check_names ?k_check_names ?a_evaluate ?l_evaluate ?c_evaluate ?k_evaluate ?a_law_bag ?l_law_bag ?c_law_bag ?k_law_bag ?a_law_take ?l_law_take ?c_law_take ?k_law_take ?a_law_names ?l_law_names ?c_law_names ?k_law_names ?a_law_tree ?l_law_tree ?c_law_tree ?k_law_tree ?a_law_joined ?l_law_joined ?c_law_joined ?k_law_joined ?a_law_by_word ?l_law_by_word ?c_law_by_word ?k_law_by_word ?a_law_made ?l_law_made ?c_law_made ?k_law_made ?a_law_number ?l_law_number ?c_law_number ?k_law_number ?a_law_table ?l_law_table ?c_law_table ?k_law_table ?a_law_tables ?l_law_tables ?c_law_tables ?k_law_tables ?a_law_same ?l_law_same ?c_law_same ?k_law_same ?a_law_pairs ?l_law_pairs ?c_law_pairs ?k_law_pairs ?a_law_too_many ?l_law_too_many ?c_law_too_many ?k_law_too_many ?a_law ?l_law ?c_law ?k_law ?z_NotImplemented ?z_OverflowError ?z_abs ?z_all ?z_dict ?z_enumerate ?z_isinstance ?z_len ?z_list ?z_max ?z_min ?z_range ?z_repr ?z_sorted ?z_str ?z_tuple ?cq_law ?ck_law ?cp_law ?ch_law ?cn_law
    (case a_Rule => k_is); (case pg_Rule => k_is); (case hd_Rule => k_is); (case po_Rule => k_is); (case sa_Rule => k_is); (case mk_Rule => k_is)
    (case kc_Rule => k_is); (case n_Rule_operation => k_is); (case n_Rule_name => k_is); (case n_Rule_operands => k_is); (case n_Rule_flat => k_is); (case n_Rule_written => k_is)
    (case n_Rule_base_names => k_is); (case ha_Rule => k_is); (case hn_Rule => k_is); (case ht_Rule => k_is); (case hm_Rule => k_is); (case rd_Rule => k_is)
    (case ga_Rule => k_is); (case cv_Rule_MOST_NAMES => k_is); (case sf_Rule => k_is); (case os1_Rule => k_is); (case os2_Rule => k_is); (case os3_Rule => k_is)
    (case os4_Rule => k_is); (case os5_Rule => k_is); (case os6_Rule => k_is); (case ne_Rule => k_is); (case ki_Rule_NoneType => kit_is); (case ki_Rule_bool => kit_is)
    (case ki_Rule_int => kit_is); (case ki_Rule_str => kit_is); (case ki_Rule_list => kit_is); (case ki_Rule_tuple => kit_is); (case a_TooMany => k_is); (case xi_TooMany => kx_is)
    (case xo_TooMany => kx_is); (case xh_TooMany => k_is); (case xs_TooMany => k_is); (case xb_TooMany => k_is); (case xt_TooMany => k_is); (case xk_TooMany => k_is)
    (case xm_TooMany => k_is); (case xn_TooMany => k_is); (case xv_TooMany => k_is); (case xg_TooMany => k_is); (case xa_TooMany => k_is); (case xc_TooMany => k_is)
    (case xe_TooMany => k_is); (case a_LETTERS => k_is); (case a_MOST_LETTERS => k_is); (case a_BASE => k_is); (case a_GAP => k_is); (case a_TooMany_init => k_is)
    (case i_TooMany_init => k_is); (case l_TooMany_init => k_is); (case c_TooMany_init => k_is); (case k_TooMany_init => k_is); (case ti_TooMany_init => k_is); (case a_is_name => k_is)
    (case l_is_name => k_is); (case c_is_name => k_is); (case k_is_name => k_is); (case a_names_in => k_is); (case l_names_in => k_is); (case c_names_in => k_is)
    (case k_names_in => k_is); (case a_Rule_init => k_is); (case i_Rule_init => k_is); (case l_Rule_init => k_is); (case c_Rule_init => k_is); (case k_Rule_init => k_is)
    (case a_Rule_eq => k_is); (case i_Rule_eq => k_is); (case l_Rule_eq => k_is); (case c_Rule_eq => k_is); (case k_Rule_eq => k_is); (case a_Rule_or => k_is)
    (case i_Rule_or => k_is); (case l_Rule_or => k_is); (case c_Rule_or => k_is); (case k_Rule_or => k_is); (case a_Rule_sub => k_is); (case i_Rule_sub => k_is)
    (case l_Rule_sub => k_is); (case c_Rule_sub => k_is); (case k_Rule_sub => k_is); (case a_Rule_and => k_is); (case i_Rule_and => k_is); (case l_Rule_and => k_is)
    (case c_Rule_and => k_is); (case k_Rule_and => k_is); (case a_Rule_invert => k_is); (case i_Rule_invert => k_is); (case l_Rule_invert => k_is); (case c_Rule_invert => k_is)
    (case k_Rule_invert => k_is); (case a_Rule_contains => k_is); (case i_Rule_contains => k_is); (case l_Rule_contains => k_is); (case c_Rule_contains => k_is); (case k_Rule_contains => k_is)
    (case a_Rule_str => k_is); (case i_Rule_str => k_is); (case l_Rule_str => k_is); (case c_Rule_str => k_is); (case k_Rule_str => k_is); (case a_Rule_word => k_is)
    (case g_Rule_word => k_is); (case t_Rule_word => k_is); (case r_Rule_word => k_is); (case l_Rule_word => k_is); (case c_Rule_word => k_is); (case k_Rule_word => k_is)
    (case a_Rule_names => k_is); (case g_Rule_names => k_is); (case t_Rule_names => k_is); (case r_Rule_names => k_is); (case l_Rule_names => k_is); (case c_Rule_names => k_is)
    (case k_Rule_names => k_is); (case a_Rule_parts => k_is); (case g_Rule_parts => k_is); (case t_Rule_parts => k_is); (case r_Rule_parts => k_is); (case l_Rule_parts => k_is)
    (case c_Rule_parts => k_is); (case k_Rule_parts => k_is); (case a_combined => k_is); (case l_combined => k_is); (case c_combined => k_is); (case k_combined => k_is)
    (case a_base => k_is); (case l_base => k_is); (case c_base => k_is); (case k_base => k_is); (case a_merged => k_is); (case l_merged => k_is)
    (case c_merged => k_is); (case k_merged => k_is); (case a_chained => k_is); (case l_chained => k_is); (case c_chained => k_is); (case k_chained => k_is)
    (case a_without => k_is); (case l_without => k_is); (case c_without => k_is); (case k_without => k_is); (case a_kept => k_is); (case l_kept => k_is)
    (case c_kept => k_is); (case k_kept => k_is); (case a_filled => k_is); (case l_filled => k_is); (case c_filled => k_is); (case k_filled => k_is)
    (case a_moved => k_is); (case l_moved => k_is); (case c_moved => k_is); (case k_moved => k_is); (case a_turned => k_is); (case l_turned => k_is)
    (case c_turned => k_is); (case k_turned => k_is); (case a_by_keys => k_is); (case l_by_keys => k_is); (case c_by_keys => k_is); (case k_by_keys => k_is)
    (case a_postorder => k_is); (case l_postorder => k_is); (case c_postorder => k_is); (case k_postorder => k_is); (case a_merged_table => k_is); (case l_merged_table => k_is)
    (case c_merged_table => k_is); (case k_merged_table => k_is); (case a_filled_table => k_is); (case l_filled_table => k_is); (case c_filled_table => k_is); (case k_filled_table => k_is)
    (case a_moved_table => k_is); (case l_moved_table => k_is); (case c_moved_table => k_is); (case k_moved_table => k_is); (case a_combined_table => k_is); (case l_combined_table => k_is)
    (case c_combined_table => k_is); (case k_combined_table => k_is); (case a_check_names => k_is); (case l_check_names => k_is); (case c_check_names => k_is); (case k_check_names => k_is)
    (case a_evaluate => k_is); (case l_evaluate => k_is); (case c_evaluate => k_is); (case k_evaluate => k_is); (case a_law_bag => k_is); (case l_law_bag => k_is)
    (case c_law_bag => k_is); (case k_law_bag => k_is); (case a_law_take => k_is); (case l_law_take => k_is); (case c_law_take => k_is); (case k_law_take => k_is)
    (case a_law_names => k_is); (case l_law_names => k_is); (case c_law_names => k_is); (case k_law_names => k_is); (case a_law_tree => k_is); (case l_law_tree => k_is)
    (case c_law_tree => k_is); (case k_law_tree => k_is); (case a_law_joined => k_is); (case l_law_joined => k_is); (case c_law_joined => k_is); (case k_law_joined => k_is)
    (case a_law_by_word => k_is); (case l_law_by_word => k_is); (case c_law_by_word => k_is); (case k_law_by_word => k_is); (case a_law_made => k_is); (case l_law_made => k_is)
    (case c_law_made => k_is); (case k_law_made => k_is); (case a_law_number => k_is); (case l_law_number => k_is); (case c_law_number => k_is); (case k_law_number => k_is)
    (case a_law_table => k_is); (case l_law_table => k_is); (case c_law_table => k_is); (case k_law_table => k_is); (case a_law_tables => k_is); (case l_law_tables => k_is)
    (case c_law_tables => k_is); (case k_law_tables => k_is); (case a_law_same => k_is); (case l_law_same => k_is); (case c_law_same => k_is); (case k_law_same => k_is)
    (case a_law_pairs => k_is); (case l_law_pairs => k_is); (case c_law_pairs => k_is); (case k_law_pairs => k_is); (case a_law_too_many => k_is); (case l_law_too_many => k_is)
    (case c_law_too_many => k_is); (case k_law_too_many => k_is); (case a_law => k_is); (case l_law => k_is); (case c_law => k_is); (case k_law => k_is)
    (case z_NotImplemented => k_is); (case z_OverflowError => k_is); (case z_abs => k_is); (case z_all => k_is); (case z_dict => k_is); (case z_enumerate => k_is)
    (case z_isinstance => k_is); (case z_len => k_is); (case z_list => k_is); (case z_max => k_is); (case z_min => k_is); (case z_range => k_is)
    (case z_repr => k_is); (case z_sorted => k_is); (case z_str => k_is); (case z_tuple => k_is); (case cq_law => rfl); (case ck_law => k_is)
    (case cp_law => rfl); (case ch_law => kernel_rfl); (case cn_law => kernel_rfl)
#print axioms PySem.Challenge.cw_dictorders_k86_operators_of_rules_holds
