import PyProof.Rows.All
import Wide.All
import OpenK.AllK
import Wide.FinOn
import PyProof.EqAt
import PyProof.EqKinds
import PyProof.TupleCall
import PyProof.ReprRoads
import PyProof.ReprText
import HandS.ForMost
import HandS.Exc
import HandS.ExcOwn
import HandS.WordsExc
import HandS.TryOnly
import HandS.Deep
import HandS.Conv
import HandS.Zip
import HandS.TupMul
import HandS.TupAny
import HandS.SortRule
import HandS.SortInts
import HandS.EndBits
import HandS.IsInst
import HandS.ExcInit
import HandS.Walk
import KE.GoesEnum
import HandS.FStrTup
import PyProof.P3In
import HandS.Evl
import HandS.Style
import PyProof.Rows.SumAny
import KE.OsSetLaws
import HandS.ExcIs
import HandS.TupLe
import HandS.ExcField
import KE.KExcIs
import HandS.SortOrd
import HandS.Small
import KE.KDictSum
import KE.KDictCopyH
import HandS.TryMany
import HandS.TupSets
import KE.SortData
import HandS.SetFor
import HandS.TupLen
import KE.KDictDisplayH
import HandS.DictTup
import HandS.Strs
import PySem.Challenge.RW_unevenroads_k83_whole_ways_past_closed_r
set_option Elab.async false
set_option linter.all false
set_option maxRecDepth 100000
set_option maxHeartbeats 8000000
namespace UW
open PySem PySem.Spec PyProof.Rows L2
/-- a def's promise, called where no repr is under way -/
structure FnG (P : Program) (w : World) (K : PySem.W.Frag) (mg : Str → Option Value) (base : Heap) (k : Nat) (f : Addr) (fd : FuncData) (ps : List Str) (sp : Sp) : Prop where
  len : ∀ vs H Q E, sp vs H Q E → vs.length = ps.length
  go : ∀ (A : Around) (o : List Env) (s : Shared) (H : Hp) (ar : Args) (us : List Value) (vs : List V) (Q : VK) (E : XK), A.guards = some [] → Room k A →
    Env0 P w K mg base A o s H → BindsTo s fd ar (ps.zip us) → Vals vs us → sp vs H Q E → codeAny (model P w) A (.call (.ref f) ar) (CR (L2.CX P w) o P w H s Q E) s
section
variable {P : Program} {w : World} {K : PySem.W.Frag} {mg : Str → Option Value} {base : Heap} {k j : Nat} {f : Addr} {fd : FuncData} {ps : List Str} {sp : Sp}
theorem FnG.of (F : FnOk P w K mg base (L2.CX P w) k f fd ps sp) : FnG P w K mg base k f fd ps sp :=
  ⟨F.len, fun A o s H ar us vs Q E _ hr he hb hv hs => F.run A o s H ar us vs Q E hr he hb hv hs⟩
theorem FnG.up (F : FnG P w K mg base j f fd ps sp) (h : j ≤ k) : FnG P w K mg base k f fd ps sp :=
  ⟨F.len, fun A o s H ar us vs Q E g hr he hb hv hs => F.go A o s H ar us vs Q E g (hr.mono h) he hb hv hs⟩
theorem FnG.as (F : FnG P w K mg base k f fd ps sp) {sp' : Sp} (h : ∀ vs H Q E, sp' vs H Q E → sp vs H Q E) : FnG P w K mg base k f fd ps sp' :=
  ⟨fun vs H Q E q => F.len vs H Q E (h _ _ _ _ q), fun A o s H ar us vs Q E g hr he hb hv hs => F.go A o s H ar us vs Q E g hr he hb hv (h _ _ _ _ hs)⟩
theorem bound_kind {scope : Scope} {N : List Str} {us : List Value} {n : Nat} (S : FnScope N ps scope) :
    ∀ y ∈ ps.zip us, scope.names.lookup y.1 = some .local ∨ (scope.names.lookup y.1 = some .cell ∧ ((cellsFrom n scope.names []).lookup y.1).isSome = true) := by
  rintro ⟨a, v⟩ hy
  have q := S.par a (List.of_mem_zip hy).1
  cases q with
  | inl q => exact Or.inl q
  | inr q => exact Or.inr ⟨q, PySem.W.cellsFrom_some _ _ _ (Or.inl q)⟩
/-- the rule for a def by its body, where no repr is under way -/
theorem Fun.okG {x qual : Str} {st : Stmt} {N : List Str} (F : Fun K x qual st f fd) (S : FnScope N ps (defScope st)) (ln : ∀ vs H Q E, sp vs H Q E → vs.length = ps.length)
    (hb : ∀ (cdv : Value) (A : Around) (o : List Env) (s : Shared) (H : Hp) (vs : List V) (Q : VK) (E : XK), A.guards = some [] → Room k (A.deeper (envOfC qual (defScope st) s.heap.objs.size f cdv)) → sp vs H Q E →
      ∃ t, PSs (cxOf (L2.CX P w) P w K mg base N qual (defScope st) f cdv A o s H E) (defBody st) t ∧ t { nx := fun _ H' => Q .non H', rt := Q } (start N vs) H) :
    FnG P w K mg base (k + 1) f fd ps sp := by
  obtain ⟨oc, od, kV, doc, pm, an, cdv, ct, osl, rfl, lk, hcd⟩ := F.ex
  refine ⟨ln, ?_⟩
  intro A o s H ar us vs Q E hg hr e0 hbd r hsp
  have hl := ln _ _ _ _ hsp
  have old : ∀ b ob, base.get? b = some ob → s.heap.get? b = some ob := fun b ob e => (e0.bs b ob e).1
  have KX : K.In s.heap := e0.mod.kin.keeps old
  have lim : s.heap.NoLimit := e0.mod.nolimit.keeps old
  refine codeAny_call_function hr.depth (KX _ _ lk) rfl S.co S.gen rfl (PySem.W.codeRec_of KX hcd) (hbd _ _ _ _ ?_)
  refine wpAny_newFunctionEnv_cells S.kind (bound_kind S) fun env he s1 x1 => ?_
  subst he
  refine ⟨lim.keeps x1.toInCall.keep, codeAny_func ?_⟩
  obtain ⟨t, ht, hq⟩ := hb cdv A o s H vs Q E hg (hr.deeper _) hsp
  have I : Inv (cxOf (L2.CX P w) P w K mg base N qual (defScope st) f cdv A o s H E) [] (start N vs) H s1 := inv_start S hr.hd e0 hl r x1
  refine wpAny_mono (ht.run [] s1 (start N vs) H _ I hq) ?_ (fun _ _ z => z)
  intro fl s' hs
  have ce : ∀ {σ' : L2.St} {H' : Hp} {v : V} {u : Value}, Inv (cxOf (L2.CX P w) P w K mg base N qual (defScope st) f cdv A o s H E) [] σ' H' s' → RelV v u → Q v H' → CE o P w H s Q u s' := by
    intro σ' H' v u J rv q
    exact ⟨v, H', J.os, J.bare, J.base, J.hok, rv, q⟩
  cases fl with
  | next => exact let ⟨_, _, J, q⟩ := hs; ce (v := V.non) (u := Value.none) J rfl q
  | ret u => exact let ⟨_, _, _, J, rv, q⟩ := hs; ce J rv q
  | brk => exact let ⟨_, _, _, q⟩ := hs; (q : False).elim
  | cont => exact let ⟨_, _, _, q⟩ := hs; (q : False).elim
end
section
variable {X : Cx} {k : Nat} {f : Addr} {fd : FuncData} {ps : List Str} {sp : Sp} {E : XK} {x : Str} {p pos : Pos} {e : Expr} {es : List Expr} {t : TA}
theorem run_g {pins : List (Addr × Obj)} {σ : L2.St} {H : Hp} {s : Shared} {Q : VK} {us : List Value} {vs : List V} {ar : Args} (F : FnG X.prog X.w X.K X.mg X.base k f fd ps sp) (hG : X.A.guards = some []) (hr : Room k X.A) (hb : BindsTo s fd ar (ps.zip us))
    (hx : ∀ e s', L2.CX X.prog X.w X.stack H s E e s' → X.xe e s') (I : Inv X pins σ H s) (r : Vals vs us) (h : sp vs H Q E) : codeAny (model X.prog X.w) X.A (.call (.ref f) ar) (fun r s' => match r with | .ok (.ret v) => EP X pins σ Q v s' | .ok _ => False | .error e => X.xe e s') s := by
  refine codeAny_mono (F.go X.A X.stack s H ar us vs Q E hG hr I.env0 hb r h) ?_
  intro r s' hq
  cases r with
  | error e => exact hx e s' hq
  | ok fl =>
    cases fl with
    | ret u => exact I.after hq
    | next => exact False.elim hq
    | brk => exact False.elim hq
    | cont => exact False.elim hq
/-- the reading of a call; the wish about errors by the slots -/
def tG (sp : Sp) (E : L2.St → XK) (t : TA) : TE := fun σ H Q => t σ H fun vs H1 => sp vs H1 Q (E σ)
/-- no error is let out -/
def E00 : L2.St → XK := fun _ _ _ _ => False
theorem pass00 (σ : L2.St) : PassesAt (L2.CX X.prog X.w) X σ (E00 σ) := by
  intro pins H s e s' I h
  obtain ⟨_, _, _, _, _, _, _, _, _, _, _, _, z⟩ := h
  exact (z : False).elim
theorem pe_g {E : L2.St → XK} (F : FnG X.prog X.w X.K X.mg X.base k f fd ps sp) (hG : X.A.guards = some []) (hr : Room k X.A) (hm : X.mg x = some (.ref f)) (hk : PySem.W.keepIn X.K (.ref f) = true) (hb : Binds X.K fd ps [])
    (hx : ∀ σ, PassesAt (L2.CX X.prog X.w) X σ (E σ)) (ha : PA X (e :: es) t) (hg : Gl X x := by rfl) (hdb : (x == ("__debug__" : Str)) = false := by decide)
    (he : starEach (e :: es) X.env = (false, eval e X.env) :: starEach es X.env := by rfl) (hpl : (backTo pos (starEach es X.env)).any (·.1) = false := by rfl) : PE X (.Call (.Name x p) (e :: es) [] pos) (tG sp E t) := by
  refine ⟨?_⟩
  intro pins s σ H Q I h
  refine wpAny_Call_Name_kw (ld_glob I hg hm ?_ hdb)
  refine PySem.W.callWith_K (h₀ := X.base) I.ok.mod.kin hk (thn (ha.run pos pins s σ H _ I h) ?_) he hpl
  intro us s1 ⟨vs, H1, I1, r, q⟩
  refine ⟨I1.kIn, ?_⟩
  have hl : (us ++ []).length = ps.length := by
    rw [List.append_nil, ← r.length]
    exact F.len _ _ _ _ q
  have hbd := hb s1 us I1.kIn hl
  rw [List.append_nil] at hbd
  exact wpAny_call (run_g F hG hr hbd (fun e s' c => hx σ pins H1 s1 e s' I1 c) I1 r q)
end
section
variable {X : Cx} {k : Nat} {f : Addr} {fd : FuncData} {ps ks : List Str} {sp : Sp} {x : Str} {p pos : Pos} {e : Expr} {es : List Expr} {kws : List Keyword} {t tk : TA}
/-- how keywords alone bind: g puts the values in the parameters' order -/
structure KOnly (K : PySem.W.Frag) (fd : FuncData) (ps ks : List Str) (g : {α : Type} → List α → List α) : Prop where
  to : ∀ (s : Shared) (ws : List Value), K.In s.heap → ws.length = ks.length → BindsTo s fd ⟨[], ks.zip ws⟩ (ps.zip (g ws))
  rel : ∀ {zs : List V} {ws : List Value}, Vals zs ws → Vals (g zs) (g ws)
def tKw (sp : Sp) (n : Nat) (g : List V → List V) (E : L2.St → XK) (tk : TA) : TE := fun σ H Q => tk σ H fun zs H1 => zs.length = n ∧ sp (g zs) H1 Q (E σ)
theorem pe_gk {E : L2.St → XK} {g : {α : Type} → List α → List α} (F : FnG X.prog X.w X.K X.mg X.base k f fd ps sp) (hG : X.A.guards = some []) (hr : Room k X.A) (hm : X.mg x = some (.ref f)) (hk : PySem.W.keepIn X.K (.ref f) = true)
    (hb : KOnly X.K fd ps ks g) (hx : ∀ σ, PassesAt (L2.CX X.prog X.w) X σ (E σ)) (ha : PK X kws tk) (hg : Gl X x := by rfl) (hdb : (x == ("__debug__" : Str)) = false := by decide)
    (hall : (backToKw pos (keywordEach kws X.env)).all (·.1.isSome) = true := by rfl) (hks : (backToKw pos (keywordEach kws X.env)).filterMap (·.1) = ks := by rfl)
    (hpl : (backToKw pos (keywordEach kws X.env)).any (·.1.isNone) = false := by rfl) : PE X (.Call (.Name x p) [] kws pos) (tKw sp ks.length g E tk) := by
  refine ⟨?_⟩
  intro pins s σ H Q I h
  refine wpAny_Call_Name_kw (ld_glob I hg hm ?_ hdb)
  refine PySem.W.callWith_KW0 (h₀ := X.base) I.ok.mod.kin hk hall (thn (ha.run pos pins s σ H _ I h) ?_) hpl
  intro ws s1 ⟨zs, H1, I1, r, hn, q⟩
  rw [hks]
  have hw : ws.length = ks.length := by rw [← r.length]; exact hn
  exact ⟨I1.kIn, wpAny_call (run_g F hG hr (hb.to s1 ws I1.kIn hw) (fun e s' c => hx σ pins H1 s1 e s' I1 c) I1 (hb.rel r) q)⟩
end
/-- nothing but the script is known, or nothing -/
def scrH (a : Addr) (o : Obj) (u : HO) : Hp := fun b => if b = a then some (.frz o u) else none
section
variable {X : Cx}
/-- repr(x), x data without dicts; the text is a function of the data -/
def rRepr (K : PySem.W.Frag) : List V → Hp → VK → Prop := fun xs H Q => ∃ (a : Addr) (d : PyData), xs = [.ref a] ∧ Dp K H (.ref a) d ∧ d.showable = true ∧ d.hasDict = false ∧ d.depth ≤ 60 ∧ d.shown.length ≤ sizeLine ∧ Q (.str d.shown) H
theorem call_repr (hG : X.A.guards = some []) (hu : X.A.units + 64 < cLine) : CallR X (.builtin "repr") (rRepr X.K) := by
  intro pins s σ H xs us Q I r h
  obtain ⟨a, d, rfl, hd, h1, h2, h3, h4, q⟩ := h
  cases r with
  | cons ra rn =>
    rename_i u ur
    cases rn
    obtain rfl : u = Value.ref a := ra
    obtain ⟨as, rd⟩ := Dp.reads I d (.ref a) _ hd rfl
    refine repr_of_reads' rd h1 (fun z => by rw [h2] at z; cases z) hG (by omega) (fun _ _ e => e) ?_ h4
    intro h' u tk hk
    exact ⟨.str d.shown, H, I.kept hk, ⟨_, rfl⟩, q⟩
end
end UW
namespace UW
open PySem PySem.Spec PyProof.Rows L2
section
variable {prog : Program} {w : World} {A : Around} {E : Value → Shared → Prop} {s : Shared}
set_option maxHeartbeats 1000000 in
theorem meets_enum1 {v : Value} {o : Obj} {J : Heap → Prop} (B : Begins v o J) :
    Meets (Builtin.«enumerate.__new__» ⟨[.type "enumerate", v], []⟩) (fun _ R s => J s.heap ∧
      R (.ok (.ret (.ref (s.heap.push o).objs.size))) { s with heap := (s.heap.push o).push { cls := .type "enumerate", data := .fields #[.none, .bool false, .ref s.heap.objs.size, rawInt 0, .none, .none] } }) := by
  refine .of_wp fun prog w A R s h => ?_
  obtain ⟨hp, g, d, tk, os⟩ := s
  obtain ⟨h1, h⟩ := h
  have hsub := sub_enumerate
  have it : ∀ {A' : Around} {E : Value → Shared → Prop} {Q : Value → Shared → Prop}, Q (.ref hp.objs.size) ⟨hp.push o, g, d, tk, os⟩ → wpAny (model prog w) A' (pyIter v) Q E ⟨hp, g, d, tk, os⟩ :=
    fun q => B.iter prog w _ _ ⟨hp, g, d, tk, os⟩ _ h1 q
  wp_walk using it
  refine wpAny_stack_any fun st => wpAny_pure ?_
  split
  · rename_i c _ _ _ _ _
    cases (c == Value.type "enumerate")
    all_goals (wp_walk using it)
    all_goals exact ⟨_, rfl, h⟩
  · wp_walk using it
    exact ⟨_, rfl, h⟩
theorem enum_one {v : Value} {o : Obj} {J : Heap → Prop} {Q : Value → Shared → Prop} (B : Begins v o J) (h1 : J s.heap)
    (h : ∀ h', IsEnum h' (s.heap.objs.size + 1) s.heap.objs.size 0 .none → h'.get? s.heap.objs.size = some o → (∀ b u, s.heap.get? b = some u → h'.get? b = some u) → Q (.ref (s.heap.objs.size + 1)) { s with heap := h' }) :
    wpAny (model prog w) A (call (.type "enumerate") [v]) Q E s := by
  refine callType_new F.called_enumerate (by decide) (F.typeCall_enumerate_1 _) (F.newCall_enumerate_1 _) (fun obj => F.args_object_init_2 obj _) F.entry_enumerate_new (meets_enum1 B) ⟨h1, ?_⟩
  have hz : (s.heap.push o).objs.size = s.heap.objs.size + 1 := Heap.size_push ..
  show _ ∧ _
  rw [hz]
  have he : IsEnum ((s.heap.push o).push { cls := .type "enumerate", data := .fields #[.none, .bool false, .ref s.heap.objs.size, rawInt 0, .none, .none] }) (s.heap.objs.size + 1) s.heap.objs.size 0 .none := by
    have q := Heap.get?_push_size (s.heap.push o) (o := { cls := .type "enumerate", data := .fields #[.none, .bool false, .ref s.heap.objs.size, rawInt 0, .none, .none] }) rfl
    rw [hz] at q
    exact q
  exact ⟨⟨_, he, rfl⟩, h _ he (Heap.get?_push_of_some _ (Heap.get?_push_size _ B.free)) fun b u z => Heap.get?_push_of_some _ (Heap.get?_push_of_some _ z)⟩
end
/-- the tuple at a, each item in a new pair -/
def IteT (K : PySem.W.Frag) (a : Addr) : It :=
  ⟨fun i H => ∃ (xs : List V) (x : V), SqT K H a xs ∧ xs[i]? = some x,
   fun i H v H' => ∃ T x, v = .ref T ∧ H T = none ∧ H' = upd H T (.tup [.int (i : Nat), x]) ∧ ∀ xs, SqT K H a xs → xs[i]? = some x,
   fun i H => ∃ xs : List V, SqT K H a xs ∧ xs.length ≤ i⟩
theorem turn_enumT {P : Program} {w : World} {K : PySem.W.Frag} {elts : List Expr} {kk : Nat} {tpos : Pos} (a e it : Addr) :
    Turn P w K (.Tuple elts kk tpos) (IteT K a) [e, it] e (fun i h => (∃ old, IsEnum h e it ((i : Nat) : Int) old) ∧ h.IsTupleIter it a i ∧ e ≠ it ∧ a ≠ e ∧ a ≠ it) where
  mem := by simp
  obj := fun i h st b hb => by
    obtain ⟨⟨old, he⟩, ⟨o, ho, hc, hd⟩, _⟩ := st
    rcases (show b = e ∨ b = it by simpa using hb) with z | z
    · rw [z]
      exact ⟨_, he, fun v q => nomatch q⟩
    · rw [z]
      exact ⟨o, ho, fun v q => by rw [hd] at q; cases q⟩
  keep := fun i h h' st k => by
    obtain ⟨⟨old, he⟩, hi, hne⟩ := st
    exact ⟨⟨old, k e (by simp) _ he⟩, hi.at fun o q => k it (by simp) o q, hne⟩
  item := by
    intro X hP hw hK hc i pins s σ H E I hf st hg
    subst hP hw hK
    obtain ⟨⟨old, he⟩, hit, hne, hae, hai⟩ := st
    obtain ⟨xs, x, hq, hx⟩ := hg
    obtain ⟨its, rv, p, hz⟩ := I.tuple hq
    obtain ⟨u, hu, ru⟩ := rv.get hx
    have hel : e < s.heap.objs.size := Heap.lt_size he
    have hil : it < s.heap.objs.size := by
      obtain ⟨_, q, _⟩ := hit
      exact Heap.lt_size q
    have hi : i < its.toArray.size := by
      have := (List.getElem?_eq_some_iff.mp hu).1
      simpa using this
    refine wpAny_pyNext_enum_itemD (Draws.tuple (A := X.A.in1) (I.ok.hd hc) it a hai its.toArray) he ⟨hit, p⟩ hi hne (by simp [hne, Ne.symm hae]) ?_
    intro u' h' tk hu' ho hst hT hsz hk
    have eu : u' = u := by
      have q : its.toArray[i]? = some u' := hu'
      rw [List.getElem?_toArray, hu] at q
      exact (Option.some.inj q).symm
    subst eu
    refine ⟨_, rfl, wpAny_letOwnedTupleGo_enum (s := { s with heap := h', toks := tk + 1 }) ho fun h'' he' sb => ?_⟩
    have hT2 : h''.get? s.heap.objs.size = some { cls := .type "tuple", data := .seq #[.int i tk, u'] } := (sb.2 _ (Nat.ne_of_gt hel)).trans hT
    have new : ObjOk X.prog X.w (upd H s.heap.objs.size (.tup [.int (i : Nat), x])) h'' s.heap.objs.size (.tup [.int (i : Nat), x]) :=
      ⟨by show 2 ≤ sizeLine; decide, [.int i tk, u'], .cons ⟨_, rfl⟩ (.cons ru .nil), ⟨_, hT2, rfl, _, rfl⟩⟩
    have I1 : Inv X pins σ (upd H s.heap.objs.size (.tup [.int (i : Nat), x])) { s with heap := h'', toks := tk + 1 } := by
      refine I.turnedNew (ch := [e, it]) ?_ hf (Nat.le_refl _) new
      intro b ob hb q
      exact (sb.2 b (fun z => hb (by simp [z]))).trans (hk b ob (fun z => hb (by simp [z])) (fun z => hb (by simp [z])) q)
    refine ⟨.ref s.heap.objs.size, _, I1, rfl, ⟨_, x, rfl, I.hok.fresh (Nat.le_refl _), rfl, fun ys hy => by rw [I.tuple_inj hy hq]; exact hx⟩, ⟨⟨u', ?_⟩, hst.1.at fun o q => (sb.2 it (Ne.symm hne)).trans q, hne, hae, hai⟩, ?_⟩
    · have e1 : ((i + 1 : Nat) : Int) = (i : Int) + 1 := by omega
      rw [e1]
      exact he'
    · intro b hb
      have hb' : b < s.heap.objs.size := by
        rcases (show b = e ∨ b = it by simpa using hb) with z | z
        · rw [z]; exact hel
        · rw [z]; exact hil
      rw [upd_ne (Nat.ne_of_lt hb')]
      exact (hf b hb).1
  done := by
    intro X hP hw hK hc i pins s σ H E I hf st hg
    subst hP hw hK
    obtain ⟨⟨old, he⟩, hit, hne, hae, hai⟩ := st
    obtain ⟨xs, hq, hx⟩ := hg
    obtain ⟨its, rv, p, hz⟩ := I.tuple hq
    obtain ⟨f0, f1, f2, f3, f4, f5⟩ := hf it (by simp)
    have hl := rv.length
    obtain ⟨oi, ei, _, di⟩ := id hit
    have hend : its.toArray[i]? = none := by simp; omega
    have hT : s.TypeIs (.ref e) "enumerate" := ⟨_, he, rfl⟩
    unfold pyNext
    refine wpAny_bind (wpAny_attempt (wpAny_callSpecial?_slot (name := Str.ofString "__next__") hT F.slot_enumerate_next (wpAny_call_entry F.slot_enumerate_next hT F.entry_enumerate_next ?_ (F.args_enumerate_next_1 _))))
    show wpAny _ _ (field (.ref e) 2 >>= _) _ _ _
    refine wpAny_bind (wpAny_field he rfl (x := .ref it) rfl ?_)
    refine wpAny_bind (wpAny_nextOf_tuple_end (I.ok.hd hc) hit (show s.heap.IsTuple a its.toArray from p) hend fun h' x he' hx' => ?_)
    obtain ⟨o, ho, hcl⟩ := hx'
    refine wpAny_bind (wpAny_isInstance (T := "StopIteration") (b := true) ⟨o, ho, hcl⟩ isSubtype_stop ?_)
    exact wpAny_pure ⟨rfl, I.turned (t' := s.toks) (fun b o hb q => he' b o hb q) f0 f1 f3 f4 f5⟩
  self := fun A i s Q E st h => let ⟨⟨_, he⟩, _⟩ := st; wpAny_pyIter_enum he h
def iEnumT (K : PySem.W.Frag) (ta : TA) : TI := fun σ H R => ta σ H fun vs H1 => ∃ a xs, vs = [.ref a] ∧ SqT K H1 a xs ∧ R (IteT K a) H1
theorem pi_enumT {X : Cx} {e : Expr} {ta : TA} {p pos tpos : Pos} {elts : List Expr} {kk : Nat} (hm : X.mg "enumerate" = none) (ha : PA X [e] ta) (hg : Gl X "enumerate" := by rfl) (hs : starEach [e] X.env = [(false, eval e X.env)] := by rfl) :
    PI X (.Tuple elts kk tpos) (.Call (.Name "enumerate" p) [e] [] pos) (iEnumT X.K ta) := by
  refine ⟨fun pins s σ H R I h => ?_⟩
  refine Call_ (ld_blt I hg hm PyProof.Rows.boot_enumerate (PyProof.Rows.callWith_type1 (thn (ha.run pos pins s σ H _ I h) ?_) hs rfl))
  intro us s1 ⟨vs, H1, I1, r1, a, xs, ex, hq, q⟩
  subst ex
  cases r1 with
  | cons r rr =>
    cases rr
    cases r
    obtain ⟨its, rv, p', hz⟩ := I1.tuple hq
    refine enum_one (begins_tuple a its.toArray) p' fun h' he hit hk => wpAny_pyIter_enum he ?_
    have I2 : Inv X pins σ H1 { s1 with heap := h' } := I1.kept (t' := s1.toks) hk
    have al : a < s1.heap.objs.size := by
      obtain ⟨_, q, _⟩ := p'
      exact Heap.lt_size q
    refine ⟨s1.heap.objs.size + 1, [s1.heap.objs.size + 1, s1.heap.objs.size], _, _, H1, rfl, I2, turn_enumT a (s1.heap.objs.size + 1) s1.heap.objs.size, ⟨⟨.none, he⟩, ⟨_, hit, rfl, rfl⟩, Nat.succ_ne_self _, Nat.ne_of_lt (Nat.lt_succ_of_lt al), Nat.ne_of_lt al⟩, fun b hb => ?_, q⟩
    have hle : s1.heap.objs.size ≤ b := by
      rcases (show b = s1.heap.objs.size + 1 ∨ b = s1.heap.objs.size by simpa using hb) with z | z
      · rw [z]; exact Nat.le_succ _
      · rw [z]; exact Nat.le_refl _
    exact I1.fpOk hle (I1.hok.fresh hle)
end UW
namespace UW
open PySem PySem.Spec PyProof.Rows L2
abbrev Fg := PySem.W.Frag
/-- a tuple that is tracked -/
def SqT (K : Fg) (H : Hp) (a : Addr) (xs : List V) : Prop := H a = some (.tup xs)
theorem SqT.of {K : Fg} {H : Hp} {a : Addr} {xs : List V} (h : H a = some (.tup xs)) : SqT K H a xs := h
theorem SqT.up {K : Fg} {H : Hp} {a : Addr} {xs : List V} (h : SqT K H a xs) : L2.SqT K H a xs := .inl (.inl h)
def Tm (H H' : Hp) : Prop := ∀ a xs, H a = some (.tup xs) → H' a = some (.tup xs)
theorem Tm.refl (H : Hp) : Tm H H := fun _ _ h => h
theorem Tm.trans {H H1 H2 : Hp} (a : Tm H H1) (b : Tm H1 H2) : Tm H H2 := fun x xs h => b x xs (a x xs h)
theorem Tm.same {H H' : Hp} (e : Same H H') : Tm H H' := fun a xs h => e _ _ h
theorem Same.new {H : Hp} {p : Addr} {o : HO} (h : H p = none) : Same H (upd H p o) := fun a u e => by
  rw [upd_ne (ne_of_none e h)]
  exact e
theorem Tm.lst {H : Hp} {l : Addr} {xs ys : List V} (h : H l = some (.lst xs)) : Tm H (upd H l (.lst ys)) := fun a zs q => by rw [upd_ne (ne_of q h (fun z => by cases z))]; exact q
theorem Tm.sq {K : Fg} {H H' : Hp} {a : Addr} {xs : List V} (e : Tm H H') (h : SqT K H a xs) : SqT K H' a xs := e _ _ h
theorem Same.sqT {K : Fg} {H H' : Hp} {a : Addr} {xs : List V} (e : Same H H') (h : SqT K H a xs) : SqT K H' a xs := e _ _ h
mutual
inductive Tp (K : Fg) (H : Hp) : V → PyData → Prop
  | non : Tp K H .non .none
  | bl (b : Bool) : Tp K H (.bl b) (.bool b)
  | int (i : Int) : Tp K H (.int i) (.int i)
  | str (x : Str) : Tp K H (.str x) (.str x)
  | tup {a : Addr} {xs : List V} {ds : List PyData} : SqT K H a xs → Tps K H xs ds → Tp K H (.ref a) (.tuple ds)
inductive Tps (K : Fg) (H : Hp) : List V → List PyData → Prop
  | nil : Tps K H [] []
  | cons {v : V} {vs : List V} {d : PyData} {ds : List PyData} : Tp K H v d → Tps K H vs ds → Tps K H (v :: vs) (d :: ds)
end
section
variable {K : Fg} {H H' : Hp}
mutual
theorem Tp.tm (e : Tm H H') : ∀ {v : V} {d : PyData}, Tp K H v d → Tp K H' v d
  | _, _, .non => .non
  | _, _, .bl b => .bl b
  | _, _, .int i => .int i
  | _, _, .str x => .str x
  | _, _, .tup h hs => .tup (e.sq h) (Tps.tm e hs)
theorem Tps.tm (e : Tm H H') : ∀ {vs : List V} {ds : List PyData}, Tps K H vs ds → Tps K H' vs ds
  | _, _, .nil => .nil
  | _, _, .cons h hs => .cons (Tp.tm e h) (Tps.tm e hs)
end
theorem Tp.same (e : Same H H') {v : V} {d : PyData} (h : Tp K H v d) : Tp K H' v d := h.tm (Tm.same e)
theorem Tps.same (e : Same H H') {v : List V} {d : List PyData} (h : Tps K H v d) : Tps K H' v d := h.tm (Tm.same e)
mutual
theorem Tp.dp : ∀ {v : V} {d : PyData}, Tp K H v d → Dp K H v d
  | _, _, .non => .non
  | _, _, .bl b => .bl b
  | _, _, .int i => .int i
  | _, _, .str x => .str x
  | _, _, .tup h hs => .tup h.up (Tps.dp hs)
theorem Tps.dp : ∀ {vs : List V} {ds : List PyData}, Tps K H vs ds → DpAll K H vs ds
  | _, _, .nil => .nil
  | _, _, .cons h hs => .cons (Tp.dp h) (Tps.dp hs)
end
theorem Tp.int_inv {v : V} {i : Int} (h : Tp K H v (.int i)) : v = .int i := by cases h; rfl
theorem Tp.non_inv {v : V} (h : Tp K H v .none) : v = .non := by cases h; rfl
theorem Tp.str_inv {v : V} {x : Str} (h : Tp K H v (.str x)) : v = .str x := by cases h; rfl
theorem Tp.tup_inv {v : V} {ds : List PyData} (h : Tp K H v (.tuple ds)) : ∃ a xs, v = .ref a ∧ SqT K H a xs ∧ Tps K H xs ds := by
  cases h with
  | tup h hs => exact ⟨_, _, rfl, h, hs⟩
theorem Tps.nil_inv {xs : List V} (h : Tps K H xs []) : xs = [] := by cases h; rfl
theorem Tps.cons_inv {xs : List V} {d : PyData} {ds : List PyData} (h : Tps K H xs (d :: ds)) : ∃ v vs, xs = v :: vs ∧ Tp K H v d ∧ Tps K H vs ds := by
  cases h with
  | cons h hs => exact ⟨_, _, rfl, h, hs⟩
theorem Tps.length : ∀ {xs : List V} {ds : List PyData}, Tps K H xs ds → xs.length = ds.length
  | _, _, .nil => rfl
  | _, _, .cons _ h => by rw [List.length_cons, List.length_cons, Tps.length h]
theorem Tps.get : ∀ {xs : List V} {ds : List PyData} {i : Nat} {x : V}, Tps K H xs ds → xs[i]? = some x → ∃ d, ds[i]? = some d ∧ Tp K H x d
  | _, _, _, _, .nil, e => by simp at e
  | _, _, 0, _, .cons h _, e => by simp at e; subst e; exact ⟨_, rfl, h⟩
  | _, _, i + 1, x, .cons _ t, e => by
    obtain ⟨d, h1, h2⟩ := Tps.get (i := i) t (by simpa using e)
    exact ⟨d, by simpa using h1, h2⟩
theorem Tps.at : ∀ {xs : List V} {ds : List PyData} {i : Nat} {d : PyData}, Tps K H xs ds → ds[i]? = some d → ∃ x, xs[i]? = some x ∧ Tp K H x d
  | _, _, _, _, .nil, e => by simp at e
  | _, _, 0, _, .cons h _, e => by simp at e; subst e; exact ⟨_, rfl, h⟩
  | _, _, i + 1, x, .cons _ t, e => by
    obtain ⟨d, h1, h2⟩ := Tps.at (i := i) t (by simpa using e)
    exact ⟨d, by simpa using h1, h2⟩
theorem Tps.append : ∀ {xs ys : List V} {ds es : List PyData}, Tps K H xs ds → Tps K H ys es → Tps K H (xs ++ ys) (ds ++ es)
  | _, _, _, _, .nil, s => s
  | _, _, _, _, .cons r t, s => .cons r (Tps.append t s)
theorem Tps.snoc {xs : List V} {ds : List PyData} {v : V} {d : PyData} (h : Tps K H xs ds) (q : Tp K H v d) : Tps K H (xs ++ [v]) (ds ++ [d]) := h.append (.cons q .nil)
theorem Tps.ints : ∀ {xs : List V} {ns : List Int}, Tps K H xs (ns.map PyData.int) → xs = ns.map V.int
  | _, [], h => h.nil_inv
  | _, n :: ns, h => by
    obtain ⟨v, vs, rfl, h1, h2⟩ := Tps.cons_inv h
    rw [h1.int_inv, Tps.ints h2]
    rfl
theorem Tps.of_ints : ∀ (ns : List Int), Tps K H (ns.map V.int) (ns.map PyData.int)
  | [] => .nil
  | n :: ns => .cons (.int n) (Tps.of_ints ns)
def dP (p : Int × Int) : PyData := .tuple [.int p.1, .int p.2]
def dIs (l : List Int) : PyData := .tuple (l.map .int)
def dPs (l : List (Int × Int)) : PyData := .tuple (l.map dP)
def dWeb (n : Int) (rs : List (Int × Int)) (ms : List Int) : PyData := .tuple [.int n, dPs rs, dIs ms]
theorem Tp.pair {v : V} {p : Int × Int} (h : Tp K H v (dP p)) : ∃ a, v = .ref a ∧ SqT K H a [.int p.1, .int p.2] := by
  obtain ⟨a, xs, rfl, h1, h2⟩ := Tp.tup_inv h
  obtain ⟨v1, vs, rfl, q1, h2⟩ := h2.cons_inv
  obtain ⟨v2, vs, rfl, q2, h2⟩ := h2.cons_inv
  rw [h2.nil_inv, q1.int_inv, q2.int_inv] at h1
  exact ⟨a, rfl, h1⟩
theorem Tp.mkpair {a : Addr} {i j : Int} (h : SqT K H a [.int i, .int j]) : Tp K H (.ref a) (dP (i, j)) := .tup h (.cons (.int i) (.cons (.int j) .nil))
theorem Tp.ints {v : V} {l : List Int} (h : Tp K H v (dIs l)) : ∃ a, v = .ref a ∧ SqT K H a (l.map V.int) := by
  obtain ⟨a, xs, rfl, h1, h2⟩ := Tp.tup_inv h
  rw [h2.ints] at h1
  exact ⟨a, rfl, h1⟩
theorem Tp.mkints {a : Addr} {l : List Int} (h : SqT K H a (l.map V.int)) : Tp K H (.ref a) (dIs l) := .tup h (Tps.of_ints l)
theorem Tp.pairs {v : V} {l : List (Int × Int)} (h : Tp K H v (dPs l)) : ∃ a xs, v = .ref a ∧ SqT K H a xs ∧ Tps K H xs (l.map dP) := Tp.tup_inv h
theorem Tp.web {v : V} {n : Int} {rs : List (Int × Int)} {ms : List Int} (h : Tp K H v (dWeb n rs ms)) :
    ∃ a ar xs am, v = .ref a ∧ SqT K H a [.int n, .ref ar, .ref am] ∧ SqT K H ar xs ∧ Tps K H xs (rs.map dP) ∧ SqT K H am (ms.map V.int) ∧ Tp K H (.ref ar) (dPs rs) ∧ Tp K H (.ref am) (dIs ms) := by
  obtain ⟨a, xs, rfl, h1, h2⟩ := Tp.tup_inv h
  obtain ⟨v1, w1, rfl, q1, h3⟩ := h2.cons_inv
  obtain ⟨v2, w2, rfl, q2, h4⟩ := h3.cons_inv
  obtain ⟨v3, w3, rfl, q3, h5⟩ := h4.cons_inv
  have e := h5.nil_inv
  subst e
  obtain ⟨ar, xs, rfl, r1, r2⟩ := q2.pairs
  obtain ⟨am, rfl, m1⟩ := q3.ints
  have e1 := q1.int_inv
  subst e1
  exact ⟨a, ar, xs, am, rfl, h1, r1, r2, m1, q2, q3⟩
theorem Tps.pair_at {xs : List V} {rs : List (Int × Int)} {i : Nat} {x : V} (h : Tps K H xs (rs.map dP)) (e : xs[i]? = some x) : ∃ p a, rs[i]? = some p ∧ x = .ref a ∧ SqT K H a [.int p.1, .int p.2] := by
  obtain ⟨d, h1, h2⟩ := h.get e
  rw [List.getElem?_map] at h1
  cases q : rs[i]? with
  | none => rw [q] at h1; cases h1
  | some p =>
    rw [q] at h1
    cases h1
    obtain ⟨a, rfl, h3⟩ := h2.pair
    exact ⟨p, a, rfl, rfl, h3⟩
structure Okd (d : PyData) (k n : Nat) : Prop where
  sh : d.showable = true
  nd : d.hasDict = false
  dp : d.depth ≤ k
  ln : d.shown.length ≤ n
theorem Okd.mono {d : PyData} {k n k' n' : Nat} (h : Okd d k n) (hk : k ≤ k') (hn : n ≤ n') : Okd d k' n' := ⟨h.sh, h.nd, Nat.le_trans h.dp hk, Nat.le_trans h.ln hn⟩
theorem Okd.non : Okd .none 0 4 := ⟨by simp only [PyData.showable], by simp only [PyData.hasDict], by simp only [PyData.depth]; omega, by rw [PyData.shown_none]; decide +kernel⟩
theorem Okd.bl (b : Bool) : Okd (.bool b) 0 5 := ⟨by simp only [PyData.showable], by simp only [PyData.hasDict], by simp only [PyData.depth]; omega, by
  rw [PyData.shown_bool]
  cases b <;> decide +kernel⟩
theorem Okd.int {i : Int} (h : i.natAbs < 2 ^ 120) : Okd (.int i) 0 121 := by
  refine ⟨?_, by simp only [PyData.hasDict], by simp only [PyData.depth]; omega, ?_⟩
  · simp only [PyData.showable]
    refine decide_eq_true ?_
    by_cases z : i.natAbs = 0
    · rw [z]; decide
    · have := (Nat.log2_lt z).mpr h
      omega
  · rw [PyData.shown_int]
    show (Str.ofString (toString i)).length ≤ 121
    rw [PySem.ofString_length]
    cases i with
    | ofNat n =>
      have := nat_repr_length_le (n := n) (k := 120) (by decide) h
      show (Nat.repr n).length ≤ 121
      omega
    | negSucc n =>
      have := nat_repr_length_le (n := n + 1) (k := 120) (by decide) h
      show ("-" ++ Nat.repr (n + 1)).length ≤ 121
      rw [String.length_append]
      have : ("-" : String).length = 1 := rfl
      omega
theorem Okd.str {x : Str} {n : Nat} (h : (reprText x).length ≤ n) : Okd (.str x) 0 n := ⟨by simp only [PyData.showable], by simp only [PyData.hasDict], by simp only [PyData.depth]; omega, by rw [PyData.shown_str]; exact h⟩
theorem okd_all {ds : List PyData} {k n : Nat} (h : ∀ d ∈ ds, Okd d k n) : PyData.showableAll ds = true ∧ PyData.hasDictAll ds = false ∧ PyData.depthAll ds ≤ k ∧ piled (PyData.shownAll ds) ≤ ds.length * (n + 2) := by
  induction ds with
  | nil => exact ⟨by simp only [PyData.showableAll], by simp only [PyData.hasDictAll], by simp only [PyData.depthAll]; omega, by simp only [PyData.shownAll]; simp [piled]⟩
  | cons d ds ih =>
    obtain ⟨a, b, c, e⟩ := ih fun x hx => h x (List.mem_cons_of_mem _ hx)
    have q := h d (List.mem_cons_self ..)
    refine ⟨by simp only [PyData.showableAll]; rw [q.sh, a]; rfl, by simp only [PyData.hasDictAll]; rw [q.nd, b]; rfl, by simp only [PyData.depthAll]; have := q.dp; omega, ?_⟩
    simp only [PyData.shownAll]
    rw [piled_cons, List.length_cons]
    have := q.ln
    have e2 : (ds.length + 1) * (n + 2) = ds.length * (n + 2) + (n + 2) := Nat.succ_mul _ _
    omega
theorem tupText_le (ts : List Str) : (tupleText ts).length ≤ piled ts + 2 := fmt_text ts
theorem lstText_le (ts : List Str) : (listText ts).length ≤ piled ts + 2 := by
  rw [listText_eq_join, strLen_append, strLen_append]
  have e1 : ((("[" : String) : Str)).length = 1 := by decide +kernel
  have e2 : ((("]" : String) : Str)).length = 1 := by decide +kernel
  rw [e1, e2]
  by_cases h : ts = []
  · subst h
    have : (Str.join ", " []).length = 0 := by decide +kernel
    omega
  · have := join_length_add ts h
    omega
theorem Okd.tup {ds : List PyData} {k n m : Nat} (h : ∀ d ∈ ds, Okd d k n) (hl : ds.length ≤ m) : Okd (.tuple ds) (k + 1) (m * (n + 2) + 2) := by
  obtain ⟨a, b, c, e⟩ := okd_all h
  refine ⟨by simp only [PyData.showable]; exact a, by simp only [PyData.hasDict]; exact b, by simp only [PyData.depth]; omega, ?_⟩
  simp only [PyData.shown]
  refine Nat.le_trans (tupText_le _) ?_
  have := Nat.mul_le_mul_right (n + 2) hl
  omega
theorem Okd.lst {ds : List PyData} {k n m : Nat} (h : ∀ d ∈ ds, Okd d k n) (hl : ds.length ≤ m) : Okd (.list ds) (k + 1) (m * (n + 2) + 2) := by
  obtain ⟨a, b, c, e⟩ := okd_all h
  refine ⟨by simp only [PyData.showable]; exact a, by simp only [PyData.hasDict]; exact b, by simp only [PyData.depth]; omega, ?_⟩
  simp only [PyData.shown]
  refine Nat.le_trans (lstText_le _) ?_
  have := Nat.mul_le_mul_right (n + 2) hl
  omega
end
end UW
namespace UW
open PySem PySem.Spec PyProof.Rows L2
section
variable {X : Cx}
theorem OpR.u {f : Value → Value → Sem Value} {r q : R2} (a : OpR X f r) (b : OpR X f q) : OpR X f (fun x y H Q => r x y H Q ∨ q x y H Q) := by
  intro pins s σ H x y v u Q I rx ry h
  rcases h with h | h
  · exact a pins s σ H x y v u Q I rx ry h
  · exact b pins s σ H x y v u Q I rx ry h
def rAddI : R2 := rI0 fun i j => .int (i + j)
def rAddS : R2 := fun x y H Q => ∃ i j, x = .str i ∧ y = .str j ∧ i.length + j.length ≤ sizeLine ∧ Q (.str (i ++ j)) H
def rAddU (K : Fg) : R2 := fun x y H Q => rAddI x y H Q ∨ (rCat x y H Q ∨ (rCatA K x y H Q ∨ rAddS x y H Q))
theorem op_addU : OpR X (binaryOp .Add) (rAddU X.K) := OpR.u op_add (OpR.u op_cat (OpR.u op_catA op_add_str))
def rSubI : R2 := rI0 fun i j => .int (i - j)
theorem op_subI : OpR X (binaryOp .Sub) rSubI := op_sub
def rMulI : R2 := rI CMul fun i j => .int (i * j)
def rMulU (K : Fg) : R2 := fun x y H Q => rMulI x y H Q ∨ (rRep x y H Q ∨ rRepT K x y H Q)
theorem op_mulU : OpR X (binaryOp .Mult) (rMulU X.K) := OpR.u op_mul (OpR.u op_rep op_repT)
def rDivI : R2 := rI CDivN fun i j => .int (i.fdiv j)
theorem op_divI : OpR X (binaryOp .FloorDiv) rDivI := op_fdivN
def rModI : R2 := rI (fun _ j => j ≠ 0) fun i j => .int (i.fmod j)
theorem op_modI : OpR X (binaryOp .Mod) rModI := op_modN
def rPowI : R2 := rI CPow fun i j => .int (i ^ j.toNat)
theorem op_powI : OpR X (binaryOp .Pow) rPowI := op_pow
def rEqU (K : Fg) : R2 := fun x y H Q => rEq x y H Q ∨ rEqD K x y H Q
def rNeU (K : Fg) : R2 := fun x y H Q => rNe x y H Q ∨ rNeD K x y H Q
theorem op_eqU (hu : X.A.units + 64 < cLine) : OpR X (compareOp .Eq) (rEqU X.K) := OpR.u op_eq (op_eqD hu)
theorem op_neU (hu : X.A.units + 64 < cLine) : OpR X (compareOp .NotEq) (rNeU X.K) := OpR.u op_ne (op_neD hu)
def rLtI : R2 := rI0 fun i j => .bl (decide (i < j))
def rLeI : R2 := rI0 fun i j => .bl (decide (i ≤ j))
def rGtI : R2 := rI0 fun i j => .bl (decide (j < i))
def rGeI : R2 := rI0 fun i j => .bl (decide (j ≤ i))
def rLtU (K : Fg) : R2 := fun x y H Q => rLtI x y H Q ∨ rLtT K x y H Q
theorem op_ltU (hu : X.A.units < cLine) : OpR X (compareOp .Lt) (rLtU X.K) := OpR.u op_lt (op_ltT hu)
theorem op_leI : OpR X (compareOp .LtE) rLeI := op_le
theorem op_gtI : OpR X (compareOp .Gt) rGtI := op_gt
theorem op_geI : OpR X (compareOp .GtE) rGeI := op_ge
/-- x in a tuple of data -/
def rInDT (K : Fg) : R2 := fun x y H Q => ∃ d ds, Dp K H x d ∧ Dp K H y (.tuple ds) ∧ SeqAt.shaped d = true ∧ SeqAt.shaped (.tuple ds) = true ∧ Q (.bl (ds.any fun z => PyData.eqv z d)) H
def rNiDT (K : Fg) : R2 := fun x y H Q => ∃ d ds, Dp K H x d ∧ Dp K H y (.tuple ds) ∧ SeqAt.shaped d = true ∧ SeqAt.shaped (.tuple ds) = true ∧ Q (.bl (!ds.any fun z => PyData.eqv z d)) H
theorem op_inDT (hu : X.A.units + 65 < cLine) : OpR X (compareOp .In) (rInDT X.K) := by
  intro pins s σ H x y v u Q I rx ry h
  obtain ⟨d, ds, hd, he, sd, se, q⟩ := h
  obtain ⟨as, rd⟩ := Dp.reads I d x v hd rx
  obtain ⟨bs, rs⟩ := Dp.reads I (.tuple ds) y u he ry
  exact SeqAt.in_tuple_reads rs rd (SeqAt.canLay_of_shaped se) (SeqAt.canLay_of_shaped sd) (room_in_shaped sd hu) ⟨.bl _, H, I, rfl, q⟩
theorem op_niDT (hu : X.A.units + 65 < cLine) : OpR X (compareOp .NotIn) (rNiDT X.K) := by
  intro pins s σ H x y v u Q I rx ry h
  obtain ⟨d, ds, hd, he, sd, se, q⟩ := h
  obtain ⟨as, rd⟩ := Dp.reads I d x v hd rx
  obtain ⟨bs, rs⟩ := Dp.reads I (.tuple ds) y u he ry
  exact SeqAt.notIn_tuple_reads rs rd (SeqAt.canLay_of_shaped se) (SeqAt.canLay_of_shaped sd) (room_in_shaped sd hu) ⟨.bl _, H, I, rfl, q⟩
def rInU (K : Fg) : R2 := fun x y H Q => rIn K false x y H Q ∨ (rInD K x y H Q ∨ rInDT K x y H Q)
def rNiU (K : Fg) : R2 := fun x y H Q => rIn K true x y H Q ∨ (rNotInD K x y H Q ∨ rNiDT K x y H Q)
theorem op_inU (hu : X.A.units + 65 < cLine) : OpR X (compareOp .In) (rInU X.K) := OpR.u op_in_seq (OpR.u (op_inD hu) (op_inDT hu))
theorem op_niU (hu : X.A.units + 65 < cLine) : OpR X (compareOp .NotIn) (rNiU X.K) := OpR.u op_notIn_seq (OpR.u (op_notInD hu) (op_niDT hu))
def rIsN : R2 := fun x y H Q => y = .non ∧ Q (.bl (decide (x = .non))) H
def rNotN : R2 := fun x y H Q => y = .non ∧ Q (.bl (!decide (x = .non))) H
theorem op_isN1 : OpR X (compareOp .Is) rIsN := op_isN
theorem op_notN1 : OpR X (compareOp .IsNot) rNotN := op_notN
def rSlU (K : Fg) : V → Option Int → Option Int → Hp → VK → Prop := fun x lo hi H Q => rSlA K x lo hi H Q ∨ rSlL K x lo hi H Q
theorem sl_U : SlR X (rSlU X.K) := SlR.or sl_tupA sl_list
def rLenU (K : Fg) : List V → Hp → VK → Prop := fun xs H Q => ∃ p ys, xs = [.ref p] ∧ (SqL K H p ys ∨ L2.SqT K H p ys) ∧ Q (.int ys.length) H
theorem cr_len : CallR X (.builtin "len") (rLenU X.K) := call_len_seq
def rAbs : List V → Hp → VK → Prop := fun xs H Q => ∃ i, xs = [.int i] ∧ Q (.int (if i < 0 then -i else i)) H
def rInt : List V → Hp → VK → Prop := fun xs H Q => (∃ i, xs = [.int i] ∧ Q (.int i) H) ∨ ∃ k, xs = [.bl k] ∧ Q (.int (b2i k)) H
theorem cr_int : CallR X (.type "int") rInt := call_int1
def rMax2 : List V → Hp → VK → Prop := fun xs H Q => ∃ i j, xs = [.int i, .int j] ∧ Q (.int (if j > i then j else i)) H
def rMin2 : List V → Hp → VK → Prop := fun xs H Q => ∃ i j, xs = [.int i, .int j] ∧ Q (.int (if j < i then j else i)) H
theorem cr_max2 (hc : X.calm = true) : CallR X (.builtin "max") rMax2 := call_max2 hc
theorem cr_min2 (hc : X.calm = true) : CallR X (.builtin "min") rMin2 := call_min2 hc
def rTupOf (K : Fg) : List V → Hp → VK → Prop := fun xs H Q => ∃ p ys, xs = [.ref p] ∧ ((SqL K H p ys ∧ ∀ l, H l = none → Q (.ref l) (upd H l (.tup ys))) ∨ (L2.SqT K H p ys ∧ Q (.ref p) H))
theorem cr_tupOf : CallR X (.type "tuple") (rTupOf X.K) := call_tuple_of
def rLstOf (K : Fg) : List V → Hp → VK → Prop := fun xs H Q => ∃ p ys, xs = [.ref p] ∧ (SqL K H p ys ∨ L2.SqT K H p ys) ∧ ∀ l, H l = none → Q (.ref l) (upd H l (.lst ys))
theorem cr_lstOf : CallR X (.type "list") (rLstOf X.K) := call_list_of
end
section
variable {σ : L2.St} {H : Hp} {Q : VK} {K : Fg} {ta tb tc te : TE} {t u : TT} {D : Ends} {ts us : TS} {x y v : V} {i j : Int}
theorem s_seq (k : ts { D with nx := us D } σ H) : tSeq ts us D σ H := k
theorem s_next (k : D.nx σ H) : tNext D σ H := k
theorem s_asg {g : TG} (k : te σ H fun x H1 => g x σ H1 D.nx) : tAsg te g D σ H := k
theorem s_gname {n : Nat} {R : L2.St → Hp → Prop} (k : R (σ.set n (some v)) H) : gName n v σ H R := k
theorem s_ret (k : te σ H D.rt) : tRet te D σ H := k
theorem s_drop (k : te σ H fun _ H1 => D.nx σ H1) : tDrop te D σ H := k
theorem s_ifs (k : t σ H fun b H1 => if b = true then ts D σ H1 else us D σ H1) : tIfS t ts us D σ H := k
theorem s_ifx (k : t σ H fun b H1 => if b = true then ta σ H1 Q else tb σ H1 Q) : tIf t ta tb σ H Q := k
theorem s_var {n : Nat} (h : σ[n]? = some (some v)) (k : Q v H) : tVar n σ H Q := ⟨v, h, k⟩
theorem s_c (k : Q v H) : tC v σ H Q := k
theorem s_op {r : R2} (k : ta σ H fun x H1 => tb σ H1 fun y H2 => r x y H2 Q) : tOp r ta tb σ H Q := k
theorem s_un {r : V → Hp → VK → Prop} (k : ta σ H fun x H1 => r x H1 Q) : tUn r ta σ H Q := k
theorem s_neg (k : Q (.int (-i)) H) : rU (fun i => .int (-i)) (.int i) H Q := ⟨i, rfl, k⟩
theorem s_yes {P : Bool → Hp → Prop} (k : P true H) : tYes σ H P := k
theorem s_test {P : Bool → Hp → Prop} (k : te σ H fun x H' => ∃ b, x = .bl b ∧ P b H') : tTest te σ H P := k
theorem s_tB {P : Bool → Hp → Prop} (k : te σ H fun x H' => ∃ b, x = .bl b ∧ P b H') : tB te σ H P := k
theorem s_bl {P : Bool → Prop} {b : Bool} (k : P b) : ∃ c, V.bl b = .bl c ∧ P c := ⟨b, rfl, k⟩
theorem s_not {P : Bool → Hp → Prop} (k : t σ H fun c H1 => P (!c) H1) : tNot t σ H P := k
theorem s_and {P : Bool → Hp → Prop} (k : t σ H fun c H1 => if c = true then u σ H1 P else P false H1) : tAnd t u σ H P := k
theorem s_or {P : Bool → Hp → Prop} (k : t σ H fun c H1 => if c = true then P true H1 else u σ H1 P) : tOr t u σ H P := k
theorem s_andV (k : ta σ H fun x H1 => ∃ c, x = .bl c ∧ if c = true then tb σ H1 Q else Q (.bl false) H1) : tAndV ta tb σ H Q := k
theorem s_orV (k : ta σ H fun x H1 => ∃ c, x = .bl c ∧ if c = true then Q (.bl true) H1 else tb σ H1 Q) : tOrV ta tb σ H Q := k
theorem s_notV (k : ta σ H fun x H1 => ∃ c, x = .bl c ∧ Q (.bl (!c)) H1) : tNotV ta σ H Q := k
theorem s_chain {r r' : R2} (k : ta σ H fun x H1 => tb σ H1 fun y H2 => r x y H2 fun z H3 => ∃ k, z = .bl k ∧ (if k = true then tc σ H3 fun w' H4 => r' y w' H4 Q else Q (.bl false) H3)) : tChain r r' ta tb tc σ H Q := k
theorem s_blx {b : Bool} {A B : Prop} (k : if b = true then A else B) : ∃ c, V.bl b = .bl c ∧ (if c = true then A else B) := ⟨b, rfl, k⟩
theorem s_nil {R : List V → Hp → Prop} (k : R [] H) : tNil σ H R := k
theorem s_cons {tr : TA} {R : List V → Hp → Prop} (k : te σ H fun x H1 => tr σ H1 fun xs H2 => R (x :: xs) H2) : tCons te tr σ H R := k
/-- a new object goes on as Q says -/
def New (Q : VK) (H : Hp) (o : HO) : Prop := ∀ p, H p = none → Q (.ref p) (upd H p o)
theorem s_tup {ta : TA} (k : ta σ H fun xs H1 => xs.length ≤ sizeLine ∧ New Q H1 (.tup xs)) : tTup ta σ H Q := k
theorem s_lst {ta : TA} (k : ta σ H fun xs H1 => xs.length ≤ sizeLine ∧ New Q H1 (.lst xs)) : tLst ta σ H Q := k
/-- the heap by a name -/
theorem n_new {o : HO} (k : ∀ p H2, H p = none → Same H H2 → H2 p = some o → (∀ b, b ≠ p → H2 b = H b) → Q (.ref p) H2) : New Q H o := fun p hp => k p _ hp (Same.new hp) upd_same fun _ hb => upd_ne hb
theorem n_of {o : HO} {m : Nat} (h : Nat.ble m 1000 = true) (k : ∀ p H2, H p = none → Same H H2 → H2 p = some o → (∀ b, b ≠ p → H2 b = H b) → Q (.ref p) H2) : m ≤ sizeLine ∧ New Q H o := ⟨Nat.le_trans (Nat.le_of_ble_eq_true h) (by decide), n_new k⟩
theorem s_call {sp : Sp} {E : L2.St → XK} {ta : TA} (k : ta σ H fun vs H1 => sp vs H1 Q (E σ)) : tG sp E ta σ H Q := k
theorem s_cb {r : List V → Hp → VK → Prop} {ta : TA} (k : ta σ H fun vs H1 => r vs H1 Q) : tCB r ta σ H Q := k
theorem s_part {P : Option Int → Hp → Prop} (k : te σ H fun x H1 => ∃ i, x = .int i ∧ P (some i) H1) : tPart te σ H P := k
theorem s_nopart {P : Option Int → Hp → Prop} (k : P none H) : tNoPart σ H P := k
theorem s_ii {P : Int → Prop} (k : P i) : ∃ j, V.int i = .int j ∧ P j := ⟨i, rfl, k⟩
theorem s_sl {r : V → Option Int → Option Int → Hp → VK → Prop} {tl th : TO} (k : te σ H fun x H1 => tl σ H1 fun l H2 => th σ H2 fun u H3 => r x l u H3 Q) : tSl r te tl th σ H Q := k
theorem s_par {m n : Nat} {ta : TA} (k : ta σ H fun vs H1 => ∃ v w, vs = [v, w] ∧ D.nx ((σ.set m (some v)).set n (some w)) H1) : tPar m n ta D σ H := k
theorem s_par2 {P : V → V → Prop} (k : P x y) : ∃ v w, [x, y] = [v, w] ∧ P v w := ⟨x, y, rfl, k⟩
theorem s_bm {T : String} {r : V → List V → Hp → VK → Prop} {to : TE} {ta : TA} (k : to σ H fun x H1 => tyV K T x H1 ∧ ta σ H1 fun xs H2 => r x xs H2 Q) : tBM K T r to ta σ H Q := k
theorem s_gtup {n : Nat} {g : TGs} {R : L2.St → Hp → Prop} {a : Addr} {xs : List V} (h : SqT K H a xs) (e : xs.length = n) (k : g xs σ H R) : gTup K n g (.ref a) σ H R := ⟨a, xs, rfl, h.up, e, k⟩
theorem s_gcons {g : TG} {gs : TGs} {vs : List V} {R : L2.St → Hp → Prop} (k : g v σ H fun σ' H' => gs vs σ' H' R) : gCons g gs (v :: vs) σ H R := ⟨v, vs, rfl, k⟩
theorem s_gnil {R : L2.St → Hp → Prop} (k : R σ H) : gNil [] σ H R := ⟨rfl, k⟩
theorem s_gsub {to ti : TE} {ts : TSet} {R : L2.St → Hp → Prop} (k : to σ H fun o H1 => ti σ H1 fun i H2 => ts o i v H2 fun H3 => R σ H3) : gSub to ti ts v σ H R := k
theorem o_addI (k : Q (.int (i + j)) H) : rAddU K (.int i) (.int j) H Q := .inl ⟨i, j, rfl, rfl, k⟩
theorem o_sub (k : Q (.int (i - j)) H) : rSubI (.int i) (.int j) H Q := ⟨i, j, rfl, rfl, k⟩
theorem o_mulI (h : (-(2 ^ 64) < i ∧ i < 2 ^ 64) ∨ (-(2 ^ 64) < j ∧ j < 2 ^ 64)) (k : Q (.int (i * j)) H) : rMulU K (.int i) (.int j) H Q := .inl ⟨i, j, rfl, rfl, h, k⟩
theorem o_div (h : 0 < j) (h2 : j < 1073741824) (k : Q (.int (i / j)) H) : rDivI (.int i) (.int j) H Q := ⟨i, j, rfl, rfl, ⟨by omega, by omega⟩, by
  show Q (.int (i.fdiv j)) H
  rw [Int.fdiv_eq_ediv_of_nonneg _ (Int.le_of_lt h)]
  exact k⟩
theorem o_mod (h : 0 < j) (k : Q (.int (i % j)) H) : rModI (.int i) (.int j) H Q := ⟨i, j, rfl, rfl, by omega, by
  show Q (.int (i.fmod j)) H
  rw [Int.fmod_eq_emod_of_nonneg _ (Int.le_of_lt h)]
  exact k⟩
theorem o_eqS (h : scal x y = true) (k : Q (.bl (decide (x = y))) H) : rEqU K x y H Q := .inl ⟨h, k⟩
theorem o_neS (h : scal x y = true) (k : Q (.bl (!decide (x = y))) H) : rNeU K x y H Q := .inl ⟨h, k⟩
theorem o_eqI (k : Q (.bl (decide (i = j))) H) : rEqU K (.int i) (.int j) H Q := .inl ⟨rfl, by rw [show decide (V.int i = V.int j) = decide (i = j) from by simp]; exact k⟩
theorem o_neI (k : Q (.bl (!decide (i = j))) H) : rNeU K (.int i) (.int j) H Q := .inl ⟨rfl, by rw [show decide (V.int i = V.int j) = decide (i = j) from by simp]; exact k⟩
theorem o_ltI (k : Q (.bl (decide (i < j))) H) : rLtU K (.int i) (.int j) H Q := .inl ⟨i, j, rfl, rfl, k⟩
theorem o_le (k : Q (.bl (decide (i ≤ j))) H) : rLeI (.int i) (.int j) H Q := ⟨i, j, rfl, rfl, k⟩
theorem o_gt (k : Q (.bl (decide (j < i))) H) : rGtI (.int i) (.int j) H Q := ⟨i, j, rfl, rfl, k⟩
theorem o_ge (k : Q (.bl (decide (j ≤ i))) H) : rGeI (.int i) (.int j) H Q := ⟨i, j, rfl, rfl, k⟩
theorem o_isN (k : Q (.bl (decide (x = .non))) H) : rIsN x .non H Q := ⟨rfl, k⟩
theorem o_notN (k : Q (.bl (!decide (x = .non))) H) : rNotN x .non H Q := ⟨rfl, k⟩
theorem o_ixT0 {p : Addr} {xs : List V} (h : L2.SqT K H p xs) (ha : atI xs i = some v) (k : Q v H) : rIx K (.ref p) (.int i) H Q := .inr (.inl ⟨p, xs, i, v, rfl, rfl, h, ha, k⟩)
theorem o_ixT {p : Addr} {xs : List V} (h : SqT K H p xs) (ha : atI xs i = some v) (k : Q v H) : rIx K (.ref p) (.int i) H Q := .inr (.inl ⟨p, xs, i, v, rfl, rfl, h.up, ha, k⟩)
theorem o_ixL {p : Addr} {xs : List V} (h : SqL K H p xs) (ha : atI xs i = some v) (k : Q v H) : rIx K (.ref p) (.int i) H Q := .inl ⟨p, xs, i, v, rfl, rfl, h, ha, k⟩
theorem o_eqD {d e : PyData} (h1 : Dp K H x d) (h2 : Dp K H y e) (s1 : SeqAt.shaped d = true) (s2 : SeqAt.shaped e = true) (k : Q (.bl (PyData.eqv d e)) H) : rEqU K x y H Q := .inr ⟨d, e, h1, h2, s1, s2, k⟩
theorem o_neD {d e : PyData} (h1 : Dp K H x d) (h2 : Dp K H y e) (s1 : SeqAt.shaped d = true) (s2 : SeqAt.shaped e = true) (k : Q (.bl (!PyData.eqv d e)) H) : rNeU K x y H Q := .inr ⟨d, e, h1, h2, s1, s2, k⟩
theorem o_lenL {p : Addr} {xs : List V} (h : SqL K H p xs) (k : Q (.int xs.length) H) : rLenU K [.ref p] H Q := ⟨p, xs, rfl, .inl h, k⟩
theorem o_lenT {p : Addr} {xs : List V} (h : SqT K H p xs) (k : Q (.int xs.length) H) : rLenU K [.ref p] H Q := ⟨p, xs, rfl, .inr h.up, k⟩
theorem o_int (k : Q (.int i) H) : rInt [.int i] H Q := .inl ⟨i, rfl, k⟩
theorem o_intB {b : Bool} (k : Q (.int (b2i b)) H) : rInt [.bl b] H Q := .inr ⟨b, rfl, k⟩
theorem o_abs (k : Q (.int (if i < 0 then -i else i)) H) : rAbs [.int i] H Q := ⟨i, rfl, k⟩
theorem o_max2 (k : Q (.int (if j > i then j else i)) H) : rMax2 [.int i, .int j] H Q := ⟨i, j, rfl, k⟩
theorem o_min2 (k : Q (.int (if j < i then j else i)) H) : rMin2 [.int i, .int j] H Q := ⟨i, j, rfl, k⟩
end
end UW
namespace UW
open PySem PySem.Spec PyProof.Rows L2
section
variable {X : Cx}
theorem ps_parU {i j : Nat} {x y : Str} {a b : Expr} {ta : TA} {px py pt pos : Pos} {kt k2 pt2} (hc : X.calm = true) (hN : X.N.Nodup) (hi : X.N[i]? = some x) (hj : X.N[j]? = some y) (hij : i ≠ j)
    (hx : Loc X.env.scope x) (hy : Loc X.env.scope y) (ha : PA X [a, b] ta)
    (hw : swappedStores [.Tuple [.Name x px, .Name y py] kt pt] (.Tuple [a, b] k2 pt2) X.env = pure (some [x, y]))
    (hs : swapsWithSole [.Tuple [.Name x px, .Name y py] kt pt] (.Tuple [a, b] k2 pt2) pos.line X.env = pure false := by rfl)
    (fx : X.fn x = true ∨ X.env.scope.names.lookup x = some .local := by first | exact .inl rfl | exact .inr rfl) (fy : X.fn y = true ∨ X.env.scope.names.lookup y = some .local := by first | exact .inl rfl | exact .inr rfl) :
    PS X (.Assign [.Tuple [.Name x px, .Name y py] kt pt] (.Tuple [a, b] k2 pt2) pos) (tPar i j ta) := by
  refine ⟨?_⟩
  intro pins s σ H D I h
  rw [exec_Assign_arm]
  refine wpAny_bind (wpAny_standAt ?_)
  rw [hs]
  refine wpAny_bind (wpAny_pure ?_)
  rw [if_neg (by decide)]
  refine wpAny_bind (Tuple_ (thn (ha.run _ pins s σ H _ I h) ?_))
  intro us s1 ⟨vs, H1, I1, r1, v, w, e1, q1⟩
  subst e1
  cases r1 with
  | @cons _ u1 _ ur rv r2 =>
    cases r2 with
    | @cons _ u2 _ ur2 rw' r3 =>
      cases r3
      refine wpAny_newObj_type ?_ (by show 2 ≤ sizeLine; decide)
      have I2 : Inv X pins σ H1 { s1 with heap := s1.heap.push { cls := .type "tuple", data := .seq [u1, u2].toArray } } := I1.kept (t' := s1.toks) fun b o e => Heap.get?_push_of_some _ e
      rw [hw]
      refine wpAny_bind (wpAny_pure ?_)
      show wpAny (model X.prog X.w) X.A (do rule "assign.swapped-stores"; let its ← unpackItems (.ref s1.heap.objs.size) 2 none; assignInOrder [fun v => bindName X.env y v, fun v => bindName X.env x v] its.reverse; pure Flow.next) _ _ _
      refine wpAny_bind (wpAny_rule (wpAny_bind (unpackItems_tuple (items := #[u1, u2]) (I.ok.hd hc) (IsTup.new s1.heap _) ?_)))
      intro h' hx'
      have I3 := I2.kept (h' := h') (t' := s1.toks) fun b o e => hx' b o (Nat.ne_of_lt (Heap.lt_size e)) e
      show wpAny _ _ (assignInOrder [fun v => bindName X.env y v, fun v => bindName X.env x v] [u2, u1] >>= fun _ => pure Flow.next) _ _ _
      refine wpAny_bind (assignInOrder_cons (wpAny_bindName (store_ok I3 hN hj hy rw' ?_ fy)))
      intro s2 I4
      refine assignInOrder_cons (wpAny_bindName (store_ok I4 hN hi hx rv ?_ fx))
      intro s3 I5
      refine assignInOrder_nil (wpAny_pure ?_)
      rw [List.set_comm _ _ (Ne.symm hij)] at I5
      exact ⟨_, H1, I5, q1⟩
/-- a walk, whichever of two -/
def iSeq (K : Fg) (tl : TE) : TI := fun σ H R => tl σ H fun x H1 => ∃ a, x = .ref a ∧ ((∃ xs, SqL K H1 a xs ∧ R (Itl K a) H1) ∨ (∃ xs, L2.SqT K H1 a xs ∧ R (Itt K a) H1))
theorem pi_seq {tg l : Expr} {tl : TE} (hl : PE X l tl) : PI X tg l (iSeq X.K tl) := by
  refine ⟨?_⟩
  intro pins s σ H R I h
  refine thn (hl.run pins s σ H _ I h) ?_
  intro v s1 ⟨x, H1, I1, r1, a, e, q⟩
  subst e
  cases r1
  have fp : ∀ b ∈ [s1.heap.objs.size], FpOk X pins H1 b := by
    intro b hb
    have e : b = s1.heap.objs.size := by simpa using hb
    subst e
    exact I1.fpOk (Nat.le_refl _) (I1.hok.fresh (Nat.le_refl _))
  rcases q with ⟨xs, hq, q⟩ | ⟨xs, hq, q⟩
  · obtain ⟨its, rv, p, hz⟩ := I1.list hq
    exact wpAny_pyIter_list p.isList ⟨s1.heap.objs.size, [s1.heap.objs.size], _, _, H1, rfl, I1.kept (t' := s1.toks) fun b o e => Heap.get?_push_of_some _ e, turn_list a _, ⟨_, Heap.get?_push_size _ rfl, rfl, rfl⟩, fp, q⟩
  · obtain ⟨its, rv, p, hz⟩ := I1.tuple hq
    exact wpAny_pyIter_tuple (show s1.heap.IsTuple a its.toArray from p) ⟨s1.heap.objs.size, [s1.heap.objs.size], _, _, H1, rfl, I1.kept (t' := s1.toks) fun b o e => Heap.get?_push_of_some _ e, turn_tuple a _, ⟨_, Heap.get?_push_size _ rfl, rfl, rfl⟩, fp, q⟩
def iEnumU (K : Fg) (ta : TA) : TI := fun σ H R => iEnumT K ta σ H R ∨ iEnum K ta σ H R
theorem PI.u {tg l : Expr} {w1 w2 : TI} (a : PI X tg l w1) (b : PI X tg l w2) : PI X tg l (fun σ H R => w1 σ H R ∨ w2 σ H R) := by
  refine ⟨?_⟩
  intro pins s σ H R I h
  rcases h with h | h
  · exact a.run pins s σ H R I h
  · exact b.run pins s σ H R I h
theorem pi_enumU {e : Expr} {ta : TA} {p pos tpos : Pos} {elts : List Expr} {kk : Nat} (hm : X.mg "enumerate" = none) (ha : PA X [e] ta) (hg : Gl X "enumerate" := by rfl) (hs : starEach [e] X.env = [(false, eval e X.env)] := by rfl) :
    PI X (.Tuple elts kk tpos) (.Call (.Name "enumerate" p) [e] [] pos) (iEnumU X.K ta) := PI.u (pi_enumT hm ha hg hs) (pi_enum hg hm ha hs)
end
end UW
namespace UW
open PySem PySem.Spec PyProof.Rows L2
section
variable {prog : Program} {w : World} {A : Around} {E : Value → Shared → Prop} {s : Shared}
theorem adjust_rev (n : Nat) : Builtin.Slice.sliceAdjust none none (-1) (n : Int) = ((n : Int) - 1, -1) := by
  unfold Builtin.Slice.sliceAdjust
  have h1 : ((-1 : Int) < 0) := by decide
  simp only [h1, if_true]
theorem places_rev (n : Nat) : Builtin.Slice.slicePlaces ((n : Int) - 1) (-1) (-1) = n := by
  unfold Builtin.Slice.slicePlaces
  have h1 : ¬ ((-1 : Int) > 0) := by decide
  simp only [h1, if_false]
  split
  · rw [show (- -1 : Int) = 1 by decide, Int.ediv_one]; omega
  · omega
theorem sliceApplied_rev {sl : Addr} {vl vu vs : Value} {n : Nat} {Q : Int × Int × Nat → Shared → Prop} (hs : s.heap.IsSliceOf sl vl vu vs) (pl : IsPart vl none) (pu : IsPart vu none) (ps : IsPart vs (some (-1)))
    (h : Q ((n : Int) - 1, -1, n) s) : wpAny (model prog w) A (Builtin.Slice.sliceApplied (.ref sl) (pure (n : Int))) Q E s := by
  obtain ⟨os, hos, hcs, hds⟩ := id hs
  unfold Builtin.Slice.sliceApplied Builtin.Slice.sliceFields
  refine wpAny_bind (wpAny_bind (wpAny_field hos hds (x := vl) rfl (wpAny_bind (wpAny_field hos hds (x := vu) rfl (wpAny_bind (wpAny_field hos hds (x := vs) rfl (wpAny_pure ?_)))))))
  refine wpAny_bind (HT.slicePart_ ps ?_)
  show wpAny _ _ (if ((-1 : Int) == 0) = true then _ else _) _ _ s
  rw [if_neg (by decide)]
  refine wpAny_bind (HT.slicePart_ pl (wpAny_bind (HT.slicePart_ pu (wpAny_bind (wpAny_pure ?_)))))
  show wpAny _ _ (match Builtin.Slice.sliceAdjust none none (-1) (n : Int) with | (lo, hi) => pure (lo, (-1 : Int), Builtin.Slice.slicePlaces lo hi (-1))) _ _ s
  rw [adjust_rev n]
  show wpAny _ _ (pure ((n : Int) - 1, (-1 : Int), Builtin.Slice.slicePlaces ((n : Int) - 1) (-1) (-1))) _ _ s
  rw [places_rev]
  exact wpAny_pure h
theorem pick_rev (xs : Array Value) : ((List.range xs.size).filterMap fun (m : Nat) => xs[(((xs.size : Int) - 1) + (m : Int) * (-1)).toNat]?).toArray = xs.toList.reverse.toArray := by
  have e : ((List.range xs.size).filterMap fun (m : Nat) => xs[(((xs.size : Int) - 1) + (m : Int) * (-1)).toNat]?) = ((List.range xs.size).map (fun k => xs.size - 1 - k)).filterMap (xs[·]?) := by
    rw [List.filterMap_map]
    have go : ∀ l : List Nat, (∀ m ∈ l, m < xs.size) → l.filterMap (fun (m : Nat) => xs[(((xs.size : Int) - 1) + (m : Int) * (-1)).toNat]?) = l.filterMap ((xs[·]?) ∘ fun k => xs.size - 1 - k) := by
      intro l
      induction l with
      | nil => intro _; rfl
      | cons m l ih =>
        intro h
        have hm := h m (List.mem_cons_self ..)
        have e1 : xs[(((xs.size : Int) - 1) + (m : Int) * (-1)).toNat]? = ((xs[·]?) ∘ fun k => xs.size - 1 - k) m := by
          show _ = xs[xs.size - 1 - m]?
          rw [show (((xs.size : Int) - 1) + (m : Int) * (-1)).toNat = xs.size - 1 - m from by omega]
        rw [List.filterMap_cons, List.filterMap_cons, e1, ih fun k hk => h k (List.mem_cons_of_mem _ hk)]
    exact go _ fun m hm => List.mem_range.mp hm
  rw [e, PySem.W.krv_range, List.filterMap_reverse, PySem.W.krv_all]
theorem getItem_tuple_rev {t sl : Addr} {items : Array Value} {vl vu vs : Value} {Q : Value → Shared → Prop} (ht : IsTup s.heap t items) (hs : s.heap.IsSliceOf sl vl vu vs) (pl : IsPart vl none) (pu : IsPart vu none) (ps : IsPart vs (some (-1)))
    (h : Q (.ref s.heap.objs.size) { s with heap := s.heap.push { cls := .type "tuple", data := .seq items.toList.reverse.toArray } })
    (hsz : items.size ≤ sizeLine) : wpAny (model prog w) A (getItem (.ref t) (.ref sl)) Q E s := by
  have htake : sizeOk (.seq items.toList.reverse.toArray) := by
    show items.toList.reverse.toArray.size ≤ sizeLine
    rw [List.size_toArray, List.length_reverse, Array.length_toList]
    omega
  obtain ⟨os, hos, hcs, hds⟩ := id hs
  have hTs : s.TypeIs (.ref sl) "slice" := ⟨os, hos, hcs⟩
  unfold getItem
  try with_reducible refine wpAny_holding ?_
  first | refine wpAny_bind (wpAny_pure ?_) | skip
  refine wpAny_bind (wpAny_sequenceKey ht.typeIs (by decide) ?_)
  refine wpAny_bind (wpAny_callSpecial?_slot (name := Str.ofString "__getitem__") ht.typeIs PyProof.Rows.slot_tuple_getitem
    (wpAny_call_entry PyProof.Rows.slot_tuple_getitem ht.typeIs entry_tuple_getitem ?_ (args_tuple_getitem _ _)))
  show wpAny _ _ (Builtin.Tuple.tupleItemsOf (.ref t) >>= _) _ _ s
  refine wpAny_bind (tupleItemsOf_ ht ?_)
  refine wpAny_bind (wpAny_typeOf hTs ?_)
  rw [if_pos (by decide)]
  refine wpAny_bind (sliceApplied_rev hs pl pu ps ?_)
  have hno : ¬ ((((items.size : Int) - 1) == 0 && (-1 : Int) == 1 && items.size == items.size) = true) := by
    rw [show ((-1 : Int) == 1) = false from by decide, Bool.and_false, Bool.false_and]
    decide
  show wpAny _ _ (if (((items.size : Int) - 1) == 0 && (-1 : Int) == 1 && items.size == items.size) = true then _ else _) _ _ s
  rw [if_neg hno, pick_rev]
  first
    | exact wpAny_bind (m := Builtin.Tuple.tupleExact _) (wpAny_newObj_type (wpAny_pure ⟨_, rfl, wpAny_pure h⟩) htake)
    | exact wpAny_bind (m := Builtin.Tuple.tupleExact _) (wpAny_newObj_type (wpAny_bind (wpAny_pure (wpAny_pure ⟨_, rfl, wpAny_pure h⟩))) htake)
    | exact wpAny_bind (wpAny_bind (m := Builtin.Tuple.tupleExact _) (wpAny_newObj_type (wpAny_pure (wpAny_pure ⟨_, rfl, wpAny_pure h⟩)) htake))
    | exact wpAny_bind (wpAny_bind (m := Builtin.Tuple.tupleExact _) (wpAny_newObj_type (wpAny_pure ⟨_, rfl, wpAny_pure h⟩) htake))
end
/-- x[::-1], x a list or a tuple -/
def tRev (K : Fg) (te : TE) : TE := fun σ H Q => te σ H fun x H1 => ∃ a xs, x = .ref a ∧ ((SqL K H1 a xs ∧ ∀ p, H1 p = none → Q (.ref p) (upd H1 p (.lst xs.reverse))) ∨ (L2.SqT K H1 a xs ∧ ∀ p, H1 p = none → Q (.ref p) (upd H1 p (.tup xs.reverse))))
theorem pe_rev {X : Cx} {e : Expr} {te : TE} {k : Nat} {p1 p2 p3 pos : Pos} (he : PE X e te) : PE X (.Subscript e (.Slice none none (some (.UnaryOp .USub (.Constant (.int 1) k p1) p2)) p3) pos) (tRev X.K te) := by
  refine ⟨fun pins s σ H Q I h => ?_⟩
  refine Subscript_ (thn (he.run pins s σ H _ I h) fun v s1 ⟨x, H1, I1, r1, q1⟩ => ?_)
  obtain ⟨a, xs, ex, q⟩ := q1
  subst ex
  cases r1
  have hst : PO X (some (.UnaryOp .USub (.Constant (.int 1) k p1) p2)) (tPart (tUn (rU fun i => .int (-i)) (tC (.int 1)))) := po_some (pe_un un_neg pe_int)
  refine wpAny_Slice (thn (po_none.run pins s1 σ H1 (fun o H2 => o = none ∧ H2 = H1) I1 ⟨rfl, rfl⟩) fun vl s2 ⟨l, H2, I2, pl, el, e2⟩ => ?_)
  subst el e2
  refine thn (po_none.run pins s2 σ H2 (fun o H3 => o = none ∧ H3 = H2) I2 ⟨rfl, rfl⟩) fun vu s3 ⟨u, H3, I3, pu, eu, e3⟩ => ?_
  subst eu e3
  refine thn (hst.run pins s3 σ H3 (fun o H4 => o = some (-1) ∧ H4 = H3) I3 ⟨1, rfl, -1, rfl, rfl, rfl⟩) fun vs s4 ⟨o, H4, I4, ps, eo, e4⟩ => ?_
  subst eo e4
  have I5 : Inv X pins σ H4 { s4 with heap := s4.heap.push { cls := .type "slice", data := .fields #[vl, vu, vs] } } := I4.kept (t' := s4.toks) fun b ob q => Heap.get?_push_of_some _ q
  show wpAny (model X.prog X.w) X.A (subscriptTail e (.Slice none none (some (.UnaryOp .USub (.Constant (.int 1) k p1) p2)) p3) (.ref a) (.ref s4.heap.objs.size)) (EP X pins σ Q) X.xe { s4 with heap := s4.heap.push { cls := .type "slice", data := .fields #[vl, vu, vs] } }
  rcases q with ⟨hx, q⟩ | ⟨hx, q⟩
  · obtain ⟨its, r, ht, hz⟩ := I5.list hx
    have hlen := r.length
    refine tail_any (ops := [.ref a, .ref s4.heap.objs.size]) ht.isList.typeIs (PySem.slot_list_getitem.lookup) ?_ (by with_unfolding_all rfl)
    refine wpAny_getItem_list_slice ht.isList (Heap.IsSliceOf.new _ vl vu vs) pl pu ps (by decide) ?_ (by rw [List.size_toArray]; omega)
    rw [PySem.W.krv_pick]
    refine ⟨.ref _, _, I5.laid (t' := s4.toks) (o := .lst xs.reverse) (fun b ob q => Heap.get?_push_of_some _ q) (Nat.le_refl _) ?_, rfl, q _ (I5.hok.fresh (Nat.le_refl _))⟩
    exact ⟨by rw [List.length_reverse]; exact hz, _, 0, r.reverse, Heap.get?_push_size _ rfl⟩
  · obtain ⟨its, r, ht, hz⟩ := I5.tuple hx
    have hlen := r.length
    refine tail_any (ops := [.ref a, .ref s4.heap.objs.size]) ht.typeIs (PyProof.Rows.slot_tuple_getitem.lookup) ?_ (by with_unfolding_all rfl)
    refine getItem_tuple_rev ht (Heap.IsSliceOf.new _ vl vu vs) pl pu ps ?_ (by rw [List.size_toArray]; omega)
    refine ⟨.ref _, _, I5.laid (t' := s4.toks) (o := .tup xs.reverse) (fun b ob q => Heap.get?_push_of_some _ q) (Nat.le_refl _) ?_, rfl, q _ (I5.hok.fresh (Nat.le_refl _))⟩
    exact ⟨by rw [List.length_reverse]; exact hz, _, r.reverse, ⟨_, Heap.get?_push_size _ rfl, rfl, _, rfl⟩⟩
end UW
namespace UW
open PySem PySem.Spec PyProof.Rows L2
section
variable {prog : Program} {w : World} {A : Around} {E : Value → Shared → Prop} {s : Shared} {t : Addr} {its : List Value} {ns : List Int} {Q : Value → Shared → Prop}
end
/-- a list or a tuple -/
def SqU (K : Fg) (H : Hp) (p : Addr) (xs : List V) : Prop := SqL K H p xs ∨ L2.SqT K H p xs
def rSumU (K : Fg) : List V → Hp → VK → Prop := fun vs H Q => ∃ (a : Addr) (ns : List Int), vs = [V.ref a] ∧ SqU K H a (ns.map V.int) ∧ Q (.int ns.sum) H
section
variable {X : Cx}
end
end UW
namespace UW
open PySem PySem.Spec PyProof.Rows L2
theorem h65_of {A : Around} {k : Nat} (hr : Room k A) : A.units + 65 < cLine := by have := hr.un; omega
theorem Same.lst {H H' : Hp} {a : Addr} {o : HO} (e : Same H H') (h : H a = some o) : H' a = some o := e _ _ h
section
variable {H : Hp} {Q : VK} {K : Fg} {R : L2.St → Hp → Prop} {i j : Int} {v x y : V}
/-- the heap behind a store at p, by a name -/
def At (p : Addr) (o : HO) (H H2 : Hp) : Prop := H2 p = some o ∧ ∀ b, b ≠ p → H2 b = H b
theorem At.upd (p : Addr) (o : HO) (H : Hp) : At p o H (upd H p o) := ⟨upd_same, fun _ h => upd_ne h⟩
theorem At.ne {p b : Addr} {o u : HO} {H H2 : Hp} (e : At p o H H2) (h : H b = some u) (n : b ≠ p) : H2 b = some u := (e.2 b n).trans h
theorem At.tm {p : Addr} {xs ys : List V} {H H2 : Hp} (e : At p (.lst ys) H H2) (h : H p = some (.lst xs)) : Tm H H2 := fun a zs q => e.ne q (ne_of q h (fun z => by cases z))
theorem At.same {p : Addr} {o : HO} {H0 H H2 : Hp} (e : At p o H H2) (s : Same H0 H) (n : H0 p = none) : Same H0 H2 := fun b u h => e.ne (s b u h) (ne_of_none h n)
theorem o_setL {p : Addr} {xs : List V} {n : Nat} (h : H p = some (.lst xs)) (hi : ixN xs.length i = some n) {P : Hp → Prop} (k : ∀ H2, At p (.lst (xs.set n v)) H H2 → P H2) : rSetL (.ref p) (.int i) v H P := ⟨p, xs, i, n, rfl, rfl, h, hi, k _ (At.upd _ _ _)⟩
theorem o_popAt {p : Addr} {xs : List V} {n : Nat} (h : H p = some (.lst xs)) (hi : i = (n : Int)) (hn : xs[n]? = some y) (hs : n < 100000) (k : ∀ H2, At p (.lst (xs.eraseIdx n)) H H2 → Q y H2) : rPopAt (.ref p) [.int i] H Q := by
  subst hi
  have hlt := (List.getElem?_eq_some_iff.mp hn).1
  refine ⟨p, xs, (n : Int), n, y, rfl, rfl, h, by omega, by omega, ?_, hn, k _ (At.upd _ _ _)⟩
  unfold seqIndex?
  simp
  omega
theorem o_tyL {p : Addr} {xs : List V} (h : H p = some (.lst xs)) {A : Prop} (k : A) : tyV K "list" (.ref p) H ∧ A := ⟨.inl ⟨rfl, _, SqL.of h⟩, k⟩
theorem s_cut {t u : TS} {D : Ends} {σ : L2.St} (M : L2.St → Hp → Prop) (h : t { D with nx := M } σ H) (k : ∀ σ' H', M σ' H' → u D σ' H') : Evl.tCut t u D σ H := ⟨M, h, k⟩
theorem s_i1 {A B : Prop} (c : Bool) (h1 : c = true → A) (h2 : c = false → B) : if c = true then A else B := by
  cases c with
  | true => exact iteT (h1 rfl)
  | false => exact iteF (h2 rfl)
theorem s_dec {p : Prop} [Decidable p] {A B : Prop} (h1 : p → A) (h2 : ¬ p → B) : if decide p = true then A else B := by
  by_cases h : p
  · rw [decide_eq_true h]; exact iteT (h1 h)
  · rw [decide_eq_false h]; exact iteF (h2 h)
theorem s_ndec {p : Prop} [Decidable p] {A B : Prop} (h1 : ¬ p → A) (h2 : p → B) : if (!decide p) = true then A else B := by
  by_cases h : p
  · rw [decide_eq_true h]; exact iteF (h2 h)
  · rw [decide_eq_false h]; exact iteT (h1 h)
end
theorem at_zero {α : Type} (x : α) (xs : List α) : atI (x :: xs) 0 = some x := atI_nat (j := 0) rfl
theorem at_last {α : Type} {xs : List α} {x : α} (h : xs[xs.length - 1]? = some x) : atI xs (-1) = some x := by
  have hl : xs.length - 1 < xs.length := (List.getElem?_eq_some_iff.mp h).1
  unfold atI ixN
  rw [if_neg (by decide), if_pos (by omega)]
  show xs[(-1 + (xs.length : Int)).toNat]? = some x
  rw [show (-1 + (xs.length : Int)).toNat = xs.length - 1 from by omega]
  exact h
theorem ix_nat {n j : Nat} (h : j < n) : ixN n (j : Int) = some j := by
  unfold ixN
  rw [if_pos (by omega), if_pos (by omega)]
  simp
theorem ix_zero {n : Nat} (h : 0 < n) : ixN n 0 = some 0 := ix_nat (j := 0) h
section
variable {K : Fg} {a b : Addr} {xs ys : List V} {J : It} {n : Nat} {G : Hp → Prop} {Y : Nat → Hp → V → Hp → Prop} {g : TG} {tt : TT} {te : TE} {vs : List Nat} {σ : L2.St} {H H1 : Hp} {Q : VK} {wi : TI} {tb : TS} {D : Ends} {tl : TE} {ta : TA}
theorem walk_enumT0 : Walk (IteT K a) xs.length (fun H => L2.SqT K H a xs) (YPair (fun i => some (.int (i : Nat))) (fun i => xs[i]?)) := by
  refine ⟨fun i _ hi q => ⟨xs, xs[i], q, by simp [hi]⟩, fun _ q => ⟨xs, q, Nat.le_refl _⟩, ?_⟩
  rintro i H v H' _ q ⟨T, x, h1, h2, h3, h4⟩
  exact ⟨T, .int (i : Nat), x, h1, h2, h3, rfl, h4 xs q⟩
theorem walk_zipT0 {n : Nat} (hn : n = min xs.length ys.length) : Walk (RZ.ItzT K a b) n (fun H => L2.SqT K H a xs ∧ L2.SqT K H b ys) (YPair (fun i => xs[i]?) (fun i => ys[i]?)) := by
  subst hn
  refine ⟨?_, fun _ q => ⟨xs, ys, q.1, q.2, by omega⟩, ?_⟩
  · intro i _ hi q
    have h1 : i < xs.length := by omega
    have h2 : i < ys.length := by omega
    exact ⟨xs, ys, xs[i], ys[i], q.1, q.2, by simp [h1], by simp [h2]⟩
  · rintro i H v H' _ q ⟨T, x, z, h1, h2, h3, h4, h5⟩
    exact ⟨T, x, z, h1, h2, h3, h4 xs q.1, h5 ys q.2⟩
theorem walk_tup : Walk (Itt K a) xs.length (fun H => SqT K H a xs) (YAt xs) := L2.walk_tup.mono (fun _ h => h.up) fun _ _ _ _ _ _ y => y
theorem walk_enumT : Walk (IteT K a) xs.length (fun H => SqT K H a xs) (YPair (fun i => some (.int (i : Nat))) (fun i => xs[i]?)) := walk_enumT0.mono (fun _ h => h.up) fun _ _ _ _ _ _ y => y
theorem walk_zipT {n : Nat} (hn : n = min xs.length ys.length) : Walk (RZ.ItzT K a b) n (fun H => SqT K H a xs ∧ SqT K H b ys) (YPair (fun i => xs[i]?) (fun i => ys[i]?)) := (walk_zipT0 hn).mono (fun _ h => ⟨h.1.up, h.2.up⟩) fun _ _ _ _ _ _ y => y
def SeqGo (K : Fg) (x : V) (H : Hp) (R : It → Hp → Prop) : Prop := ∃ a, x = .ref a ∧ ((∃ xs, SqL K H a xs ∧ R (Itl K a) H) ∨ (∃ xs, L2.SqT K H a xs ∧ R (Itt K a) H))
theorem w_seq {R : It → Hp → Prop} (k : tl σ H fun x H1 => SeqGo K x H1 R) : iSeq K tl σ H R := k
theorem w_seqL {R : It → Hp → Prop} (h : SqL K H a xs) (k : R (Itl K a) H) : SeqGo K (.ref a) H R := ⟨a, rfl, .inl ⟨xs, h, k⟩⟩
theorem w_seqT {R : It → Hp → Prop} (h : SqT K H a xs) (k : R (Itt K a) H) : SeqGo K (.ref a) H R := ⟨a, rfl, .inr ⟨xs, h.up, k⟩⟩
def RngGo (vs : List V) (H : Hp) (R : It → Hp → Prop) : Prop := ∃ j : Int, vs = [.int j] ∧ -(2 ^ 62) ≤ j ∧ j < 2 ^ 62 ∧ R (Itr 0 j.toNat) H
theorem w_rng1 {R : It → Hp → Prop} (k : ta σ H fun vs H1 => RngGo vs H1 R) : iRng1 ta σ H R := k
theorem w_rng {R : It → Hp → Prop} {j : Int} (h : -(2 ^ 62) ≤ j ∧ j < 2 ^ 62) (k : R (Itr 0 j.toNat) H) : RngGo [.int j] H R := ⟨j, rfl, h.1, h.2, k⟩
def Rng2Go (vs : List V) (H : Hp) (R : It → Hp → Prop) : Prop := ∃ i j : Int, vs = [.int i, .int j] ∧ (-(2 ^ 62) ≤ i ∧ i < 2 ^ 62 ∧ -(2 ^ 62) ≤ j ∧ j < 2 ^ 62) ∧ R (Itr i (j - i).toNat) H
theorem w_rng2 {R : It → Hp → Prop} (k : ta σ H fun vs H1 => Rng2Go vs H1 R) : iRng2 ta σ H R := k
theorem w_rngB {R : It → Hp → Prop} {i j : Int} (h : -(2 ^ 62) ≤ i ∧ i < 2 ^ 62 ∧ -(2 ^ 62) ≤ j ∧ j < 2 ^ 62) (k : R (Itr i (j - i).toNat) H) : Rng2Go [.int i, .int j] H R := ⟨i, j, rfl, h, k⟩
def EnTGo (K : Fg) (vs : List V) (H : Hp) (R : It → Hp → Prop) : Prop := ∃ a xs, vs = [.ref a] ∧ L2.SqT K H a xs ∧ R (IteT K a) H
theorem w_enumT {R : It → Hp → Prop} (k : ta σ H fun vs H1 => EnTGo K vs H1 R) : iEnumU K ta σ H R := .inl k
theorem w_enT {R : It → Hp → Prop} (h : SqT K H a xs) (k : R (IteT K a) H) : EnTGo K [.ref a] H R := ⟨a, xs, rfl, h.up, k⟩
def ZipGo (K : Fg) (vs : List V) (H : Hp) (R : It → Hp → Prop) : Prop := ∃ a b xs ys, vs = [.ref a, .ref b] ∧ ((SqL K H a xs ∧ SqL K H b ys ∧ R (Itz K a b) H) ∨ (L2.SqT K H a xs ∧ L2.SqT K H b ys ∧ R (RZ.ItzT K a b) H))
theorem w_zip {R : It → Hp → Prop} (k : ta σ H fun vs H1 => ZipGo K vs H1 R) : RZ.iZipA K ta σ H R := k
theorem w_zipT {R : It → Hp → Prop} (h : SqT K H a xs) (h2 : SqT K H b ys) (k : R (RZ.ItzT K a b) H) : ZipGo K [.ref a, .ref b] H R := ⟨a, b, xs, ys, rfl, .inr ⟨h.up, h2.up, k⟩⟩
theorem w_zipL {R : It → Hp → Prop} (h : SqL K H a xs) (h2 : SqL K H b ys) (k : R (Itz K a b) H) : ZipGo K [.ref a, .ref b] H R := ⟨a, b, xs, ys, rfl, .inl ⟨h, h2, k⟩⟩
def ForGo (J : It) (g : TG) (tb : TS) (D : Ends) (σ : L2.St) (H : Hp) : Prop := ∃ W : Nat → Nat → L2.St → Hp → Prop, (∃ m, W 0 m σ H) ∧ ∀ i m σ H, W i m σ H →
  (J.stop i H ∧ D.nx σ H) ∨ (J.go i H ∧ ∃ N : L2.St → Hp → Prop, (∀ σ' H', N σ' H' → ∃ m', m' < m ∧ W (i + 1) m' σ' H') ∧ ∀ x H', J.yld i H x H' → g x σ H' fun σ2 H2 => tb { D with nx := N, ct := N, bk := D.nx } σ2 H2)
theorem s_for (k : wi σ H fun J H1 => ForGo J g tb D σ H1) : tFor wi g tb D σ H := k
theorem f_go (w : Walk J n G Y) (Pv : Nat → L2.St → Hp → Prop) (h0 : Pv 0 σ H) (hG : ∀ i σ H, i ≤ n → Pv i σ H → G H)
    (hs : ∀ i x σ H H', i < n → Pv i σ H → Y i H x H' → g x σ H' fun σ2 H2 => tb { D with nx := Pv (i + 1), ct := Pv (i + 1), bk := D.nx } σ2 H2) (hd : ∀ σ H, Pv n σ H → D.nx σ H) : ForGo J g tb D σ H := for_it w Pv h0 hG hs hd
def LcGo (J : It) (g : TG) (tt : TT) (te : TE) (vs : List Nat) (σ : L2.St) (H1 : Hp) (Q : VK) : Prop := ∀ D, H1 D = none → ∃ W : Nat → Nat → Hp → Prop, (∃ m, W 0 m (upd H1 D (.lst []))) ∧ ∀ i m H, W i m H →
  (J.stop i H ∧ Q (.ref D) H) ∨ (J.go i H ∧ ∃ Nx : Hp → Prop, (∀ H', Nx H' → ∃ m', m' < m ∧ W (i + 1) m' H') ∧ ∀ x H', J.yld i H x H' → g x (wipe σ vs) H' fun σ2 H2 => wipe σ2 vs = wipe σ vs ∧ tt σ2 H2 fun b H3 =>
    if b = true then te σ2 H3 fun y H4 => ∃ acc, H4 D = some (.lst acc) ∧ acc.length < sizeLine ∧ Nx (upd H4 D (.lst (acc ++ [y]))) else Nx H3)
theorem s_lc (k : wi σ H fun J H1 => LcGo J g tt te vs σ H1 Q) : tLc wi g tt te vs σ H Q := k
/-- by an invariant: D the new list, ys what it holds -/
theorem lc_inv (w : Walk J n G Y) (Pv : Addr → Nat → List V → Hp → Prop) (hz : n < 100000) (h0 : ∀ D H', H1 D = none → Same H1 H' → At D (.lst []) H1 H' → Pv D 0 [] H') (hG : ∀ D i ys H, i ≤ n → Pv D i ys H → G H)
    (hs : ∀ D i ys x H H', H1 D = none → i < n → Pv D i ys H → H D = some (.lst ys) → Y i H x H' → ∀ (Yes : V → Hp → Prop) (No : Hp → Prop),
      (∀ y H5, H5 D = some (.lst ys) → (∀ H6, At D (.lst (ys ++ [y])) H5 H6 → Pv D (i + 1) (ys ++ [y]) H6) → Yes y H5) → (∀ H5, H5 D = some (.lst ys) → Pv D (i + 1) ys H5 → No H5) →
      g x (wipe σ vs) H' fun σ2 H2 => wipe σ2 vs = wipe σ vs ∧ tt σ2 H2 fun b H3 => if b = true then te σ2 H3 Yes else No H3)
    (hd : ∀ D ys H, H1 D = none → Pv D n ys H → H D = some (.lst ys) → ys.length ≤ n → Q (.ref D) H) : LcGo J g tt te vs σ H1 Q := by
  intro D hD
  refine lc_it (Qd := fun H => Q (.ref D) H) w (fun i H => ∃ ys, ys.length ≤ i ∧ H D = some (.lst ys) ∧ Pv D i ys H) ⟨[], Nat.le_refl _, upd_same, h0 D _ hD (Same.new hD) (At.upd _ _ _)⟩ ?_ ?_ ?_
  · rintro i H hi ⟨ys, _, _, p⟩
    exact hG D i ys H hi p
  · rintro i x H H' hi ⟨ys, hl, hy, p⟩ yy
    refine hs D i ys x H H' hD hi p hy yy _ _ (fun y H5 h5 n6 => ⟨ys, h5, Nat.lt_of_le_of_lt hl (Nat.lt_trans hi (Nat.lt_of_lt_of_le hz (by decide))), ys ++ [y], ?_, upd_same, n6 _ (At.upd _ _ _)⟩) (fun H5 h5 p5 => ⟨ys, Nat.le_succ_of_le hl, h5, p5⟩)
    rw [List.length_append, List.length_singleton]
    omega
  · rintro H ⟨ys, hl, hy, p⟩
    exact hd D ys H hD p hy hl
/-- what stands at the turns that are taken -/
def picks {α : Type} (f : Nat → Bool) (d : Nat → α) : Nat → List α
  | 0 => []
  | i + 1 => if f i then picks f d i ++ [d i] else picks f d i
/-- by the data of its items; nothing that stood changes -/
theorem lc_data (w : Walk J n G Y) (f : Nat → Bool) (d : Nat → PyData) (hz : n < 100000) (hG : ∀ H', Same H1 H' → G H')
    (hs : ∀ i x H H', i < n → Same H1 H → Y i H x H' → ∀ (Yes : V → Hp → Prop) (No : Hp → Prop),
      (f i = true → ∀ y H5, Same H H5 → Tp K H5 y (d i) → Yes y H5) → (f i = false → ∀ H5, Same H H5 → No H5) →
      g x (wipe σ vs) H' fun σ2 H2 => wipe σ2 vs = wipe σ vs ∧ tt σ2 H2 fun b H3 => if b = true then te σ2 H3 Yes else No H3)
    (hd : ∀ D ys H, H1 D = none → Same H1 H → H D = some (.lst ys) → Tps K H ys (picks f d n) → ys.length ≤ n → Q (.ref D) H) : LcGo J g tt te vs σ H1 Q := by
  refine lc_inv w (fun D i ys H => Same H1 H ∧ Tps K H ys (picks f d i)) hz (fun D H' hD e _ => ⟨e, .nil⟩) (fun D i ys H _ p => hG H p.1) ?_ (fun D ys H hD p hy hl => hd D ys H hD p.1 hy p.2 hl)
  rintro D i ys x H H' hD hi ⟨e, p⟩ hy yy Yes No hyes hno
  refine hs i x H H' hi e yy Yes No (fun fi y H5 e5 t5 => hyes y H5 (e5 _ _ hy) fun H6 a6 => ⟨a6.same (Same.trans e e5) hD, ?_⟩) (fun fi H5 e5 => hno H5 (e5 _ _ hy) ⟨Same.trans e e5, ?_⟩)
  · have m6 := a6.tm (e5 _ _ hy)
    show Tps K H6 (ys ++ [y]) (if f i then picks f d i ++ [d i] else picks f d i)
    rw [if_pos fi]
    exact ((p.same e5).tm m6).snoc (t5.tm m6)
  · show Tps K H5 ys (if f i then picks f d i ++ [d i] else picks f d i)
    rw [if_neg (by rw [fi]; decide)]
    exact p.same e5
theorem picks_over {α β : Type} (f : α → Bool) (d : α → β) (z : β) (rs : List α) : ∀ n, n ≤ rs.length → picks (fun i => (rs[i]?.map f).getD false) (fun i => (rs[i]?.map d).getD z) n = ((rs.take n).filter f).map d
  | 0, _ => by rw [List.take_zero]; rfl
  | n + 1, h => by
    have hn : n < rs.length := h
    have ih := picks_over f d z rs n (Nat.le_of_lt hn)
    have e : rs[n]? = some rs[n] := List.getElem?_eq_getElem hn
    have et : rs.take (n + 1) = rs.take n ++ [rs[n]] := by rw [List.take_add_one, e]; rfl
    show (if (rs[n]?.map f).getD false then picks _ _ n ++ [(rs[n]?.map d).getD z] else picks _ _ n) = _
    rw [ih, et, e, List.filter_append, List.map_append]
    cases q : f rs[n] with
    | true => simp [q]
    | false => simp [q]
/-- by the data of what is walked over -/
theorem lc_over {α : Type} (rs : List α) (w : Walk J n G Y) (en : n = rs.length) (f : α → Bool) (d : α → PyData) (hz : n < 100000) (hG : ∀ H', Same H1 H' → G H')
    (hs : ∀ i r x H H', rs[i]? = some r → Same H1 H → Y i H x H' → ∀ (Yes : V → Hp → Prop) (No : Hp → Prop),
      (f r = true → ∀ y H5, Same H H5 → Tp K H5 y (d r) → Yes y H5) → (f r = false → ∀ H5, Same H H5 → No H5) →
      g x (wipe σ vs) H' fun σ2 H2 => wipe σ2 vs = wipe σ vs ∧ tt σ2 H2 fun b H3 => if b = true then te σ2 H3 Yes else No H3)
    (hd : ∀ D ys H, H1 D = none → Same H1 H → H D = some (.lst ys) → Tps K H ys ((rs.filter f).map d) → Q (.ref D) H) : LcGo J g tt te vs σ H1 Q := by
  subst en
  refine lc_data (K := K) w (fun i => (rs[i]?.map f).getD false) (fun i => (rs[i]?.map d).getD .none) hz hG ?_ ?_
  · intro i x H H' hi e y Yes No hy hn
    have e2 : rs[i]? = some rs[i] := List.getElem?_eq_getElem hi
    refine hs i rs[i] x H H' e2 e y Yes No (fun q y H5 s5 t5 => hy (by rw [e2]; exact q) y H5 s5 ?_) (fun q H5 s5 => hn (by rw [e2]; exact q) H5 s5)
    rw [e2]
    exact t5
  · intro D ys H hD e hy t _
    refine hd D ys H hD e hy ?_
    rw [picks_over f d .none rs rs.length (Nat.le_refl _), List.take_length] at t
    exact t
theorem filter_true {α : Type} (rs : List α) : rs.filter (fun _ => true) = rs := List.filter_eq_self.mpr fun _ _ => rfl
theorem picks_all {α : Type} (d : Nat → α) : ∀ n, picks (fun _ => true) d n = (List.range n).map d
  | 0 => rfl
  | n + 1 => by
    show picks (fun _ => true) d n ++ [d n] = _
    rw [picks_all d n, List.range_succ, List.map_append]
    rfl
end
end UW
namespace UW
open PySem PySem.Spec PyProof.Rows L2
/-- one step -/
local macro_rules | `(tactic| walk_at "s1") => `(tactic| first
  | with_reducible refine s_seq ?_
  | with_reducible refine s_for ?_
  | with_reducible refine s_lc ?_
  | with_reducible refine w_seq ?_
  | with_reducible refine w_rng1 ?_
  | with_reducible refine w_rng2 ?_
  | with_reducible refine w_zip ?_
  | with_reducible refine s_asg ?_
  | with_reducible refine s_gname ?_
  | with_reducible refine s_ret ?_
  | with_reducible refine s_drop ?_
  | with_reducible refine s_next ?_
  | with_reducible refine s_ifs ?_
  | with_reducible refine s_var (by with_unfolding_all rfl) ?_
  | with_reducible refine s_c ?_
  | with_reducible refine s_op ?_
  | with_reducible refine s_un ?_
  | with_reducible refine s_neg ?_
  | with_reducible refine s_test ?_
  | with_reducible refine s_yes ?_
  | with_reducible refine s_tB ?_
  | with_reducible refine s_bl ?_
  | with_reducible refine s_not ?_
  | with_reducible refine s_and ?_
  | with_reducible refine s_or ?_
  | with_reducible refine s_andV ?_
  | with_reducible refine s_orV ?_
  | with_reducible refine s_notV ?_
  | with_reducible refine s_chain ?_
  | with_reducible refine s_nil ?_
  | with_reducible refine s_cons ?_
  | with_reducible refine s_tup ?_
  | with_reducible refine s_lst ?_
  | with_reducible refine s_call ?_
  | with_reducible refine s_cb ?_
  | with_reducible refine s_part ?_
  | with_reducible refine s_nopart ?_
  | with_reducible refine s_ii ?_
  | with_reducible refine s_sl ?_
  | with_reducible refine s_par ?_
  | with_reducible refine s_par2 ?_
  | with_reducible refine s_bm ?_
  | with_reducible refine s_gsub ?_
  | with_reducible refine s_gcons ?_
  | with_reducible refine s_gnil ?_
  | with_reducible refine o_addI ?_
  | with_reducible refine o_sub ?_
  | with_reducible refine o_eqI ?_
  | with_reducible refine o_neI ?_
  | with_reducible refine o_ltI ?_
  | with_reducible refine o_le ?_
  | with_reducible refine o_gt ?_
  | with_reducible refine o_ge ?_
  | with_reducible refine o_int ?_
  | with_reducible refine o_intB ?_
  | with_reducible refine o_abs ?_
  | with_reducible refine o_max2 ?_
  | with_reducible refine o_min2 ?_
  | with_reducible refine o_isN ?_
  | with_reducible refine o_notN ?_
  | with_reducible refine o_mulI (by first | exact Or.inl ⟨by decide, by decide⟩ | exact Or.inr ⟨by decide, by decide⟩ | (first | (refine Or.inl ⟨?_, ?_⟩ <;> omega) | (refine Or.inr ⟨?_, ?_⟩ <;> omega))) ?_
  | with_reducible refine o_mod (by first | decide | omega) ?_
  | with_reducible refine o_div (by first | decide | omega) (by first | decide | omega) ?_
  | with_reducible refine s_blx ?_
  | with_reducible refine o_ixL (SqL.of (by assumption)) (by first | with_unfolding_all rfl | with_unfolding_all exact at_zero _ _) ?_
  | with_reducible refine o_ixT (by assumption) (by first | with_unfolding_all rfl | with_unfolding_all exact at_zero _ _) ?_
  | with_reducible refine o_tyL (by assumption) ?_
  | with_reducible refine iteT ?_
  | with_reducible refine iteF ?_)
local macro_rules | `(tactic| walk_at "sx") => `(tactic| repeat (walk_at "s1"))
def Well (H : Hp) (a l : Addr) : Prop := ∃ (cs : List Int) (s c : Int), H a = some (.lst [.ref l, .int s, .int c]) ∧ H l = some (.lst (cs.map V.int)) ∧ cs.length ≤ 64
/-- all but the well is as it was -/
def Kp (a l : Addr) (H H' : Hp) : Prop := ∀ b o, H b = some o → b ≠ a → b ≠ l → H' b = some o
theorem Well.ne {H : Hp} {a l : Addr} (w : Well H a l) : a ≠ l := by
  obtain ⟨cs, s, c, h1, h2, _⟩ := w
  refine ne_of h1 h2 fun z => ?_
  have e : ([.ref l, .int s, .int c] : List V) = cs.map V.int := by
    injection z
  cases cs with
  | nil => cases e
  | cons x r => cases e
theorem Kp.refl {a l : Addr} (H : Hp) : Kp a l H H := fun _ _ h _ _ => h
theorem Kp.trans {a l : Addr} {H H1 H2 : Hp} (e : Kp a l H H1) (f : Kp a l H1 H2) : Kp a l H H2 := fun b o h n1 n2 => f b o (e b o h n1 n2) n1 n2
theorem Kp.same {a l : Addr} {H H1 : Hp} (e : Same H H1) : Kp a l H H1 := fun b o h _ _ => e b o h
theorem Well.same {H H' : Hp} {a l : Addr} (w : Well H a l) (e : Same H H') : Well H' a l := by
  obtain ⟨cs, s, c, h1, h2, h3⟩ := w
  exact ⟨cs, s, c, e _ _ h1, e _ _ h2, h3⟩
theorem Kp.tm {a l : Addr} {H H' : Hp} (w : Well H a l) (e : Kp a l H H') : Tm H H' := by
  obtain ⟨cs, s, c, h1, h2, _⟩ := w
  exact fun b xs h => e b _ h (ne_of h h1 fun z => by cases z) (ne_of h h2 fun z => by cases z)
def sp__law_draw (K : Fg) : Sp := fun vs H Q _ => ∃ (a l : Addr) (m : Int), vs = [.ref a, .int m] ∧ Well H a l ∧ 0 < m ∧ m < 1073741824 ∧ ∀ (r : Int) (H' : Hp), 0 ≤ r → r < m → Well H' a l → Kp a l H H' → Q (.int r) H'
theorem l__law_draw {K : Fg} : ∀ vs H Q E, sp__law_draw K vs H Q E → vs.length = 2 := by
  rintro vs H Q E ⟨a, l, m, rfl, _⟩
  rfl
theorem canLay_ints : ∀ ns : List Int, PyData.canLayAll0 (ns.map PyData.int) = true
  | [] => by simp only [List.map_nil, PyData.canLayAll0]
  | n :: ns => by
    simp only [List.map_cons, PyData.canLayAll0, PyData.canLay0, Bool.and_eq_true, true_and]
    exact canLay_ints ns
theorem depth_ints : ∀ ns : List Int, PyData.depthAll (ns.map PyData.int) = 0
  | [] => by simp only [List.map_nil, PyData.depthAll]
  | n :: ns => by simp only [List.map_cons, PyData.depthAll, PyData.depth, depth_ints ns, Nat.max_self]
theorem shaped_ints (ns : List Int) : SeqAt.shaped (.list (ns.map PyData.int)) = true := by
  show (_ && decide _) = true
  simp only [PyData.canLay0, PyData.depth, canLay_ints, depth_ints]
  rfl
/-- _law_draw, slots well, many, cell, found -/
def t__law_draw (K : Fg) : TS :=
  (tSeq (tIfS (tTest (tOp (rNeU K) (tOp (rIx K) (tVar 0) (tC (.int 0))) (tLst tNil))) (tSeq (tAsg (tOp (rIx K) (tOp (rIx K) (tVar 0) (tC (.int 0)))
    (tC (.int 0))) (gName 2)) (tSeq (tAsg (tOp rDivI (tVar 2) (tVar 1)) (gSub (tOp (rIx K) (tVar 0) (tC (.int 0))) (tC (.int 0)) rSetL)) (Evl.tCut (tIfS (tTest (tOp (rLtU K) (tVar 2) (tVar 1))) (tDrop (tBM K "list" rPopAt (tOp (rIx
    K) (tVar 0) (tC (.int 0))) (tCons (tC (.int 0)) tNil))) tNext) (tRet (tOp rModI (tCB rInt (tCons (tVar 2) tNil)) (tVar 1)))))) tNext) (tSeq (tAsg (tOp (rAddU K) (tOp (rIx K) (tVar 0) (tC (.int 2))) (tC (.int 1))) (gSub (tVar 0)
    (tC (.int 2)) rSetL)) (tSeq (tAsg (tOp rModI (tCB rInt (tCons (tOp (rAddU K) (tOp (rIx K) (tVar 0) (tC (.int 1))) (tOp (rMulU K) (tC (.int 2246822519)) (tOp (rIx K) (tVar 0) (tC (.int 2))))) tNil)) (tC (.int 4294967291)))
    (gName 3)) (tSeq (tAsg (tOp rModI (tCB rInt (tCons (tOp (rAddU K) (tOp (rAddU K) (tOp (rMulU K) (tVar 3) (tVar 3)) (tOp (rMulU K) (tC (.int 30011)) (tOp (rIx K) (tVar 0) (tC (.int 2))))) (tC (.int 17))) tNil)) (tC (.int
    4294967279))) (gName 3)) (tSeq (tAsg (tOp rModI (tCB rInt (tCons (tOp (rAddU K) (tOp (rMulU K) (tVar 3) (tVar 3)) (tOp (rIx K) (tVar 0) (tC (.int 1)))) tNil)) (tC (.int 4294967231))) (gName 3)) (tRet (tOp rModI (tCB rInt (tCons
    (tOp rDivI (tVar 3) (tC (.int 128))) tNil)) (tVar 1))))))))
theorem p__law_draw {K : Fg} {vs : List V} {H : Hp} {Q : VK} {E : XK} (h : sp__law_draw K vs H Q E) : t__law_draw K { nx := fun _ H' => Q .non H', rt := Q } (start ["well", "many", "cell", "found"] vs) H := by
  obtain ⟨a, l, m, rfl, w, m0, m1, k⟩ := h
  have al := w.ne
  obtain ⟨cs, s, c, ha, hl, hc⟩ := w
  show t__law_draw K _ [some (.ref a), some (.int m), none, none] H
  unfold t__law_draw
  walk_at "sx"
  refine n_of rfl fun p H1 np e1 hp _ => ?_
  have ha1 := e1 _ _ ha
  have hl1 := e1 _ _ hl
  refine o_neD (.lst (SqL.of hl1) (Tps.of_ints cs).dp) (.lst (SqL.of hp) .nil) (shaped_ints cs) rfl ?_
  walk_at "sx"
  refine s_i1 _ (fun hc1 => ?_) (fun hc1 => ?_)
  · cases cs with
    | nil => cases hc1
    | cons x cs =>
      walk_at "sx"
      refine o_setL hl1 (ix_zero (Nat.succ_pos _)) fun H2 l2 => ?_
      have ha2 := l2.ne ha1 al
      refine s_cut (fun σ' H' => σ' = [some (.ref a), some (.int m), some (.int x), none] ∧ Well H' a l ∧ Kp a l H1 H') ?_ ?_
      · have kp : Kp a l H1 H2 := fun b o h n1 n2 => l2.ne h n2
        have hl2 := l2.1
        walk_at "sx"
        refine s_dec (fun _ => ?_) (fun _ => ?_)
        · walk_at "sx"
          refine o_popAt (n := 0) hl2 rfl rfl (by decide) fun H3 l3 => ?_
          exact ⟨rfl, ⟨cs, s, c, l3.ne ha2 al, l3.1, by simp at hc; omega⟩, fun b o h n1 n2 => l3.ne (kp b o h n1 n2) n2⟩
        · walk_at "sx"
          exact ⟨rfl, ⟨x / m :: cs, s, c, ha2, hl2, hc⟩, kp⟩
      · rintro σ' H' ⟨rfl, w', kp⟩
        walk_at "sx"
        exact k _ _ (Int.emod_nonneg _ (by omega)) (Int.emod_lt_of_pos _ m0) w' ((Kp.same e1).trans kp)
  · walk_at "sx"
    refine o_setL ha1 rfl fun H2 a2 => ?_
    have ha2 : H2 a = some (.lst [.ref l, .int s, .int (c + 1)]) := a2.1
    have hl2 := a2.ne hl1 (Ne.symm al)
    walk_at "sx"
    have r1 := Int.emod_nonneg (s + 2246822519 * (c + 1)) (b := 4294967291) (by decide)
    have r2 := Int.emod_lt_of_pos (s + 2246822519 * (c + 1)) (b := 4294967291) (by decide)
    generalize (s + 2246822519 * (c + 1)) % 4294967291 = f1 at r1 r2 ⊢
    walk_at "sx"
    refine k _ _ (Int.emod_nonneg _ (by omega)) (Int.emod_lt_of_pos _ m0) ⟨cs, s, c + 1, ha2, hl2, hc⟩ ?_
    exact fun b o h n1 n2 => a2.ne (e1 _ _ h) n1
end UW
namespace UW
open PySem PySem.Spec PyProof.Rows L2
/-- one step -/
local macro_rules | `(tactic| walk_at "s1") => `(tactic| first
  | with_reducible refine s_seq ?_
  | with_reducible refine s_for ?_
  | with_reducible refine s_lc ?_
  | with_reducible refine w_seq ?_
  | with_reducible refine w_rng1 ?_
  | with_reducible refine w_rng2 ?_
  | with_reducible refine w_zip ?_
  | with_reducible refine s_asg ?_
  | with_reducible refine s_gname ?_
  | with_reducible refine s_ret ?_
  | with_reducible refine s_drop ?_
  | with_reducible refine s_next ?_
  | with_reducible refine s_ifs ?_
  | with_reducible refine s_var (by with_unfolding_all rfl) ?_
  | with_reducible refine s_c ?_
  | with_reducible refine s_op ?_
  | with_reducible refine s_un ?_
  | with_reducible refine s_neg ?_
  | with_reducible refine s_test ?_
  | with_reducible refine s_yes ?_
  | with_reducible refine s_tB ?_
  | with_reducible refine s_bl ?_
  | with_reducible refine s_not ?_
  | with_reducible refine s_and ?_
  | with_reducible refine s_or ?_
  | with_reducible refine s_andV ?_
  | with_reducible refine s_orV ?_
  | with_reducible refine s_notV ?_
  | with_reducible refine s_chain ?_
  | with_reducible refine s_nil ?_
  | with_reducible refine s_cons ?_
  | with_reducible refine s_tup ?_
  | with_reducible refine s_lst ?_
  | with_reducible refine s_call ?_
  | with_reducible refine s_cb ?_
  | with_reducible refine s_part ?_
  | with_reducible refine s_nopart ?_
  | with_reducible refine s_ii ?_
  | with_reducible refine s_sl ?_
  | with_reducible refine s_par ?_
  | with_reducible refine s_par2 ?_
  | with_reducible refine s_bm ?_
  | with_reducible refine s_gsub ?_
  | with_reducible refine s_gcons ?_
  | with_reducible refine s_gnil ?_
  | with_reducible refine o_addI ?_
  | with_reducible refine o_sub ?_
  | with_reducible refine o_eqI ?_
  | with_reducible refine o_neI ?_
  | with_reducible refine o_ltI ?_
  | with_reducible refine o_le ?_
  | with_reducible refine o_gt ?_
  | with_reducible refine o_ge ?_
  | with_reducible refine o_int ?_
  | with_reducible refine o_intB ?_
  | with_reducible refine o_abs ?_
  | with_reducible refine o_max2 ?_
  | with_reducible refine o_min2 ?_
  | with_reducible refine o_isN ?_
  | with_reducible refine o_notN ?_
  | with_reducible refine o_mulI (by first | exact Or.inl ⟨by decide, by decide⟩ | exact Or.inr ⟨by decide, by decide⟩ | (first | (refine Or.inl ⟨?_, ?_⟩ <;> omega) | (refine Or.inr ⟨?_, ?_⟩ <;> omega))) ?_
  | with_reducible refine o_mod (by first | decide | omega) ?_
  | with_reducible refine o_div (by first | decide | omega) (by first | decide | omega) ?_
  | with_reducible refine s_blx ?_
  | with_reducible refine o_ixL (SqL.of (by assumption)) (by first | with_unfolding_all rfl | with_unfolding_all exact at_zero _ _) ?_
  | with_reducible refine o_ixT (by assumption) (by first | with_unfolding_all rfl | with_unfolding_all exact at_zero _ _) ?_
  | with_reducible refine o_tyL (by assumption) ?_
  | with_reducible refine iteT ?_
  | with_reducible refine iteF ?_)
local macro_rules | `(tactic| walk_at "sx") => `(tactic| repeat (walk_at "s1"))
section
variable {H : Hp} {Q : VK} {K : Fg} {a : Addr} {xs : List V} {lo hi : Option Int}
theorem o_slL (h : SqL K H a xs) (k : New Q H (.lst (cutV xs lo hi))) : rSlU K (.ref a) lo hi H Q := .inr ⟨a, xs, rfl, h, k⟩
end
theorem map_at {ns : List Int} {i : Nat} {x : V} (h : (ns.map V.int)[i]? = some x) : ∃ n, x = .int n := by
  rw [List.getElem?_map] at h
  cases e : ns[i]? with
  | none => rw [e] at h; cases h
  | some n => rw [e] at h; exact ⟨n, (Option.some.inj h).symm⟩
end UW
namespace UW
open PySem PySem.Spec PyProof.Rows L2
/-- one step -/
local macro_rules | `(tactic| walk_at "s1") => `(tactic| first
  | with_reducible refine s_seq ?_
  | with_reducible refine s_for ?_
  | with_reducible refine s_lc ?_
  | with_reducible refine w_seq ?_
  | with_reducible refine w_rng1 ?_
  | with_reducible refine w_rng2 ?_
  | with_reducible refine w_zip ?_
  | with_reducible refine s_asg ?_
  | with_reducible refine s_gname ?_
  | with_reducible refine s_ret ?_
  | with_reducible refine s_drop ?_
  | with_reducible refine s_next ?_
  | with_reducible refine s_ifs ?_
  | with_reducible refine s_var (by with_unfolding_all rfl) ?_
  | with_reducible refine s_c ?_
  | with_reducible refine s_op ?_
  | with_reducible refine s_un ?_
  | with_reducible refine s_neg ?_
  | with_reducible refine s_test ?_
  | with_reducible refine s_yes ?_
  | with_reducible refine s_tB ?_
  | with_reducible refine s_bl ?_
  | with_reducible refine s_not ?_
  | with_reducible refine s_and ?_
  | with_reducible refine s_or ?_
  | with_reducible refine s_andV ?_
  | with_reducible refine s_orV ?_
  | with_reducible refine s_notV ?_
  | with_reducible refine s_chain ?_
  | with_reducible refine s_nil ?_
  | with_reducible refine s_cons ?_
  | with_reducible refine s_tup ?_
  | with_reducible refine s_lst ?_
  | with_reducible refine s_call ?_
  | with_reducible refine s_cb ?_
  | with_reducible refine s_part ?_
  | with_reducible refine s_nopart ?_
  | with_reducible refine s_ii ?_
  | with_reducible refine s_sl ?_
  | with_reducible refine s_par ?_
  | with_reducible refine s_par2 ?_
  | with_reducible refine s_bm ?_
  | with_reducible refine s_gsub ?_
  | with_reducible refine s_gcons ?_
  | with_reducible refine s_gnil ?_
  | with_reducible refine o_addI ?_
  | with_reducible refine o_sub ?_
  | with_reducible refine o_eqI ?_
  | with_reducible refine o_neI ?_
  | with_reducible refine o_ltI ?_
  | with_reducible refine o_le ?_
  | with_reducible refine o_gt ?_
  | with_reducible refine o_ge ?_
  | with_reducible refine o_int ?_
  | with_reducible refine o_intB ?_
  | with_reducible refine o_abs ?_
  | with_reducible refine o_max2 ?_
  | with_reducible refine o_min2 ?_
  | with_reducible refine o_isN ?_
  | with_reducible refine o_notN ?_
  | with_reducible refine o_mulI (by first | exact Or.inl ⟨by decide, by decide⟩ | exact Or.inr ⟨by decide, by decide⟩ | (first | (refine Or.inl ⟨?_, ?_⟩ <;> omega) | (refine Or.inr ⟨?_, ?_⟩ <;> omega))) ?_
  | with_reducible refine o_mod (by first | decide | omega) ?_
  | with_reducible refine o_div (by first | decide | omega) (by first | decide | omega) ?_
  | with_reducible refine s_blx ?_
  | with_reducible refine o_ixL (SqL.of (by assumption)) (by first | with_unfolding_all rfl | with_unfolding_all exact at_zero _ _) ?_
  | with_reducible refine o_ixT (by assumption) (by first | with_unfolding_all rfl | with_unfolding_all exact at_zero _ _) ?_
  | with_reducible refine o_tyL (by assumption) ?_
  | with_reducible refine iteT ?_
  | with_reducible refine iteF ?_)
local macro_rules | `(tactic| walk_at "sx") => `(tactic| repeat (walk_at "s1"))
def iota (n : Nat) : List Int := (List.range n).map fun (i : Nat) => ((i : Nat) : Int)
theorem iota_len (n : Nat) : (iota n).length = n := by unfold iota; rw [List.length_map, List.length_range]
theorem rgV_iota (n : Int) : rgV 0 n = (iota n.toNat).map V.int := by
  unfold rgV iota
  rw [List.map_map]
  have e : (n - 0).toNat = n.toNat := by rw [Int.sub_zero]
  rw [e]
  refine List.map_congr_left fun i _ => ?_
  show V.int (0 + (i : Int)) = V.int (i : Int)
  rw [Int.zero_add]
theorem map_erase {α β : Type} (f : α → β) : ∀ (l : List α) (n : Nat), (l.map f).eraseIdx n = (l.eraseIdx n).map f
  | [], _ => rfl
  | _ :: _, 0 => rfl
  | x :: l, n + 1 => by
    show f x :: (l.map f).eraseIdx n = f x :: (l.eraseIdx n).map f
    rw [map_erase f l n]
theorem perm_erase {α : Type} : ∀ (l : List α) (n : Nat) (h : n < l.length), (l[n] :: l.eraseIdx n).Perm l
  | [], n, h => absurd h (Nat.not_lt_zero _)
  | x :: l, 0, _ => List.Perm.refl _
  | x :: l, n + 1, h => by
    have h' : n < l.length := Nat.lt_of_succ_lt_succ h
    show (l[n] :: x :: l.eraseIdx n).Perm (x :: l)
    exact (List.Perm.swap x l[n] _).trans ((perm_erase l n h').cons x)
/-- what stood stands, and the well is one -/
structure WK (a l : Addr) (H H' : Hp) : Prop where
  w : Well H' a l
  k : Kp a l H H'
theorem WK.trans {a l : Addr} {H H1 H2 : Hp} (e : WK a l H H1) (f : WK a l H1 H2) : WK a l H H2 := ⟨f.w, e.k.trans f.k⟩
theorem WK.same {a l : Addr} {H H1 H2 : Hp} (e : WK a l H H1) (f : Same H1 H2) : WK a l H H2 := ⟨e.w.same f, e.k.trans (Kp.same f)⟩
theorem WK.refl {a l : Addr} {H : Hp} (w : Well H a l) : WK a l H H := ⟨w, Kp.refl H⟩
/-- an object that is not the well's and not known at first is changed -/
theorem WK.at {a l p : Addr} {o : HO} {H H1 H2 : Hp} (w0 : Well H a l) (e : WK a l H H1) (f : At p o H1 H2) (n : H p = none) : WK a l H H2 := by
  obtain ⟨cs0, s0, c0, x1, x2, _⟩ := w0
  have na : a ≠ p := ne_of_none x1 n
  have nl : l ≠ p := ne_of_none x2 n
  obtain ⟨cs, s, c, h1, h2, h3⟩ := e.w
  exact ⟨⟨cs, s, c, f.ne h1 na, f.ne h2 nl, h3⟩, fun b u q n1 n2 => f.ne (e.k b u q n1 n2) (ne_of_none q n)⟩
theorem WK.get {a l b : Addr} {u : HO} {H H1 : Hp} (e : WK a l H H1) (h : H b = some u) (n1 : b ≠ a) (n2 : b ≠ l) : H1 b = some u := e.k b u h n1 n2
theorem Well.fresh {H : Hp} {a l p : Addr} (w : Well H a l) (n : H p = none) : p ≠ a ∧ p ≠ l := by
  obtain ⟨cs0, s0, c0, x1, x2, _⟩ := w
  exact ⟨(ne_of_none x1 n).symm, (ne_of_none x2 n).symm⟩
theorem WK.tm {a l : Addr} {H H' : Hp} (w : Well H a l) (e : WK a l H H') : Tm H H' := Kp.tm w e.k
def sp__law_mixed (K : Fg) : Sp := fun vs H Q _ => ∃ (a l : Addr) (n : Nat), vs = [.ref a, .int n] ∧ Well H a l ∧ n ≤ 1000 ∧
  ∀ (p : Addr) (H' : Hp) (ns : List Int), H p = none → WK a l H H' → H' p = some (.lst (ns.map V.int)) → ns.Perm (iota n) → Q (.ref p) H'
theorem l__law_mixed {K : Fg} : ∀ vs H Q E, sp__law_mixed K vs H Q E → vs.length = 2 := by
  rintro vs H Q E ⟨a, l, n, rfl, _⟩
  rfl
/-- _law_mixed, slots well, many, left, turn -/
def t__law_mixed (K : Fg) : TS :=
  (tSeq (tAsg (tLstRg (tRg1 (tVar 1))) (gName 2)) (tRet (tLc (iRng1 (tCons (tVar 1) tNil)) (gName 3) tYes (tBM K "list" rPopAt (tVar 2) (tCons (tG
    (sp__law_draw K) E00 (tCons (tVar 0) (tCons (tCB (rLenU K) (tCons (tVar 2) tNil)) tNil))) tNil)) [3])))
section
variable {H : Hp} {Q : VK} {σ : L2.St} {ta : TE}
theorem s_lstRg {te : L2.St → Hp → (Int → Int → Hp → Prop) → Prop} (k : te σ H fun a b H1 => RgOk a b ∧ New Q H1 (.lst (rgV a b))) : tLstRg te σ H Q := k
theorem s_rg1 {R : Int → Int → Hp → Prop} (k : ta σ H fun x H1 => ∃ n, x = .int n ∧ R 0 n H1) : tRg1 ta σ H R := k
end
theorem p__law_mixed {K : Fg} {vs : List V} {H : Hp} {Q : VK} {E : XK} (h : sp__law_mixed K vs H Q E) : t__law_mixed K { nx := fun _ H' => Q .non H', rt := Q } (start ["well", "many", "left", "turn"] vs) H := by
  obtain ⟨a, l, n, rfl, w, hn, k⟩ := h
  show t__law_mixed K _ [some (.ref a), some (.int n), none, none] H
  unfold t__law_mixed
  walk_at "sx"
  refine s_lstRg (s_rg1 ?_)
  walk_at "sx"
  refine ⟨⟨by omega, by omega, by omega, by omega, by omega⟩, n_new fun q H1 nq e1 hq _ => ?_⟩
  rw [rgV_iota] at hq
  have en : (n : Int).toNat = n := Int.toNat_natCast n
  rw [en] at hq
  walk_at "sx"
  refine w_rng (by omega) ?_
  rw [en]
  have fq := w.fresh nq
  refine lc_inv walk_range (fun D i ys H' => WK a l H H' ∧ ∃ zs ls : List Int, H' q = some (.lst (ls.map V.int)) ∧ ys = zs.map V.int ∧ (zs ++ ls).Perm (iota n) ∧ ls.length + i = n)
    (by omega) (fun D H' hD e _ => ⟨(WK.refl w).same (Same.trans e1 e), [], iota n, e _ _ hq, rfl, List.Perm.refl _, by rw [iota_len]; omega⟩) (fun _ _ _ _ _ _ => trivial) ?_ ?_
  · rintro D i ys x H2 H3 hD hi ⟨e2, zs, ls, hl, rfl, pm, le⟩ hy ⟨rfl, rfl⟩ Yes No hyes hno
    walk_at "sx"
    refine ⟨rfl, ?_⟩
    walk_at "sx"
    refine o_lenL (SqL.of hl) ?_
    walk_at "sx"
    rw [List.length_map]
    refine ⟨a, l, _, rfl, e2.w, by omega, by omega, fun r H4 r0 r1 w4 k4 => ?_⟩
    have hl4 := k4 _ _ hl fq.1 fq.2
    have hD0 : H D = none := e1.free hD
    have fD := w.fresh hD0
    have hy4 := k4 _ _ hy fD.1 fD.2
    have e4 : WK a l H H4 := e2.trans ⟨w4, k4⟩
    walk_at "sx"
    have hlt : r.toNat < ls.length := by omega
    have hx : (ls.map V.int)[r.toNat]? = some (.int ls[r.toNat]) := by rw [List.getElem?_map, List.getElem?_eq_getElem hlt]; rfl
    refine o_popAt hl4 (by omega) hx (by omega) fun H5 a5 => ?_
    have nDq : D ≠ q := fun z => by rw [z, hq] at hD; cases hD
    refine hyes _ _ (a5.ne hy4 nDq) fun H6 a6 => ⟨WK.at w (WK.at w e4 a5 nq) a6 hD0, zs ++ [ls[r.toNat]], ls.eraseIdx r.toNat, ?_, by rw [List.map_append]; rfl, ?_, ?_⟩
    · rw [a6.ne a5.1 nDq.symm, map_erase]
    · refine List.Perm.trans ?_ pm
      rw [List.append_assoc]
      exact List.Perm.append_left zs (perm_erase ls _ hlt)
    · rw [List.length_eraseIdx, if_pos hlt]
      omega
  · rintro D ys H2 hD ⟨e2, zs, ls, hl, rfl, pm, le⟩ hy -
    have : ls = [] := List.length_eq_zero_iff.mp (by omega)
    subst this
    rw [List.append_nil] at pm
    exact k D H2 zs (e1.free hD) e2 hy pm
end UW
namespace UW
open PySem
/-- every place is come to from 0 along roads -/
def Conn (n : Int) (rs : List (Int × Int)) : Prop := ∀ S : Int → Prop, S 0 → (∀ p ∈ rs, S p.1 ↔ S p.2) → ∀ i, 0 ≤ i → i < n → S i
structure Shape (n : Int) (rs : List (Int × Int)) : Prop where
  two : 2 ≤ n
  nd : rs.Nodup
  ok : ∀ p ∈ rs, 0 ≤ p.1 ∧ p.1 < p.2 ∧ p.2 < n
  cn : Conn n rs
def pathR (n : Int) : List (Int × Int) := (List.range (n - 1).toNat).map fun (k : Nat) => ((k : Int), (k : Int) + 1)
theorem mem_pathR {n : Int} {p : Int × Int} : p ∈ pathR n ↔ 0 ≤ p.1 ∧ p.2 = p.1 + 1 ∧ p.2 < n := by
  unfold pathR
  rw [List.mem_map]
  constructor
  · rintro ⟨k, hk, rfl⟩
    have := List.mem_range.mp hk
    refine ⟨?_, rfl, ?_⟩
    · show (0 : Int) ≤ (k : Int); omega
    · show (k : Int) + 1 < n; omega
  · rintro ⟨h1, h2, h3⟩
    refine ⟨p.1.toNat, List.mem_range.mpr (by omega), ?_⟩
    refine Prod.ext ?_ ?_
    · show ((p.1.toNat : Nat) : Int) = p.1; omega
    · show ((p.1.toNat : Nat) : Int) + 1 = p.2; omega
theorem nodup_map_range {α : Type} (f : Nat → α) (n : Nat) (h : ∀ i j, i < n → j < n → f i = f j → i = j) : ((List.range n).map f).Nodup := by
  induction n with
  | zero => exact List.nodup_nil
  | succ n ih =>
    rw [List.range_succ, List.map_append, List.nodup_append]
    refine ⟨ih fun i j hi hj e => h i j (by omega) (by omega) e, by simp, ?_⟩
    intro a ha b hb
    obtain ⟨i, hi, rfl⟩ := List.mem_map.mp ha
    have hi := List.mem_range.mp hi
    have hb : b = f n := by simpa using hb
    subst hb
    intro e
    have := h i n (by omega) (by omega) e
    omega
theorem Shape.path {n : Int} (h : 2 ≤ n) : Shape n (pathR n) := by
  refine ⟨h, ?_, ?_, ?_⟩
  · refine nodup_map_range _ _ fun i j _ _ e => ?_
    have e1 : ((i : Nat) : Int) = ((j : Nat) : Int) := (Prod.mk.inj e).1
    omega
  · intro p hp
    have := mem_pathR.mp hp
    omega
  · intro S h0 hs
    have key : ∀ k : Nat, (k : Int) < n → S (k : Int) := by
      intro k
      induction k with
      | zero => intro _; exact h0
      | succ k ih =>
        intro hk
        have m : (((k : Nat) : Int), ((k : Nat) : Int) + 1) ∈ pathR n := mem_pathR.mpr ⟨by show (0 : Int) ≤ (k : Int); omega, rfl, by show (k : Int) + 1 < n; omega⟩
        have := (hs _ m).mp (ih (by omega))
        exact this
    intro i h1 h2
    have := key i.toNat (by omega)
    rwa [show ((i.toNat : Nat) : Int) = i from by omega] at this
theorem Conn.more {n : Int} {rs qs : List (Int × Int)} (h : Conn n rs) (s : ∀ p ∈ rs, p ∈ qs) : Conn n qs := fun S h0 hs => h S h0 fun p hp => hs p (s p hp)
theorem Shape.add {n : Int} {rs : List (Int × Int)} {a b : Int} (h : Shape n rs) (h0 : 0 ≤ a) (h1 : a < b) (h2 : b < n) (hn : (a, b) ∉ rs) : Shape n (rs ++ [(a, b)]) := by
  refine ⟨h.two, ?_, ?_, h.cn.more fun p hp => List.mem_append_left _ hp⟩
  · rw [List.nodup_append]
    refine ⟨h.nd, by simp, ?_⟩
    intro p hp q hq
    have : q = (a, b) := by simpa using hq
    subst this
    exact fun e => hn (e ▸ hp)
  · intro p hp
    rcases List.mem_append.mp hp with hp | hp
    · exact h.ok p hp
    · have : p = (a, b) := by simpa using hp
      subst this
      exact ⟨h0, h1, h2⟩
theorem Shape.ring {n : Int} (h : 2 < n) : Shape n (pathR n ++ [(0, n - 1)]) :=
  (Shape.path (by omega)).add (by omega) (by omega) (by omega) fun m => by
    have := mem_pathR.mp m
    have e1 : n - 1 = 0 + 1 := this.2.1
    omega
structure PartB (base k : Int) (rs : List (Int × Int)) : Prop where
  nd : rs.Nodup
  ok : ∀ p ∈ rs, 0 ≤ p.1 ∧ p.1 ≤ k ∧ base + 1 ≤ p.2 ∧ p.2 < base + 1 + k
  cn : ∀ S : Int → Prop, S 0 → (∀ p ∈ rs, S p.1 ↔ S p.2) → (∀ i, 0 ≤ i → i ≤ k → S i) ∧ ∀ j, base + 1 ≤ j → j < base + 1 + k → S j
theorem PartB.nil {base : Int} : PartB base 0 [] := ⟨List.nodup_nil, fun p h => (by cases h), fun S h0 _ => ⟨fun i h1 h2 => by rw [show i = 0 from by omega]; exact h0, fun j h1 h2 => by omega⟩⟩
theorem PartB.step {base k r : Int} {rs : List (Int × Int)} (h : PartB base k rs) (h0 : 0 ≤ k) (r0 : 0 ≤ r) (r1 : r < k + 1) : PartB base (k + 1) (rs ++ [(r, base + 1 + k), (k + 1, base + 1 + k)]) := by
  refine ⟨?_, ?_, ?_⟩
  · rw [List.nodup_append]
    refine ⟨h.nd, ?_, ?_⟩
    · simp
      omega
    · intro p hp q hq e
      subst e
      have h1 := h.ok p hp
      have : p.2 = base + 1 + k := by
        have : p = (r, base + 1 + k) ∨ p = (k + 1, base + 1 + k) := by simpa using hq
        rcases this with e | e <;> rw [e]
      omega
  · intro p hp
    rcases List.mem_append.mp hp with hp | hp
    · have := h.ok p hp
      omega
    · have : p = (r, base + 1 + k) ∨ p = (k + 1, base + 1 + k) := by simpa using hp
      rcases this with e | e
      · rw [e]; show 0 ≤ r ∧ r ≤ k + 1 ∧ base + 1 ≤ base + 1 + k ∧ base + 1 + k < base + 1 + (k + 1); omega
      · rw [e]; show 0 ≤ k + 1 ∧ k + 1 ≤ k + 1 ∧ base + 1 ≤ base + 1 + k ∧ base + 1 + k < base + 1 + (k + 1); omega
  · intro S s0 hs
    obtain ⟨c1, c2⟩ := h.cn S s0 fun p hp => hs p (List.mem_append_left _ hp)
    have e1 : S r ↔ S (base + 1 + k) := hs (r, base + 1 + k) (by simp)
    have e2 : S (k + 1) ↔ S (base + 1 + k) := hs (k + 1, base + 1 + k) (by simp)
    have m := e1.mp (c1 r r0 (by omega))
    refine ⟨fun i i0 i1 => ?_, fun j j0 j1 => ?_⟩
    · by_cases q : i ≤ k
      · exact c1 i i0 q
      · rw [show i = k + 1 from by omega]; exact e2.mpr m
    · by_cases q : j < base + 1 + k
      · exact c2 j j0 q
      · rw [show j = base + 1 + k from by omega]; exact m
def colR (k : Int) : List (Int × Int) := (List.range k.toNat).map fun (a : Nat) => ((a : Int), k)
theorem mem_colR {k : Int} {p : Int × Int} : p ∈ colR k ↔ 0 ≤ p.1 ∧ p.1 < k ∧ p.2 = k := by
  unfold colR
  rw [List.mem_map]
  constructor
  · rintro ⟨a, ha, rfl⟩
    have := List.mem_range.mp ha
    exact ⟨by show (0 : Int) ≤ (a : Int); omega, by show (a : Int) < k; omega, rfl⟩
  · rintro ⟨h1, h2, h3⟩
    exact ⟨p.1.toNat, List.mem_range.mpr (by omega), Prod.ext (by show ((p.1.toNat : Nat) : Int) = p.1; omega) h3.symm⟩
structure FullB (k : Int) (rs : List (Int × Int)) : Prop where
  nd : rs.Nodup
  ok : ∀ p ∈ rs, 0 ≤ p.1 ∧ p.1 < p.2 ∧ p.2 < k
  cn : Conn k rs
theorem FullB.nil : FullB 0 [] := ⟨List.nodup_nil, fun p h => (by cases h), fun S _ _ i h1 h2 => by omega⟩
theorem FullB.step {k : Int} {rs : List (Int × Int)} (h : FullB k rs) (h0 : 0 ≤ k) : FullB (k + 1) (rs ++ colR k) := by
  refine ⟨?_, ?_, ?_⟩
  · rw [List.nodup_append]
    refine ⟨h.nd, nodup_map_range _ _ fun i j _ _ e => ?_, ?_⟩
    · have e1 : ((i : Nat) : Int) = ((j : Nat) : Int) := (Prod.mk.inj e).1
      omega
    · intro p hp q hq e
      subst e
      have h1 := h.ok p hp
      have h2 := mem_colR.mp hq
      omega
  · intro p hp
    rcases List.mem_append.mp hp with hp | hp
    · have := h.ok p hp
      omega
    · have := mem_colR.mp hp
      omega
  · intro S s0 hs i i0 i1
    by_cases q : i < k
    · exact h.cn S s0 (fun p hp => hs p (List.mem_append_left _ hp)) i i0 q
    · have ek : i = k := by omega
      subst ek
      by_cases z : i = 0
      · rw [z]; exact s0
      · have e : S 0 ↔ S i := hs (0, i) (List.mem_append_right _ (mem_colR.mpr ⟨Int.le_refl 0, by omega, rfl⟩))
        exact e.mp s0
def rowR (k lo hi : Int) : List (Int × Int) := (List.range (hi - lo).toNat).map fun (b : Nat) => (k, lo + (b : Int))
theorem mem_rowR {k lo hi : Int} {p : Int × Int} : p ∈ rowR k lo hi ↔ p.1 = k ∧ lo ≤ p.2 ∧ p.2 < hi := by
  unfold rowR
  rw [List.mem_map]
  constructor
  · rintro ⟨a, ha, rfl⟩
    have := List.mem_range.mp ha
    exact ⟨rfl, by show lo ≤ lo + (a : Int); omega, by show lo + (a : Int) < hi; omega⟩
  · rintro ⟨h1, h2, h3⟩
    exact ⟨(p.2 - lo).toNat, List.mem_range.mpr (by omega), Prod.ext h1.symm (by show lo + (((p.2 - lo).toNat : Nat) : Int) = p.2; omega)⟩
structure BoardB (rows n k : Int) (rs : List (Int × Int)) : Prop where
  nd : rs.Nodup
  ok : ∀ p ∈ rs, 0 ≤ p.1 ∧ p.1 < k ∧ rows ≤ p.2 ∧ p.2 < n
  cn : ∀ S : Int → Prop, S 0 → (∀ p ∈ rs, S p.1 ↔ S p.2) → (∀ i, 0 ≤ i → i < k → S i) ∧ (0 < k → ∀ j, rows ≤ j → j < n → S j)
theorem BoardB.nil {rows n : Int} : BoardB rows n 0 [] := ⟨List.nodup_nil, fun p h => (by cases h), fun S _ _ => ⟨fun i h1 h2 => by omega, fun h => by omega⟩⟩
theorem BoardB.step {rows n k : Int} {rs : List (Int × Int)} (h : BoardB rows n k rs) (h0 : 0 ≤ k) (hn : rows < n) : BoardB rows n (k + 1) (rs ++ rowR k rows n) := by
  refine ⟨?_, ?_, ?_⟩
  · rw [List.nodup_append]
    refine ⟨h.nd, nodup_map_range _ _ fun i j _ _ e => ?_, ?_⟩
    · have e1 : rows + ((i : Nat) : Int) = rows + ((j : Nat) : Int) := (Prod.mk.inj e).2
      omega
    · intro p hp q hq e
      subst e
      have h1 := h.ok p hp
      have h2 := mem_rowR.mp hq
      omega
  · intro p hp
    rcases List.mem_append.mp hp with hp | hp
    · have := h.ok p hp
      omega
    · have := mem_rowR.mp hp
      omega
  · intro S s0 hs
    obtain ⟨c1, c2⟩ := h.cn S s0 fun p hp => hs p (List.mem_append_left _ hp)
    have e : ∀ j, rows ≤ j → j < n → (S k ↔ S j) := fun j h1 h2 => hs (k, j) (List.mem_append_right _ (mem_rowR.mpr ⟨rfl, h1, h2⟩))
    have sk : S k := by
      by_cases z : k = 0
      · rw [z]; exact s0
      · exact (e rows (Int.le_refl _) hn).mpr (c2 (by omega) rows (Int.le_refl _) hn)
    refine ⟨fun i i0 i1 => ?_, fun _ j j0 j1 => (e j j0 j1).mp sk⟩
    by_cases q : i < k
    · exact c1 i i0 q
    · rw [show i = k from by omega]; exact sk
structure TreeB (k : Int) (rs : List (Int × Int)) : Prop where
  nd : rs.Nodup
  ok : ∀ p ∈ rs, 0 ≤ p.1 ∧ p.1 < p.2 ∧ p.2 ≤ k
  cn : Conn (k + 1) rs
theorem TreeB.nil : TreeB 0 [] := ⟨List.nodup_nil, fun p h => (by cases h), fun S s0 _ i h1 h2 => by rw [show i = 0 from by omega]; exact s0⟩
theorem TreeB.step {k r : Int} {rs : List (Int × Int)} (h : TreeB k rs) (r0 : 0 ≤ r) (r1 : r < k + 1) : TreeB (k + 1) (rs ++ [(r, k + 1)]) := by
  refine ⟨?_, ?_, ?_⟩
  · rw [List.nodup_append]
    refine ⟨h.nd, by simp, ?_⟩
    intro p hp q hq e
    subst e
    have h1 := h.ok p hp
    have : p = (r, k + 1) := by simpa using hq
    rw [this] at h1
    have : k + 1 ≤ k := h1.2.2
    omega
  · intro p hp
    rcases List.mem_append.mp hp with hp | hp
    · have := h.ok p hp
      omega
    · have : p = (r, k + 1) := by simpa using hp
      rw [this]
      exact ⟨r0, r1, Int.le_refl _⟩
  · intro S s0 hs i i0 i1
    have c := h.cn S s0 fun p hp => hs p (List.mem_append_left _ hp)
    have e : S r ↔ S (k + 1) := hs (r, k + 1) (by simp)
    by_cases q : i < k + 1
    · exact c i i0 q
    · rw [show i = k + 1 from by omega]
      exact e.mp (c r r0 r1)
end UW
namespace UW
open PySem PySem.Spec PyProof.Rows L2
/-- one step -/
local macro_rules | `(tactic| walk_at "s1") => `(tactic| first
  | with_reducible refine s_seq ?_
  | with_reducible refine s_for ?_
  | with_reducible refine s_lc ?_
  | with_reducible refine w_seq ?_
  | with_reducible refine w_rng1 ?_
  | with_reducible refine w_rng2 ?_
  | with_reducible refine w_zip ?_
  | with_reducible refine s_asg ?_
  | with_reducible refine s_gname ?_
  | with_reducible refine s_ret ?_
  | with_reducible refine s_drop ?_
  | with_reducible refine s_next ?_
  | with_reducible refine s_ifs ?_
  | with_reducible refine s_var (by with_unfolding_all rfl) ?_
  | with_reducible refine s_c ?_
  | with_reducible refine s_op ?_
  | with_reducible refine s_un ?_
  | with_reducible refine s_neg ?_
  | with_reducible refine s_test ?_
  | with_reducible refine s_yes ?_
  | with_reducible refine s_tB ?_
  | with_reducible refine s_bl ?_
  | with_reducible refine s_not ?_
  | with_reducible refine s_and ?_
  | with_reducible refine s_or ?_
  | with_reducible refine s_andV ?_
  | with_reducible refine s_orV ?_
  | with_reducible refine s_notV ?_
  | with_reducible refine s_chain ?_
  | with_reducible refine s_nil ?_
  | with_reducible refine s_cons ?_
  | with_reducible refine s_tup ?_
  | with_reducible refine s_lst ?_
  | with_reducible refine s_call ?_
  | with_reducible refine s_cb ?_
  | with_reducible refine s_part ?_
  | with_reducible refine s_nopart ?_
  | with_reducible refine s_ii ?_
  | with_reducible refine s_sl ?_
  | with_reducible refine s_par ?_
  | with_reducible refine s_par2 ?_
  | with_reducible refine s_bm ?_
  | with_reducible refine s_gsub ?_
  | with_reducible refine s_gcons ?_
  | with_reducible refine s_gnil ?_
  | with_reducible refine o_addI ?_
  | with_reducible refine o_sub ?_
  | with_reducible refine o_eqI ?_
  | with_reducible refine o_neI ?_
  | with_reducible refine o_ltI ?_
  | with_reducible refine o_le ?_
  | with_reducible refine o_gt ?_
  | with_reducible refine o_ge ?_
  | with_reducible refine o_int ?_
  | with_reducible refine o_intB ?_
  | with_reducible refine o_abs ?_
  | with_reducible refine o_max2 ?_
  | with_reducible refine o_min2 ?_
  | with_reducible refine o_isN ?_
  | with_reducible refine o_notN ?_
  | with_reducible refine o_mulI (by first | exact Or.inl ⟨by decide, by decide⟩ | exact Or.inr ⟨by decide, by decide⟩ | (first | (refine Or.inl ⟨?_, ?_⟩ <;> omega) | (refine Or.inr ⟨?_, ?_⟩ <;> omega))) ?_
  | with_reducible refine o_mod (by first | decide | omega) ?_
  | with_reducible refine o_div (by first | decide | omega) (by first | decide | omega) ?_
  | with_reducible refine s_blx ?_
  | with_reducible refine o_ixL (SqL.of (by assumption)) (by first | with_unfolding_all rfl | with_unfolding_all exact at_zero _ _) ?_
  | with_reducible refine o_ixT (by assumption) (by first | with_unfolding_all rfl | with_unfolding_all exact at_zero _ _) ?_
  | with_reducible refine o_tyL (by assumption) ?_
  | with_reducible refine iteT ?_
  | with_reducible refine iteF ?_)
local macro_rules | `(tactic| walk_at "sx") => `(tactic| repeat (walk_at "s1"))
theorem eqv_dP (p q : Int × Int) : PyData.eqv (dP p) (dP q) = decide (p = q) := by
  obtain ⟨a, b⟩ := p
  obtain ⟨c, d⟩ := q
  unfold dP
  simp only [PyData.eqv, PyData.eqvAll, Bool.and_true]
  by_cases h1 : a = c <;> by_cases h2 : b = d <;> simp [h1, h2]
theorem any_dP (rs : List (Int × Int)) (q : Int × Int) : ((rs.map dP).any fun z => PyData.eqv z (dP q)) = decide (q ∈ rs) := by
  induction rs with
  | nil => rfl
  | cons p rs ih =>
    rw [List.map_cons, List.any_cons, ih, eqv_dP]
    by_cases h : p = q
    · subst h; simp
    · have h' : ¬ q = p := fun e => h e.symm
      simp [h, h']
theorem walk_r0 {n : Nat} : Walk (Itr 0 n) n (fun _ => True) (fun i H x H' => H' = H ∧ x = V.int (i : Int)) :=
  walk_range.mono (fun _ h => h) fun i H x H' _ _ y => ⟨y.1, by rw [y.2]; show V.int (0 + (i : Int)) = _; rw [Int.zero_add]⟩
/-- at p a list of the pairs rs; else all stands but the well -/
structure PairsAt (K : Fg) (a l : Addr) (H0 H : Hp) (p : Addr) (rs : List (Int × Int)) : Prop where
  wk : WK a l H0 H
  np : H0 p = none
  at' : ∃ vs, H p = some (.lst vs) ∧ Tps K H vs (rs.map dP)
theorem PairsAt.wk2 {K : Fg} {a l p : Addr} {H0 H H2 : Hp} {rs : List (Int × Int)} (w0 : Well H0 a l) (x : PairsAt K a l H0 H p rs) (e : WK a l H H2) : PairsAt K a l H0 H2 p rs := by
  obtain ⟨wk, np, vs, h1, h2⟩ := x
  have f := w0.fresh np
  exact ⟨wk.trans e, np, vs, e.get h1 f.1 f.2, h2.tm (e.tm wk.w)⟩
theorem PairsAt.same {K : Fg} {a l p : Addr} {H0 H H2 : Hp} {rs : List (Int × Int)} (x : PairsAt K a l H0 H p rs) (e : Same H H2) : PairsAt K a l H0 H2 p rs := by
  obtain ⟨wk, np, vs, h1, h2⟩ := x
  exact ⟨wk.same e, np, vs, e _ _ h1, h2.same e⟩
section
variable {K : Fg} {H H2 H3 : Hp} {Q : VK} {l b : Addr} {xs zs : List V}
theorem o_cat (h1 : H l = some (.lst xs)) (h2 : H b = some (.lst zs)) (hl : xs.length + zs.length ≤ 100000) (k : New Q H (.lst (xs ++ zs))) : rAddU K (.ref l) (.ref b) H Q := .inr (.inl ⟨l, b, xs, zs, rfl, rfl, h1, h2, Nat.le_trans hl (by decide), k⟩)
end
theorem WK.free {a l p : Addr} {H H' : Hp} (w : Well H a l) (e : WK a l H H') (n : H' p = none) : H p = none := by
  cases q : H p with
  | none => rfl
  | some o =>
    have f := e.w.fresh n
    have := e.get q f.1 f.2
    rw [n] at this
    cases this
/-- a new list, all of it new or of before -/
theorem PairsAt.new {K : Fg} {a l p : Addr} {H0 H H2 : Hp} {vs : List V} {rs : List (Int × Int)} (w : Well H0 a l) (wk : WK a l H0 H) (np : H p = none) (e : Same H H2) (hp : H2 p = some (.lst vs)) (t : Tps K H2 vs (rs.map dP)) : PairsAt K a l H0 H2 p rs :=
  ⟨wk.same e, wk.free w np, vs, hp, t⟩
theorem PairsAt.push {K : Fg} {a l p q : Addr} {H0 H H2 H3 : Hp} {vs : List V} {rs : List (Int × Int)} {i j : Int} (w : Well H0 a l) (x : PairsAt K a l H0 H p rs) (hv : H p = some (.lst vs)) (tv : Tps K H vs (rs.map dP)) (e : Same H H2) (hq : H2 q = some (.tup [.int i, .int j])) (f : At p (.lst (vs ++ [.ref q])) H2 H3) :
    PairsAt K a l H0 H3 p (rs ++ [(i, j)]) := by
  have m := f.tm (e _ _ hv)
  refine ⟨(x.wk.same e).at w f x.np, x.np, _, f.1, ?_⟩
  rw [List.map_append]
  exact ((tv.same e).tm m).snoc ((Tp.mkpair (SqT.of hq)).tm m)
theorem pairs_len {K : Fg} {H : Hp} {vs : List V} {rs : List (Int × Int)} (t : Tps K H vs (rs.map dP)) : vs.length = rs.length := by
  rw [t.length, List.length_map]
def sp__law_shape (K : Fg) : Sp := fun vs H Q _ => ∃ (a l : Addr) (size room : Int), vs = [.ref a, .int size, .int room] ∧ Well H a l ∧ 3 ≤ size ∧ size ≤ 24 ∧ 1 ≤ room ∧ room ≤ 40 ∧
  ∀ (t p : Addr) (H' : Hp) (n : Int) (rs : List (Int × Int)), PairsAt K a l H H' p rs → SqT K H' t [.int n, .ref p] → Shape n rs → n ≤ size → (rs.length : Int) ≤ room → Q (.ref t) H'
section
variable {K : Fg} {H : Hp} {Q : VK} {x0 x1 x2 x3 x4 x5 x6 x7 x8 x9 x10 x11 x12 : Option V}
end
end UW
namespace UW
open PySem PySem.Spec PyProof.Rows L2
/-- one step -/
local macro_rules | `(tactic| walk_at "s1") => `(tactic| first
  | with_reducible refine s_seq ?_
  | with_reducible refine s_for ?_
  | with_reducible refine s_lc ?_
  | with_reducible refine w_seq ?_
  | with_reducible refine w_rng1 ?_
  | with_reducible refine w_rng2 ?_
  | with_reducible refine w_zip ?_
  | with_reducible refine s_asg ?_
  | with_reducible refine s_gname ?_
  | with_reducible refine s_ret ?_
  | with_reducible refine s_drop ?_
  | with_reducible refine s_next ?_
  | with_reducible refine s_ifs ?_
  | with_reducible refine s_var (by with_unfolding_all rfl) ?_
  | with_reducible refine s_c ?_
  | with_reducible refine s_op ?_
  | with_reducible refine s_un ?_
  | with_reducible refine s_neg ?_
  | with_reducible refine s_test ?_
  | with_reducible refine s_yes ?_
  | with_reducible refine s_tB ?_
  | with_reducible refine s_bl ?_
  | with_reducible refine s_not ?_
  | with_reducible refine s_and ?_
  | with_reducible refine s_or ?_
  | with_reducible refine s_andV ?_
  | with_reducible refine s_orV ?_
  | with_reducible refine s_notV ?_
  | with_reducible refine s_chain ?_
  | with_reducible refine s_nil ?_
  | with_reducible refine s_cons ?_
  | with_reducible refine s_tup ?_
  | with_reducible refine s_lst ?_
  | with_reducible refine s_call ?_
  | with_reducible refine s_cb ?_
  | with_reducible refine s_part ?_
  | with_reducible refine s_nopart ?_
  | with_reducible refine s_ii ?_
  | with_reducible refine s_sl ?_
  | with_reducible refine s_par ?_
  | with_reducible refine s_par2 ?_
  | with_reducible refine s_bm ?_
  | with_reducible refine s_gsub ?_
  | with_reducible refine s_gcons ?_
  | with_reducible refine s_gnil ?_
  | with_reducible refine o_addI ?_
  | with_reducible refine o_sub ?_
  | with_reducible refine o_eqI ?_
  | with_reducible refine o_neI ?_
  | with_reducible refine o_ltI ?_
  | with_reducible refine o_le ?_
  | with_reducible refine o_gt ?_
  | with_reducible refine o_ge ?_
  | with_reducible refine o_int ?_
  | with_reducible refine o_intB ?_
  | with_reducible refine o_abs ?_
  | with_reducible refine o_max2 ?_
  | with_reducible refine o_min2 ?_
  | with_reducible refine o_isN ?_
  | with_reducible refine o_notN ?_
  | with_reducible refine o_mulI (by first | exact Or.inl ⟨by decide, by decide⟩ | exact Or.inr ⟨by decide, by decide⟩ | (first | (refine Or.inl ⟨?_, ?_⟩ <;> omega) | (refine Or.inr ⟨?_, ?_⟩ <;> omega))) ?_
  | with_reducible refine o_mod (by first | decide | omega) ?_
  | with_reducible refine o_div (by first | decide | omega) (by first | decide | omega) ?_
  | with_reducible refine s_blx ?_
  | with_reducible refine o_ixL (SqL.of (by assumption)) (by first | with_unfolding_all rfl | with_unfolding_all exact at_zero _ _) ?_
  | with_reducible refine o_ixT (by assumption) (by first | with_unfolding_all rfl | with_unfolding_all exact at_zero _ _) ?_
  | with_reducible refine o_tyL (by assumption) ?_
  | with_reducible refine iteT ?_
  | with_reducible refine iteF ?_)
local macro_rules | `(tactic| walk_at "sx") => `(tactic| repeat (walk_at "s1"))
def rSortP (K : Fg) : List V → Hp → VK → Prop := fun vs H Q => ∃ (a : Addr) (xs : List V) (rs : List (Int × Int)), vs = [V.ref a] ∧ SqL K H a xs ∧ Tps K H xs (rs.map dP) ∧
  ∀ (ys : List V) (qs : List (Int × Int)), qs.Perm rs → qs.Pairwise (fun p q => SrtO.lexB q p = false) → Tps K H ys (qs.map dP) → New Q H (.lst ys)
section
variable {X : Cx}
end
def nm (ns : List Int) (i : Int) : Int := ns.getD i.toNat 0
def reP (ns : List Int) (p : Int × Int) : Int × Int := (if nm ns p.2 < nm ns p.1 then nm ns p.2 else nm ns p.1, if nm ns p.2 > nm ns p.1 then nm ns p.2 else nm ns p.1)
theorem mem_iota {n : Nat} {x : Int} : x ∈ iota n ↔ 0 ≤ x ∧ x < n := by
  unfold iota
  rw [List.mem_map]
  constructor
  · rintro ⟨a, ha, rfl⟩
    have := List.mem_range.mp ha
    omega
  · rintro ⟨h1, h2⟩
    exact ⟨x.toNat, List.mem_range.mpr (by omega), by omega⟩
theorem nodup_iota (n : Nat) : (iota n).Nodup := nodup_map_range _ _ fun i j _ _ e => by omega
structure Names (n : Int) (ns : List Int) : Prop where
  len : (ns.length : Int) = n
  rng : ∀ i, 0 ≤ i → i < n → 0 ≤ nm ns i ∧ nm ns i < n
  inj : ∀ i j, 0 ≤ i → i < n → 0 ≤ j → j < n → nm ns i = nm ns j → i = j
  sur : ∀ y, 0 ≤ y → y < n → ∃ i, 0 ≤ i ∧ i < n ∧ nm ns i = y
theorem nm_get {ns : List Int} {i : Int} (h0 : 0 ≤ i) (h1 : i < ns.length) : ns[i.toNat]? = some (nm ns i) := by
  have h : i.toNat < ns.length := by omega
  unfold nm
  rw [List.getD_eq_getElem?_getD, List.getElem?_eq_getElem h]
  rfl
theorem Names.of {n : Int} {ns : List Int} (h : 0 ≤ n) (p : ns.Perm (iota n.toNat)) : Names n ns := by
  have hl : (ns.length : Int) = n := by rw [p.length_eq, iota_len]; omega
  have nd : ns.Nodup := p.nodup_iff.mpr (nodup_iota _)
  refine ⟨hl, fun i h0 h1 => ?_, fun i j i0 i1 j0 j1 e => ?_, fun y h0 h1 => ?_⟩
  · have m := List.mem_of_getElem? (nm_get h0 (show i < ns.length by omega))
    have := mem_iota.mp (p.mem_iff.mp m)
    omega
  · have a := nm_get i0 (show i < ns.length by omega)
    have b := nm_get j0 (show j < ns.length by omega)
    rw [e] at a
    have := nd_ix nd a b
    omega
  · have m : y ∈ ns := p.mem_iff.mpr (mem_iota.mpr ⟨h0, by omega⟩)
    obtain ⟨k, hk, e⟩ := List.mem_iff_getElem.mp m
    refine ⟨(k : Int), by omega, by omega, ?_⟩
    have a := nm_get (ns := ns) (i := (k : Int)) (by omega) (by omega)
    rw [Int.toNat_natCast, List.getElem?_eq_getElem hk, e] at a
    exact (Option.some.inj a).symm
theorem Conn.all {n : Int} {rs : List (Int × Int)} (h : Conn n rs) (S : Int → Prop) (hs : ∀ p ∈ rs, S p.1 ↔ S p.2) {i j : Int} (i0 : 0 ≤ i) (i1 : i < n) (j0 : 0 ≤ j) (j1 : j < n) : S i ↔ S j := by
  have c := h (fun x => S x ↔ S 0) Iff.rfl fun p hp => by rw [hs p hp]
  exact (c i i0 i1).trans (c j j0 j1).symm
theorem Conn.names {n : Int} {rs : List (Int × Int)} {ns : List Int} (h : Conn n rs) (N : Names n ns) (hn : 0 < n) : Conn n (rs.map (reP ns)) := by
  intro S s0 hs y y0 y1
  have cl : ∀ p ∈ rs, S (nm ns p.1) ↔ S (nm ns p.2) := by
    intro p hp
    have := hs (reP ns p) (List.mem_map.mpr ⟨p, hp, rfl⟩)
    unfold reP at this
    by_cases c : nm ns p.2 < nm ns p.1
    · have c2 : ¬ nm ns p.2 > nm ns p.1 := by omega
      simp only [if_pos c, if_neg c2] at this
      exact this.symm
    · by_cases c2 : nm ns p.2 > nm ns p.1
      · simp only [if_neg c, if_pos c2] at this
        exact this
      · have e : nm ns p.1 = nm ns p.2 := by omega
        rw [e]
  obtain ⟨i, i0, i1, ei⟩ := N.sur 0 (Int.le_refl 0) hn
  obtain ⟨j, j0, j1, ej⟩ := N.sur y y0 y1
  have := (h.all (fun x => S (nm ns x)) cl i0 i1 j0 j1).mp (by rw [ei]; exact s0)
  rwa [ej] at this
theorem nodup_map_of {α β : Type} {f : α → β} : ∀ {l : List α}, l.Nodup → (∀ x ∈ l, ∀ y ∈ l, f x = f y → x = y) → (l.map f).Nodup
  | [], _, _ => List.nodup_nil
  | a :: l, h, inj => by
    rw [List.map_cons, List.nodup_cons]
    have hc := List.nodup_cons.mp h
    refine ⟨fun m => ?_, nodup_map_of hc.2 fun x hx y hy => inj x (List.mem_cons_of_mem _ hx) y (List.mem_cons_of_mem _ hy)⟩
    obtain ⟨b, hb, e⟩ := List.mem_map.mp m
    have := inj b (List.mem_cons_of_mem _ hb) a (List.mem_cons_self ..) e
    exact hc.1 (this ▸ hb)
theorem Shape.names {n : Int} {rs : List (Int × Int)} {ns : List Int} (h : Shape n rs) (N : Names n ns) : Shape n (rs.map (reP ns)) := by
  refine ⟨h.two, nodup_map_of h.nd ?_, ?_, h.cn.names N (by have := h.two; omega)⟩
  · intro p hp q hq e
    have a := h.ok p hp
    have b := h.ok q hq
    have e1 := (Prod.mk.inj e).1
    have e2 := (Prod.mk.inj e).2
    have i11 := N.inj p.1 q.1 (by omega) (by omega) (by omega) (by omega)
    have i12 := N.inj p.1 q.2 (by omega) (by omega) (by omega) (by omega)
    have i21 := N.inj p.2 q.1 (by omega) (by omega) (by omega) (by omega)
    have i22 := N.inj p.2 q.2 (by omega) (by omega) (by omega) (by omega)
    have : (nm ns p.1 = nm ns q.1 ∧ nm ns p.2 = nm ns q.2) ∨ (nm ns p.1 = nm ns q.2 ∧ nm ns p.2 = nm ns q.1) := by
      generalize nm ns p.1 = u1 at e1 e2 ⊢
      generalize nm ns p.2 = u2 at e1 e2 ⊢
      generalize nm ns q.1 = u3 at e1 e2 ⊢
      generalize nm ns q.2 = u4 at e1 e2 ⊢
      by_cases c1 : u2 < u1 <;> by_cases c2 : u4 < u3 <;> by_cases c3 : u2 > u1 <;> by_cases c4 : u4 > u3 <;> simp only [c1, c2, c3, c4, if_true, if_false] at e1 e2 <;> omega
    rcases this with ⟨u, v⟩ | ⟨u, v⟩
    · exact Prod.ext (i11 u) (i22 v)
    · have := i12 u
      have := i21 v
      omega
  · intro q hq
    obtain ⟨p, hp, rfl⟩ := List.mem_map.mp hq
    have a := h.ok p hp
    have r1 := N.rng p.1 (by omega) (by omega)
    have r2 := N.rng p.2 (by omega) (by omega)
    have ne : nm ns p.1 ≠ nm ns p.2 := fun e => by
      have := N.inj p.1 p.2 (by omega) (by omega) (by omega) (by omega) e
      omega
    unfold reP
    show 0 ≤ (if nm ns p.2 < nm ns p.1 then nm ns p.2 else nm ns p.1) ∧ (if nm ns p.2 < nm ns p.1 then nm ns p.2 else nm ns p.1) < (if nm ns p.2 > nm ns p.1 then nm ns p.2 else nm ns p.1) ∧ (if nm ns p.2 > nm ns p.1 then nm ns p.2 else nm ns p.1) < n
    split <;> split <;> omega
theorem Shape.perm {n : Int} {rs qs : List (Int × Int)} (h : Shape n rs) (p : qs.Perm rs) : Shape n qs :=
  ⟨h.two, p.nodup_iff.mpr h.nd, fun x hx => h.ok x (p.mem_iff.mp hx), h.cn.more fun x hx => p.mem_iff.mpr hx⟩
theorem Shape.ne {n : Int} {rs : List (Int × Int)} (h : Shape n rs) : rs ≠ [] := by
  rintro rfl
  have := h.cn (fun i => i = 0) rfl (fun p hp => (by cases hp)) 1 (by decide) (by have := h.two; omega)
  exact absurd this (by decide)
theorem strict {qs : List (Int × Int)} (s : qs.Pairwise (fun p q => SrtO.lexB q p = false)) (nd : qs.Nodup) : qs.Pairwise (fun p q => SrtO.lexB p q = true) := by
  have := List.Pairwise.and s nd
  refine this.imp ?_
  rintro p q ⟨h1, h2⟩
  have a := SrtO.lexB_no.mp h1
  refine SrtO.lexB_iff.mpr ?_
  by_cases e : p.1 = q.1
  · by_cases e2 : p.2 = q.2
    · exact absurd (Prod.ext e e2) h2
    · omega
  · omega
structure WebOk (size room load n : Int) (rs : List (Int × Int)) (ms : List Int) : Prop where
  sh : Shape n rs
  up : rs.Pairwise (fun p q => SrtO.lexB p q = true)
  sz : n ≤ size
  rm : (rs.length : Int) ≤ room
  lm : ms.length = rs.length
  ld : ∀ m ∈ ms, 1 ≤ m ∧ m ≤ load
end UW
namespace UW
open PySem PySem.Spec PyProof.Rows L2
/-- one step -/
local macro_rules | `(tactic| walk_at "s1") => `(tactic| first
  | with_reducible refine s_seq ?_
  | with_reducible refine s_for ?_
  | with_reducible refine s_lc ?_
  | with_reducible refine w_seq ?_
  | with_reducible refine w_rng1 ?_
  | with_reducible refine w_rng2 ?_
  | with_reducible refine w_zip ?_
  | with_reducible refine s_asg ?_
  | with_reducible refine s_gname ?_
  | with_reducible refine s_ret ?_
  | with_reducible refine s_drop ?_
  | with_reducible refine s_next ?_
  | with_reducible refine s_ifs ?_
  | with_reducible refine s_var (by with_unfolding_all rfl) ?_
  | with_reducible refine s_c ?_
  | with_reducible refine s_op ?_
  | with_reducible refine s_un ?_
  | with_reducible refine s_neg ?_
  | with_reducible refine s_test ?_
  | with_reducible refine s_yes ?_
  | with_reducible refine s_tB ?_
  | with_reducible refine s_bl ?_
  | with_reducible refine s_not ?_
  | with_reducible refine s_and ?_
  | with_reducible refine s_or ?_
  | with_reducible refine s_andV ?_
  | with_reducible refine s_orV ?_
  | with_reducible refine s_notV ?_
  | with_reducible refine s_chain ?_
  | with_reducible refine s_nil ?_
  | with_reducible refine s_cons ?_
  | with_reducible refine s_tup ?_
  | with_reducible refine s_lst ?_
  | with_reducible refine s_call ?_
  | with_reducible refine s_cb ?_
  | with_reducible refine s_part ?_
  | with_reducible refine s_nopart ?_
  | with_reducible refine s_ii ?_
  | with_reducible refine s_sl ?_
  | with_reducible refine s_par ?_
  | with_reducible refine s_par2 ?_
  | with_reducible refine s_bm ?_
  | with_reducible refine s_gsub ?_
  | with_reducible refine s_gcons ?_
  | with_reducible refine s_gnil ?_
  | with_reducible refine o_addI ?_
  | with_reducible refine o_sub ?_
  | with_reducible refine o_eqI ?_
  | with_reducible refine o_neI ?_
  | with_reducible refine o_ltI ?_
  | with_reducible refine o_le ?_
  | with_reducible refine o_gt ?_
  | with_reducible refine o_ge ?_
  | with_reducible refine o_int ?_
  | with_reducible refine o_intB ?_
  | with_reducible refine o_abs ?_
  | with_reducible refine o_max2 ?_
  | with_reducible refine o_min2 ?_
  | with_reducible refine o_isN ?_
  | with_reducible refine o_notN ?_
  | with_reducible refine o_mulI (by first | exact Or.inl ⟨by decide, by decide⟩ | exact Or.inr ⟨by decide, by decide⟩ | (first | (refine Or.inl ⟨?_, ?_⟩ <;> omega) | (refine Or.inr ⟨?_, ?_⟩ <;> omega))) ?_
  | with_reducible refine o_mod (by first | decide | omega) ?_
  | with_reducible refine o_div (by first | decide | omega) (by first | decide | omega) ?_
  | with_reducible refine s_blx ?_
  | with_reducible refine o_ixL (SqL.of (by assumption)) (by first | with_unfolding_all rfl | with_unfolding_all exact at_zero _ _) ?_
  | with_reducible refine o_ixT (by assumption) (by first | with_unfolding_all rfl | with_unfolding_all exact at_zero _ _) ?_
  | with_reducible refine o_tyL (by assumption) ?_
  | with_reducible refine iteT ?_
  | with_reducible refine iteF ?_)
local macro_rules | `(tactic| walk_at "sx") => `(tactic| repeat (walk_at "s1"))
section
variable {K : Fg} {σ : L2.St} {H : Hp} {Q : VK} {t : TT} {ta tb : TE} {a : Addr} {xs : List V}
theorem s_ifj (P : V → Hp → Prop) (hk : ∀ v H', P v H' → Q v H') (k : (∀ v H', P v H' → Q v H') → t σ H fun b H1 => if b = true then ta σ H1 Q else tb σ H1 Q) : tIf t ta tb σ H Q := k hk
theorem o_sortP {rs : List (Int × Int)} (h : SqL K H a xs) (t : Tps K H xs (rs.map dP)) (k : ∀ (ys : List V) (qs : List (Int × Int)), qs.Perm rs → qs.Pairwise (fun p q => SrtO.lexB q p = false) → Tps K H ys (qs.map dP) → New Q H (.lst ys)) : rSortP K [.ref a] H Q := ⟨a, xs, rs, rfl, h, t, k⟩
theorem o_tupL (h : SqL K H a xs) (k : New Q H (.tup xs)) : rTupOf K [.ref a] H Q := ⟨a, xs, rfl, .inl ⟨h, k⟩⟩
end
def sp__law_web (K : Fg) : Sp := fun vs H Q _ => ∃ (a l : Addr) (size room load : Int), vs = [.ref a, .int size, .int room, .int load] ∧ Well H a l ∧ 3 ≤ size ∧ size ≤ 24 ∧ 1 ≤ room ∧ room ≤ 40 ∧ 1 ≤ load ∧ load ≤ 9 ∧
  ∀ (v : V) (H' : Hp) (n : Int) (rs : List (Int × Int)) (ms : List Int), WK a l H H' → Tp K H' v (dWeb n rs ms) → WebOk size room load n rs ms → Q v H'
theorem l__law_web {K : Fg} : ∀ vs H Q E, sp__law_web K vs H Q E → vs.length = 4 := by
  rintro vs H Q E ⟨a, l, n, r, m, rfl, _⟩
  rfl
/-- _law_web, slots well, size, room, load, n, pairs, names, roads, way, bounds, a, b, pair -/
def t__law_web (K : Fg) : TS :=
  (tSeq (tAsg (tG (sp__law_shape K) E00 (tCons (tVar 0) (tCons (tVar 1) (tCons (tVar 2) tNil)))) (gTup K
    2 (gCons (gName 4) (gCons (gName 5) gNil)))) (tSeq (tAsg (tIf (tTest (tOp rGtI (tG (sp__law_draw K) E00 (tCons (tVar 0) (tCons (tC (.int 4)) tNil))) (tC (.int 0)))) (tG (sp__law_mixed K) E00 (tCons (tVar 0) (tCons (tVar 4)
    tNil))) (tLstRg (tRg1 (tVar 4)))) (gName 6)) (tSeq (tAsg (tCB (rSortP K) (tCons (tLc (iSeq K (tVar 5)) (gTup K 2 (gCons (gName 10) (gCons (gName 11) gNil))) tYes (tTup (tCons (tCB rMin2 (tCons (tOp (rIx K) (tVar 6) (tVar 10))
    (tCons (tOp (rIx K) (tVar 6) (tVar 11)) tNil))) (tCons (tCB rMax2 (tCons (tOp (rIx K) (tVar 6) (tVar 10)) (tCons (tOp (rIx K) (tVar 6) (tVar 11)) tNil))) tNil))) [10, 11]) tNil)) (gName 7)) (tSeq (tPar 8 9 (tCons (tG
    (sp__law_draw K) E00 (tCons (tVar 0) (tCons (tC (.int 4)) tNil))) (tCons (tLc (iSeq K (tVar 7)) (gName 12) tYes (tC (.int 1)) [12]) tNil))) (Evl.tCut (tIfS (tTest (tOp (rEqU K) (tVar 8) (tC (.int 2)))) (tAsg (tOp (rAddU K) (tC
    (.int 1)) (tG (sp__law_draw K) E00 (tCons (tVar 0) (tCons (tVar 3) tNil)))) (gSub (tVar 9) (tG (sp__law_draw K) E00 (tCons (tVar 0) (tCons (tCB (rLenU K) (tCons (tVar 9) tNil)) tNil))) rSetL)) tNext) (Evl.tCut (tIfS (tTest (tOp
    (rEqU K) (tVar 8) (tC (.int 3)))) (tAsg (tLc (iSeq K (tVar 7)) (gName 12) tYes (tOp (rAddU K) (tC (.int 1)) (tG (sp__law_draw K) E00 (tCons (tVar 0) (tCons (tVar 3) tNil)))) [12]) (gName 9)) tNext) (tRet (tTup (tCons (tVar 4)
    (tCons (tCB (rTupOf K) (tCons (tVar 7) tNil)) (tCons (tCB (rTupOf K) (tCons (tVar 9) tNil)) tNil)))))))))))
theorem map_ints_at {ns : List Int} {i : Int} (h0 : 0 ≤ i) (h1 : i < ns.length) : atI (ns.map V.int) i = some (.int (nm ns i)) := by
  have e := nm_get h0 h1
  refine at_of (show i = ((i.toNat : Nat) : Int) by omega) ?_
  rw [List.getElem?_map, e]
  rfl
theorem ints_set (ns : List Int) (j : Nat) (v : Int) : (ns.map V.int).set j (.int v) = (ns.set j v).map V.int := by rw [List.map_set]
theorem p__law_web {K : Fg} {vs : List V} {H : Hp} {Q : VK} {E : XK} (h : sp__law_web K vs H Q E) : t__law_web K { nx := fun _ H' => Q .non H', rt := Q } (start ["well", "size", "room", "load", "n", "pairs", "names", "roads", "way", "bounds", "a", "b", "pair"] vs) H := by
  obtain ⟨a, l, size, room, load, rfl, w, hs3, hs, hr1, hr, hl1, hl, k⟩ := h
  show t__law_web K _ [some (.ref a), some (.int size), some (.int room), some (.int load), none, none, none, none, none, none, none, none, none] H
  unfold t__law_web
  walk_at "sx"
  refine ⟨a, l, size, room, rfl, w, hs3, hs, hr1, hr, fun t p H1 n rs A st sh hn hlen => ?_⟩
  have h2 := sh.two
  refine s_gtup st rfl ?_
  walk_at "sx"
  refine s_ifj (fun v H' => ∃ (q : Addr) (ns : List Int), v = .ref q ∧ WK a l H1 H' ∧ H1 q = none ∧ H' q = some (.lst (ns.map V.int)) ∧ Names n ns) ?_ (fun rest => ?_)
  · rintro v H2 ⟨q, ns, rfl, wk2, nq, hq, N⟩
    have A2 := A.wk2 w wk2
    obtain ⟨vs, hv, tv⟩ := id A2.at'
    walk_at "sx"
    refine w_seqL (SqL.of hv) ?_
    refine lc_over (K := K) rs walk_list (pairs_len tv) (fun _ => true) (fun p => dP (reP ns p)) (by rw [pairs_len tv]; omega) (fun H' e => SqL.of (e _ _ hv)) ?_ ?_
    · rintro i pp x H3 H4 hp e3 ⟨rfl, hx⟩ Yes No hyes hno
      obtain ⟨pp', b, hp', rfl, hb⟩ := tv.pair_at hx
      rw [hp] at hp'
      cases hp'
      have hb3 := Same.sqT e3 hb
      have ok := sh.ok pp (List.mem_of_getElem? hp)
      have hq3 := e3 _ _ hq
      have ln := N.len
      refine s_gtup hb3 rfl ?_
      walk_at "sx"
      refine ⟨rfl, ?_⟩
      walk_at "sx"
      refine o_ixL (SqL.of hq3) (map_ints_at ok.1 (by omega)) ?_
      walk_at "sx"
      refine o_ixL (SqL.of hq3) (map_ints_at (by omega) (by omega)) ?_
      walk_at "sx"
      refine o_ixL (SqL.of hq3) (map_ints_at ok.1 (by omega)) ?_
      walk_at "sx"
      refine o_ixL (SqL.of hq3) (map_ints_at (by omega) (by omega)) ?_
      walk_at "sx"
      exact n_of rfl fun t H5 nt e5 ht _ => hyes rfl _ _ e5 (Tp.mkpair (SqT.of (K := K) ht))
    · intro D ys H3 nD e3 hy ty
      walk_at "sx"
      rw [filter_true, show (fun p => dP (reP ns p)) = dP ∘ reP ns from rfl, ← List.map_map] at ty
      refine o_sortP (SqL.of hy) ty fun zs qs pq sq tz => n_new fun r H4 nr e4 hr4 _ => ?_
      walk_at "sx"
      have wk4 : WK a l H H4 := (A2.wk.same e3).same e4
      have tz4 := tz.same e4
      have nr0 : H r = none := (A2.wk.same e3).free w nr
      have fr := w.fresh nr0
      have sq2 := (sh.names N).perm pq
      have up2 := strict sq sq2.nd
      have ql : qs.length = rs.length := by rw [pq.length_eq, List.length_map]
      have qne : 0 < qs.length := List.length_pos_iff.mpr sq2.ne
      have zl := pairs_len tz
      refine ⟨a, l, _, rfl, wk4.w, by decide, by decide, fun way H5 y0 y1 w5 e5 => ?_⟩
      have wk5 : WK a l H4 H5 := ⟨w5, e5⟩
      have hr5 := wk5.get hr4 fr.1 fr.2
      have tz5 := tz4.tm (wk5.tm wk4.w)
      walk_at "sx"
      refine w_seqL (SqL.of hr5) ?_
      refine lc_over (K := K) qs walk_list zl (fun _ => true) (fun _ => PyData.int 1) (by omega) (fun H' e => SqL.of (e _ _ hr5)) ?_ ?_
      · rintro i pp x H6 H7 hp e6 ⟨rfl, hx⟩ Yes No hyes hno
        walk_at "sx"
        refine ⟨rfl, ?_⟩
        walk_at "sx"
        exact hyes rfl _ _ (Same.refl _) (.int 1)
      intro b us H6 nb e6 hb tb
      rw [filter_true] at tb
      have eb : us = (qs.map fun _ => (1 : Int)).map V.int := by
        refine Tps.ints (K := K) (H := H6) ?_
        rw [List.map_map]
        exact tb
      subst eb
      have wk6 : WK a l H H6 := (wk4.trans wk5).same e6
      have nb0 : H b = none := (wk4.trans wk5).free w nb
      have nbr : b ≠ r := fun z => by rw [z, hr5] at nb; cases nb
      have fb := w.fresh nb0
      walk_at "sx"
      let M : L2.St → Hp → Prop := fun σ' H' => ∃ (b : Addr) (ms : List Int) (x10 x11 x12 : Option V), σ' = [some (.ref a), some (.int size), some (.int room), some (.int load), some (.int n), some (.ref p), some (.ref q), some (.ref r), some (.int way), some (.ref b), x10, x11, x12] ∧
        WK a l H H' ∧ H' r = some (.lst zs) ∧ Tps K H' zs (qs.map dP) ∧ H b = none ∧ b ≠ r ∧ H' b = some (.lst (ms.map V.int)) ∧ ms.length = qs.length ∧ ∀ m ∈ ms, 1 ≤ m ∧ m ≤ load
      refine s_cut M ?_ ?_
      · have st : M [some (.ref a), some (.int size), some (.int room), some (.int load), some (.int n), some (.ref p), some (.ref q), some (.ref r), some (.int way), some (.ref b), none, none, none] H6 :=
          ⟨b, _, _, _, _, rfl, wk6, e6 _ _ hr5, tz5.same e6, nb0, nbr, hb, by rw [List.length_map], fun m hm => by
            obtain ⟨_, _, rfl⟩ := List.mem_map.mp hm
            omega⟩
        walk_at "sx"
        refine s_dec (fun c => ?_) (fun c => ?_)
        · walk_at "sx"
          refine ⟨a, l, _, rfl, wk6.w, by omega, by omega, fun x H7 x0 x1 w7 e7 => ?_⟩
          have wk7 : WK a l H6 H7 := ⟨w7, e7⟩
          have hb7 := wk7.get hb fb.1 fb.2
          walk_at "sx"
          refine o_lenL (SqL.of hb7) ?_
          walk_at "sx"
          rw [List.length_map, List.length_map]
          refine ⟨a, l, _, rfl, w7, by omega, by omega, fun j H8 j0 j1 w8 e8 => ?_⟩
          have wk8 : WK a l H7 H8 := ⟨w8, e8⟩
          have hb8 := wk8.get hb7 fb.1 fb.2
          refine o_setL hb8 (n := j.toNat) (by rw [List.length_map, List.length_map]; rw [show j = ((j.toNat : Nat) : Int) by omega]; exact ix_nat (by omega)) fun H9 a9 => ?_
          rw [ints_set] at a9
          have hr8 := wk8.get (wk7.get (e6 _ _ hr5) fr.1 fr.2) fr.1 fr.2
          refine ⟨b, _, _, _, _, rfl, ((wk6.trans wk7).trans wk8).at w a9 nb0, a9.ne hr8 nbr.symm, ((((tz5.same e6).tm (wk7.tm wk6.w)).tm (wk8.tm w7)).tm (a9.tm hb8)), nb0, nbr, a9.1, by rw [List.length_set, List.length_map], fun m hm => ?_⟩
          rcases List.mem_or_eq_of_mem_set hm with hm | rfl
          · obtain ⟨_, _, rfl⟩ := List.mem_map.mp hm
            omega
          · omega
        · walk_at "sx"
          exact st
      rintro σ' H7 ⟨b, ms, x10, x11, x12, rfl, wk7, hr7, tz7, nb0, nbr, hb7, ml, mb⟩
      refine s_cut M ?_ ?_
      · walk_at "sx"
        refine s_dec (fun c => ?_) (fun c => ?_)
        · walk_at "sx"
          refine w_seqL (SqL.of hr7) ?_
          refine lc_inv walk_list (fun D i ys H' => WK a l H H' ∧ H' r = some (.lst zs) ∧ Tps K H' zs (qs.map dP) ∧ ∃ ms : List Int, ys = ms.map V.int ∧ ms.length = i ∧ ∀ m ∈ ms, 1 ≤ m ∧ m ≤ load) (by omega)
            (fun D H' hD e _ => ⟨wk7.same e, e _ _ hr7, tz7.same e, [], rfl, rfl, fun m hm => by cases hm⟩) (fun D i ys H' _ pv => SqL.of pv.2.1) ?_ ?_
          · rintro D i ys x H8 H9 hD hi ⟨wk8, hr8, tz8, ms, rfl, ml8, mb8⟩ hy ⟨rfl, hx⟩ Yes No hyes hno
            have nD0 := wk7.free w hD
            have fD := w.fresh nD0
            have nDr : D ≠ r := fun z => by rw [z, hr7] at hD; cases hD
            walk_at "sx"
            refine ⟨rfl, ?_⟩
            walk_at "sx"
            refine ⟨a, l, _, rfl, wk8.w, by omega, by omega, fun x HA x0 x1 wA eA => ?_⟩
            have wkA : WK a l H9 HA := ⟨wA, eA⟩
            walk_at "sx"
            refine hyes _ _ (wkA.get hy fD.1 fD.2) fun HB aB => ⟨(wk8.trans wkA).at w aB nD0, aB.ne (wkA.get hr8 fr.1 fr.2) nDr.symm, ((tz8.tm (wkA.tm wk8.w)).tm (aB.tm (wkA.get hy fD.1 fD.2))), ms ++ [1 + x], by rw [List.map_append]; rfl, by rw [List.length_append, List.length_singleton, ml8], fun m hm => ?_⟩
            rcases List.mem_append.mp hm with hm | hm
            · exact mb8 m hm
            · have : m = 1 + x := by simpa using hm
              omega
          · rintro D ys H8 hD ⟨wk8, hr8, tz8, ms, rfl, ml8, mb8⟩ hy -
            have nDr : D ≠ r := fun z => by rw [z, hr7] at hD; cases hD
            walk_at "sx"
            exact ⟨D, ms, _, _, _, rfl, wk8, hr8, tz8, wk7.free w hD, nDr, hy, by omega, mb8⟩
        · walk_at "sx"
          exact ⟨b, ms, x10, x11, x12, rfl, wk7, hr7, tz7, nb0, nbr, hb7, ml, mb⟩
      clear wk7 hr7 tz7 nb0 nbr hb7 ml mb
      rintro σ' H8 ⟨b, ms, x10, x11, x12, rfl, wk8, hr8, tz8, nb0, nbr, hb8, ml, mb⟩
      walk_at "sx"
      refine o_tupL (SqL.of hr8) (n_new fun u H9 nu e9 hu _ => ?_)
      walk_at "sx"
      refine o_tupL (SqL.of (e9 _ _ hb8)) (n_new fun v HA nv eA hv _ => ?_)
      walk_at "sx"
      refine n_of rfl fun t HB nt eB ht _ => ?_
      have e9B := Same.trans (Same.trans e9 eA) eB
      refine k _ HB n qs ms (wk8.same e9B) ?_ ⟨sq2, up2, hn, by omega, ml, mb⟩
      refine .tup (SqT.of ht) (.cons (.int n) (.cons (.tup (SqT.of (Same.trans eA eB _ _ hu)) (tz8.same e9B)) (.cons (Tp.mkints (SqT.of (eB _ _ hv))) .nil)))
  · walk_at "sx"
    refine ⟨a, l, _, rfl, A.wk.w, by decide, by decide, fun r H2 r0 r1 w2 e2 => ?_⟩
    have wk2 : WK a l H1 H2 := ⟨w2, e2⟩
    walk_at "sx"
    refine s_dec (fun c => ?_) (fun c => ?_)
    · walk_at "sx"
      refine ⟨a, l, n.toNat, by rw [show ((n.toNat : Nat) : Int) = n from by omega], w2, by omega, fun q H3 ns nq wk3 hq pm => ?_⟩
      exact rest _ _ ⟨q, ns, rfl, wk2.trans wk3, wk2.free A.wk.w nq, hq, Names.of (by omega) pm⟩
    · refine s_lstRg (s_rg1 ?_)
      walk_at "sx"
      refine ⟨⟨by omega, by omega, by omega, by omega, by omega⟩, n_new fun q H3 nq e3 hq _ => ?_⟩
      rw [rgV_iota] at hq
      exact rest _ _ ⟨q, iota n.toNat, rfl, wk2.same e3, wk2.free A.wk.w nq, hq, Names.of (by omega) (List.Perm.refl _)⟩
end UW
namespace UW
open PySem PySem.Spec PyProof.Rows L2
/-- one step -/
local macro_rules | `(tactic| walk_at "s1") => `(tactic| first
  | with_reducible refine s_seq ?_
  | with_reducible refine s_for ?_
  | with_reducible refine s_lc ?_
  | with_reducible refine w_seq ?_
  | with_reducible refine w_rng1 ?_
  | with_reducible refine w_rng2 ?_
  | with_reducible refine w_zip ?_
  | with_reducible refine s_asg ?_
  | with_reducible refine s_gname ?_
  | with_reducible refine s_ret ?_
  | with_reducible refine s_drop ?_
  | with_reducible refine s_next ?_
  | with_reducible refine s_ifs ?_
  | with_reducible refine s_var (by with_unfolding_all rfl) ?_
  | with_reducible refine s_c ?_
  | with_reducible refine s_op ?_
  | with_reducible refine s_un ?_
  | with_reducible refine s_neg ?_
  | with_reducible refine s_test ?_
  | with_reducible refine s_yes ?_
  | with_reducible refine s_tB ?_
  | with_reducible refine s_bl ?_
  | with_reducible refine s_not ?_
  | with_reducible refine s_and ?_
  | with_reducible refine s_or ?_
  | with_reducible refine s_andV ?_
  | with_reducible refine s_orV ?_
  | with_reducible refine s_notV ?_
  | with_reducible refine s_chain ?_
  | with_reducible refine s_nil ?_
  | with_reducible refine s_cons ?_
  | with_reducible refine s_tup ?_
  | with_reducible refine s_lst ?_
  | with_reducible refine s_call ?_
  | with_reducible refine s_cb ?_
  | with_reducible refine s_part ?_
  | with_reducible refine s_nopart ?_
  | with_reducible refine s_ii ?_
  | with_reducible refine s_sl ?_
  | with_reducible refine s_par ?_
  | with_reducible refine s_par2 ?_
  | with_reducible refine s_bm ?_
  | with_reducible refine s_gsub ?_
  | with_reducible refine s_gcons ?_
  | with_reducible refine s_gnil ?_
  | with_reducible refine o_addI ?_
  | with_reducible refine o_sub ?_
  | with_reducible refine o_eqI ?_
  | with_reducible refine o_neI ?_
  | with_reducible refine o_ltI ?_
  | with_reducible refine o_le ?_
  | with_reducible refine o_gt ?_
  | with_reducible refine o_ge ?_
  | with_reducible refine o_int ?_
  | with_reducible refine o_intB ?_
  | with_reducible refine o_abs ?_
  | with_reducible refine o_max2 ?_
  | with_reducible refine o_min2 ?_
  | with_reducible refine o_isN ?_
  | with_reducible refine o_notN ?_
  | with_reducible refine o_mulI (by first | exact Or.inl ⟨by decide, by decide⟩ | exact Or.inr ⟨by decide, by decide⟩ | (first | (refine Or.inl ⟨?_, ?_⟩ <;> omega) | (refine Or.inr ⟨?_, ?_⟩ <;> omega))) ?_
  | with_reducible refine o_mod (by first | decide | omega) ?_
  | with_reducible refine o_div (by first | decide | omega) (by first | decide | omega) ?_
  | with_reducible refine s_blx ?_
  | with_reducible refine o_ixL (SqL.of (by assumption)) (by first | with_unfolding_all rfl | with_unfolding_all exact at_zero _ _) ?_
  | with_reducible refine o_ixT (by assumption) (by first | with_unfolding_all rfl | with_unfolding_all exact at_zero _ _) ?_
  | with_reducible refine o_tyL (by assumption) ?_
  | with_reducible refine iteT ?_
  | with_reducible refine iteF ?_)
local macro_rules | `(tactic| walk_at "sx") => `(tactic| repeat (walk_at "s1"))
/-- loads that the roads bear -/
structure Stand (ms ls : List Int) : Prop where
  len : ls.length = ms.length
  ok : ∀ (i : Nat) (l m : Int), ls[i]? = some l → ms[i]? = some m → 0 ≤ l ∧ l ≤ m
theorem ints_get {ns : List Int} {i : Nat} {x : V} (h : (ns.map V.int)[i]? = some x) : ∃ n, ns[i]? = some n ∧ x = .int n := by
  rw [List.getElem?_map] at h
  cases e : ns[i]? with
  | none => rw [e] at h; cases h
  | some n => rw [e] at h; exact ⟨n, rfl, (Option.some.inj h).symm⟩
theorem ints_nth {ns : List Int} {i : Nat} {n : Int} (h : ns[i]? = some n) : (ns.map V.int)[i]? = some (.int n) := by rw [List.getElem?_map, h]; rfl
theorem at_int {ns : List Int} {i : Int} {n : Int} (h0 : 0 ≤ i) (h : ns[i.toNat]? = some n) : atI (ns.map V.int) i = some (.int n) := at_of (show i = ((i.toNat : Nat) : Int) by omega) (ints_nth h)
theorem ix_int {n : Nat} {i : Int} (h0 : 0 ≤ i) (h : i < n) : ixN n i = some i.toNat := by
  have e : i = ((i.toNat : Nat) : Int) := by omega
  have := ix_nat (n := n) (j := i.toNat) (by omega)
  rwa [← e] at this
def StandTo (ms ls : List Int) (i : Nat) : Prop := ls.length = i ∧ ∀ (j : Nat) (l m : Int), ls[j]? = some l → ms[j]? = some m → 0 ≤ l ∧ l ≤ m
theorem StandTo.nil {ms : List Int} : StandTo ms [] 0 := ⟨rfl, fun j l m h => by simp at h⟩
theorem StandTo.snoc {ms ls : List Int} {i : Nat} {x m : Int} (h : StandTo ms ls i) (hm : ms[i]? = some m) (h0 : 0 ≤ x) (h1 : x ≤ m) : StandTo ms (ls ++ [x]) (i + 1) := by
  refine ⟨by rw [List.length_append, h.1]; rfl, fun j l m' e1 e2 => ?_⟩
  by_cases q : j < ls.length
  · rw [List.getElem?_append_left q] at e1
    exact h.2 j l m' e1 e2
  · rw [List.getElem?_append_right (by omega)] at e1
    by_cases z : j - ls.length = 0
    · rw [z] at e1
      have e3 : x = l := by simpa using e1
      have : j = i := by have := h.1; omega
      rw [this, hm] at e2
      cases e2
      omega
    · have : ([x] : List Int)[j - ls.length]? = none := List.getElem?_eq_none (by simp; omega)
      rw [this] at e1
      cases e1
theorem Stand.set {ms ls : List Int} {i : Nat} {x m : Int} (h : Stand ms ls) (hm : ms[i]? = some m) (h0 : 0 ≤ x) (h1 : x ≤ m) : Stand ms (ls.set i x) := by
  refine ⟨by rw [List.length_set, h.len], fun j l m' e1 e2 => ?_⟩
  rw [List.getElem?_set] at e1
  split at e1
  · next q =>
    subst q
    rw [hm] at e2
    cases e2
    split at e1
    · cases e1; exact ⟨h0, h1⟩
    · cases e1
  · exact h.ok j l m' e1 e2
def sp__law_standing (K : Fg) : Sp := fun vs H Q _ => ∃ (a l : Addr) (v : V) (n : Int) (rs : List (Int × Int)) (ms : List Int), vs = [.ref a, v] ∧ Well H a l ∧ Tp K H v (dWeb n rs ms) ∧ ms ≠ [] ∧ ms.length ≤ 1000 ∧ (∀ m ∈ ms, 0 ≤ m ∧ m ≤ 1000) ∧
  ∀ (u : V) (H' : Hp) (ls : List Int), WK a l H H' → Tp K H' u (dIs ls) → Stand ms ls → Q u H'
theorem l__law_standing {K : Fg} : ∀ vs H Q E, sp__law_standing K vs H Q E → vs.length = 2 := by
  rintro vs H Q E ⟨a, l, v, n, rs, ms, rfl, _⟩
  rfl
/-- _law_standing, slots well, web, way, found, turn, road, bound -/
def t__law_standing (K : Fg) : TS :=
  (tSeq (tAsg (tG (sp__law_draw K) E00 (tCons (tVar 0) (tCons (tC (.int 5)) tNil))) (gName 2)) (tSeq (tIfS (tTest (tOp (rLtU
    K) (tVar 2) (tC (.int 3)))) (tRet (tCB (rTupOf K) (tCons (tLc (iSeq K (tOp (rIx K) (tVar 1) (tC (.int 2)))) (gName 6) tYes (tG (sp__law_draw K) E00 (tCons (tVar 0) (tCons (tOp (rAddU K) (tVar 6) (tC (.int 1))) tNil))) [6])
    tNil))) tNext) (tSeq (tAsg (tLc (iSeq K (tOp (rIx K) (tVar 1) (tC (.int 2)))) (gName 6) tYes (tIf (tTest (tOp (rEqU K) (tVar 2) (tC (.int 3)))) (tC (.int 0)) (tVar 6)) [6]) (gName 3)) (tSeq (tFor (iRng1 (tCons (tG (sp__law_draw
    K) E00 (tCons (tVar 0) (tCons (tC (.int 3)) tNil))) tNil)) (gName 4) (tSeq (tAsg (tG (sp__law_draw K) E00 (tCons (tVar 0) (tCons (tCB (rLenU K) (tCons (tVar 3) tNil)) tNil))) (gName 5)) (tAsg (tG (sp__law_draw K) E00 (tCons
    (tVar 0) (tCons (tOp (rAddU K) (tOp (rIx K) (tOp (rIx K) (tVar 1) (tC (.int 2))) (tVar 5)) (tC (.int 1))) tNil))) (gSub (tVar 3) (tVar 5) rSetL)))) (tRet (tCB (rTupOf K) (tCons (tVar 3) tNil)))))))
theorem p__law_standing {K : Fg} {vs : List V} {H : Hp} {Q : VK} {E : XK} (h : sp__law_standing K vs H Q E) : t__law_standing K { nx := fun _ H' => Q .non H', rt := Q } (start ["well", "web", "way", "found", "turn", "road", "bound"] vs) H := by
  obtain ⟨a, l, v, n, rs, ms, rfl, w, tv, hne, hl, hb, k⟩ := h
  obtain ⟨wa, ar, xs, am, rfl, hw, hr, tr, hm, _, _⟩ := tv.web
  have lpos : 0 < ms.length := List.length_pos_iff.mpr hne
  show t__law_standing K _ [some (.ref a), some (.ref wa), none, none, none, none, none] H
  unfold t__law_standing
  walk_at "sx"
  refine ⟨a, l, _, rfl, w, by decide, by decide, fun way H1 y0 y1 w1 e1 => ?_⟩
  have wk1 : WK a l H H1 := ⟨w1, e1⟩
  have hw1 := (wk1.tm w).sq hw
  have hm1 := (wk1.tm w).sq hm
  walk_at "sx"
  refine s_dec (fun c => ?_) (fun c => ?_)
  · walk_at "sx"
    refine w_seqT hm1 ?_
    refine lc_inv walk_tup (fun D i ys H' => WK a l H H' ∧ ∃ ls : List Int, ys = ls.map V.int ∧ StandTo ms ls i) (by rw [List.length_map]; omega)
      (fun D H' hD e _ => ⟨wk1.same e, [], rfl, .nil⟩) (fun D i ys H' _ p => (p.1.tm w).sq hm) ?_ ?_
    · rintro D i ys x H2 H3 hD hi ⟨wk2, ls, rfl, st⟩ hy ⟨rfl, hx⟩ Yes No hyes hno
      obtain ⟨m, hm2, rfl⟩ := ints_get hx
      have bm := hb m (List.mem_of_getElem? hm2)
      have nD0 := wk1.free w hD
      have fD := w.fresh nD0
      walk_at "sx"
      refine ⟨rfl, ?_⟩
      walk_at "sx"
      refine ⟨a, l, _, rfl, wk2.w, by omega, by omega, fun r H4 r0 r1 w4 e4 => ?_⟩
      have wk4 : WK a l H3 H4 := ⟨w4, e4⟩
      exact hyes _ _ (wk4.get hy fD.1 fD.2) fun H5 a5 => ⟨(wk2.trans wk4).at w a5 nD0, ls ++ [r], by rw [List.map_append]; rfl, st.snoc hm2 r0 (by omega)⟩
    · rintro D ys H2 hD ⟨wk2, ls, rfl, st⟩ hy -
      walk_at "sx"
      refine o_tupL (SqL.of hy) (n_new fun p H3 np e3 hp _ => ?_)
      rw [List.length_map] at st
      exact k _ _ ls (wk2.same e3) (Tp.mkints (SqT.of hp)) ⟨st.1, st.2⟩
  · walk_at "sx"
    refine w_seqT hm1 ?_
    refine lc_inv walk_tup (fun D i ys H' => WK a l H H' ∧ ∃ ls : List Int, ys = ls.map V.int ∧ StandTo ms ls i) (by rw [List.length_map]; omega)
      (fun D H' hD e _ => ⟨wk1.same e, [], rfl, .nil⟩) (fun D i ys H' _ p => (p.1.tm w).sq hm) ?_ ?_
    · rintro D i ys x H2 H3 hD hi ⟨wk2, ls, rfl, st⟩ hy ⟨rfl, hx⟩ Yes No hyes hno
      obtain ⟨m, hm2, rfl⟩ := ints_get hx
      have bm := hb m (List.mem_of_getElem? hm2)
      have nD0 := wk1.free w hD
      walk_at "sx"
      refine ⟨rfl, ?_⟩
      walk_at "sx"
      refine s_ifx ?_
      walk_at "sx"
      refine s_dec (fun c2 => ?_) (fun c2 => ?_)
      · walk_at "sx"
        exact hyes _ _ hy fun H5 a5 => ⟨wk2.at w a5 nD0, ls ++ [0], by rw [List.map_append]; rfl, st.snoc hm2 (Int.le_refl 0) bm.1⟩
      · walk_at "sx"
        exact hyes _ _ hy fun H5 a5 => ⟨wk2.at w a5 nD0, ls ++ [m], by rw [List.map_append]; rfl, st.snoc hm2 bm.1 (Int.le_refl m)⟩
    · rintro D ys H2 hD ⟨wk2, ls, rfl, st⟩ hy -
      have nD0 := wk1.free w hD
      have fD := w.fresh nD0
      rw [List.length_map] at st
      walk_at "sx"
      refine ⟨a, l, _, rfl, wk2.w, by decide, by decide, fun r H3 r0 r1 w3 e3 => ?_⟩
      have wk3 : WK a l H2 H3 := ⟨w3, e3⟩
      walk_at "sx"
      refine w_rng (by omega) ?_
      refine f_go walk_range (fun i σ H' => ∃ (ls : List Int) (x4 x5 : Option V), σ = [some (.ref a), some (.ref wa), some (.int way), some (.ref D), x4, x5, none] ∧ WK a l H H' ∧ H' D = some (.lst (ls.map V.int)) ∧ Stand ms ls)
        ⟨ls, _, _, rfl, wk2.trans wk3, wk3.get hy fD.1 fD.2, ⟨st.1, st.2⟩⟩ (fun _ _ _ _ _ => trivial) ?_ ?_
      · rintro i x σ H4 H5 hi ⟨ls, x4, x5, rfl, wk4, hd, sd⟩ ⟨rfl, rfl⟩
        have sl := sd.len
        walk_at "sx"
        refine o_lenL (SqL.of hd) ?_
        rw [List.length_map]
        walk_at "sx"
        refine ⟨a, l, _, rfl, wk4.w, by omega, by omega, fun j H6 j0 j1 w6 e6 => ?_⟩
        have wk6 : WK a l H H6 := wk4.trans ⟨w6, e6⟩
        have hw6 := (wk6.tm w).sq hw
        have hm6 := (wk6.tm w).sq hm
        have jm : ms[j.toNat]? = some ms[j.toNat] := List.getElem?_eq_getElem (by omega)
        have bm := hb _ (List.mem_of_getElem? jm)
        generalize ms[j.toNat] = m at jm bm
        walk_at "sx"
        refine o_ixT hm6 (v := .int m) (at_int j0 jm) ?_
        walk_at "sx"
        refine ⟨a, l, _, rfl, wk6.w, by omega, by omega, fun x H7 q0 q1 w7 e7 => ?_⟩
        have wk7 : WK a l H5 H7 := (show WK a l H5 H6 from ⟨w6, e6⟩).trans ⟨w7, e7⟩
        walk_at "sx"
        refine o_setL (wk7.get hd fD.1 fD.2) (n := j.toNat) (by rw [List.length_map]; exact ix_int j0 (by omega)) fun H8 a8 => ?_
        have a81 := a8.1
        rw [ints_set] at a81
        exact ⟨_, _, _, rfl, (wk4.trans wk7).at w a8 nD0, a81, sd.set jm q0 (by omega)⟩
      · rintro σ H4 ⟨ls, x4, x5, rfl, wk4, hd, sd⟩
        walk_at "sx"
        refine o_tupL (SqL.of hd) (n_new fun p H5 np e5 hp _ => ?_)
        exact k _ _ ls (wk4.same e5) (Tp.mkints (SqT.of hp)) sd
end UW
namespace UW
open PySem PySem.Spec PyProof.Rows L2
/-- one step -/
local macro_rules | `(tactic| walk_at "s1") => `(tactic| first
  | with_reducible refine s_seq ?_
  | with_reducible refine s_for ?_
  | with_reducible refine s_lc ?_
  | with_reducible refine w_seq ?_
  | with_reducible refine w_rng1 ?_
  | with_reducible refine w_rng2 ?_
  | with_reducible refine w_zip ?_
  | with_reducible refine s_asg ?_
  | with_reducible refine s_gname ?_
  | with_reducible refine s_ret ?_
  | with_reducible refine s_drop ?_
  | with_reducible refine s_next ?_
  | with_reducible refine s_ifs ?_
  | with_reducible refine s_var (by with_unfolding_all rfl) ?_
  | with_reducible refine s_c ?_
  | with_reducible refine s_op ?_
  | with_reducible refine s_un ?_
  | with_reducible refine s_neg ?_
  | with_reducible refine s_test ?_
  | with_reducible refine s_yes ?_
  | with_reducible refine s_tB ?_
  | with_reducible refine s_bl ?_
  | with_reducible refine s_not ?_
  | with_reducible refine s_and ?_
  | with_reducible refine s_or ?_
  | with_reducible refine s_andV ?_
  | with_reducible refine s_orV ?_
  | with_reducible refine s_notV ?_
  | with_reducible refine s_chain ?_
  | with_reducible refine s_nil ?_
  | with_reducible refine s_cons ?_
  | with_reducible refine s_tup ?_
  | with_reducible refine s_lst ?_
  | with_reducible refine s_call ?_
  | with_reducible refine s_cb ?_
  | with_reducible refine s_part ?_
  | with_reducible refine s_nopart ?_
  | with_reducible refine s_ii ?_
  | with_reducible refine s_sl ?_
  | with_reducible refine s_par ?_
  | with_reducible refine s_par2 ?_
  | with_reducible refine s_bm ?_
  | with_reducible refine s_gsub ?_
  | with_reducible refine s_gcons ?_
  | with_reducible refine s_gnil ?_
  | with_reducible refine o_addI ?_
  | with_reducible refine o_sub ?_
  | with_reducible refine o_eqI ?_
  | with_reducible refine o_neI ?_
  | with_reducible refine o_ltI ?_
  | with_reducible refine o_le ?_
  | with_reducible refine o_gt ?_
  | with_reducible refine o_ge ?_
  | with_reducible refine o_int ?_
  | with_reducible refine o_intB ?_
  | with_reducible refine o_abs ?_
  | with_reducible refine o_max2 ?_
  | with_reducible refine o_min2 ?_
  | with_reducible refine o_isN ?_
  | with_reducible refine o_notN ?_
  | with_reducible refine o_mulI (by first | exact Or.inl ⟨by decide, by decide⟩ | exact Or.inr ⟨by decide, by decide⟩ | (first | (refine Or.inl ⟨?_, ?_⟩ <;> omega) | (refine Or.inr ⟨?_, ?_⟩ <;> omega))) ?_
  | with_reducible refine o_mod (by first | decide | omega) ?_
  | with_reducible refine o_div (by first | decide | omega) (by first | decide | omega) ?_
  | with_reducible refine s_blx ?_
  | with_reducible refine o_ixL (SqL.of (by assumption)) (by first | with_unfolding_all rfl | with_unfolding_all exact at_zero _ _) ?_
  | with_reducible refine o_ixT (by assumption) (by first | with_unfolding_all rfl | with_unfolding_all exact at_zero _ _) ?_
  | with_reducible refine o_tyL (by assumption) ?_
  | with_reducible refine iteT ?_
  | with_reducible refine iteF ?_)
local macro_rules | `(tactic| walk_at "sx") => `(tactic| repeat (walk_at "s1"))
section
variable {K : Fg} {H : Hp} {Q : VK} {a : Addr} {xs : List V} {k : Int}
theorem o_repL (h : H a = some (.lst xs)) (h1 : 0 ≤ k) (h2 : k ≤ 1000) (hl : xs.length ≤ 10) (q : New Q H (.lst (List.replicate k.toNat xs).flatten)) : rMulU K (.ref a) (.int k) H Q := by
  refine .inr (.inl ⟨a, k, xs, rfl, rfl, h, by omega, by omega, ?_, q⟩)
  have e1 : xs.length * k.toNat ≤ 10 * 1000 := Nat.mul_le_mul hl (by omega)
  exact Nat.le_trans e1 (by decide)
end
theorem flat_rep {α : Type} (x : α) : ∀ n, (List.replicate n [x]).flatten = List.replicate n x
  | 0 => rfl
  | n + 1 => by rw [List.replicate_succ, List.replicate_succ, List.flatten_cons, flat_rep x n]; rfl
theorem rep_ints (n : Nat) (x : Int) : (List.replicate n [V.int x]).flatten = (List.replicate n x).map V.int := by rw [flat_rep, List.map_replicate]
/-- the roads that are at a place -/
def atP (i : Int) (p : Int × Int) : Bool := decide (i = p.1) || decide (i = p.2)
def sumP (rs : List (Int × Int)) (ls : List Int) (i : Int) : Int := (((rs.zip ls).filter fun q => atP i q.1).map (·.2)).sum
def sums (n : Int) (rs : List (Int × Int)) (ls : List Int) : List Int := (iota n.toNat).map (sumP rs ls)
theorem sums_len (n : Int) (rs : List (Int × Int)) (ls : List Int) : (sums n rs ls).length = n.toNat := by unfold sums; rw [List.length_map, iota_len]
theorem iota_get {n k : Nat} (h : k < n) : (iota n)[k]? = some (k : Int) := by
  unfold iota
  rw [List.getElem?_map, List.getElem?_range h]
  rfl
theorem sums_get {n : Int} {rs : List (Int × Int)} {ls : List Int} {i : Int} (h0 : 0 ≤ i) (h1 : i < n) : (sums n rs ls)[i.toNat]? = some (sumP rs ls i) := by
  unfold sums
  rw [List.getElem?_map, iota_get (by omega), show ((i.toNat : Nat) : Int) = i from by omega]
  rfl
end UW
namespace UW
open PySem PySem.Spec PyProof.Rows L2
/-- one step -/
local macro_rules | `(tactic| walk_at "s1") => `(tactic| first
  | with_reducible refine s_seq ?_
  | with_reducible refine s_for ?_
  | with_reducible refine s_lc ?_
  | with_reducible refine w_seq ?_
  | with_reducible refine w_rng1 ?_
  | with_reducible refine w_rng2 ?_
  | with_reducible refine w_zip ?_
  | with_reducible refine s_asg ?_
  | with_reducible refine s_gname ?_
  | with_reducible refine s_ret ?_
  | with_reducible refine s_drop ?_
  | with_reducible refine s_next ?_
  | with_reducible refine s_ifs ?_
  | with_reducible refine s_var (by with_unfolding_all rfl) ?_
  | with_reducible refine s_c ?_
  | with_reducible refine s_op ?_
  | with_reducible refine s_un ?_
  | with_reducible refine s_neg ?_
  | with_reducible refine s_test ?_
  | with_reducible refine s_yes ?_
  | with_reducible refine s_tB ?_
  | with_reducible refine s_bl ?_
  | with_reducible refine s_not ?_
  | with_reducible refine s_and ?_
  | with_reducible refine s_or ?_
  | with_reducible refine s_andV ?_
  | with_reducible refine s_orV ?_
  | with_reducible refine s_notV ?_
  | with_reducible refine s_chain ?_
  | with_reducible refine s_nil ?_
  | with_reducible refine s_cons ?_
  | with_reducible refine s_tup ?_
  | with_reducible refine s_lst ?_
  | with_reducible refine s_call ?_
  | with_reducible refine s_cb ?_
  | with_reducible refine s_part ?_
  | with_reducible refine s_nopart ?_
  | with_reducible refine s_ii ?_
  | with_reducible refine s_sl ?_
  | with_reducible refine s_par ?_
  | with_reducible refine s_par2 ?_
  | with_reducible refine s_bm ?_
  | with_reducible refine s_gsub ?_
  | with_reducible refine s_gcons ?_
  | with_reducible refine s_gnil ?_
  | with_reducible refine o_addI ?_
  | with_reducible refine o_sub ?_
  | with_reducible refine o_eqI ?_
  | with_reducible refine o_neI ?_
  | with_reducible refine o_ltI ?_
  | with_reducible refine o_le ?_
  | with_reducible refine o_gt ?_
  | with_reducible refine o_ge ?_
  | with_reducible refine o_int ?_
  | with_reducible refine o_intB ?_
  | with_reducible refine o_abs ?_
  | with_reducible refine o_max2 ?_
  | with_reducible refine o_min2 ?_
  | with_reducible refine o_isN ?_
  | with_reducible refine o_notN ?_
  | with_reducible refine o_mulI (by first | exact Or.inl ⟨by decide, by decide⟩ | exact Or.inr ⟨by decide, by decide⟩ | (first | (refine Or.inl ⟨?_, ?_⟩ <;> omega) | (refine Or.inr ⟨?_, ?_⟩ <;> omega))) ?_
  | with_reducible refine o_mod (by first | decide | omega) ?_
  | with_reducible refine o_div (by first | decide | omega) (by first | decide | omega) ?_
  | with_reducible refine s_blx ?_
  | with_reducible refine o_ixL (SqL.of (by assumption)) (by first | with_unfolding_all rfl | with_unfolding_all exact at_zero _ _) ?_
  | with_reducible refine o_ixT (by assumption) (by first | with_unfolding_all rfl | with_unfolding_all exact at_zero _ _) ?_
  | with_reducible refine o_tyL (by assumption) ?_
  | with_reducible refine iteT ?_
  | with_reducible refine iteF ?_)
local macro_rules | `(tactic| walk_at "sx") => `(tactic| repeat (walk_at "s1"))
structure Laid (n : Int) (rs : List (Int × Int)) (ms ls : List Int) : Prop where
  ok : ∀ p ∈ rs, 0 ≤ p.1 ∧ p.1 < p.2 ∧ p.2 < n
  lm : ms.length = rs.length
  ll : ls.length = rs.length
  n0 : 0 ≤ n
  n1 : n ≤ 1000
  r1 : rs.length ≤ 1000
theorem WebOk.laid {n : Int} {rs : List (Int × Int)} {ms ls : List Int} {size room load : Int} (w : WebOk size room load n rs ms) (s : Stand ms ls) (h1 : size ≤ 1000) (h2 : room ≤ 1000) : Laid n rs ms ls :=
  ⟨w.sh.ok, w.lm, by rw [s.len, w.lm], by have := w.sh.two; omega, by have := w.sz; omega, by have := w.rm; omega⟩
theorem inV_pair (i a b : Int) : inV (.int i) [.int a, .int b] = atP i (a, b) := by
  unfold inV atP
  rw [List.any_cons, List.any_cons, List.any_nil, Bool.or_false]
  show ((a == i) || (b == i)) = (decide (i = a) || decide (i = b))
  have e : ∀ x y : Int, (x == y) = decide (y = x) := fun x y => by
    by_cases h : x = y
    · subst h; simp
    · have h' : ¬ y = x := fun e => h e.symm
      simp [h, h']
  rw [e, e]
theorem sumP_snoc {rs : List (Int × Int)} {ls : List Int} (h : rs.length = ls.length) (p : Int × Int) (l i : Int) : sumP (rs ++ [p]) (ls ++ [l]) i = sumP rs ls i + if atP i p = true then l else 0 := by
  unfold sumP
  rw [List.zip_append h, List.filter_append, List.map_append, List.sum_append]
  congr 1
  show (List.map _ (List.filter _ [(p, l)])).sum = _
  cases q : atP i p <;> simp [q]
theorem sums_step {n : Int} {rs : List (Int × Int)} {ls : List Int} (h : rs.length = ls.length) {p : Int × Int} (l : Int) (h0 : 0 ≤ p.1) (h1 : p.1 < p.2) (h2 : p.2 < n) :
    (((sums n rs ls).set p.1.toNat (sumP rs ls p.1 + l)).set p.2.toNat (sumP rs ls p.2 + l)) = sums n (rs ++ [p]) (ls ++ [l]) := by
  refine List.ext_getElem? fun k => ?_
  rw [List.getElem?_set, List.getElem?_set, List.length_set, sums_len]
  by_cases hk : k < n.toNat
  · have e1 := sums_get (rs := rs) (ls := ls) (n := n) (i := (k : Int)) (by omega) (by omega)
    have e2 := sums_get (rs := rs ++ [p]) (ls := ls ++ [l]) (n := n) (i := (k : Int)) (by omega) (by omega)
    rw [Int.toNat_natCast] at e1 e2
    rw [e1, e2, sumP_snoc h]
    by_cases c2 : p.2.toNat = k
    · have e : p.2 = (k : Int) := by omega
      rw [if_pos c2, if_pos (by omega), e, if_pos (by unfold atP; rw [e]; simp)]
    · rw [if_neg c2]
      by_cases c1 : p.1.toNat = k
      · have e : p.1 = (k : Int) := by omega
        rw [if_pos c1, if_pos (by omega), e, if_pos (by unfold atP; rw [e]; simp)]
      · rw [if_neg c1, if_neg, Int.add_zero]
        unfold atP
        have d1 : ¬ (k : Int) = p.1 := by omega
        have d2 : ¬ (k : Int) = p.2 := by omega
        simp [d1, d2]
  · have e1 : (sums n rs ls)[k]? = none := List.getElem?_eq_none (by rw [sums_len]; omega)
    have e2 : (sums n (rs ++ [p]) (ls ++ [l]))[k]? = none := List.getElem?_eq_none (by rw [sums_len]; omega)
    rw [e1, e2, if_neg (by omega), if_neg (by omega)]
theorem sums_nil {n : Int} : sums n [] [] = List.replicate n.toNat 0 := by
  refine List.eq_replicate_iff.mpr ⟨sums_len n [] [], fun b hb => ?_⟩
  unfold sums at hb
  obtain ⟨i, _, rfl⟩ := List.mem_map.mp hb
  rfl
theorem take_snoc {α : Type} {l : List α} {i : Nat} {x : α} (h : l[i]? = some x) : l.take (i + 1) = l.take i ++ [x] := by rw [List.take_add_one, h]; rfl
def unl (rs : List (Int × Int)) (ls : List Int) (i : Nat) : Bool := (rs[i]?.map fun p => !decide (sumP rs ls p.1 = sumP rs ls p.2)).getD false
def roomy (ms ls : List Int) (i : Nat) (b : Int) : Bool := decide (0 ≤ ls.getD i 0 + b) && decide (ls.getD i 0 + b ≤ ms.getD i 0)
def unlR (rs : List (Int × Int)) (ls : List Int) : List Nat := (List.range rs.length).filter (unl rs ls)
def deedsAt (ms ls : List Int) (i : Nat) : List (Int × Int) := (([-1, 1] : List Int).filter (roomy ms ls i)).map fun b => ((i : Int), b)
def letTo (rs : List (Int × Int)) (ms ls : List Int) (n : Nat) : List (Int × Int) := ((List.range n).filter (unl rs ls)).flatMap (deedsAt ms ls)
def letD (rs : List (Int × Int)) (ms ls : List Int) : List (Int × Int) := letTo rs ms ls rs.length
theorem letTo_succ (rs : List (Int × Int)) (ms ls : List Int) (n : Nat) : letTo rs ms ls (n + 1) = letTo rs ms ls n ++ if unl rs ls n = true then deedsAt ms ls n else [] := by
  unfold letTo
  rw [List.range_succ, List.filter_append, List.flatMap_append]
  congr 1
  cases q : unl rs ls n <;> simp [q]
theorem picks_filter {α : Type} (f : Nat → Bool) (d : Nat → α) : ∀ n, picks f d n = ((List.range n).filter f).map d
  | 0 => rfl
  | n + 1 => by
    show (if f n = true then picks f d n ++ [d n] else picks f d n) = _
    rw [picks_filter f d n, List.range_succ, List.filter_append, List.map_append]
    cases q : f n <;> simp [q]
theorem nth_getD {ls : List Int} {i : Nat} {x : Int} (h : ls[i]? = some x) : ls.getD i 0 = x := by rw [List.getD_eq_getElem?_getD, h]; rfl
theorem deeds_len (ms ls : List Int) (i : Nat) : (deedsAt ms ls i).length ≤ 2 := by
  unfold deedsAt
  rw [List.length_map]
  exact List.length_filter_le ..
theorem letTo_len (rs : List (Int × Int)) (ms ls : List Int) : ∀ n, (letTo rs ms ls n).length ≤ 2 * n
  | 0 => Nat.le_refl _
  | n + 1 => by
    rw [letTo_succ, List.length_append]
    have := letTo_len rs ms ls n
    have := deeds_len ms ls n
    split <;> simp <;> omega
end UW
namespace UW
open PySem PySem.Spec PyProof.Rows L2
/-- one step -/
local macro_rules | `(tactic| walk_at "s1") => `(tactic| first
  | with_reducible refine s_seq ?_
  | with_reducible refine s_for ?_
  | with_reducible refine s_lc ?_
  | with_reducible refine w_seq ?_
  | with_reducible refine w_rng1 ?_
  | with_reducible refine w_rng2 ?_
  | with_reducible refine w_zip ?_
  | with_reducible refine s_asg ?_
  | with_reducible refine s_gname ?_
  | with_reducible refine s_ret ?_
  | with_reducible refine s_drop ?_
  | with_reducible refine s_next ?_
  | with_reducible refine s_ifs ?_
  | with_reducible refine s_var (by with_unfolding_all rfl) ?_
  | with_reducible refine s_c ?_
  | with_reducible refine s_op ?_
  | with_reducible refine s_un ?_
  | with_reducible refine s_neg ?_
  | with_reducible refine s_test ?_
  | with_reducible refine s_yes ?_
  | with_reducible refine s_tB ?_
  | with_reducible refine s_bl ?_
  | with_reducible refine s_not ?_
  | with_reducible refine s_and ?_
  | with_reducible refine s_or ?_
  | with_reducible refine s_andV ?_
  | with_reducible refine s_orV ?_
  | with_reducible refine s_notV ?_
  | with_reducible refine s_chain ?_
  | with_reducible refine s_nil ?_
  | with_reducible refine s_cons ?_
  | with_reducible refine s_tup ?_
  | with_reducible refine s_lst ?_
  | with_reducible refine s_call ?_
  | with_reducible refine s_cb ?_
  | with_reducible refine s_part ?_
  | with_reducible refine s_nopart ?_
  | with_reducible refine s_ii ?_
  | with_reducible refine s_sl ?_
  | with_reducible refine s_par ?_
  | with_reducible refine s_par2 ?_
  | with_reducible refine s_bm ?_
  | with_reducible refine s_gsub ?_
  | with_reducible refine s_gcons ?_
  | with_reducible refine s_gnil ?_
  | with_reducible refine o_addI ?_
  | with_reducible refine o_sub ?_
  | with_reducible refine o_eqI ?_
  | with_reducible refine o_neI ?_
  | with_reducible refine o_ltI ?_
  | with_reducible refine o_le ?_
  | with_reducible refine o_gt ?_
  | with_reducible refine o_ge ?_
  | with_reducible refine o_int ?_
  | with_reducible refine o_intB ?_
  | with_reducible refine o_abs ?_
  | with_reducible refine o_max2 ?_
  | with_reducible refine o_min2 ?_
  | with_reducible refine o_isN ?_
  | with_reducible refine o_notN ?_
  | with_reducible refine o_mulI (by first | exact Or.inl ⟨by decide, by decide⟩ | exact Or.inr ⟨by decide, by decide⟩ | (first | (refine Or.inl ⟨?_, ?_⟩ <;> omega) | (refine Or.inr ⟨?_, ?_⟩ <;> omega))) ?_
  | with_reducible refine o_mod (by first | decide | omega) ?_
  | with_reducible refine o_div (by first | decide | omega) (by first | decide | omega) ?_
  | with_reducible refine s_blx ?_
  | with_reducible refine o_ixL (SqL.of (by assumption)) (by first | with_unfolding_all rfl | with_unfolding_all exact at_zero _ _) ?_
  | with_reducible refine o_ixT (by assumption) (by first | with_unfolding_all rfl | with_unfolding_all exact at_zero _ _) ?_
  | with_reducible refine o_tyL (by assumption) ?_
  | with_reducible refine iteT ?_
  | with_reducible refine iteF ?_)
local macro_rules | `(tactic| walk_at "sx") => `(tactic| repeat (walk_at "s1"))
section
variable {K : Fg} {H : Hp} {Q : VK} {p : Addr} {i a b : Int}
theorem o_inPair (h : SqT K H p [.int a, .int b]) (k : Q (.bl (atP i (a, b))) H) : rInU K (.int i) (.ref p) H Q := .inl ⟨p, _, rfl, .inr h.up, rfl, rfl, by rw [if_neg (by decide), inV_pair]; exact k⟩
theorem zip_get {α β : Type} {l : List α} {m : List β} {i : Nat} {q : α × β} {x : α} {y : β} (h : (l.zip m)[i]? = some q) (hx : l[i]? = some x) (hy : m[i]? = some y) : q = (x, y) := by
  obtain ⟨h1, h2⟩ := List.getElem?_zip_eq_some.mp h
  rw [hx] at h1
  rw [hy] at h2
  cases h1
  cases h2
  rfl
end
def sp__law_sums (K : Fg) : Sp := fun vs H Q _ => ∃ (v u : V) (n : Int) (rs : List (Int × Int)) (ms ls : List Int), vs = [v, u] ∧ Tp K H v (dWeb n rs ms) ∧ Tp K H u (dIs ls) ∧ Laid n rs ms ls ∧
  ∀ (p : Addr) (H' : Hp), H p = none → Same H H' → H' p = some (.lst ((sums n rs ls).map V.int)) → Q (.ref p) H'
theorem l__law_sums {K : Fg} : ∀ vs H Q E, sp__law_sums K vs H Q E → vs.length = 2 := by
  rintro vs H Q E ⟨v, u, n, rs, ms, ls, rfl, _⟩
  rfl
/-- _law_sums, slots web, standing, place, pair, load -/
def t__law_sums (K : Fg) : TS :=
  (tRet (tLc (iRng1 (tCons (tOp (rIx K) (tVar 0) (tC (.int 0))) tNil)) (gName 2) tYes (tCB (rSumU K) (tCons (tLc (RZ.iZipA K (tCons (tOp (rIx
    K) (tVar 0) (tC (.int 1))) (tCons (tVar 1) tNil))) (gTup K 2 (gCons (gName 3) (gCons (gName 4) gNil))) (tTest (tOp (rInU K) (tVar 2) (tVar 3))) (tVar 4) [3, 4]) tNil)) [2]))
theorem p__law_sums {K : Fg} {vs : List V} {H : Hp} {Q : VK} {E : XK} (h : sp__law_sums K vs H Q E) : t__law_sums K { nx := fun _ H' => Q .non H', rt := Q } (start ["web", "standing", "place", "pair", "load"] vs) H := by
  obtain ⟨v, u, n, rs, ms, ls, rfl, tv, tu, L, k⟩ := h
  obtain ⟨wa, ar, xs, am, rfl, hw, hr, tr, hm, _, _⟩ := tv.web
  obtain ⟨sa, rfl, hs⟩ := tu.ints
  have n0 := L.n0
  have n1 := L.n1
  have r1 := L.r1
  have xl := pairs_len tr
  show t__law_sums K _ [some (.ref wa), some (.ref sa), none, none, none] H
  unfold t__law_sums
  walk_at "sx"
  refine w_rng (by omega) ?_
  refine lc_data (K := K) walk_r0 (fun _ => true) (fun i => .int (sumP rs ls (i : Int))) (by omega) (fun _ _ => trivial) ?_ ?_
  · rintro i x H2 H3 hi e2 ⟨rfl, rfl⟩ Yes No hyes hno
    have hw2 := Same.sqT e2 hw
    walk_at "sx"
    refine ⟨rfl, ?_⟩
    walk_at "sx"
    refine w_zipT (Same.sqT e2 hr) (Same.sqT e2 hs) ?_
    refine lc_over (K := K) (rs.zip ls) (walk_zipT rfl) (by rw [List.length_zip, List.length_map, xl]) (fun q => atP i q.1) (fun q => .int q.2) (by rw [xl]; omega) (fun H' e => ⟨Same.sqT (Same.trans e2 e) hr, Same.sqT (Same.trans e2 e) hs⟩) ?_ ?_
    · rintro j q x H4 H5 hq e4 ⟨T, y, z, rfl, nT, rfl, hy, hz⟩ Yes2 No2 hy2 hn2
      obtain ⟨p, b, hp, rfl, hb⟩ := tr.pair_at hy
      obtain ⟨l, hl, rfl⟩ := ints_get hz
      have eq := zip_get hq hp hl
      subst eq
      have eT : Same H4 (upd H4 T (.tup [.ref b, .int l])) := Same.new nT
      have hb4 := Same.sqT (Same.trans (Same.trans e2 e4) eT) hb
      have hT : SqT K (upd H4 T (.tup [.ref b, .int l])) T [.ref b, .int l] := SqT.of upd_same
      generalize upd H4 T (.tup [.ref b, .int l]) = H5 at eT hb4 hT ⊢
      refine s_gtup hT rfl ?_
      walk_at "sx"
      refine ⟨rfl, ?_⟩
      walk_at "sx"
      refine o_inPair hb4 ?_
      walk_at "sx"
      refine s_i1 _ (fun c => ?_) (fun c => ?_)
      · walk_at "sx"
        exact hy2 c _ _ eT (.int l)
      · exact hn2 c _ eT
    · intro D ys H4 nD e4 hy t
      have ey : ys = (((rs.zip ls).filter fun q => atP i q.1).map (·.2)).map V.int := by
        refine Tps.ints (K := K) (H := H4) ?_
        rw [List.map_map]
        exact t
      subst ey
      walk_at "sx"
      exact ⟨D, _, rfl, .inl (SqL.of hy), hyes rfl _ _ e4 (.int _)⟩
  · intro D ys H2 nD e2 hy t _
    rw [picks_all] at t
    have ey : ys = (sums n rs ls).map V.int := by
      refine Tps.ints (K := K) (H := H2) ?_
      unfold sums iota
      rw [List.map_map, List.map_map]
      exact t
    subst ey
    exact k D H2 nD e2 hy
def sp_sums_of (K : Fg) : Sp := fun vs H Q _ => ∃ (v u : V) (n : Int) (rs : List (Int × Int)) (ms ls : List Int), vs = [v, u] ∧ Tp K H v (dWeb n rs ms) ∧ Tp K H u (dIs ls) ∧ Laid n rs ms ls ∧
  ∀ (p : Addr) (H' : Hp), Same H H' → SqT K H' p ((sums n rs ls).map V.int) → Q (.ref p) H'
theorem l_sums_of {K : Fg} : ∀ vs H Q E, sp_sums_of K vs H Q E → vs.length = 2 := by
  rintro vs H Q E ⟨v, u, n, rs, ms, ls, rfl, _⟩
  rfl
/-- sums_of, slots web, standing, found, one, other, load -/
def t_sums_of (K : Fg) : TS :=
  (tSeq (tAsg (tOp (rMulU K) (tLst (tCons (tC (.int 0)) tNil)) (tOp (rIx K) (tVar 0) (tC (.int 0)))) (gName 2)) (tSeq (tFor (RZ.iZipA K
    (tCons (tOp (rIx K) (tVar 0) (tC (.int 1))) (tCons (tVar 1) tNil))) (gTup K 2 (gCons (gTup K 2 (gCons (gName 3) (gCons (gName 4) gNil))) (gCons (gName 5) gNil))) (tSeq (tAsg (tOp (rAddU K) (tOp (rIx K) (tVar 2) (tVar 3)) (tVar
    5)) (gSub (tVar 2) (tVar 3) rSetL)) (tAsg (tOp (rAddU K) (tOp (rIx K) (tVar 2) (tVar 4)) (tVar 5)) (gSub (tVar 2) (tVar 4) rSetL)))) (tRet (tCB (rTupOf K) (tCons (tVar 2) tNil)))))
theorem p_sums_of {K : Fg} {vs : List V} {H : Hp} {Q : VK} {E : XK} (h : sp_sums_of K vs H Q E) : t_sums_of K { nx := fun _ H' => Q .non H', rt := Q } (start ["web", "standing", "found", "one", "other", "load"] vs) H := by
  obtain ⟨v, u, n, rs, ms, ls, rfl, tv, tu, L, k⟩ := h
  obtain ⟨wa, ar, xs, am, rfl, hw, hr, tr, hm, _, _⟩ := tv.web
  obtain ⟨sa, rfl, hs⟩ := tu.ints
  have n0 := L.n0
  have n1 := L.n1
  have r1 := L.r1
  have ll := L.ll
  have xl := pairs_len tr
  show t_sums_of K _ [some (.ref wa), some (.ref sa), none, none, none, none] H
  unfold t_sums_of
  walk_at "sx"
  refine n_of rfl fun c H1 nc e1 hc _ => ?_
  have hw1 := Same.sqT e1 hw
  walk_at "sx"
  refine o_repL hc n0 n1 (by decide) (n_new fun f H2 nf e2 hf _ => ?_)
  rw [rep_ints] at hf
  have e02 := Same.trans e1 e2
  have nf0 := Same.free e1 nf
  have hw2 := Same.sqT e02 hw
  walk_at "sx"
  refine w_zipT (Same.sqT e02 hr) (Same.sqT e02 hs) ?_
  refine f_go (walk_zipT rfl) (fun i σ H' => ∃ x3 x4 x5 : Option V, σ = [some (.ref wa), some (.ref sa), some (.ref f), x3, x4, x5] ∧ Same H H' ∧ H' f = some (.lst ((sums n (rs.take i) (ls.take i)).map V.int)))
    ⟨_, _, _, rfl, e02, by rw [List.take_zero, List.take_zero, sums_nil]; exact hf⟩ (fun i σ H' _ ⟨_, _, _, _, e, _⟩ => ⟨Same.sqT e hr, Same.sqT e hs⟩) ?_ ?_
  · rintro i x σ H3 H4 hi ⟨x3, x4, x5, rfl, e3, hf3⟩ ⟨T, y, z, rfl, nT, rfl, hy, hz⟩
    obtain ⟨p, b, hp, rfl, hb⟩ := tr.pair_at hy
    obtain ⟨l, hl, rfl⟩ := ints_get hz
    have o := L.ok p (List.mem_of_getElem? hp)
    have eT : Same H3 (upd H3 T (.tup [.ref b, .int l])) := Same.new nT
    have hT : SqT K (upd H3 T (.tup [.ref b, .int l])) T [.ref b, .int l] := SqT.of upd_same
    have hf4 := eT _ _ hf3
    have e4 := Same.trans e3 eT
    generalize upd H3 T (.tup [.ref b, .int l]) = H4 at eT hT hf4 e4 ⊢
    have il : i < rs.length := (List.getElem?_eq_some_iff.mp hp).1
    have tl : (rs.take i).length = (ls.take i).length := by rw [List.length_take, List.length_take]; omega
    refine s_gtup hT rfl ?_
    walk_at "sx"
    refine s_gtup (Same.sqT e4 hb) rfl ?_
    walk_at "sx"
    refine o_ixL (SqL.of hf4) (at_int o.1 (sums_get o.1 (by omega))) ?_
    walk_at "sx"
    refine o_setL hf4 (n := p.1.toNat) (by rw [List.length_map, sums_len]; exact ix_int o.1 (by omega)) fun H5 a5 => ?_
    have a51 := a5.1
    rw [ints_set] at a51
    walk_at "sx"
    refine o_ixL (SqL.of a51) (at_int (by omega) (by rw [List.getElem?_set_ne (by omega)]; exact sums_get (by omega) o.2.2)) ?_
    walk_at "sx"
    refine o_setL a51 (n := p.2.toNat) (by rw [List.length_map, List.length_set, sums_len]; exact ix_int (by omega) (by omega)) fun H6 a6 => ?_
    have a61 := a6.1
    rw [ints_set, sums_step tl l o.1 o.2.1 o.2.2, ← take_snoc hp, ← take_snoc hl] at a61
    exact ⟨_, _, _, rfl, a6.same (a5.same e4 nf0) nf0, a61⟩
  · rintro σ H3 ⟨x3, x4, x5, rfl, e3, hf3⟩
    rw [List.length_map, xl, ll, Nat.min_self, List.take_of_length_le (Nat.le_refl _), List.take_of_length_le (by omega)] at hf3
    walk_at "sx"
    refine o_tupL (SqL.of hf3) (n_new fun q H4 nq e4 hq _ => ?_)
    exact k q H4 (Same.trans e3 e4) (SqT.of hq)
def sp_unlike_roads (K : Fg) : Sp := fun vs H Q _ => ∃ (v u : V) (n : Int) (rs : List (Int × Int)) (ms ls : List Int), vs = [v, u] ∧ Tp K H v (dWeb n rs ms) ∧ Tp K H u (dIs ls) ∧ Laid n rs ms ls ∧
  ∀ (p : Addr) (H' : Hp), Same H H' → SqT K H' p ((unlR rs ls).map fun (i : Nat) => V.int (i : Int)) → Q (.ref p) H'
theorem l_unlike_roads {K : Fg} : ∀ vs H Q E, sp_unlike_roads K vs H Q E → vs.length = 2 := by
  rintro vs H Q E ⟨v, u, n, rs, ms, ls, rfl, _⟩
  rfl
/-- unlike_roads, slots web, standing, sums, road, one, other -/
def t_unlike_roads (K : Fg) : TS :=
  (tSeq (tAsg (tG (sp_sums_of K) E00 (tCons (tVar 0) (tCons (tVar 1) tNil))) (gName 2)) (tRet (tCB (rTupOf K) (tCons (tLc (iEnumU
    K (tCons (tOp (rIx K) (tVar 0) (tC (.int 1))) tNil)) (gTup K 2 (gCons (gName 3) (gCons (gTup K 2 (gCons (gName 4) (gCons (gName 5) gNil))) gNil))) (tTest (tOp (rNeU K) (tOp (rIx K) (tVar 2) (tVar 4)) (tOp (rIx K) (tVar 2) (tVar
    5)))) (tVar 3) [3, 4, 5]) tNil))))
theorem p_unlike_roads {K : Fg} {vs : List V} {H : Hp} {Q : VK} {E : XK} (h : sp_unlike_roads K vs H Q E) : t_unlike_roads K { nx := fun _ H' => Q .non H', rt := Q } (start ["web", "standing", "sums", "road", "one", "other"] vs) H := by
  obtain ⟨v, u, n, rs, ms, ls, rfl, tv, tu, L, k⟩ := h
  have tv0 := tv
  obtain ⟨wa, ar, xs, am, rfl, hw, hr, tr, hm, _, _⟩ := tv.web
  obtain ⟨sa, rfl, hs⟩ := tu.ints
  have n0 := L.n0
  have n1 := L.n1
  have r1 := L.r1
  have xl := pairs_len tr
  show t_unlike_roads K _ [some (.ref wa), some (.ref sa), none, none, none, none] H
  unfold t_unlike_roads
  walk_at "sx"
  refine ⟨_, _, n, rs, ms, ls, rfl, tv0, tu, L, fun q H1 e1 hq => ?_⟩
  have hw1 := Same.sqT e1 hw
  walk_at "sx"
  refine w_enumT ?_
  walk_at "sx"
  refine w_enT (Same.sqT e1 hr) ?_
  refine lc_data (K := K) walk_enumT (unl rs ls) (fun i => .int (i : Int)) (by rw [xl]; omega) (fun H' e => Same.sqT (Same.trans e1 e) hr) ?_ ?_
  · rintro i x H2 H3 hi e2 ⟨T, y, z, rfl, nT, rfl, hy, hz⟩ Yes No hyes hno
    cases hy
    obtain ⟨p, b, hp, rfl, hb⟩ := tr.pair_at hz
    have o := L.ok p (List.mem_of_getElem? hp)
    have eT : Same H2 (upd H2 T (.tup [.int (i : Int), .ref b])) := Same.new nT
    have hT : SqT K (upd H2 T (.tup [.int (i : Int), .ref b])) T [.int (i : Int), .ref b] := SqT.of upd_same
    have e4 := Same.trans e2 eT
    generalize upd H2 T (.tup [.int (i : Int), .ref b]) = H4 at eT hT e4 ⊢
    have hb4 := Same.sqT (Same.trans e1 e4) hb
    have hq4 := Same.sqT e4 hq
    have hu : unl rs ls i = !decide (sumP rs ls p.1 = sumP rs ls p.2) := by unfold unl; rw [hp]; rfl
    refine s_gtup hT rfl ?_
    walk_at "sx"
    refine s_gtup hb4 rfl ?_
    walk_at "sx"
    refine ⟨rfl, ?_⟩
    walk_at "sx"
    refine o_ixT hq4 (at_int o.1 (sums_get o.1 (by omega))) ?_
    walk_at "sx"
    refine o_ixT hq4 (at_int (by omega) (sums_get (by omega) o.2.2)) ?_
    walk_at "sx"
    rw [← hu]
    refine s_i1 _ (fun c => ?_) (fun c => ?_)
    · walk_at "sx"
      exact hyes c _ _ eT (.int _)
    · exact hno c _ eT
  · intro D ys H2 nD e2 hy t _
    rw [picks_filter, xl] at t
    have ey : ys = ((unlR rs ls).map fun (i : Nat) => (i : Int)).map V.int := by
      refine Tps.ints (K := K) (H := H2) ?_
      rw [List.map_map]
      exact t
    rw [List.map_map] at ey
    subst ey
    walk_at "sx"
    refine o_tupL (SqL.of hy) (n_new fun q H4 nq e4 hq _ => ?_)
    exact k q H4 (Same.trans (Same.trans e1 e2) e4) (SqT.of hq)
end UW
namespace UW
open PySem PySem.Spec PyProof.Rows L2
/-- one step -/
local macro_rules | `(tactic| walk_at "s1") => `(tactic| first
  | with_reducible refine s_seq ?_
  | with_reducible refine s_for ?_
  | with_reducible refine s_lc ?_
  | with_reducible refine w_seq ?_
  | with_reducible refine w_rng1 ?_
  | with_reducible refine w_rng2 ?_
  | with_reducible refine w_zip ?_
  | with_reducible refine s_asg ?_
  | with_reducible refine s_gname ?_
  | with_reducible refine s_ret ?_
  | with_reducible refine s_drop ?_
  | with_reducible refine s_next ?_
  | with_reducible refine s_ifs ?_
  | with_reducible refine s_var (by with_unfolding_all rfl) ?_
  | with_reducible refine s_c ?_
  | with_reducible refine s_op ?_
  | with_reducible refine s_un ?_
  | with_reducible refine s_neg ?_
  | with_reducible refine s_test ?_
  | with_reducible refine s_yes ?_
  | with_reducible refine s_tB ?_
  | with_reducible refine s_bl ?_
  | with_reducible refine s_not ?_
  | with_reducible refine s_and ?_
  | with_reducible refine s_or ?_
  | with_reducible refine s_andV ?_
  | with_reducible refine s_orV ?_
  | with_reducible refine s_notV ?_
  | with_reducible refine s_chain ?_
  | with_reducible refine s_nil ?_
  | with_reducible refine s_cons ?_
  | with_reducible refine s_tup ?_
  | with_reducible refine s_lst ?_
  | with_reducible refine s_call ?_
  | with_reducible refine s_cb ?_
  | with_reducible refine s_part ?_
  | with_reducible refine s_nopart ?_
  | with_reducible refine s_ii ?_
  | with_reducible refine s_sl ?_
  | with_reducible refine s_par ?_
  | with_reducible refine s_par2 ?_
  | with_reducible refine s_bm ?_
  | with_reducible refine s_gsub ?_
  | with_reducible refine s_gcons ?_
  | with_reducible refine s_gnil ?_
  | with_reducible refine o_addI ?_
  | with_reducible refine o_sub ?_
  | with_reducible refine o_eqI ?_
  | with_reducible refine o_neI ?_
  | with_reducible refine o_ltI ?_
  | with_reducible refine o_le ?_
  | with_reducible refine o_gt ?_
  | with_reducible refine o_ge ?_
  | with_reducible refine o_int ?_
  | with_reducible refine o_intB ?_
  | with_reducible refine o_abs ?_
  | with_reducible refine o_max2 ?_
  | with_reducible refine o_min2 ?_
  | with_reducible refine o_isN ?_
  | with_reducible refine o_notN ?_
  | with_reducible refine o_mulI (by first | exact Or.inl ⟨by decide, by decide⟩ | exact Or.inr ⟨by decide, by decide⟩ | (first | (refine Or.inl ⟨?_, ?_⟩ <;> omega) | (refine Or.inr ⟨?_, ?_⟩ <;> omega))) ?_
  | with_reducible refine o_mod (by first | decide | omega) ?_
  | with_reducible refine o_div (by first | decide | omega) (by first | decide | omega) ?_
  | with_reducible refine s_blx ?_
  | with_reducible refine o_ixL (SqL.of (by assumption)) (by first | with_unfolding_all rfl | with_unfolding_all exact at_zero _ _) ?_
  | with_reducible refine o_ixT (by assumption) (by first | with_unfolding_all rfl | with_unfolding_all exact at_zero _ _) ?_
  | with_reducible refine o_tyL (by assumption) ?_
  | with_reducible refine iteT ?_
  | with_reducible refine iteF ?_)
local macro_rules | `(tactic| walk_at "sx") => `(tactic| repeat (walk_at "s1"))
theorem roomy_eq {ms ls : List Int} {i : Nat} {l m : Int} (hl : ls[i]? = some l) (hm : ms[i]? = some m) (b : Int) : roomy ms ls i b = (decide (0 ≤ l + b) && decide (l + b ≤ m)) := by unfold roomy; rw [nth_getD hl, nth_getD hm]
end UW
namespace UW
open PySem PySem.Spec PyProof.Rows L2
/-- what the written part says of the base -/
structure UeC (K : Fg) (CU : Addr) : Prop where
  sg : PySem.W.specialIn K (.ref CU) "__getattribute__" = some (some (.builtin "type.__getattribute__"))
  ty : PySem.W.typeIn K (.ref CU) = some (.type "type")
  rd : PySem.W.readsIn K CU (.type "type") = true
  fi : PySem.W.findCls K (.ref CU) (.type "type") "__init__" = some (.val (.builtin "ValueError.__init__"))
section
variable {X : Cx} {e : Expr} {es : List Expr} {ta : TA} {x : Str} {p1 p2 pos : Pos} {CU C fI : Addr}
theorem pe_ueinit {pl : Sem Bool} (hg : Gl X x) (hm : X.mg x = some (.ref CU)) (T : UeC X.K CU) (ha : PA X (e :: es) ta) (hdb : (x == ("__debug__" : Str)) = false := by decide)
    (hc : eval (.Call (.Attribute (.Name x p1) "__init__" p2) (e :: es) [] pos) X.env = (do
      let o ← eval (.Name x p1) X.env
      standAt p2.atName
      let (f, fs) ← holding [o] (getMethod o "__init__" pl)
      callWith pos f fs (backTo pos (starEach (e :: es) X.env)) (backToKw pos (keywordEach [] X.env))) := by rfl)
    (he : starEach (e :: es) X.env = (false, eval e X.env) :: starEach es X.env := by rfl) (hp : (backTo pos (starEach es X.env)).any (·.1) = false := by rfl) :
    PE X (.Call (.Attribute (.Name x p1) "__init__" p2) (e :: es) [] pos) (tVeI X.K ta) := by
  refine ⟨fun pins s σ H Q I h => ?_⟩
  refine PySem.W.methodCall_KW (ld_glob I hg hm ?_ hdb) hc
  obtain ⟨m, fr⟩ := I.fr
  refine PySem.W.method_of_cls fr I.ok.mod.kin T.sg (PySem.W.cls_val fr I.ok.mod.kin T.ty T.rd T.fi (by decide +kernel) ?_)
  show wpAny _ _ (callWith pos (.builtin "ValueError.__init__") [] (backTo pos (starEach (e :: es) X.env)) []) _ _ _
  refine PyProof.Rows.callWith_method1 (thn (ha.run pos pins _ σ H _ (I.tok _) h) fun us t ⟨vs, H1, J, rv, a, D, ws, ev, hl, O, ea, q⟩ => ?_) he hp
  subst ev
  cases rv with
  | @cons _ u _ ur ra rw' =>
    obtain rfl : u = Value.ref a := ra
    have len := Paired.length rw'
    have fit : ur.length ≤ sizeLine := by
      rw [← len, sizeLine_eq]
      exact Nat.le_trans hl (by decide)
    exact oinit_ok O J ea fit fun t' J' => ⟨.non, H1, J', rfl, q⟩
end
section
variable {H : Hp} {K : Fg} {σ : L2.St} {D : Ends}
end
end UW
namespace UW
open PySem PySem.Spec PyProof.Rows L2
/-- a key as data -/
def kD : L2.Key → PyData
  | .inl i => .int i
  | .inr s => .str s
mutual
/-- G holds of the addresses of what might be changed -/
inductive Od (K : Fg) (G : Addr → Prop) (H : Hp) : V → PyData → Prop
  | non : Od K G H .non .none
  | bl (b : Bool) : Od K G H (.bl b) (.bool b)
  | int (i : Int) : Od K G H (.int i) (.int i)
  | str (x : Str) : Od K G H (.str x) (.str x)
  | lst {a : Addr} {xs : List V} {ds : List PyData} : G a → H a = some (.lst xs) → Ods K G H xs ds → Od K G H (.ref a) (.list ds)
  | tup {a : Addr} {xs : List V} {ds : List PyData} : SqT K H a xs → Ods K G H xs ds → Od K G H (.ref a) (.tuple ds)
  | dic {a : Addr} : G a → H a = some (.dK []) → Od K G H (.ref a) (.dict [])
  | dic1 {a : Addr} {j : Int} {v : V} {d : PyData} : G a → H a = some (.dK [(.inl j, v)]) → Od K G H v d → Od K G H (.ref a) (.dict [(.int j, d)])
  | dk {a : Addr} {ls : List (L2.Key × V)} {kvs : List (PyData × PyData)} : G a → H a = some (.dK ls) → Odk K G H ls kvs → Od K G H (.ref a) (.dict kvs)
  | dt {a : Addr} {ls : List (List L2.Key × V)} {kvs : List (PyData × PyData)} : G a → H a = some (.dT ls) → Odt K G H ls kvs → Od K G H (.ref a) (.dict kvs)
inductive Ods (K : Fg) (G : Addr → Prop) (H : Hp) : List V → List PyData → Prop
  | nil : Ods K G H [] []
  | cons {v : V} {vs : List V} {d : PyData} {ds : List PyData} : Od K G H v d → Ods K G H vs ds → Ods K G H (v :: vs) (d :: ds)
inductive Odk (K : Fg) (G : Addr → Prop) (H : Hp) : List (L2.Key × V) → List (PyData × PyData) → Prop
  | nil : Odk K G H [] []
  | cons {k : L2.Key} {v : V} {d : PyData} {ls : List (L2.Key × V)} {kvs : List (PyData × PyData)} : Od K G H v d → Odk K G H ls kvs → Odk K G H ((k, v) :: ls) ((kD k, d) :: kvs)
inductive Odt (K : Fg) (G : Addr → Prop) (H : Hp) : List (List L2.Key × V) → List (PyData × PyData) → Prop
  | nil : Odt K G H [] []
  | cons {k : List L2.Key} {v : V} {d : PyData} {ls : List (List L2.Key × V)} {kvs : List (PyData × PyData)} : Od K G H v d → Odt K G H ls kvs → Odt K G H ((k, v) :: ls) ((.tuple (k.map kD), d) :: kvs)
end
section
variable {K : Fg} {G G' : Addr → Prop} {H H' : Hp}
mutual
theorem Od.mv (t : Tm H H') (g : ∀ a o, G a → H a = some o → G' a ∧ H' a = some o) : ∀ {v : V} {d : PyData}, Od K G H v d → Od K G' H' v d
  | _, _, .non => .non
  | _, _, .bl b => .bl b
  | _, _, .int i => .int i
  | _, _, .str x => .str x
  | _, _, .lst ga h hs => .lst (g _ _ ga h).1 (g _ _ ga h).2 (Ods.mv t g hs)
  | _, _, .tup h hs => .tup (t.sq h) (Ods.mv t g hs)
  | _, _, .dic ga h => .dic (g _ _ ga h).1 (g _ _ ga h).2
  | _, _, .dic1 ga h hv => .dic1 (g _ _ ga h).1 (g _ _ ga h).2 (Od.mv t g hv)
  | _, _, .dk ga h hs => .dk (g _ _ ga h).1 (g _ _ ga h).2 (Odk.mv t g hs)
  | _, _, .dt ga h hs => .dt (g _ _ ga h).1 (g _ _ ga h).2 (Odt.mv t g hs)
theorem Ods.mv (t : Tm H H') (g : ∀ a o, G a → H a = some o → G' a ∧ H' a = some o) : ∀ {vs : List V} {ds : List PyData}, Ods K G H vs ds → Ods K G' H' vs ds
  | _, _, .nil => .nil
  | _, _, .cons h hs => .cons (Od.mv t g h) (Ods.mv t g hs)
theorem Odk.mv (t : Tm H H') (g : ∀ a o, G a → H a = some o → G' a ∧ H' a = some o) : ∀ {ls : List (L2.Key × V)} {kvs : List (PyData × PyData)}, Odk K G H ls kvs → Odk K G' H' ls kvs
  | _, _, .nil => .nil
  | _, _, .cons h hs => .cons (Od.mv t g h) (Odk.mv t g hs)
theorem Odt.mv (t : Tm H H') (g : ∀ a o, G a → H a = some o → G' a ∧ H' a = some o) : ∀ {ls : List (List L2.Key × V)} {kvs : List (PyData × PyData)}, Odt K G H ls kvs → Odt K G' H' ls kvs
  | _, _, .nil => .nil
  | _, _, .cons h hs => .cons (Od.mv t g h) (Odt.mv t g hs)
end
theorem Od.same (e : Same H H') {v : V} {d : PyData} (h : Od K G H v d) : Od K G H' v d := h.mv (Tm.same e) fun a o ga q => ⟨ga, e a o q⟩
theorem Ods.same (e : Same H H') {v : List V} {d : List PyData} (h : Ods K G H v d) : Ods K G H' v d := h.mv (Tm.same e) fun a o ga q => ⟨ga, e a o q⟩
mutual
theorem Tp.od : ∀ {v : V} {d : PyData}, Tp K H v d → Od K G H v d
  | _, _, .non => .non
  | _, _, .bl b => .bl b
  | _, _, .int i => .int i
  | _, _, .str x => .str x
  | _, _, .tup h hs => .tup h (Tps.ods hs)
theorem Tps.ods : ∀ {vs : List V} {ds : List PyData}, Tps K H vs ds → Ods K G H vs ds
  | _, _, .nil => .nil
  | _, _, .cons h hs => .cons (Tp.od h) (Tps.ods hs)
end
theorem Ods.length : ∀ {xs : List V} {ds : List PyData}, Ods K G H xs ds → xs.length = ds.length
  | _, _, .nil => rfl
  | _, _, .cons _ h => by rw [List.length_cons, List.length_cons, Ods.length h]
theorem Ods.get : ∀ {xs : List V} {ds : List PyData} {i : Nat} {x : V}, Ods K G H xs ds → xs[i]? = some x → ∃ d, ds[i]? = some d ∧ Od K G H x d
  | _, _, _, _, .nil, e => by simp at e
  | _, _, 0, _, .cons h _, e => by
    simp at e
    subst e
    exact ⟨_, rfl, h⟩
  | _, _, i + 1, x, .cons _ t, e => by
    obtain ⟨d, h1, h2⟩ := Ods.get (i := i) t (by simpa using e)
    exact ⟨d, by simpa using h1, h2⟩
theorem Ods.nth : ∀ {xs : List V} {ds : List PyData} {i : Nat} {d : PyData}, Ods K G H xs ds → ds[i]? = some d → ∃ x, xs[i]? = some x ∧ Od K G H x d
  | _, _, _, _, .nil, e => by simp at e
  | _, _, 0, _, .cons h _, e => by
    simp at e
    subst e
    exact ⟨_, rfl, h⟩
  | _, _, i + 1, x, .cons _ t, e => by
    obtain ⟨d, h1, h2⟩ := Ods.nth (i := i) t (by simpa using e)
    exact ⟨d, by simpa using h1, h2⟩
theorem Ods.append : ∀ {xs ys : List V} {ds es : List PyData}, Ods K G H xs ds → Ods K G H ys es → Ods K G H (xs ++ ys) (ds ++ es)
  | _, _, _, _, .nil, s => s
  | _, _, _, _, .cons r t, s => .cons r (Ods.append t s)
/-- the kind of data -/
def tyD : PyData → Value
  | .none => .type "NoneType"
  | .bool _ => .type "bool"
  | .int _ => .type "int"
  | .str _ => .type "str"
  | .list _ => .type "list"
  | .tuple _ => .type "tuple"
  | .dict _ => .type "dict"
theorem Od.ty {v : V} {d : PyData} (h : Od K G H v d) : TyX K H v (tyD d) := by
  cases h with
  | non => exact .base .non
  | bl b => exact .base (.bl b)
  | int i => exact .base (.int i)
  | str x => exact .base (.str x)
  | lst g h hs => exact .base (.lst h)
  | tup h hs =>
    exact .base (.tup h)
  | dic g h => exact .base (.dK h)
  | dic1 g h _ => exact .base (.dK h)
  | dk g h _ => exact .base (.dK h)
  | dt g h _ => exact .base (.dT h)
end
section
variable {X : Cx} {pins : List (Addr × Obj)} {σ : L2.St} {G : Addr → Prop} {H : Hp} {s : Shared}
/-- the place of the modules' dict is taken ahead of all -/
def Smb (h : Heap) : Prop := ∃ o, h.get? sysModules = some o
theorem smb_ne {a : Addr} {o : HO} (I : Inv X pins σ H s) (hs : Smb X.base) (h : H a = some o) : a ≠ sysModules := by
  obtain ⟨m, e⟩ := hs
  exact ne_of_none h (I.bs _ _ e).2
theorem keys_read {h : Heap} : ∀ {ks : List L2.Key} {us : List Value}, Vals (ks.map kV) us → ReadsAll h us (ks.map kD) []
  | [], _, .nil => .nil
  | .inl i :: ks, _, .cons r t => by
    obtain ⟨t', rfl⟩ := r
    exact ReadsAll.cons (as := []) (bs := []) (Reads.int i t') (keys_read t)
  | .inr x :: ks, _, .cons r t => by
    obtain ⟨t', rfl⟩ := r
    exact ReadsAll.cons (as := []) (bs := []) (Reads.str x t') (keys_read t)
theorem key_read {h : Heap} {k : L2.Key} {v : Value} (e : keyIs k v = true) : Reads h v (kD k) [] := by
  rcases keyIs_shape e with ⟨i, t, rfl, rfl⟩ | ⟨x, t, rfl, rfl⟩
  · exact .int i t
  · exact .str x t
mutual
theorem Od.reads (I : Inv X pins σ H s) (g1 : Smb X.base) : ∀ {d : PyData} {v : V} {u : Value}, Od X.K G H v d → RelV v u → ∃ as, Reads s.heap u d as ∧ sysModules ∉ as
  | _, _, _, .non, r => by
    cases r
    exact ⟨_, .none, by simp⟩
  | _, _, _, .bl b, r => by
    cases r
    exact ⟨_, .bool b, by simp⟩
  | _, _, _, .int i, r => by
    obtain ⟨t, rfl⟩ := r
    exact ⟨_, .int i t, by simp⟩
  | _, _, _, .str x, r => by
    obtain ⟨t, rfl⟩ := r
    exact ⟨_, .str x t, by simp⟩
  | _, _, _, .lst ga h hs, r => by
    cases r
    obtain ⟨its, rv, ⟨o, n, ho, hc, _, hd⟩, _⟩ := I.list (SqL.of h)
    obtain ⟨as, hr, nn⟩ := Ods.reads I g1 hs rv
    exact ⟨_, .list ho hc hd hr, fun m => (List.mem_cons.mp m).elim (fun e => smb_ne I g1 h e.symm) nn⟩
  | _, _, _, .tup h hs, r => by
    cases r
    obtain ⟨its, rv, ⟨o, ho, hc, n, hd⟩, _⟩ := I.tuple h.up
    obtain ⟨as, hr, nn⟩ := Ods.reads I g1 hs rv
    exact ⟨_, .tuple ho hc hd hr, nn⟩
  | _, _, _, .dic (a := a) ga h, r => by
    cases r
    obtain ⟨_, _, vs, kv, o, es, ep, ho, hx, hd, hs⟩ := dk_of I.hok h
    cases kv
    have e0 : es.toList = [] := by
      have h0 := hs.2.1
      generalize es.toList = l at h0
      cases h0
      rfl
    exact ⟨_, .dict (kvs := []) (as := []) (bs := []) ho hx.1 hd (by rw [e0]; exact .nil) (by rw [e0]; exact .nil), fun m => smb_ne I g1 h (by simpa using m : sysModules = _).symm⟩
  | _, _, _, .dic1 (a := a) (j := j) ga h hv, r => by
    cases r
    obtain ⟨_, _, vs, kv, o, es, ep, ho, hx, hd, hs⟩ := dk_of I.hok h
    obtain ⟨_, hp, _⟩ := hs
    cases kv with
    | cons k1 k2 =>
      cases k2
      generalize hl : es.toList = l at hp
      cases hp with
      | cons a1 a2 a3 =>
        cases a3
        obtain ⟨e1, e2⟩ := k1
        rw [← a2] at e2
        obtain ⟨bs, q2, n2⟩ := Od.reads I g1 hv e2
        rw [← e1] at a1
        obtain ⟨t, e3⟩ := Value.isInt_shape a1
        refine ⟨_, .dict (kvs := [(.int j, _)]) ho hx.1 hd (by rw [hl]; exact .cons (by show Reads s.heap (DictEntry.key _) (.int j) _; rw [e3]; exact .int j t) .nil) (by rw [hl]; exact .cons q2 .nil), fun m => ?_⟩
        simp only [List.append_nil, List.nil_append, List.cons_append, List.mem_cons] at m
        exact m.elim (fun e => smb_ne I g1 h e.symm) n2
  | _, _, _, .dk (a := a) ga h hv, r => by
    cases r
    obtain ⟨_, _, vs, kv, o, es, ep, ho, hx, hd, hs⟩ := dk_of I.hok h
    obtain ⟨_, hp, _⟩ := hs
    obtain ⟨as, bs, q1, q2, n1, n2⟩ := Odk.reads I g1 hv kv hp
    refine ⟨_, .dict ho hx.1 hd q1 q2, fun m => ?_⟩
    simp only [List.cons_append, List.mem_cons, List.mem_append] at m
    exact m.elim (fun e => smb_ne I g1 h e.symm) fun m => m.elim n1 n2
  | _, _, _, .dt (a := a) ga h hv, r => by
    cases r
    obtain ⟨_, _, xs, kt, o, es, ep, ho, hx, hd, he, _, _⟩ := dt_of I.hok h
    obtain ⟨as, bs, q1, q2, n1, n2⟩ := Odt.reads I g1 hv kt
    refine ⟨_, .dict ho hx.1 hd (as := as) (bs := bs) (by rw [he, List.map_map]; exact q1) (by rw [he, List.map_map]; exact q2), fun m => ?_⟩
    simp only [List.cons_append, List.mem_cons, List.mem_append] at m
    exact m.elim (fun e => smb_ne I g1 h e.symm) fun m => m.elim n1 n2
theorem Ods.reads (I : Inv X pins σ H s) (g1 : Smb X.base) : ∀ {ds : List PyData} {vs : List V} {us : List Value}, Ods X.K G H vs ds → Vals vs us → ∃ as, ReadsAll s.heap us ds as ∧ sysModules ∉ as
  | _, _, _, .nil, r => by
    cases r
    exact ⟨_, .nil, by simp⟩
  | _, _, _, .cons h hs, r => by
    cases r with
    | cons r1 r2 =>
      obtain ⟨as, q1, n1⟩ := Od.reads I g1 h r1
      obtain ⟨bs, q2, n2⟩ := Ods.reads I g1 hs r2
      exact ⟨_, .cons q1 q2, fun m => (List.mem_append.mp m).elim n1 n2⟩
theorem Odk.reads (I : Inv X pins σ H s) (g1 : Smb X.base) : ∀ {kvs : List (PyData × PyData)} {ls : List (L2.Key × V)} {vs : List (L2.Key × Value)} {es : List DictEntry}, Odk X.K G H ls kvs → L2.KV ls vs → Pairs (mixKind X.prog X.w) es vs →
    ∃ as bs, ReadsAll s.heap (es.map (·.key)) (kvs.map (·.1)) as ∧ ReadsAll s.heap (es.map (·.val)) (kvs.map (·.2)) bs ∧ sysModules ∉ as ∧ sysModules ∉ bs
  | _, _, _, _, .nil, kv, hp => by
    cases kv
    cases hp
    exact ⟨[], [], .nil, .nil, by simp, by simp⟩
  | _, _, _, _, .cons (k := k) h hs, kv, hp => by
    cases kv with
    | cons k1 k2 =>
      cases hp with
      | cons a1 a2 a3 =>
        obtain ⟨e1, e2⟩ := k1
        rw [← a2] at e2
        rw [← e1] at a1
        obtain ⟨bs, q2, n2⟩ := Od.reads I g1 h e2
        obtain ⟨as', bs', p1, p2, m1, m2⟩ := Odk.reads I g1 hs k2 a3
        exact ⟨[] ++ as', bs ++ bs', .cons (key_read a1) p1, .cons q2 p2, m1, fun m => (List.mem_append.mp m).elim n2 m2⟩
theorem Odt.reads (I : Inv X pins σ H s) (g1 : Smb X.base) : ∀ {kvs : List (PyData × PyData)} {ls : List (List L2.Key × V)} {xs : List (List L2.Key × Addr × Value)}, Odt X.K G H ls kvs → KT H ls xs →
    ∃ as bs, ReadsAll s.heap (xs.map ((·.key) ∘ entryOfKey (tupleKind (mixKind X.prog X.w)))) (kvs.map (·.1)) as ∧ ReadsAll s.heap (xs.map ((·.val) ∘ entryOfKey (tupleKind (mixKind X.prog X.w)))) (kvs.map (·.2)) bs ∧ sysModules ∉ as ∧ sysModules ∉ bs
  | _, _, _, .nil, kt => by
    cases kt
    exact ⟨[], [], .nil, .nil, by simp, by simp⟩
  | _, _, _, .cons (k := k) h hs, kt => by
    cases kt with
    | cons k1 k2 =>
      obtain ⟨e1, e2, e3⟩ := k1
      obtain ⟨bs, q2, n2⟩ := Od.reads I g1 h e3
      obtain ⟨as', bs', p1, p2, m1, m2⟩ := Odt.reads I g1 hs k2
      obtain ⟨its, rv, ⟨o, ho, hc, n, hd⟩, _⟩ := I.tuple (SqT.of (K := X.K) e2).up
      exact ⟨[] ++ as', bs ++ bs', .cons (.tuple ho hc hd (keys_read rv)) p1, .cons q2 p2, m1, fun m => (List.mem_append.mp m).elim n2 m2⟩
end
/-- repr(x), x odd data -/
def rReprO (K : Fg) : List V → Hp → VK → Prop := fun xs H Q => ∃ (G : Addr → Prop) (v : V) (d : PyData), xs = [v] ∧ Od K G H v d ∧ d.showable = true ∧ d.depth ≤ 60 ∧ d.shown.length ≤ sizeLine ∧ Q (.str d.shown) H
theorem call_reprO (hG : X.A.guards = some []) (hu : X.A.units + 64 < cLine) (g1 : Smb X.base) : CallR X (.builtin "repr") (rReprO X.K) := by
  intro pins s σ H xs us Q I r h
  obtain ⟨G, v, d, rfl, hd, h1, h3, h4, q⟩ := h
  cases r with
  | cons ra rn =>
    rename_i u ur
    cases rn
    obtain ⟨as, rd, nn⟩ := hd.reads I g1 ra
    have fin : ∀ {h' : Heap} {t : Tok} {tk : Nat}, (∀ b o, s.heap.get? b = some o → h'.get? b = some o) → EP X pins σ Q (.str d.shown t) { s with heap := h', toks := tk } := fun hk => ⟨.str d.shown, H, I.kept hk, ⟨_, rfl⟩, q⟩
    cases hd with
    | non =>
      cases ra
      exact PySem.P.repr_of_none ⟨.str _, H, I.tok _, ⟨_, rfl⟩, by rw [PyData.shown_none] at q; exact q⟩
    | bl b =>
      cases ra
      exact PySem.P.repr_of_bool ⟨.str _, H, I.tok _, ⟨_, rfl⟩, by rw [PyData.shown_bool] at q; exact q⟩
    | int i =>
      obtain ⟨t, rfl⟩ := ra
      exact PySem.P.repr_of_int (by simpa [PyData.showable] using h1) ⟨.str _, H, I.tok _, ⟨_, rfl⟩, by rw [PyData.shown_int] at q; exact q⟩
    | str x =>
      obtain ⟨t, rfl⟩ := ra
      rw [PyData.shown_str] at h4 q
      exact PySem.P.repr_of_str ⟨.str _, H, I.tok _, ⟨_, rfl⟩, q⟩ h4
    | lst ga h hs =>
      cases ra
      exact repr_of_reads' rd h1 (fun _ => nn) hG (by omega) (fun _ _ e => e) (fun _ _ _ hk => fin hk) h4
    | tup h hs =>
      cases ra
      exact repr_of_reads' rd h1 (fun _ => nn) hG (by omega) (fun _ _ e => e) (fun _ _ _ hk => fin hk) h4
    | dic ga h =>
      cases ra
      exact repr_of_reads' rd h1 (fun _ => nn) hG (by omega) (fun _ _ e => e) (fun _ _ _ hk => fin hk) h4
    | dic1 ga h hv =>
      cases ra
      exact repr_of_reads' rd h1 (fun _ => nn) hG (by omega) (fun _ _ e => e) (fun _ _ _ hk => fin hk) h4
    | dk ga h hv =>
      cases ra
      exact repr_of_reads' rd h1 (fun _ => nn) hG (by omega) (fun _ _ e => e) (fun _ _ _ hk => fin hk) h4
    | dt ga h hv =>
      cases ra
      exact repr_of_reads' rd h1 (fun _ => nn) hG (by omega) (fun _ _ e => e) (fun _ _ _ hk => fin hk) h4
/-- repr, in either way -/
def rReprU (K : Fg) : List V → Hp → VK → Prop := fun xs H Q => rRepr K xs H Q ∨ rReprO K xs H Q
theorem call_reprU (hG : X.A.guards = some []) (hu : X.A.units + 64 < cLine) (g1 : Smb X.base) : CallR X (.builtin "repr") (rReprU X.K) := by
  intro pins s σ H xs us Q I r h
  rcases h with h | h
  · exact call_repr hG hu pins s σ H xs us Q I r h
  · exact call_reprO hG hu g1 pins s σ H xs us Q I r h
end
/-- what is told of an own class C of errors, under the class D -/
structure ExT (K : Fg) (C D : Addr) : Prop where
  o : OexC K C
  x : ExcC K C
  e : PySem.W.exmOne K (.ref C) (.ref C) = some true
  q : PySem.W.kitOne K (.ref C) (.ref D) = some true
/-- raise -/
def tRaise (t : L2.St → Hp → XK → Prop) (W : WX) : TS := fun _ σ H => t σ H fun cls d H' => W cls d σ H'
/-- the classes of errors -/
structure Cl where
  (UnevenError BadWeb BadStanding BadText Unfit NotJoined TooMany NoName Taken BadBatch Rejected TooManyEdits NothingToUndo NothingToRedo NoVersion BadLog : Addr)
end UW
namespace UW
open PySem PySem.Spec PyProof.Rows L2
theorem law_goM {P : Program} {w : World} {K : Fg} {mg mb : Str → Option Value} {k : Nat} {fa a : Addr} {fd : FuncData} {x : Str} {sp : Sp} {s : Shared} {vs : List Value} {H : Hp}
    (KX : K.In s.heap) (hns : s.heap.Ns mainGlobals mg) (hb : s.heap.Ns builtinsNs mb) (hbb : ∀ x : Str, x ≠ "__name__" → mb x = bootBuiltins x) (hlim : s.heap.NoLimit) (hg : s.gens = #[])
    (ha : s.heap.get? a = some { cls := .type "list", data := .seq vs.toArray }) (hr : Room k callerA) (sm : ∃ mm, s.heap.Ns sysModules mm)
    (F : ∀ base : Heap, K.In base → base.Ns mainGlobals mg → Smb base → FnG P w K mg base k fa fd [x] sp) (hbind : ∀ (s : Shared) (u : Value), BindsTo s fd ⟨[u], []⟩ [(x, u)])
    (hO : Only H) (hA : ∀ b, H b ≠ none → b = a) (hK : H a ≠ none → K.lookup a = none) (hok : HOk P w H s.heap)
    (hsp : sp [.ref a] H (fun v _ => v = .bl true) fun _ _ _ => False) :
    codeAny (model P w) callerA (.call (.ref fa) ⟨[.ref a], []⟩) (fun r s' => r = .ok (.ret (.bool true)) ∧ OldK s.heap s'.heap ∧ s'.os = s.os ∧ AllBare s'.gens) s := by
  have isA : ∀ {b : Addr} {u : HO}, H b = some u → b = a := fun {b u} q => hA b (by rw [q]; intro z; cases z)
  have seen : ∀ {b : Addr} {o : Obj}, s.heap.get? b = some o → H b = none → (hidT s.heap H).get? b = some o := fun e n => hidT_get e n
  have dfree : ∀ {b : Addr} {o : Obj} {es : Array DictEntry} {ep : Nat}, s.heap.get? b = some o → o.data = .dict es ep → H b = none := by
    intro b o es ep e d
    cases q : H b with
    | none => rfl
    | some u =>
      have z := isA q
      rw [z, ha] at e
      cases e
      cases d
  have ns' : ∀ {b : Addr} {m : Str → Option Value}, s.heap.Ns b m → (hidT s.heap H).Ns b m := by
    rintro b m ⟨o, es, ep, e, d, r⟩
    exact ⟨o, es, ep, seen e (dfree e d), d, r⟩
  have kfree : ∀ {b : Addr} {o : Obj}, K.lookup b = some o → H b = none := by
    intro b o e
    cases q : H b with
    | none => rfl
    | some u =>
      have z := isA q
      subst z
      have y := hK (by rw [q]; intro z; cases z)
      rw [y] at e
      cases e
  have kin : K.In (hidT s.heap H) := fun b o e => seen (KX b o e) (kfree e)
  obtain ⟨mc, l1, l2⟩ := hlim
  have hM : Mod K mg (hidT s.heap H) := ⟨kin, ns' hns, ⟨mb, ns' hb, hbb⟩, ⟨mc, ns' l1, l2⟩⟩
  have sB : Smb (hidT s.heap H) := by
    obtain ⟨mm, z⟩ := sm
    obtain ⟨o, _, _, e, _⟩ := ns' z
    exact ⟨o, e⟩
  have nof : ∀ b : Addr, b ∉ frs [] := fun b z => by cases z
  have e0 : Env0 P w K mg (hidT s.heap H) callerA [] s H := ⟨rfl, hM, fun b o e => of_hidT e, Nat.le_of_eq (hidT_size _ _), trivial, fun b z => absurd z (nof b), hok, .of_eq hg⟩
  refine codeAny_mono ((F _ kin (ns' hns) sB).go callerA [] s H ⟨[.ref a], []⟩ [.ref a] [.ref a] _ _ rfl hr e0 (hbind s (.ref a)) (.cons rfl .nil) hsp) ?_
  intro r s' h
  cases r with
  | error e =>
    obtain ⟨_, _, _, _, _, _, _, _, _, _, _, _, z⟩ := h
    exact (z : False).elim
  | ok fl =>
    cases fl with
    | next => exact False.elim h
    | brk => exact False.elim h
    | cont => exact False.elim h
    | ret u =>
      obtain ⟨v, H', os, bare, un, hok', rv, q⟩ := h
      have q' : v = .bl true := q
      subst q'
      obtain rfl : u = Value.bool true := rv
      refine ⟨rfl, OldK.of_keep ?_, os, bare⟩
      intro b o e
      rcases hO b with z | ⟨ob, xs, z⟩
      · exact un.keep b o e z (nof b) (by simp)
      · obtain ⟨e1, _⟩ := hok b _ z
        obtain ⟨e2, _⟩ := hok' b _ (un.frzs b ob _ z)
        rw [e] at e1
        cases e1
        exact e2
theorem law_anyM {P : Program} {w : World} {K : Fg} {mg mb : Str → Option Value} {k : Nat} {fa a : Addr} {fd : FuncData} {x : Str} {sp : Sp} {s : Shared} {vs : List Value} {ns : List Int}
    (KX : K.In s.heap) (hns : s.heap.Ns mainGlobals mg) (hb : s.heap.Ns builtinsNs mb) (hbb : ∀ x : Str, x ≠ "__name__" → mb x = bootBuiltins x) (hlim : s.heap.NoLimit) (hg : s.gens = #[])
    (ha : s.heap.get? a = some { cls := .type "list", data := .seq vs.toArray }) (hi : IntsAre vs ns) (hl : ns.length ≤ sizeLine) (hr : Room k callerA) (sm : ∃ mm, s.heap.Ns sysModules mm)
    (F : ∀ base : Heap, K.In base → base.Ns mainGlobals mg → Smb base → FnG P w K mg base k fa fd [x] sp) (hbind : ∀ (s : Shared) (u : Value), BindsTo s fd ⟨[u], []⟩ [(x, u)])
    (hsp : ∀ H : Hp, Only H → SqL K H a (ns.map V.int) → sp [.ref a] H (fun v _ => v = .bl true) fun _ _ _ => False) :
    codeAny (model P w) callerA (.call (.ref fa) ⟨[.ref a], []⟩) (fun r s' => r = .ok (.ret (.bool true)) ∧ OldK s.heap s'.heap ∧ s'.os = s.os ∧ AllBare s'.gens) s := by
  have rv := vals_ints hi
  have lv := hi.length
  cases hk : K.lookup a with
  | some o =>
    have e := KX a o hk
    rw [ha] at e
    cases e
    have hO : Only fun _ => none := fun _ => .inl rfl
    have hS : SqL K (fun _ => none) a (ns.map V.int) := .inr ⟨_, vs.toArray, _, hk, rfl, rfl, rfl, by rw [List.size_toArray, lv]; exact hl, by simpa using rv⟩
    exact law_goM KX hns hb hbb hlim hg ha hr sm F hbind hO (fun b z => absurd rfl z) (fun z => absurd rfl z) (fun b u z => by cases z) (hsp _ hO hS)
  | none =>
    have hO : Only (scrH a { cls := .type "list", data := .seq vs.toArray } (.lst (ns.map V.int))) := by
      intro b
      unfold scrH
      split
      · exact .inr ⟨_, _, rfl⟩
      · exact .inl rfl
    have hS : SqL K (scrH a { cls := .type "list", data := .seq vs.toArray } (.lst (ns.map V.int))) a (ns.map V.int) := .inl (.inr ⟨_, if_pos rfl⟩)
    refine law_goM KX hns hb hbb hlim hg ha hr sm F hbind hO ?_ (fun _ => hk) ?_ (hsp _ hO hS)
    · intro b z
      by_cases q : b = a
      · exact q
      · exact absurd (if_neg q) z
    · intro b u z
      by_cases q : b = a
      · subst q
        have z' := (if_pos rfl).symm.trans z
        cases z'
        exact ⟨ha, by rw [List.length_map]; exact hl, vs, _, rv, ha⟩
      · have z' := (if_neg q).symm.trans z
        cases z'
/-- what k_head leaves, from the law's promise; sp may lean on what is told of K -/
theorem walk_GM {l : PySem.W.OpenLaw} {n k : Nat} {q : Program} {loose : List Str} {XP : (Str → Option Value) → Heap → Prop} {YP : World → Heap → Prop} {d : DefRec} {K : Params → Fg} {x : Str}
    (hn : l.most = some n) (hn2 : n ≤ sizeLine) (hdf : d.params.defaults = []) (hr : Room k callerA) (hi : importsNone q = true)
    (hY : ∀ (w : World) (h : Heap), YP w h → (K w.params).In h)
    (F : ∀ (w : World) (mg : Str → Option Value) (fa : Addr) (h : Heap), (K w.params).In h → h.Ns mainGlobals mg → mg d.name = some (.ref fa) →
      ∃ (fd : FuncData) (sp : Sp), (∀ (s : Shared) (u : Value), BindsTo s fd ⟨[u], []⟩ [(x, u)]) ∧
        (∀ base : Heap, (K w.params).In base → base.Ns mainGlobals mg → Smb base → FnG l.prog w (K w.params) mg base k fa fd [x] sp) ∧
        ∀ (H : Hp) (a : Addr) (ns : List Int), ns.length ≤ n → SqL (K w.params) H a (ns.map V.int) → sp [.ref a] H (fun v _ => v = .bl true) fun _ _ _ => False) :
    PySem.W.WalkO q loose XP YP l.row.toRowW d [] (fun f vs => PySem.call f vs) := by
  refine Att.attach_call hn hdf ?_
  intro w s₀ s₁ mg mb fa o pm cd doc a vs ns G Y ho hd hcd hmg hobj hints hlen hg
  have KX := hY w _ Y
  obtain ⟨fd, sp, hb, hF, hsp⟩ := F w mg fa _ KX G.T.g hmg
  have sm : ∃ mm, s₁.heap.Ns sysModules mm := by
    obtain ⟨mm, z, _⟩ := (G.T.seer hi).mods
    exact ⟨mm, z⟩
  exact law_anyM KX G.T.g G.T.b G.T.builtins G.T.nolimit hg hobj hints (Nat.le_trans hlen hn2) hr sm hF hb fun H hO hS => hsp H a ns hlen hS
end UW
namespace UW
open PySem PySem.Spec PyProof.Rows L2
theorem WebOk.wide {n : Int} {rs : List (Int × Int)} {ms : List Int} {s r l s' r' l' : Int} (w : WebOk s r l n rs ms) (h1 : s ≤ s') (h2 : r ≤ r') (h3 : l ≤ l') : WebOk s' r' l' n rs ms :=
  ⟨w.sh, w.up, Int.le_trans w.sz h1, Int.le_trans w.rm h2, w.lm, fun m hm => ⟨(w.ld m hm).1, Int.le_trans (w.ld m hm).2 h3⟩⟩
theorem okd_int {i : Int} (h : i.natAbs < 1000000) : Okd (.int i) 0 121 := Okd.int (Nat.lt_of_lt_of_le h (by decide))
theorem okd_dP {p : Int × Int} (h1 : p.1.natAbs < 1000000) (h2 : p.2.natAbs < 1000000) : Okd (dP p) 1 248 := by
  unfold dP
  refine Okd.tup (n := 121) (m := 2) (fun d hd => ?_) (Nat.le_refl _)
  rcases List.mem_cons.mp hd with rfl | hd
  · exact okd_int h1
  · rcases List.mem_cons.mp hd with rfl | hd
    · exact okd_int h2
    · cases hd
theorem okd_dPs {l : List (Int × Int)} {m : Nat} (h : ∀ p ∈ l, p.1.natAbs < 1000000 ∧ p.2.natAbs < 1000000) (hl : l.length ≤ m) : Okd (dPs l) 2 (m * 250 + 2) := by
  unfold dPs
  refine Okd.tup (n := 248) (fun d hd => ?_) (by rw [List.length_map]; exact hl)
  obtain ⟨p, hp, rfl⟩ := List.mem_map.mp hd
  exact okd_dP (h p hp).1 (h p hp).2
theorem okd_dIs {l : List Int} {m : Nat} (h : ∀ i ∈ l, i.natAbs < 1000000) (hl : l.length ≤ m) : Okd (dIs l) 1 (m * 123 + 2) := by
  unfold dIs
  refine Okd.tup (n := 121) (fun d hd => ?_) (by rw [List.length_map]; exact hl)
  obtain ⟨p, hp, rfl⟩ := List.mem_map.mp hd
  exact okd_int (h p hp)
theorem shaped_of {d : PyData} (h1 : d.canLay0 = true) (h2 : d.depth ≤ 60) : SeqAt.shaped d = true := by
  show (_ && decide _) = true
  rw [h1, Bool.true_and]
  exact decide_eq_true (Nat.le_trans h2 (by decide))
section
variable {K : Fg} {H : Hp} {Q : VK} {a : Addr} {d : PyData} {σ : L2.St}
end
def sp_law (K : Fg) : Sp := fun vs H Q _ => ∃ (a : Addr) (ns : List Int), vs = [.ref a] ∧ SqL K H a (ns.map V.int) ∧ ns.length ≤ 63 ∧ ∀ H' : Hp, Q (.bl true) H'
theorem l_law {K : Fg} : ∀ vs H Q E, sp_law K vs H Q E → vs.length = 1 := by
  rintro vs H Q E ⟨a, ns, rfl, _⟩
  rfl
end UW
namespace UW
open PySem PySem.Spec PyProof.Rows L2
/-- one step -/
local macro_rules | `(tactic| walk_at "s1") => `(tactic| first
  | with_reducible refine s_seq ?_
  | with_reducible refine s_for ?_
  | with_reducible refine s_lc ?_
  | with_reducible refine w_seq ?_
  | with_reducible refine w_rng1 ?_
  | with_reducible refine w_rng2 ?_
  | with_reducible refine w_zip ?_
  | with_reducible refine s_asg ?_
  | with_reducible refine s_gname ?_
  | with_reducible refine s_ret ?_
  | with_reducible refine s_drop ?_
  | with_reducible refine s_next ?_
  | with_reducible refine s_ifs ?_
  | with_reducible refine s_var (by with_unfolding_all rfl) ?_
  | with_reducible refine s_c ?_
  | with_reducible refine s_op ?_
  | with_reducible refine s_un ?_
  | with_reducible refine s_neg ?_
  | with_reducible refine s_test ?_
  | with_reducible refine s_yes ?_
  | with_reducible refine s_tB ?_
  | with_reducible refine s_bl ?_
  | with_reducible refine s_not ?_
  | with_reducible refine s_and ?_
  | with_reducible refine s_or ?_
  | with_reducible refine s_andV ?_
  | with_reducible refine s_orV ?_
  | with_reducible refine s_notV ?_
  | with_reducible refine s_chain ?_
  | with_reducible refine s_nil ?_
  | with_reducible refine s_cons ?_
  | with_reducible refine s_tup ?_
  | with_reducible refine s_lst ?_
  | with_reducible refine s_call ?_
  | with_reducible refine s_cb ?_
  | with_reducible refine s_part ?_
  | with_reducible refine s_nopart ?_
  | with_reducible refine s_ii ?_
  | with_reducible refine s_sl ?_
  | with_reducible refine s_par ?_
  | with_reducible refine s_par2 ?_
  | with_reducible refine s_bm ?_
  | with_reducible refine s_gsub ?_
  | with_reducible refine s_gcons ?_
  | with_reducible refine s_gnil ?_
  | with_reducible refine o_addI ?_
  | with_reducible refine o_sub ?_
  | with_reducible refine o_eqI ?_
  | with_reducible refine o_neI ?_
  | with_reducible refine o_ltI ?_
  | with_reducible refine o_le ?_
  | with_reducible refine o_gt ?_
  | with_reducible refine o_ge ?_
  | with_reducible refine o_int ?_
  | with_reducible refine o_intB ?_
  | with_reducible refine o_abs ?_
  | with_reducible refine o_max2 ?_
  | with_reducible refine o_min2 ?_
  | with_reducible refine o_isN ?_
  | with_reducible refine o_notN ?_
  | with_reducible refine o_mulI (by first | exact Or.inl ⟨by decide, by decide⟩ | exact Or.inr ⟨by decide, by decide⟩ | (first | (refine Or.inl ⟨?_, ?_⟩ <;> omega) | (refine Or.inr ⟨?_, ?_⟩ <;> omega))) ?_
  | with_reducible refine o_mod (by first | decide | omega) ?_
  | with_reducible refine o_div (by first | decide | omega) (by first | decide | omega) ?_
  | with_reducible refine s_blx ?_
  | with_reducible refine o_ixL (SqL.of (by assumption)) (by first | with_unfolding_all rfl | with_unfolding_all exact at_zero _ _) ?_
  | with_reducible refine o_ixT (by assumption) (by first | with_unfolding_all rfl | with_unfolding_all exact at_zero _ _) ?_
  | with_reducible refine o_tyL (by assumption) ?_
  | with_reducible refine iteT ?_
  | with_reducible refine iteF ?_)
local macro_rules | `(tactic| walk_at "sx") => `(tactic| repeat (walk_at "s1"))
/-- what repr of odd data may cost -/
structure Okx (d : PyData) (k n : Nat) : Prop where
  sh : d.showable = true
  dp : d.depth ≤ k
  ln : d.shown.length ≤ n
theorem Okd.x {d : PyData} {k n : Nat} (h : Okd d k n) : Okx d k n := ⟨h.sh, h.dp, h.ln⟩
theorem Okx.mono {d : PyData} {k n k' n' : Nat} (h : Okx d k n) (hk : k ≤ k') (hn : n ≤ n') : Okx d k' n' := ⟨h.sh, Nat.le_trans h.dp hk, Nat.le_trans h.ln hn⟩
theorem okx_all {ds : List PyData} {k n : Nat} (h : ∀ d ∈ ds, Okx d k n) : PyData.showableAll ds = true ∧ PyData.depthAll ds ≤ k ∧ piled (PyData.shownAll ds) ≤ ds.length * (n + 2) := by
  induction ds with
  | nil => exact ⟨by simp only [PyData.showableAll], by simp only [PyData.depthAll]; omega, by simp only [PyData.shownAll]; simp [piled]⟩
  | cons d ds ih =>
    obtain ⟨a, c, e⟩ := ih fun x hx => h x (List.mem_cons_of_mem _ hx)
    have q := h d (List.mem_cons_self ..)
    refine ⟨by simp only [PyData.showableAll]; rw [q.sh, a]; rfl, by simp only [PyData.depthAll]; have := q.dp; omega, ?_⟩
    simp only [PyData.shownAll]
    rw [piled_cons, List.length_cons]
    have := q.ln
    have e2 : (ds.length + 1) * (n + 2) = ds.length * (n + 2) + (n + 2) := Nat.succ_mul _ _
    omega
theorem Okx.tup {ds : List PyData} {k n m : Nat} (h : ∀ d ∈ ds, Okx d k n) (hl : ds.length ≤ m) : Okx (.tuple ds) (k + 1) (m * (n + 2) + 2) := by
  obtain ⟨a, c, e⟩ := okx_all h
  refine ⟨by simp only [PyData.showable]; exact a, by simp only [PyData.depth]; omega, ?_⟩
  simp only [PyData.shown]
  refine Nat.le_trans (tupText_le _) ?_
  have := Nat.mul_le_mul_right (n + 2) hl
  omega
theorem Okx.lst {ds : List PyData} {k n m : Nat} (h : ∀ d ∈ ds, Okx d k n) (hl : ds.length ≤ m) : Okx (.list ds) (k + 1) (m * (n + 2) + 2) := by
  obtain ⟨a, c, e⟩ := okx_all h
  refine ⟨by simp only [PyData.showable]; exact a, by simp only [PyData.depth]; omega, ?_⟩
  simp only [PyData.shown]
  refine Nat.le_trans (lstText_le _) ?_
  have := Nat.mul_le_mul_right (n + 2) hl
  omega
theorem Okx.dic : Okx (.dict []) 1 2 := by
  refine ⟨by simp only [PyData.showable, PyData.showableKv], by simp only [PyData.depth, PyData.depthKv]; omega, ?_⟩
  simp only [PyData.shown, PyData.shownKv]
  decide +kernel
theorem Okx.dic1 {d : PyData} {k n : Nat} {j : Int} (i : Okx (.int j) 0 121) (h : Okx d k n) : Okx (.dict [(.int j, d)]) (k + 1) (n + 150) := by
  refine ⟨by simp only [PyData.showable, PyData.showableKv, h.sh, Bool.and_true]; simpa only [PyData.showable] using i.sh, by simp only [PyData.depth, PyData.depthKv]; have := h.dp; omega, ?_⟩
  have a1 := i.ln
  have a2 := h.ln
  have a3 := dictText_len_le (PyData.shownKv [(.int j, d)])
  have a4 : ((PyData.shownKv [(.int j, d)]).map (·.length)).sum ≤ (PyData.shown (.int j)).length + d.shown.length + 2 := by
    simp only [PyData.shownKv, List.map_cons, List.map_nil, List.sum_cons, List.sum_nil]
    rw [strLen_append, strLen_append]
    show _ + 2 + _ + 0 ≤ _
    omega
  have a5 : (PyData.shownKv [(PyData.int j, d)]).length = 1 := by simp only [PyData.shownKv, List.length_cons, List.length_nil]
  rw [show (PyData.dict [(.int j, d)]).shown = dictText (PyData.shownKv [(.int j, d)]) from by simp only [PyData.shown]]
  omega
/-- an odd value: known data, bounded, its lists not the well's -/
def OdV (K : Fg) (a l : Addr) (k n : Nat) (H : Hp) (x : V) : Prop := ∃ d, Od K (fun b => b ≠ a ∧ b ≠ l) H x d ∧ Okx d k n
theorem OdV.wk {K : Fg} {a l : Addr} {k n : Nat} {H H' : Hp} {x : V} (w : Well H a l) (e : WK a l H H') (h : OdV K a l k n H x) : OdV K a l k n H' x := by
  obtain ⟨d, h1, h2⟩ := h
  exact ⟨d, h1.mv (e.tm w) fun b o g q => ⟨g, e.get q g.1 g.2⟩, h2⟩
theorem OdV.mono {K : Fg} {a l : Addr} {k n k' n' : Nat} {H : Hp} {x : V} (h : OdV K a l k n H x) (hk : k ≤ k') (hn : n ≤ n') : OdV K a l k' n' H x := by
  obtain ⟨d, h1, h2⟩ := h
  exact ⟨d, h1, h2.mono hk hn⟩
section
variable {K : Fg} {a l : Addr} {k n m : Nat} {σ : L2.St} {te tf : TE} {ta : TA} {H H0 : Hp}
/-- an expression that tells odd values, behind the heap H0 -/
def IE (K : Fg) (a l : Addr) (H0 : Hp) (k n : Nat) (σ : L2.St) (te : TE) : Prop := ∀ (H : Hp) (Q : VK), WK a l H0 H → (∀ x H', WK a l H H' → OdV K a l k n H' x → Q x H') → te σ H Q
/-- several -/
def IT (K : Fg) (a l : Addr) (H0 : Hp) (k n m : Nat) (σ : L2.St) (ta : TA) : Prop := ∀ (H : Hp) (R : List V → Hp → Prop), WK a l H0 H → (∀ xs H', WK a l H H' → xs.length = m → (∀ x ∈ xs, OdV K a l k n H' x) → R xs H') → ta σ H R
theorem IT.nil : IT K a l H0 k n 0 σ tNil := fun H R w q => q [] H (WK.refl w.w) rfl fun x hx => by cases hx
theorem IT.cons (h : IE K a l H0 k n σ te) (t : IT K a l H0 k n m σ ta) : IT K a l H0 k n (m + 1) σ (tCons te ta) := fun H R w q =>
  h H _ w fun x H1 e1 o1 => t H1 _ (w.trans e1) fun xs H2 e2 hl o2 => q (x :: xs) H2 (e1.trans e2) (by rw [List.length_cons, hl]) fun y hy => by
    rcases List.mem_cons.mp hy with rfl | hy
    · exact o1.wk e1.w e2
    · exact o2 y hy
theorem IE.mono {k' n' : Nat} (h : IE K a l H0 k n σ te) (hk : k ≤ k') (hn : n ≤ n') : IE K a l H0 k' n' σ te := fun H Q w q => h H Q w fun x H' e o => q x H' e (o.mono hk hn)
theorem IE.int (h : ∀ (H : Hp) (Q : VK), (∀ i : Int, i.natAbs < 2 ^ 120 → Q (.int i) H) → te σ H Q) : IE K a l H0 0 121 σ te := fun H Q w q => h H Q fun i hi => q _ H (WK.refl w.w) ⟨.int i, .int i, (Okd.int hi).x⟩
theorem IE.c {i : Int} (h : i.natAbs < 2 ^ 120) : IE K a l H0 0 121 σ (tC (.int i)) := IE.int fun _ _ q => q i h
theorem IE.bl {b : Bool} : IE K a l H0 0 121 σ (tC (.bl b)) := fun H Q w q => q _ H (WK.refl w.w) ⟨.bool b, .bl b, (Okd.bl b).x.mono (Nat.le_refl _) (by decide)⟩
theorem IE.non : IE K a l H0 0 121 σ (tC .non) := fun H Q w q => q _ H (WK.refl w.w) ⟨.none, .non, Okd.non.x.mono (Nat.le_refl _) (by decide)⟩
theorem IE.str {x : Str} (h : (reprText x).length ≤ 121) : IE K a l H0 0 121 σ (tC (.str x)) := fun H Q w q => q _ H (WK.refl w.w) ⟨.str x, .str x, (Okd.str h).x⟩
theorem ods_of {G : Addr → Prop} {H : Hp} : ∀ (xs : List V), (∀ x ∈ xs, ∃ d, Od K G H x d ∧ Okx d k n) → ∃ ds, Ods K G H xs ds ∧ ∀ d ∈ ds, Okx d k n
  | [], _ => ⟨[], .nil, fun d hd => by cases hd⟩
  | x :: xs, h => by
    obtain ⟨d, h1, h2⟩ := h x (List.mem_cons_self ..)
    obtain ⟨ds, h3, h4⟩ := ods_of xs fun y hy => h y (List.mem_cons_of_mem _ hy)
    exact ⟨d :: ds, .cons h1 h3, fun e he => by
      rcases List.mem_cons.mp he with rfl | he
      · exact h2
      · exact h4 e he⟩
theorem IE.tup (t : IT K a l H0 k n m σ ta) (hm : Nat.ble m 1000 = true) : IE K a l H0 (k + 1) (m * (n + 2) + 2) σ (tTup ta) := fun H Q w q =>
  s_tup (t H _ w fun xs H1 e1 hl ho => by
    refine n_of (by rw [hl]; exact hm) fun p H2 np e2 hp _ => ?_
    obtain ⟨ds, h3, h4⟩ := ods_of xs ho
    exact q _ H2 (e1.same e2) ⟨.tuple ds, .tup (SqT.of hp) (h3.same e2), Okx.tup h4 (by rw [← h3.length, hl]; exact Nat.le_refl _)⟩)
theorem IE.lst (t : IT K a l H0 k n m σ ta) (hm : Nat.ble m 1000 = true) : IE K a l H0 (k + 1) (m * (n + 2) + 2) σ (tLst ta) := fun H Q w q =>
  s_lst (t H _ w fun xs H1 e1 hl ho => by
    refine n_of (by rw [hl]; exact hm) fun p H2 np e2 hp _ => ?_
    obtain ⟨ds, h3, h4⟩ := ods_of xs ho
    exact q _ H2 (e1.same e2) ⟨.list ds, .lst (e1.w.fresh np) hp (h3.same e2), Okx.lst h4 (by rw [← h3.length, hl]; exact Nat.le_refl _)⟩)
theorem s_dnew {Q : VK} (q : New Q H (.dK [])) : tDNewK σ H Q := q
theorem IE.dic : IE K a l H0 1 2 σ tDNewK := fun H Q w q => s_dnew (n_new fun p H2 np e2 hp _ => q _ H2 ((WK.refl w.w).same e2) ⟨.dict [], .dic (w.w.fresh np) hp, .dic⟩)
/-- a list of odd values, not the well's -/
def OdL (K : Fg) (a l : Addr) (k n m : Nat) (H : Hp) (p : Addr) : Prop := p ≠ a ∧ p ≠ l ∧ ∃ xs, H p = some (.lst xs) ∧ xs.length = m ∧ ∀ x ∈ xs, OdV K a l k n H x
theorem OdL.wk {p : Addr} {H' : Hp} (w : Well H a l) (e : WK a l H H') (h : OdL K a l k n m H p) : OdL K a l k n m H' p := by
  obtain ⟨n1, n2, xs, h1, h2, h3⟩ := h
  exact ⟨n1, n2, xs, e.get h1 n1 n2, h2, fun x hx => (h3 x hx).wk w e⟩
end
def sp__law_pick (K : Fg) : Sp := fun vs H Q _ => ∃ (a l p : Addr) (xs : List V), vs = [.ref a, .ref p] ∧ Well H a l ∧ SqU K H p xs ∧ (∀ H', WK a l H H' → SqU K H' p xs) ∧ 0 < xs.length ∧ xs.length ≤ 1000 ∧
  ∀ (x : V) (H' : Hp), x ∈ xs → WK a l H H' → Q x H'
theorem l__law_pick {K : Fg} : ∀ vs H Q E, sp__law_pick K vs H Q E → vs.length = 2 := by
  rintro vs H Q E ⟨a, l, p, xs, rfl, _⟩
  rfl
/-- _law_pick, slots well, items -/
def t__law_pick (K : Fg) : TS :=
  (tRet (tOp (rIx K) (tVar 1) (tG (sp__law_draw K) E00 (tCons (tVar 0) (tCons (tCB (rLenU K) (tCons (tVar 1) tNil)) tNil)))))
theorem p__law_pick {K : Fg} {vs : List V} {H : Hp} {Q : VK} {E : XK} (h : sp__law_pick K vs H Q E) : t__law_pick K { nx := fun _ H' => Q .non H', rt := Q } (start ["well", "items"] vs) H := by
  obtain ⟨a, l, p, xs, rfl, w, hp, keep, h0, h1, k⟩ := h
  show t__law_pick K _ [some (.ref a), some (.ref p)] H
  unfold t__law_pick
  walk_at "sx"
  refine ⟨p, xs, rfl, hp, ?_⟩
  walk_at "sx"
  refine ⟨a, l, _, rfl, w, by omega, by omega, fun r H1 r0 r1 w1 e1 => ?_⟩
  have wk : WK a l H H1 := ⟨w1, e1⟩
  have hx : xs[r.toNat]? = some (xs[r.toNat]'(by omega)) := List.getElem?_eq_getElem _
  have ha : atI xs r = some (xs[r.toNat]'(by omega)) := at_of (show r = ((r.toNat : Nat) : Int) by omega) hx
  rcases keep H1 wk with q | q
  · exact o_ixL q ha (k _ _ (List.mem_of_getElem? hx) wk)
  · exact o_ixT0 q ha (k _ _ (List.mem_of_getElem? hx) wk)
end UW
namespace UW
open PySem PySem.Spec PyProof.Rows L2
/-- one step -/
local macro_rules | `(tactic| walk_at "s1") => `(tactic| first
  | with_reducible refine s_seq ?_
  | with_reducible refine s_for ?_
  | with_reducible refine s_lc ?_
  | with_reducible refine w_seq ?_
  | with_reducible refine w_rng1 ?_
  | with_reducible refine w_rng2 ?_
  | with_reducible refine w_zip ?_
  | with_reducible refine s_asg ?_
  | with_reducible refine s_gname ?_
  | with_reducible refine s_ret ?_
  | with_reducible refine s_drop ?_
  | with_reducible refine s_next ?_
  | with_reducible refine s_ifs ?_
  | with_reducible refine s_var (by with_unfolding_all rfl) ?_
  | with_reducible refine s_c ?_
  | with_reducible refine s_op ?_
  | with_reducible refine s_un ?_
  | with_reducible refine s_neg ?_
  | with_reducible refine s_test ?_
  | with_reducible refine s_yes ?_
  | with_reducible refine s_tB ?_
  | with_reducible refine s_bl ?_
  | with_reducible refine s_not ?_
  | with_reducible refine s_and ?_
  | with_reducible refine s_or ?_
  | with_reducible refine s_andV ?_
  | with_reducible refine s_orV ?_
  | with_reducible refine s_notV ?_
  | with_reducible refine s_chain ?_
  | with_reducible refine s_nil ?_
  | with_reducible refine s_cons ?_
  | with_reducible refine s_tup ?_
  | with_reducible refine s_lst ?_
  | with_reducible refine s_call ?_
  | with_reducible refine s_cb ?_
  | with_reducible refine s_part ?_
  | with_reducible refine s_nopart ?_
  | with_reducible refine s_ii ?_
  | with_reducible refine s_sl ?_
  | with_reducible refine s_par ?_
  | with_reducible refine s_par2 ?_
  | with_reducible refine s_bm ?_
  | with_reducible refine s_gsub ?_
  | with_reducible refine s_gcons ?_
  | with_reducible refine s_gnil ?_
  | with_reducible refine o_addI ?_
  | with_reducible refine o_sub ?_
  | with_reducible refine o_eqI ?_
  | with_reducible refine o_neI ?_
  | with_reducible refine o_ltI ?_
  | with_reducible refine o_le ?_
  | with_reducible refine o_gt ?_
  | with_reducible refine o_ge ?_
  | with_reducible refine o_int ?_
  | with_reducible refine o_intB ?_
  | with_reducible refine o_abs ?_
  | with_reducible refine o_max2 ?_
  | with_reducible refine o_min2 ?_
  | with_reducible refine o_isN ?_
  | with_reducible refine o_notN ?_
  | with_reducible refine o_mulI (by first | exact Or.inl ⟨by decide, by decide⟩ | exact Or.inr ⟨by decide, by decide⟩ | (first | (refine Or.inl ⟨?_, ?_⟩ <;> omega) | (refine Or.inr ⟨?_, ?_⟩ <;> omega))) ?_
  | with_reducible refine o_mod (by first | decide | omega) ?_
  | with_reducible refine o_div (by first | decide | omega) (by first | decide | omega) ?_
  | with_reducible refine s_blx ?_
  | with_reducible refine o_ixL (SqL.of (by assumption)) (by first | with_unfolding_all rfl | with_unfolding_all exact at_zero _ _) ?_
  | with_reducible refine o_ixT (by assumption) (by first | with_unfolding_all rfl | with_unfolding_all exact at_zero _ _) ?_
  | with_reducible refine o_tyL (by assumption) ?_
  | with_reducible refine iteT ?_
  | with_reducible refine iteF ?_)
local macro_rules | `(tactic| walk_at "sx") => `(tactic| repeat (walk_at "s1"))
def isTup : PyData → Bool
  | .tuple _ => true
  | _ => false
theorem kit_tup {K : Fg} (d : PyData) : PySem.W.kitOne K (tyD d) (.type "tuple") = some (isTup d) := by cases d <;> rfl
section
variable {K : Fg} {G : Addr → Prop} {H : Hp} {Q : VK} {x : V} {d : PyData}
theorem Od.tup_inv {ds : List PyData} (h : Od K G H x (.tuple ds)) : ∃ p xs, x = .ref p ∧ SqT K H p xs ∧ Ods K G H xs ds := by
  cases h with
  | tup h hs => exact ⟨_, _, rfl, h, hs⟩
theorem Od.int_inv {i : Int} (h : Od K G H x (.int i)) : x = .int i := by cases h; rfl
theorem Ods.cons_inv {xs : List V} {ds : List PyData} (h : Ods K G H xs (d :: ds)) : ∃ v vs, xs = v :: vs ∧ Od K G H v d ∧ Ods K G H vs ds := by
  cases h with
  | cons h hs => exact ⟨_, _, rfl, h, hs⟩
theorem Ods.nil_inv {xs : List V} (h : Ods K G H xs []) : xs = [] := by cases h; rfl
end
/-- what keeps data from being a deed that is let -/
def deedO (rs : List (Int × Int)) (ms ls : List Int) : PyData → Option Str
  | .tuple [.int r, .int b] => if 0 ≤ r ∧ r < rs.length then (if b = 1 ∨ b = -1 then (if unl rs ls r.toNat = true then (if roomy ms ls r.toNat b = true then none else some "room") else some "alike") else some "by") else some "road"
  | _ => some "form"
end UW
namespace UW
open PySem PySem.Spec PyProof.Rows L2
/-- one step -/
local macro_rules | `(tactic| walk_at "s1") => `(tactic| first
  | with_reducible refine s_seq ?_
  | with_reducible refine s_for ?_
  | with_reducible refine s_lc ?_
  | with_reducible refine w_seq ?_
  | with_reducible refine w_rng1 ?_
  | with_reducible refine w_rng2 ?_
  | with_reducible refine w_zip ?_
  | with_reducible refine s_asg ?_
  | with_reducible refine s_gname ?_
  | with_reducible refine s_ret ?_
  | with_reducible refine s_drop ?_
  | with_reducible refine s_next ?_
  | with_reducible refine s_ifs ?_
  | with_reducible refine s_var (by with_unfolding_all rfl) ?_
  | with_reducible refine s_c ?_
  | with_reducible refine s_op ?_
  | with_reducible refine s_un ?_
  | with_reducible refine s_neg ?_
  | with_reducible refine s_test ?_
  | with_reducible refine s_yes ?_
  | with_reducible refine s_tB ?_
  | with_reducible refine s_bl ?_
  | with_reducible refine s_not ?_
  | with_reducible refine s_and ?_
  | with_reducible refine s_or ?_
  | with_reducible refine s_andV ?_
  | with_reducible refine s_orV ?_
  | with_reducible refine s_notV ?_
  | with_reducible refine s_chain ?_
  | with_reducible refine s_nil ?_
  | with_reducible refine s_cons ?_
  | with_reducible refine s_tup ?_
  | with_reducible refine s_lst ?_
  | with_reducible refine s_call ?_
  | with_reducible refine s_cb ?_
  | with_reducible refine s_part ?_
  | with_reducible refine s_nopart ?_
  | with_reducible refine s_ii ?_
  | with_reducible refine s_sl ?_
  | with_reducible refine s_par ?_
  | with_reducible refine s_par2 ?_
  | with_reducible refine s_bm ?_
  | with_reducible refine s_gsub ?_
  | with_reducible refine s_gcons ?_
  | with_reducible refine s_gnil ?_
  | with_reducible refine o_addI ?_
  | with_reducible refine o_sub ?_
  | with_reducible refine o_eqI ?_
  | with_reducible refine o_neI ?_
  | with_reducible refine o_ltI ?_
  | with_reducible refine o_le ?_
  | with_reducible refine o_gt ?_
  | with_reducible refine o_ge ?_
  | with_reducible refine o_int ?_
  | with_reducible refine o_intB ?_
  | with_reducible refine o_abs ?_
  | with_reducible refine o_max2 ?_
  | with_reducible refine o_min2 ?_
  | with_reducible refine o_isN ?_
  | with_reducible refine o_notN ?_
  | with_reducible refine o_mulI (by first | exact Or.inl ⟨by decide, by decide⟩ | exact Or.inr ⟨by decide, by decide⟩ | (first | (refine Or.inl ⟨?_, ?_⟩ <;> omega) | (refine Or.inr ⟨?_, ?_⟩ <;> omega))) ?_
  | with_reducible refine o_mod (by first | decide | omega) ?_
  | with_reducible refine o_div (by first | decide | omega) (by first | decide | omega) ?_
  | with_reducible refine s_blx ?_
  | with_reducible refine o_ixL (SqL.of (by assumption)) (by first | with_unfolding_all rfl | with_unfolding_all exact at_zero _ _) ?_
  | with_reducible refine o_ixT (by assumption) (by first | with_unfolding_all rfl | with_unfolding_all exact at_zero _ _) ?_
  | with_reducible refine o_tyL (by assumption) ?_
  | with_reducible refine iteT ?_
  | with_reducible refine iteF ?_)
local macro_rules | `(tactic| walk_at "sx") => `(tactic| repeat (walk_at "s1"))
end UW
namespace UW
open PySem PySem.Spec PyProof.Rows L2
/-- one step -/
local macro_rules | `(tactic| walk_at "s1") => `(tactic| first
  | with_reducible refine s_seq ?_
  | with_reducible refine s_for ?_
  | with_reducible refine s_lc ?_
  | with_reducible refine w_seq ?_
  | with_reducible refine w_rng1 ?_
  | with_reducible refine w_rng2 ?_
  | with_reducible refine w_zip ?_
  | with_reducible refine s_asg ?_
  | with_reducible refine s_gname ?_
  | with_reducible refine s_ret ?_
  | with_reducible refine s_drop ?_
  | with_reducible refine s_next ?_
  | with_reducible refine s_ifs ?_
  | with_reducible refine s_var (by with_unfolding_all rfl) ?_
  | with_reducible refine s_c ?_
  | with_reducible refine s_op ?_
  | with_reducible refine s_un ?_
  | with_reducible refine s_neg ?_
  | with_reducible refine s_test ?_
  | with_reducible refine s_yes ?_
  | with_reducible refine s_tB ?_
  | with_reducible refine s_bl ?_
  | with_reducible refine s_not ?_
  | with_reducible refine s_and ?_
  | with_reducible refine s_or ?_
  | with_reducible refine s_andV ?_
  | with_reducible refine s_orV ?_
  | with_reducible refine s_notV ?_
  | with_reducible refine s_chain ?_
  | with_reducible refine s_nil ?_
  | with_reducible refine s_cons ?_
  | with_reducible refine s_tup ?_
  | with_reducible refine s_lst ?_
  | with_reducible refine s_call ?_
  | with_reducible refine s_cb ?_
  | with_reducible refine s_part ?_
  | with_reducible refine s_nopart ?_
  | with_reducible refine s_ii ?_
  | with_reducible refine s_sl ?_
  | with_reducible refine s_par ?_
  | with_reducible refine s_par2 ?_
  | with_reducible refine s_bm ?_
  | with_reducible refine s_gsub ?_
  | with_reducible refine s_gcons ?_
  | with_reducible refine s_gnil ?_
  | with_reducible refine o_addI ?_
  | with_reducible refine o_sub ?_
  | with_reducible refine o_eqI ?_
  | with_reducible refine o_neI ?_
  | with_reducible refine o_ltI ?_
  | with_reducible refine o_le ?_
  | with_reducible refine o_gt ?_
  | with_reducible refine o_ge ?_
  | with_reducible refine o_int ?_
  | with_reducible refine o_intB ?_
  | with_reducible refine o_abs ?_
  | with_reducible refine o_max2 ?_
  | with_reducible refine o_min2 ?_
  | with_reducible refine o_isN ?_
  | with_reducible refine o_notN ?_
  | with_reducible refine o_mulI (by first | exact Or.inl ⟨by decide, by decide⟩ | exact Or.inr ⟨by decide, by decide⟩ | (first | (refine Or.inl ⟨?_, ?_⟩ <;> omega) | (refine Or.inr ⟨?_, ?_⟩ <;> omega))) ?_
  | with_reducible refine o_mod (by first | decide | omega) ?_
  | with_reducible refine o_div (by first | decide | omega) (by first | decide | omega) ?_
  | with_reducible refine s_blx ?_
  | with_reducible refine o_ixL (SqL.of (by assumption)) (by first | with_unfolding_all rfl | with_unfolding_all exact at_zero _ _) ?_
  | with_reducible refine o_ixT (by assumption) (by first | with_unfolding_all rfl | with_unfolding_all exact at_zero _ _) ?_
  | with_reducible refine o_tyL (by assumption) ?_
  | with_reducible refine iteT ?_
  | with_reducible refine iteF ?_)
local macro_rules | `(tactic| walk_at "sx") => `(tactic| repeat (walk_at "s1"))
section
variable {K : Fg} {H : Hp} {Q : VK} {a b : Addr} {xs ys : List V} {lo hi : Option Int}
theorem cut_whole (h : HT.sIx xs.length 0 lo = 0 ∧ HT.sIx xs.length xs.length hi = xs.length) : cutV xs lo hi = xs := by
  unfold cutV
  rw [h.1, h.2, List.drop_zero, Nat.sub_zero, List.take_length]
theorem o_slT (h : SqT K H a xs) (k : ∀ p H', Same H H' → SqT K H' p (cutV xs lo hi) → Q (.ref p) H') : rSlU K (.ref a) lo hi H Q :=
  .inl ⟨a, xs, rfl, h.up, fun w => k a H (Same.refl _) (by rw [cut_whole w]; exact h), fun _ p np => k p _ (Same.new np) (SqT.of upd_same)⟩
theorem o_catT (h1 : SqT K H a xs) (h2 : SqT K H b ys) (hl : xs.length + ys.length ≤ 100000) (k : ∀ p H', Same H H' → SqT K H' p (xs ++ ys) → Q (.ref p) H') : rAddU K (.ref a) (.ref b) H Q :=
  .inr (.inr (.inl ⟨a, b, xs, ys, rfl, rfl, h1.up, h2.up, Nat.le_trans hl (by decide), fun e => k b H (Same.refl _) (by rw [e]; exact h2), fun _ e => k a H (Same.refl _) (by rw [e, List.append_nil]; exact h1), fun _ _ p np => k p _ (Same.new np) (SqT.of upd_same)⟩))
end
/-- the standing behind a deed -/
def bh (ls : List Int) (r b : Int) : List Int := ls.set r.toNat (ls.getD r.toNat 0 + b)
section
variable {K : Fg} {H : Hp} {σ : L2.St} {D : Ends} {W : WX} {t : L2.St → Hp → XK → Prop} {tb : WX → TS} {ts : Addr → Value → Option Addr → TS} {c : Value} {i : Nat}
end
theorem deed_pair {rs : List (Int × Int)} {ms ls : List Int} {d : PyData} (h : deedO rs ms ls d = none) : ∃ r b, d = .tuple [.int r, .int b] ∧ 0 ≤ r ∧ r < rs.length ∧ (b = 1 ∨ b = -1) ∧ unl rs ls r.toNat = true ∧ roomy ms ls r.toNat b = true := by
  unfold deedO at h
  split at h
  · rename_i r b
    split at h
    · rename_i c1
      split at h
      · rename_i c2
        split at h
        · rename_i c3
          split at h
          · rename_i c4
            exact ⟨r, b, rfl, c1.1, c1.2, c2, c3, c4⟩
          · cases h
        · cases h
      · cases h
    · cases h
  · cases h
end UW
namespace UW
open PySem PySem.Spec PyProof.Rows L2
theorem sumP_cons (p : Int × Int) (rs : List (Int × Int)) (l : Int) (ls : List Int) (i : Int) : sumP (p :: rs) (l :: ls) i = (if atP i p = true then l else 0) + sumP rs ls i := by
  unfold sumP
  rw [List.zip_cons_cons, List.filter_cons]
  cases q : atP i p <;> simp [q]
theorem sumP_set {rs : List (Int × Int)} {ls : List Int} {k : Nat} {p : Int × Int} {l : Int} (hp : rs[k]? = some p) (hl : ls[k]? = some l) (x i : Int) : sumP rs (ls.set k x) i = sumP rs ls i + if atP i p = true then x - l else 0 := by
  induction rs generalizing ls k with
  | nil => simp at hp
  | cons p0 rs ih =>
    cases ls with
    | nil => simp at hl
    | cons l0 ls =>
      cases k with
      | zero =>
        have e1 : p0 = p := by simpa using hp
        have e2 : l0 = l := by simpa using hl
        subst e1
        subst e2
        rw [List.set_cons_zero, sumP_cons, sumP_cons]
        split <;> omega
      | succ k =>
        have := ih (ls := ls) (k := k) (by simpa using hp) (by simpa using hl)
        rw [List.set_cons_succ, sumP_cons, sumP_cons, this]
        omega
theorem mem_let {rs : List (Int × Int)} {ms ls : List Int} {r b : Int} : (r, b) ∈ letD rs ms ls ↔ deedO rs ms ls (.tuple [.int r, .int b]) = none := by
  constructor
  · intro h
    unfold letD letTo at h
    obtain ⟨i, hi, hp⟩ := List.mem_flatMap.mp h
    have hf := List.mem_filter.mp hi
    have il := List.mem_range.mp hf.1
    unfold deedsAt at hp
    obtain ⟨b', hb, e⟩ := List.mem_map.mp hp
    cases e
    have hb2 := List.mem_filter.mp hb
    have hb3 : b = -1 ∨ b = 1 := by simpa using hb2.1
    show (if 0 ≤ (i : Int) ∧ (i : Int) < rs.length then _ else _) = none
    rw [if_pos (by omega), if_pos (by omega), Int.toNat_natCast, if_pos hf.2, if_pos hb2.2]
  · intro h
    obtain ⟨r', b', e, r0, r1, hb, u, ro⟩ := deed_pair h
    cases e
    unfold letD letTo
    refine List.mem_flatMap.mpr ⟨r.toNat, List.mem_filter.mpr ⟨List.mem_range.mpr (by omega), u⟩, ?_⟩
    unfold deedsAt
    refine List.mem_map.mpr ⟨b, List.mem_filter.mpr ⟨?_, ro⟩, Prod.ext (show ((r.toNat : Nat) : Int) = r by omega) rfl⟩
    rcases hb with rfl | rfl <;> simp
structure There (n : Int) (rs : List (Int × Int)) (ms ls : List Int) (r b : Int) : Prop where
  L : Laid n rs ms (bh ls r b)
  s : Stand ms (bh ls r b)
  d : deedO rs ms (bh ls r b) (.tuple [.int r, .int (-b)]) = none
  e : bh (bh ls r b) r (-b) = ls
theorem there_of {n : Int} {rs : List (Int × Int)} {ms ls : List Int} {r b : Int} (L : Laid n rs ms ls) (st : Stand ms ls) (h : deedO rs ms ls (.tuple [.int r, .int b]) = none) :
    There n rs ms ls r b ∧ ∃ p, rs[r.toNat]? = some p ∧ 0 ≤ p.1 ∧ p.1 < p.2 ∧ p.2 < n ∧ sumP rs (bh ls r b) p.1 = sumP rs ls p.1 + b ∧ sumP rs (bh ls r b) p.2 = sumP rs ls p.2 + b := by
  obtain ⟨r', b', e, r0, r1, hb, u, ro⟩ := deed_pair h
  cases e
  have hp : rs[r.toNat]? = some (rs[r.toNat]'(by omega)) := List.getElem?_eq_getElem _
  generalize (rs[r.toNat]'_) = p at hp
  have hl : ls[r.toNat]? = some (ls[r.toNat]'(by have := L.ll; omega)) := List.getElem?_eq_getElem _
  generalize (ls[r.toNat]'_) = l at hl
  have hm : ms[r.toNat]? = some (ms[r.toNat]'(by have := L.lm; omega)) := List.getElem?_eq_getElem _
  generalize (ms[r.toNat]'_) = m at hm
  have o := L.ok p (List.mem_of_getElem? hp)
  have lt : r.toNat < ls.length := (List.getElem?_eq_some_iff.mp hl).1
  have eb : bh ls r b = ls.set r.toNat (l + b) := by unfold bh; rw [nth_getD hl]
  have hl2 : (bh ls r b)[r.toNat]? = some (l + b) := by rw [eb, List.getElem?_set_self lt]
  have s1 : sumP rs (bh ls r b) p.1 = sumP rs ls p.1 + b := by
    rw [eb, sumP_set hp hl, if_pos (by unfold atP; simp)]
    omega
  have s2 : sumP rs (bh ls r b) p.2 = sumP rs ls p.2 + b := by
    rw [eb, sumP_set hp hl, if_pos (by unfold atP; simp)]
    omega
  have so := st.ok _ _ _ hl hm
  rw [roomy_eq hl hm] at ro
  have ro2 : 0 ≤ l + b ∧ l + b ≤ m := by simpa using ro
  refine ⟨⟨⟨L.ok, L.lm, by rw [eb, List.length_set, L.ll], L.n0, L.n1, L.r1⟩, by rw [eb]; exact st.set hm ro2.1 ro2.2, ?_, ?_⟩, p, hp, o.1, o.2.1, o.2.2, s1, s2⟩
  · show (if 0 ≤ r ∧ r < rs.length then _ else _) = none
    have u2 : unl rs (bh ls r b) r.toNat = true := by
      have u0 := u
      unfold unl at u0 ⊢
      rw [hp] at u0 ⊢
      show (!decide (sumP rs (bh ls r b) p.1 = sumP rs (bh ls r b) p.2)) = true
      have u1 : (!decide (sumP rs ls p.1 = sumP rs ls p.2)) = true := u0
      rw [s1, s2]
      have : ¬ sumP rs ls p.1 = sumP rs ls p.2 := by simpa using u1
      simp
      omega
    rw [if_pos ⟨r0, r1⟩, if_pos (by omega), if_pos u2, if_pos]
    rw [roomy_eq hl2 hm]
    have : 0 ≤ l + b + -b ∧ l + b + -b ≤ m := by omega
    simp [this.1, this.2]
  · unfold bh
    rw [nth_getD hl, List.set_set]
    have eg : (ls.set r.toNat (l + b)).getD r.toNat 0 = l + b := nth_getD (List.getElem?_set_self lt)
    rw [eg, show l + b + -b = l from by omega]
    refine List.ext_getElem? fun k => ?_
    rw [List.getElem?_set]
    split
    · next q =>
      subst q
      exact hl.symm
    · rfl
end UW
namespace UW
open PySem PySem.Spec PyProof.Rows L2
end UW
namespace UW
open PySem PySem.Spec PyProof.Rows L2
/-- what a dict of one's own holds -/
inductive Dic where
  | k (kvs : List (L2.Key × PyData))
  | t (kvs : List (List L2.Key × PyData))
/-- what stands in a slot -/
inductive Sot where
  | x
  | d (d : PyData)
  | own (ds : List PyData)
  | wl (u : Nat)
  | err (a : Addr)
  | erx (a dx : Addr) (fs : List (Str × PyData))
  | dic (c : Dic)
/-- what an expression is worth: data; a new list; the list of a slot; the well -/
inductive Avl where
  | d (d : PyData)
  | l (ds : List PyData)
  | b (i : Nat) (ds : List PyData)
  | wl (u : Nat)
  | k (c : Dic)
abbrev Sot.well : Sot := .wl 0
abbrev Avl.w : Avl := .wl 0
abbrev Afr := List Sot
/-- as data -/
def Avl.dat : Avl → Option PyData
  | .d x => some x
  | .l ds => some (.list ds)
  | .b _ ds => some (.list ds)
  | .wl _ => none
  | .k _ => none
/-- as data that may be kept -/
def Avl.cl : Avl → Option PyData
  | .d x => some x
  | .l ds => some (.list ds)
  | _ => none
def Avl.tup : Avl → Option (List PyData)
  | .d (.tuple ds) => some ds
  | _ => none
def Avl.lst : Avl → Option (List PyData)
  | .d (.list ds) => some ds
  | .l ds => some ds
  | .b _ ds => some ds
  | _ => none
def Avl.isB : Avl → Bool
  | .b _ _ => true
  | _ => false
def Sot.av (i : Nat) : Sot → Option Avl
  | .x => none
  | .d y => some (.d y)
  | .own ds => some (.b i ds)
  | .wl u => some (.wl u)
  | .err _ => none
  | .erx _ _ _ => none
  | .dic _ => none
/-- where the well is -/
def Urn (H : Hp) (a l : Addr) : Prop := ∃ (cs : List Int) (s t c : Int), H a = some (.lst [.ref l, .int s, .int t, .int c]) ∧ H l = some (.lst (cs.map V.int)) ∧ cs.length ≤ 64 ∧ 0 ≤ t ∧ t < 4294967296
def Bag (H : Hp) (a l : Addr) : Prop := ∃ (cs : List Int) (s c : Int), H a = some (.dK [(.inr "great", .ref l), (.inr "mixed", .int s), (.inr "turn", .int c)]) ∧ H l = some (.lst (cs.map V.int)) ∧ cs.length ≤ 64
def Jar (H : Hp) (a l m : Addr) : Prop := ∃ (cs ds : List Int) (s c : Int), H a = some (.dK [(.inr "far", .ref l), (.inr "cells", .ref m), (.inr "seal", .int s), (.inr "count", .int c)]) ∧ H l = some (.lst (cs.map V.int)) ∧ cs.length ≤ 64 ∧ H m = some (.lst (ds.map V.int)) ∧ ds.length ≤ 64 ∧ ds ≠ [] ∧ l ≠ m
def Deck (H : Hp) (a l : Addr) : Prop := ∃ (cs : List Int) (s : Int), H a = some (.dK [(.inr "deep", .ref l), (.inr "state", .int s)]) ∧ H l = some (.lst (cs.map V.int)) ∧ cs.length ≤ 64
/-- the ways in which laws keep what they draw from -/
def WelU : Nat → Hp → Addr → Addr → Addr → Prop
  | 0, H, a, l, m => Well H a l ∧ m = l
  | 1, H, a, l, m => Urn H a l ∧ m = l
  | 2, H, a, l, m => Bag H a l ∧ m = l
  | 3, H, a, l, m => Jar H a l m
  | _, H, a, l, m => Deck H a l ∧ m = l
theorem WelU.mt {u : Nat} {H : Hp} {a l m b : Addr} (w : WelU u H a l m) (h : b = a ∨ b = l ∨ b = m) : ∃ o, H b = some o ∧ ∀ xs, o ≠ .tup xs := by
  match u, w with
  | 0, ⟨⟨cs, s, c, e1, e2, _⟩, e⟩ => rcases h with rfl | rfl | h <;> first | exact ⟨_, e1, fun _ z => by cases z⟩ | exact ⟨_, e2, fun _ z => by cases z⟩ | (subst h; subst e; exact ⟨_, e2, fun _ z => by cases z⟩)
  | 1, ⟨⟨cs, s, t, c, e1, e2, _⟩, e⟩ => rcases h with rfl | rfl | h <;> first | exact ⟨_, e1, fun _ z => by cases z⟩ | exact ⟨_, e2, fun _ z => by cases z⟩ | (subst h; subst e; exact ⟨_, e2, fun _ z => by cases z⟩)
  | 2, ⟨⟨cs, s, c, e1, e2, _⟩, e⟩ => rcases h with rfl | rfl | h <;> first | exact ⟨_, e1, fun _ z => by cases z⟩ | exact ⟨_, e2, fun _ z => by cases z⟩ | (subst h; subst e; exact ⟨_, e2, fun _ z => by cases z⟩)
  | 3, ⟨cs, ds, s, c, e1, e2, _, e3, _⟩ => rcases h with rfl | rfl | rfl <;> first | exact ⟨_, e1, fun _ z => by cases z⟩ | exact ⟨_, e2, fun _ z => by cases z⟩ | exact ⟨_, e3, fun _ z => by cases z⟩
  | n + 4, ⟨⟨cs, s, e1, e2, _⟩, e⟩ => rcases h with rfl | rfl | h <;> first | exact ⟨_, e1, fun _ z => by cases z⟩ | exact ⟨_, e2, fun _ z => by cases z⟩ | (subst h; subst e; exact ⟨_, e2, fun _ z => by cases z⟩)
theorem WelU.keep {u : Nat} {H H' : Hp} {a l m : Addr} (w : WelU u H a l m) (h : ∀ b o, (b = a ∨ b = l ∨ b = m) → H b = some o → H' b = some o) : WelU u H' a l m := by
  match u, w with
  | 0, ⟨⟨cs, s, c, e1, e2, e3⟩, e⟩ => exact ⟨⟨cs, s, c, h _ _ (.inl rfl) e1, h _ _ (.inr (.inl rfl)) e2, e3⟩, e⟩
  | 1, ⟨⟨cs, s, t, c, e1, e2, e3⟩, e⟩ => exact ⟨⟨cs, s, t, c, h _ _ (.inl rfl) e1, h _ _ (.inr (.inl rfl)) e2, e3⟩, e⟩
  | 2, ⟨⟨cs, s, c, e1, e2, e3⟩, e⟩ => exact ⟨⟨cs, s, c, h _ _ (.inl rfl) e1, h _ _ (.inr (.inl rfl)) e2, e3⟩, e⟩
  | 3, ⟨cs, ds, s, c, e1, e2, e4, e3, e5⟩ => exact ⟨cs, ds, s, c, h _ _ (.inl rfl) e1, h _ _ (.inr (.inl rfl)) e2, e4, h _ _ (.inr (.inr rfl)) e3, e5⟩
  | n + 4, ⟨⟨cs, s, e1, e2, e3⟩, e⟩ => exact ⟨⟨cs, s, h _ _ (.inl rfl) e1, h _ _ (.inr (.inl rfl)) e2, e3⟩, e⟩
structure Wel where
  a : Addr
  l : Addr
  m : Addr
  u : Nat
  on : Bool
def Wel.has (W : Wel) (b : Addr) : Prop := W.on = true ∧ (b = W.a ∨ b = W.l ∨ b = W.m)
def Wel.is (W : Wel) (u : Nat) : Prop := W.on = true ∧ W.u = u
def Wel.ok (W : Wel) (H : Hp) : Prop := W.on = true → WelU W.u H W.a W.l W.m
theorem Wel.mt {W : Wel} {H : Hp} (w : W.ok H) {b : Addr} (h : W.has b) : ∃ o, H b = some o ∧ ∀ xs, o ≠ .tup xs := (w h.1).mt h.2
theorem Wel.ok.of {W : Wel} {H : Hp} {u : Nat} (w : W.ok H) (h : W.is u) : WelU u H W.a W.l W.m := by
  have := w h.1
  rw [h.2] at this
  exact this
theorem Wel.ok.keep {W : Wel} {H H' : Hp} (w : W.ok H) (h : ∀ b o, W.has b → H b = some o → H' b = some o) : W.ok H' := fun on => (w on).keep fun b o e q => h b o ⟨on, e⟩ q
theorem Wel.ok.put {W : Wel} {H : Hp} {p : Addr} {u : HO} (w : W.ok H) (n : ¬ W.has p) : W.ok (upd H p u) := w.keep fun b o z e => by
  have ne : b ≠ p := fun y => n (by rw [← y]; exact z)
  rw [upd_ne ne]
  exact e
theorem Wel.ne {W : Wel} {H : Hp} (w : W.ok H) {b : Addr} (h : H b = none) : ¬ W.has b := fun z => by
  obtain ⟨vs, e, _⟩ := Wel.mt w z
  rw [h] at e
  cases e
abbrev Ads := Addr → Prop
/-- what an expression does to the heap: it grows, draws from the well; S: where lists of kept data may be -/
structure Mvh (W : Wel) (S : Ads) (H : Hp) (S' : Ads) (H' : Hp) : Prop where
  k : ∀ b o, H b = some o → ¬ W.has b → H' b = some o
  w : W.ok H'
  s : ∀ b, S b → S' b
  n : ∀ b, S' b → S b ∨ H b = none
  t : ∀ b, S' b → H' b ≠ none ∧ ¬ W.has b
section
variable {W : Wel} {S S1 S2 : Ads} {H H1 H2 : Hp} {K : Fg}
theorem Mvh.back (m : Mvh W S H S1 H1) {b : Addr} (h : H1 b = none) : H b = none := by
  cases q : H b with
  | none => rfl
  | some o =>
    by_cases z : W.has b
    · obtain ⟨vs, e, _⟩ := Wel.mt m.w z
      rw [h] at e
      cases e
    · rw [m.k b o q z] at h
      cases h
theorem Mvh.trans (m : Mvh W S H S1 H1) (n : Mvh W S1 H1 S2 H2) : Mvh W S H S2 H2 := by
  refine ⟨fun b o h z => n.k b o (m.k b o h z) z, n.w, fun b h => n.s b (m.s b h), fun b h => ?_, n.t⟩
  rcases n.n b h with q | q
  · exact m.n b q
  · exact .inr (m.back q)
theorem Mvh.tm (w : W.ok H) (m : Mvh W S H S1 H1) : Tm H H1 := by
  intro a xs h
  by_cases z : W.has a
  · obtain ⟨vs, e, ne⟩ := Wel.mt w z
    rw [h] at e
    exact absurd (Option.some.inj e).symm (ne xs)
  · exact m.k _ _ h z
theorem Mvh.od (w : W.ok H) (t : ∀ b, S b → ¬ W.has b) (m : Mvh W S H S1 H1) {v : V} {d : PyData} (h : Od K S H v d) : Od K S1 H1 v d :=
  h.mv (m.tm w) fun a o ga q => ⟨m.s a ga, m.k a o q (t a ga)⟩
theorem Mvh.ods (w : W.ok H) (t : ∀ b, S b → ¬ W.has b) (m : Mvh W S H S1 H1) {v : List V} {d : List PyData} (h : Ods K S H v d) : Ods K S1 H1 v d :=
  h.mv (m.tm w) fun a o ga q => ⟨m.s a ga, m.k a o q (t a ga)⟩
theorem Od.gr {G G' : Ads} (g : ∀ a, G a → G' a) {v : V} {d : PyData} (h : Od K G H v d) : Od K G' H v d := h.mv (Tm.refl H) fun a o ga q => ⟨g a ga, q⟩
theorem Ods.gr {G G' : Ads} (g : ∀ a, G a → G' a) {v : List V} {d : List PyData} (h : Ods K G H v d) : Ods K G' H v d := h.mv (Tm.refl H) fun a o ga q => ⟨g a ga, q⟩
end
/-- a state that may be gone on from -/
structure Oks (W : Wel) (S : Ads) (H : Hp) : Prop where
  w : W.ok H
  t : ∀ b, S b → H b ≠ none ∧ ¬ W.has b
section
variable {W : Wel} {S S1 S2 : Ads} {H H1 H2 : Hp} {K : Fg}
theorem Mvh.oks (m : Mvh W S H S1 H1) : Oks W S1 H1 := ⟨m.w, m.t⟩
theorem Oks.refl (k : Oks W S H) : Mvh W S H S H := ⟨fun _ _ h _ => h, k.w, fun _ h => h, fun _ h => .inl h, k.t⟩
theorem Oks.same (k : Oks W S H) (e : Same H H1) : Mvh W S H S H1 := by
  refine ⟨fun b o h _ => e b o h, k.w.keep fun b o _ q => e b o q, fun _ h => h, fun _ h => .inl h, fun b h => ⟨fun z => ?_, (k.t b h).2⟩⟩
  cases q : H b with
  | none => exact (k.t b h).1 q
  | some o =>
    rw [e b o q] at z
    cases z
/-- a new list may be kept -/
theorem Oks.keep (k : Oks W S H) (e : Mvh W S H S1 H1) {p : Addr} {vs : List V} (h : H1 p = some (.lst vs)) (n : H p = none) : Mvh W S H (fun b => S1 b ∨ b = p) H1 := by
  refine ⟨e.k, e.w, fun b h => .inl (e.s b h), fun b h => ?_, fun b h => ?_⟩
  · rcases h with h | rfl
    · exact e.n b h
    · exact .inr n
  · rcases h with h | rfl
    · exact e.t b h
    · exact ⟨(by rw [h]; intro z; cases z), Wel.ne k.w n⟩
end
/-- a dict on the heap -/
def DcR (K : Fg) (S : Ads) (H : Hp) (p : Addr) : Dic → Prop
  | .k kvs => ∃ ls, H p = some (.dK ls) ∧ Paired (fun (a : L2.Key × V) (b : L2.Key × PyData) => a.1 = b.1 ∧ Od K S H a.2 b.2) ls kvs
  | .t kvs => ∃ ls, H p = some (.dT ls) ∧ Paired (fun (a : List L2.Key × V) (b : List L2.Key × PyData) => a.1 = b.1 ∧ Od K S H a.2 b.2) ls kvs
theorem DcR.mp {K : Fg} {S S1 : Ads} {H H1 : Hp} {p : Addr} {c : Dic} (h : DcR K S H p c) (hk : ∀ o, H p = some o → H1 p = some o) (hf : ∀ {v d}, Od K S H v d → Od K S1 H1 v d) : DcR K S1 H1 p c := by
  cases c with
  | k kvs =>
    obtain ⟨ls, a, b⟩ := h
    exact ⟨ls, hk _ a, L2.Paired.mapP b fun _ _ z => ⟨z.1, hf z.2⟩⟩
  | t kvs =>
    obtain ⟨ls, a, b⟩ := h
    exact ⟨ls, hk _ a, L2.Paired.mapP b fun _ _ z => ⟨z.1, hf z.2⟩⟩
theorem DcR.at {K : Fg} {S : Ads} {H : Hp} {p : Addr} {c : Dic} (h : DcR K S H p c) : ∃ o, H p = some o ∧ ∀ xs, o ≠ .tup xs := by
  cases c with
  | k kvs =>
    obtain ⟨ls, a, b⟩ := h
    exact ⟨_, a, fun xs z => by cases z⟩
  | t kvs =>
    obtain ⟨ls, a, b⟩ := h
    exact ⟨_, a, fun xs z => by cases z⟩
theorem DcR.ne {K : Fg} {S : Ads} {H : Hp} {p : Addr} {c : Dic} (h : DcR K S H p c) : H p ≠ none := by
  obtain ⟨o, a, _⟩ := h.at
  rw [a]
  intro z
  cases z
/-- what a value is worth; Hs: the heap at the beginning -/
def Vrp (K : Fg) (W : Wel) (Hs : Hp) (O : Nat → Option Addr) (S : Ads) (H : Hp) (v : V) : Avl → Prop
  | .d x => Od K S H v x
  | .l ds => ∃ p vs, v = .ref p ∧ H p = some (.lst vs) ∧ Ods K S H vs ds ∧ ¬ S p ∧ Hs p = none ∧ ¬ W.has p
  | .b i ds => ∃ p vs, v = .ref p ∧ O i = some p ∧ H p = some (.lst vs) ∧ Ods K S H vs ds ∧ ¬ W.has p
  | .wl u => W.is u ∧ v = .ref W.a
  | .k c => ∃ p, v = .ref p ∧ DcR K S H p c ∧ ¬ S p ∧ Hs p = none ∧ ¬ W.has p
/-- the data of an error, kept -/
def Xfs (K : Fg) (S : Ads) (H : Hp) (dx : Addr) (fs : List (Str × PyData)) : Prop := S dx ∧ ∃ vs, H dx = some (.xd vs) ∧ Paired (fun (p : Str × V) (q : Str × PyData) => p.1 = q.1 ∧ Od K S H p.2 q.2) vs fs
theorem Xfs.mv' {K : Fg} {S S1 : Ads} {H H1 : Hp} {dx : Addr} {fs : List (Str × PyData)} (h : Xfs K S H dx fs) (s : ∀ b, S b → S1 b) (k : ∀ b o, S b → H b = some o → H1 b = some o) (f : ∀ {v d}, Od K S H v d → Od K S1 H1 v d) : Xfs K S1 H1 dx fs := by
  obtain ⟨a, vs, b, c⟩ := h
  exact ⟨s _ a, vs, k _ _ a b, L2.Paired.mapP c fun _ _ z => ⟨z.1, f z.2⟩⟩
/-- what stands in a slot -/
def Slr (K : Fg) (W : Wel) (O : Nat → Option Addr) (S : Ads) (H : Hp) (σ : L2.St) (i : Nat) : Sot → Prop
  | .x => True
  | .d x => ∃ v, σ[i]? = some (some v) ∧ Od K S H v x
  | .own ds => ∃ p vs, O i = some p ∧ σ[i]? = some (some (.ref p)) ∧ H p = some (.lst vs) ∧ Ods K S H vs ds
  | .wl u => W.is u ∧ σ[i]? = some (some (.ref W.a))
  | .err a => σ[i]? = some (some (.ref a))
  | .erx a dx fs => σ[i]? = some (some (.ref a)) ∧ Xfs K S H dx fs
  | .dic c => ∃ p, O i = some p ∧ σ[i]? = some (some (.ref p)) ∧ DcR K S H p c
/-- the frame; H0, S0: as it was entered -/
structure Frm (K : Fg) (W : Wel) (H0 : Hp) (S0 : Ads) (O : Nat → Option Addr) (S : Ads) (α : Afr) (σ : L2.St) (H : Hp) : Prop where
  k : Oks W S H
  k0 : ∀ b o, H0 b = some o → ¬ W.has b → H b = some o
  n0 : ∀ b, S b → S0 b ∨ H0 b = none
  w0 : W.ok H0
  o : ∀ i p, O i = some p → H0 p = none ∧ H p ≠ none ∧ ¬ S p ∧ ∀ j, O j = some p → j = i
  len : α.length = σ.length
  sl : ∀ i z, α[i]? = some z → Slr K W O S H σ i z
/-- how statements go on: what is kept stays -/
structure Kee (S : Ads) (H : Hp) (S' : Ads) (H' : Hp) : Prop where
  s : ∀ b, S b → S' b
  t : Tm H H'
  k : ∀ b o, S b → H b = some o → H' b = some o
theorem Kee.refl {S : Ads} {H : Hp} : Kee S H S H := ⟨fun _ h => h, Tm.refl _, fun _ _ _ h => h⟩
theorem Kee.trans {S S1 S2 : Ads} {H H1 H2 : Hp} (a : Kee S H S1 H1) (b : Kee S1 H1 S2 H2) : Kee S H S2 H2 :=
  ⟨fun x h => b.s x (a.s x h), a.t.trans b.t, fun x o h q => b.k x o (a.s x h) (a.k x o h q)⟩
theorem Kee.od {K : Fg} {S S1 : Ads} {H H1 : Hp} (a : Kee S H S1 H1) {v : V} {d : PyData} (h : Od K S H v d) : Od K S1 H1 v d := h.mv a.t fun x o ga q => ⟨a.s x ga, a.k x o ga q⟩
theorem Kee.ods {K : Fg} {S S1 : Ads} {H H1 : Hp} (a : Kee S H S1 H1) {v : List V} {d : List PyData} (h : Ods K S H v d) : Ods K S1 H1 v d := h.mv a.t fun x o ga q => ⟨a.s x ga, a.k x o ga q⟩
section
variable {K : Fg} {W : Wel} {Hs H0 H H1 : Hp} {S0 S S1 : Ads} {O : Nat → Option Addr} {α : Afr} {σ : L2.St} {v : V} {av : Avl}
theorem Mvh.kee (k : Oks W S H) (m : Mvh W S H S1 H1) : Kee S H S1 H1 := ⟨m.s, m.tm k.w, fun b o h q => m.k b o q (k.t b h).2⟩
theorem Vrp.mv (k : Oks W S H) (h : Vrp K W Hs O S H v av) (m : Mvh W S H S1 H1) : Vrp K W Hs O S1 H1 v av := by
  have t : ∀ b, S b → ¬ W.has b := fun b z => (k.t b z).2
  cases av with
  | d x => exact m.od k.w t h
  | l ds =>
    obtain ⟨p, vs, rfl, h1, h2, h3, h4, h5⟩ := h
    exact ⟨p, vs, rfl, m.k _ _ h1 h5, m.ods k.w t h2, fun z => (m.n p z).elim h3 fun q => (by rw [h1] at q; cases q), h4, h5⟩
  | b i ds =>
    obtain ⟨p, vs, rfl, h0, h1, h2, h3⟩ := h
    exact ⟨p, vs, rfl, h0, m.k _ _ h1 h3, m.ods k.w t h2, h3⟩
  | wl u => exact h
  | k c =>
    obtain ⟨p, rfl, h1, h3, h4, h5⟩ := h
    exact ⟨p, rfl, h1.mp (fun o e => m.k _ _ e h5) (fun z => m.od k.w t z), fun z => (m.n p z).elim h3 h1.ne, h4, h5⟩
theorem Vrp.hs (h : Vrp K W H1 O S H v av) (g : ∀ b, H1 b = none → Hs b = none) : Vrp K W Hs O S H v av := by
  cases av with
  | d x => exact h
  | l ds =>
    obtain ⟨p, vs, rfl, h1, h2, h3, h4, h5⟩ := h
    exact ⟨p, vs, rfl, h1, h2, h3, g _ h4, h5⟩
  | b i ds => exact h
  | wl u => exact h
  | k c =>
    obtain ⟨p, rfl, h1, h3, h4, h5⟩ := h
    exact ⟨p, rfl, h1, h3, g _ h4, h5⟩
theorem Frm.mv (f : Frm K W H0 S0 O S α σ H) (m : Mvh W S H S1 H1) : Frm K W H0 S0 O S1 α σ H1 := by
  have nw : ∀ i p, O i = some p → ¬ W.has p := fun i p e => Wel.ne f.w0 (f.o i p e).1
  have t : ∀ b, S b → ¬ W.has b := fun b z => (f.k.t b z).2
  refine ⟨m.oks, fun b o h z => m.k b o (f.k0 b o h z) z, fun b h => ?_, f.w0, fun i p e => ?_, f.len, fun i z e => ?_⟩
  · rcases m.n b h with q | q
    · exact f.n0 b q
    · refine .inr ?_
      cases y : H0 b with
      | none => rfl
      | some o =>
        by_cases z : W.has b
        · exact absurd z (m.t b h).2
        · rw [f.k0 b o y z] at q
          cases q
  · obtain ⟨h1, h2, h3, h4⟩ := f.o i p e
    refine ⟨h1, fun q => h2 (m.back q), fun z => (m.n p z).elim h3 h2, h4⟩
  · have := f.sl i z e
    cases z with
    | x => trivial
    | d x =>
      obtain ⟨v, h1, h2⟩ := this
      exact ⟨v, h1, m.od f.k.w t h2⟩
    | own ds =>
      obtain ⟨p, vs, h1, h2, h3, h4⟩ := this
      exact ⟨p, vs, h1, h2, m.k _ _ h3 (nw i p h1), m.ods f.k.w t h4⟩
    | wl u => exact this
    | err a => exact this
    | erx a dx fs => exact ⟨this.1, this.2.mv' m.s (fun b o e y => m.k b o y (t b e)) fun h => m.od f.k.w t h⟩
    | dic c =>
      obtain ⟨p, h1, h2, h3⟩ := this
      exact ⟨p, h1, h2, h3.mp (fun o e => m.k _ _ e (nw i p h1)) (fun z => m.od f.k.w t z)⟩
end
abbrev AXr := Afr → Addr → Option (List (Str × PyData)) → Prop
abbrev AEx := AXr → Afr → (Avl → Prop) → Prop
abbrev ATx := AXr → Afr → (Bool → Prop) → Prop
abbrev AAd := AXr → Afr → (List PyData → Prop) → Prop
abbrev AAv := AXr → Afr → (List Avl → Prop) → Prop
/-- an error's own data -/
def Xrp (K : Fg) (S : Ads) (H : Hp) (d : Option Addr) : Option (List (Str × PyData)) → Prop
  | none => d = none
  | some fs => ∃ dx, d = some dx ∧ Xfs K S H dx fs
/-- the errors go on -/
def Lkx (K : Fg) (W : Wel) (H0 : Hp) (S0 : Ads) (S : Ads) (H : Hp) (E : WX) (X : AXr) : Prop :=
  ∀ O S' α σ H' C d f, Kee S H S' H' → Frm K W H0 S0 O S' α σ H' → Xrp K S' H' d f → X α C f → E (.ref C) d σ H'
theorem Lkx.kee {K : Fg} {W : Wel} {H0 : Hp} {S0 S S1 : Ads} {H H1 : Hp} {E : WX} {X : AXr} (l : Lkx K W H0 S0 S H E X) (a : Kee S H S1 H1) : Lkx K W H0 S0 S1 H1 E X :=
  fun O S' α σ H' C d f b g x h => l O S' α σ H' C d f (a.trans b) g x h
def REx (K : Fg) (E : WX) (t : TE) (e : AEx) : Prop := ∀ {W : Wel} {H0 : Hp} {S0 : Ads} {O : Nat → Option Addr} {S : Ads} {α : Afr} {σ : L2.St} {H : Hp} {X : AXr} {k : Avl → Prop} {Q : VK},
  Frm K W H0 S0 O S α σ H → e X α k → Lkx K W H0 S0 S H E X → (∀ v av S' H', Mvh W S H S' H' → Vrp K W H O S' H' v av → k av → Q v H') → t σ H Q
def RTx (K : Fg) (E : WX) (t : TT) (e : ATx) : Prop := ∀ {W : Wel} {H0 : Hp} {S0 : Ads} {O : Nat → Option Addr} {S : Ads} {α : Afr} {σ : L2.St} {H : Hp} {X : AXr} {k : Bool → Prop} {Q : Bool → Hp → Prop},
  Frm K W H0 S0 O S α σ H → e X α k → Lkx K W H0 S0 S H E X → (∀ b S' H', Mvh W S H S' H' → k b → Q b H') → t σ H Q
def RAd (K : Fg) (E : WX) (t : TA) (e : AAd) (n : Nat) : Prop := ∀ {W : Wel} {H0 : Hp} {S0 : Ads} {O : Nat → Option Addr} {S : Ads} {α : Afr} {σ : L2.St} {H : Hp} {X : AXr} {k : List PyData → Prop} {Q : List V → Hp → Prop},
  Frm K W H0 S0 O S α σ H → e X α k → Lkx K W H0 S0 S H E X → (∀ vs xs S' H', Mvh W S H S' H' → Ods K S' H' vs xs → vs.length = n → k xs → Q vs H') → t σ H Q
def RAv (K : Fg) (E : WX) (t : TA) (e : AAv) (n : Nat) : Prop := ∀ {W : Wel} {H0 : Hp} {S0 : Ads} {O : Nat → Option Addr} {S : Ads} {α : Afr} {σ : L2.St} {H : Hp} {X : AXr} {k : List Avl → Prop} {Q : List V → Hp → Prop},
  Frm K W H0 S0 O S α σ H → e X α k → Lkx K W H0 S0 S H E X → (∀ vs avs S' H', Mvh W S H S' H' → Paired (Vrp K W H O S' H') vs avs → vs.length = n → k avs → Q vs H') → t σ H Q
section
variable {K : Fg} {E : WX}
def aVar (i : Nat) : AEx := fun _ α k => ∃ z av, α[i]? = some z ∧ z.av i = some av ∧ k av
theorem re_var {i : Nat} : REx K E (tVar i) (aVar i) := by
  intro W H0 S0 O S α σ H X k Q f h _ q
  obtain ⟨z, av, h1, h2, h3⟩ := h
  have s := f.sl i z h1
  cases z with
  | x => cases h2
  | d x =>
    cases h2
    obtain ⟨v, s1, s2⟩ := s
    exact ⟨v, s1, q v (.d x) S H f.k.refl s2 h3⟩
  | own ds =>
    cases h2
    obtain ⟨p, vs, s1, s2, s3, s4⟩ := s
    exact ⟨_, s2, q _ (.b i ds) S H f.k.refl ⟨p, vs, rfl, s1, s3, s4, Wel.ne f.w0 (f.o i p s1).1⟩ h3⟩
  | wl u =>
    cases h2
    exact ⟨_, s.2, q _ (.wl u) S H f.k.refl ⟨s.1, rfl⟩ h3⟩
  | err a => cases h2
  | erx a dx fs => cases h2
  | dic c => cases h2
def aC (d : PyData) : AEx := fun _ _ k => k (.d d)
theorem re_c {v : V} {d : PyData} (h : ∀ S H, Od K S H v d) : REx K E (tC v) (aC d) := fun f h1 _ q => q _ (.d d) _ _ f.k.refl (h _ _) h1
theorem re_int {i : Int} : REx K E (tC (.int i)) (aC (.int i)) := re_c fun _ _ => .int i
theorem re_str {i : Str} : REx K E (tC (.str i)) (aC (.str i)) := re_c fun _ _ => .str i
theorem re_bl {i : Bool} : REx K E (tC (.bl i)) (aC (.bool i)) := re_c fun _ _ => .bl i
theorem re_non : REx K E (tC .non) (aC .none) := re_c fun _ _ => .non
def aNil : AAd := fun _ _ k => k []
def aCons (e : AEx) (r : AAd) : AAd := fun X α k => e X α fun av => ∃ x, av.cl = some x ∧ r X α fun xs => k (x :: xs)
theorem ra_nil : RAd K E tNil aNil 0 := fun f h _ q => q _ _ _ _ f.k.refl .nil rfl h
/-- a value, kept -/
theorem keepx {W : Wel} {O : Nat → Option Addr} {S S1 : Ads} {H H1 : Hp} {v : V} {av : Avl} {x : PyData} (k : Oks W S H) (m : Mvh W S H S1 H1) (h : Vrp K W H O S1 H1 v av) (e : av.cl = some x) : ∃ S2, Mvh W S H S2 H1 ∧ (∀ b, S1 b → S2 b) ∧ Od K S2 H1 v x := by
  cases av with
  | d y => cases e; exact ⟨S1, m, fun _ h => h, h⟩
  | l ds =>
    cases e
    obtain ⟨p, vs, rfl, h1, h2, h3, h4, h5⟩ := h
    exact ⟨_, k.keep m h1 h4, fun _ h => .inl h, .lst (.inr rfl) h1 (h2.gr fun _ h => .inl h)⟩
  | b i ds => cases e
  | wl u => cases e
  | k c => cases e
theorem ra_cons {te : TE} {tr : TA} {e : AEx} {r : AAd} {n : Nat} (h1 : REx K E te e) (h2 : RAd K E tr r n) : RAd K E (tCons te tr) (aCons e r) (n + 1) := by
  intro W H0 S0 O S α σ H X k Q f h lk q
  refine h1 f h lk fun v av S1 H1 m1 r1 ⟨x, ex, h'⟩ => ?_
  obtain ⟨S2, m2, _, o2⟩ := keepx f.k m1 r1 ex
  have f2 := f.mv m2
  refine h2 f2 h' (lk.kee (m2.kee f.k)) fun vs xs S3 H3 m3 r3 l3 k3 => ?_
  exact q (v :: vs) _ S3 H3 (m2.trans m3) (.cons (m3.od f2.k.w (fun b z => (f2.k.t b z).2) o2) r3) (by rw [List.length_cons, l3]) k3
def bNil : AAv := fun _ _ k => k []
def bCons (e : AEx) (r : AAv) : AAv := fun X α k => e X α fun x => r X α fun xs => k (x :: xs)
theorem rv_nil : RAv K E tNil bNil 0 := fun f h _ q => q _ _ _ _ f.k.refl .nil rfl h
theorem rv_cons {te : TE} {tr : TA} {e : AEx} {r : AAv} {n : Nat} (h1 : REx K E te e) (h2 : RAv K E tr r n) : RAv K E (tCons te tr) (bCons e r) (n + 1) := by
  intro W H0 S0 O S α σ H X k Q f h lk q
  refine h1 f h lk fun v av S1 H1 m1 r1 h' => ?_
  have f1 := f.mv m1
  refine h2 f1 h' (lk.kee (m1.kee f.k)) fun vs xs S3 H3 m3 r3 l3 k3 => ?_
  exact q (v :: vs) _ S3 H3 (m1.trans m3) (.cons (r1.mv f1.k m3) (L2.Paired.mapP r3 fun a b z => Vrp.hs z fun c y => m1.back y)) (by rw [List.length_cons, l3]) k3
def aTup (a : AAd) : AEx := fun X α k => a X α fun xs => k (.d (.tuple xs))
def aLst (a : AAd) : AEx := fun X α k => a X α fun xs => k (.l xs)
theorem re_tup {t : TA} {a : AAd} {n : Nat} (h1 : RAd K E t a n) (hn : Nat.ble n 1000 = true := by rfl) : REx K E (tTup t) (aTup a) := by
  intro W H0 S0 O S α σ H X k Q f h lk q
  refine h1 f h lk fun vs xs S1 H1 m1 r1 l1 k1 => ⟨by rw [l1]; exact Nat.le_trans (Nat.le_of_ble_eq_true hn) (by decide), fun p np => ?_⟩
  have m2 := m1.oks.same (Same.new (o := .tup vs) np)
  exact q _ (.d (.tuple xs)) S1 _ (m1.trans m2) (Od.tup (SqT.of upd_same) (r1.same (Same.new np))) k1
theorem re_lst {t : TA} {a : AAd} {n : Nat} (h1 : RAd K E t a n) (hn : Nat.ble n 1000 = true := by rfl) : REx K E (tLst t) (aLst a) := by
  intro W H0 S0 O S α σ H X k Q f h lk q
  refine h1 f h lk fun vs xs S1 H1 m1 r1 l1 k1 => ⟨by rw [l1]; exact Nat.le_trans (Nat.le_of_ble_eq_true hn) (by decide), fun p np => ?_⟩
  have m2 := m1.oks.same (Same.new (o := .lst vs) np)
  exact q _ (.l xs) S1 _ (m1.trans m2) ⟨p, vs, rfl, upd_same, r1.same (Same.new np), fun z => (m1.t p z).1 np, m1.back np, Wel.ne m1.w np⟩ k1
theorem rt_of {t : TE} {e : AEx} (h1 : REx K E t e) : RTx K E (tTest t) (fun X α k => e X α fun av => ∃ b, av = .d (.bool b) ∧ k b) := by
  intro W H0 S0 O S α σ H X k Q f h lk q
  refine h1 f h lk fun v av S1 H1 m1 r1 ⟨b, eb, k1⟩ => ?_
  subst eb
  cases r1
  exact ⟨b, rfl, q b S1 H1 m1 k1⟩
def aB (e : AEx) : ATx := fun X α k => e X α fun av => ∃ b, av = .d (.bool b) ∧ k b
theorem rt_test {t : TE} {e : AEx} (h1 : REx K E t e) : RTx K E (tTest t) (aB e) := rt_of h1
theorem rt_b {t : TE} {e : AEx} (h1 : REx K E t e) : RTx K E (tB t) (aB e) := rt_of h1
def aYes : ATx := fun _ _ k => k true
theorem rt_yes : RTx K E tYes aYes := fun f h _ q => q true _ _ f.k.refl h
def aAnd (t u : ATx) : ATx := fun X α k => t X α fun c => if c = true then u X α k else k false
def aOr (t u : ATx) : ATx := fun X α k => t X α fun c => if c = true then k true else u X α k
def aNot (t : ATx) : ATx := fun X α k => t X α fun c => k (!c)
theorem rt_and {t u : TT} {a b : ATx} (h1 : RTx K E t a) (h2 : RTx K E u b) : RTx K E (tAnd t u) (aAnd a b) := by
  intro W H0 S0 O S α σ H X k Q f h lk q
  refine h1 f h lk fun c S1 H1 m1 k1 => ?_
  cases c with
  | true =>
    rw [if_pos rfl] at k1 ⊢
    exact h2 (f.mv m1) k1 (lk.kee (m1.kee f.k)) fun b S2 H2 m2 k2 => q b S2 H2 (m1.trans m2) k2
  | false =>
    rw [if_neg (by decide)] at k1 ⊢
    exact q false S1 H1 m1 k1
theorem rt_or {t u : TT} {a b : ATx} (h1 : RTx K E t a) (h2 : RTx K E u b) : RTx K E (tOr t u) (aOr a b) := by
  intro W H0 S0 O S α σ H X k Q f h lk q
  refine h1 f h lk fun c S1 H1 m1 k1 => ?_
  cases c with
  | true =>
    rw [if_pos rfl] at k1 ⊢
    exact q true S1 H1 m1 k1
  | false =>
    rw [if_neg (by decide)] at k1 ⊢
    exact h2 (f.mv m1) k1 (lk.kee (m1.kee f.k)) fun b S2 H2 m2 k2 => q b S2 H2 (m1.trans m2) k2
theorem rt_not {t : TT} {a : ATx} (h1 : RTx K E t a) : RTx K E (tNot t) (aNot a) := by
  intro W H0 S0 O S α σ H X k Q f h lk q
  exact h1 f h lk fun c S1 H1 m1 k1 => q _ S1 H1 m1 k1
def aIf (t : ATx) (a b : AEx) : AEx := fun X α k => t X α fun c => if c = true then a X α k else b X α k
theorem re_if {t : TT} {ta tb : TE} {c : ATx} {a b : AEx} (h0 : RTx K E t c) (h1 : REx K E ta a) (h2 : REx K E tb b) : REx K E (tIf t ta tb) (aIf c a b) := by
  intro W H0 S0 O S α σ H X k Q f h lk q
  refine h0 f h lk fun c S1 H1 m1 k1 => ?_
  have go : ∀ {t : TE} {e : AEx}, REx K E t e → e X α k → t σ H1 Q := fun r z => r (f.mv m1) z (lk.kee (m1.kee f.k)) fun v av S2 H2 m2 r2 k2 => q v av S2 H2 (m1.trans m2) (r2.hs fun b y => m1.back y) k2
  cases c with
  | true =>
    rw [if_pos rfl] at k1 ⊢
    exact go h1 k1
  | false =>
    rw [if_neg (by decide)] at k1 ⊢
    exact go h2 k1
def aAndV (a b : AEx) : AEx := fun X α k => a X α fun x => ∃ c, x = .d (.bool c) ∧ if c = true then b X α k else k (.d (.bool false))
def aOrV (a b : AEx) : AEx := fun X α k => a X α fun x => ∃ c, x = .d (.bool c) ∧ if c = true then k (.d (.bool true)) else b X α k
def aNotV (a : AEx) : AEx := fun X α k => a X α fun x => ∃ c, x = .d (.bool c) ∧ k (.d (.bool (!c)))
theorem re_andV {ta tb : TE} {a b : AEx} (h1 : REx K E ta a) (h2 : REx K E tb b) : REx K E (tAndV ta tb) (aAndV a b) := by
  intro W H0 S0 O S α σ H X k Q f h lk q
  refine h1 f h lk fun v av S1 H1 m1 r1 ⟨c, ec, k1⟩ => ?_
  subst ec
  cases r1
  refine ⟨c, rfl, ?_⟩
  cases c with
  | true =>
    rw [if_pos rfl] at k1 ⊢
    exact h2 (f.mv m1) k1 (lk.kee (m1.kee f.k)) fun v av S2 H2 m2 r2 k2 => q v av S2 H2 (m1.trans m2) (r2.hs fun b y => m1.back y) k2
  | false =>
    rw [if_neg (by decide)] at k1 ⊢
    exact q _ (.d (.bool false)) S1 H1 m1 (Od.bl false) k1
abbrev AO2 := Avl → Avl → (Avl → Prop) → Prop
def ROp (K : Fg) (r : R2) (g : AO2) : Prop := ∀ {W : Wel} {Hs : Hp} {O : Nat → Option Addr} {S : Ads} {H : Hp} {x y : V} {ax ay : Avl} {k : Avl → Prop} {Q : VK},
  Oks W S H → Vrp K W Hs O S H x ax → Vrp K W Hs O S H y ay → g ax ay k → (∀ v av S' H', Mvh W S H S' H' → Vrp K W H O S' H' v av → k av → Q v H') → r x y H Q
def aOp (g : AO2) (a b : AEx) : AEx := fun X α k => a X α fun x => b X α fun y => g x y k
theorem re_op {r : R2} {ta tb : TE} {g : AO2} {a b : AEx} (ho : ROp K r g) (h1 : REx K E ta a) (h2 : REx K E tb b) : REx K E (tOp r ta tb) (aOp g a b) := by
  intro W H0 S0 O S α σ H X k Q f h lk q
  refine h1 f h lk fun v av S1 H1 m1 r1 k1 => ?_
  have f1 := f.mv m1
  refine h2 f1 k1 (lk.kee (m1.kee f.k)) fun u au S2 H2 m2 r2 k2 => ?_
  refine ho m2.oks (r1.mv f1.k m2) (r2.hs fun b y => m1.back y) k2 fun w aw S3 H3 m3 r3 k3 => ?_
  exact q w aw S3 H3 ((m1.trans m2).trans m3) (r3.hs fun b y => (m1.trans m2).back y) k3
def aChain (g g' : AO2) (a b c : AEx) : AEx := fun X α k => a X α fun x => b X α fun y => g x y fun z => ∃ p, z = .d (.bool p) ∧ if p = true then c X α fun w => g' y w k else k (.d (.bool false))
theorem re_chain {r r' : R2} {ta tb tc : TE} {g g' : AO2} {a b c : AEx} (ho : ROp K r g) (ho' : ROp K r' g') (h1 : REx K E ta a) (h2 : REx K E tb b) (h3 : REx K E tc c) : REx K E (tChain r r' ta tb tc) (aChain g g' a b c) := by
  intro W H0 S0 O S α σ H X k Q f h lk q
  refine h1 f h lk fun v av S1 H1 m1 r1 k1 => ?_
  have f1 := f.mv m1
  refine h2 f1 k1 (lk.kee (m1.kee f.k)) fun u au S2 H2 m2 r2 k2 => ?_
  have r2' := r2.hs fun b y => m1.back y
  refine ho m2.oks (r1.mv f1.k m2) r2' k2 fun w aw S3 H3 m3 r3 ⟨p, ep, k3⟩ => ?_
  subst ep
  cases r3
  refine ⟨p, rfl, ?_⟩
  have m13 := (m1.trans m2).trans m3
  cases p with
  | true =>
    rw [if_pos rfl] at k3 ⊢
    have f3 := f.mv m13
    refine h3 f3 k3 (lk.kee (m13.kee f.k)) fun w aw S4 H4 m4 r4 k4 => ?_
    refine ho' m4.oks ((r2'.mv m2.oks m3).mv m3.oks m4) (r4.hs fun b y => m13.back y) k4 fun w aw S5 H5 m5 r5 k5 => ?_
    exact q w aw S5 H5 ((m13.trans m4).trans m5) (r5.hs fun b y => (m13.trans m4).back y) k5
  | false =>
    rw [if_neg (by decide)] at k3 ⊢
    exact q _ (.d (.bool false)) S3 H3 m13 (Od.bl false) k3
abbrev AO1 := Avl → (Avl → Prop) → Prop
def ROu (K : Fg) (r : V → Hp → VK → Prop) (g : AO1) : Prop := ∀ {W : Wel} {Hs : Hp} {O : Nat → Option Addr} {S : Ads} {H : Hp} {x : V} {ax : Avl} {k : Avl → Prop} {Q : VK},
  Oks W S H → Vrp K W Hs O S H x ax → g ax k → (∀ v av S' H', Mvh W S H S' H' → Vrp K W H O S' H' v av → k av → Q v H') → r x H Q
def aUn (g : AO1) (a : AEx) : AEx := fun X α k => a X α fun x => g x k
theorem re_un {r : V → Hp → VK → Prop} {ta : TE} {g : AO1} {a : AEx} (ho : ROu K r g) (h1 : REx K E ta a) : REx K E (tUn r ta) (aUn g a) := by
  intro W H0 S0 O S α σ H X k Q f h lk q
  refine h1 f h lk fun v av S1 H1 m1 r1 k1 => ?_
  exact ho m1.oks r1 k1 fun w aw S3 H3 m3 r3 k3 => q w aw S3 H3 (m1.trans m3) (r3.hs fun b y => m1.back y) k3
abbrev AOn := List Avl → (Avl → Prop) → Prop
def RCb (K : Fg) (r : List V → Hp → VK → Prop) (g : AOn) : Prop := ∀ {W : Wel} {Hs : Hp} {O : Nat → Option Addr} {S : Ads} {H : Hp} {xs : List V} {as : List Avl} {k : Avl → Prop} {Q : VK},
  Oks W S H → Paired (Vrp K W Hs O S H) xs as → g as k → (∀ v av S' H', Mvh W S H S' H' → Vrp K W H O S' H' v av → k av → Q v H') → r xs H Q
def aCB (g : AOn) (a : AAv) : AEx := fun X α k => a X α fun xs => g xs k
theorem re_cb {r : List V → Hp → VK → Prop} {ta : TA} {g : AOn} {a : AAv} {n : Nat} (ho : RCb K r g) (h1 : RAv K E ta a n) : REx K E (tCB r ta) (aCB g a) := by
  intro W H0 S0 O S α σ H X k Q f h lk q
  refine h1 f h lk fun vs avs S1 H1 m1 r1 _ k1 => ?_
  exact ho m1.oks r1 k1 fun w aw S3 H3 m3 r3 k3 => q w aw S3 H3 (m1.trans m3) (r3.hs fun b y => m1.back y) k3
abbrev AOp := AXr → Afr → (Option Int → Prop) → Prop
def ROp' (K : Fg) (E : WX) (t : TO) (e : AOp) : Prop := ∀ {W : Wel} {H0 : Hp} {S0 : Ads} {O : Nat → Option Addr} {S : Ads} {α : Afr} {σ : L2.St} {H : Hp} {X : AXr} {k : Option Int → Prop} {Q : Option Int → Hp → Prop},
  Frm K W H0 S0 O S α σ H → e X α k → Lkx K W H0 S0 S H E X → (∀ i S' H', Mvh W S H S' H' → k i → Q i H') → t σ H Q
def aNoPart : AOp := fun _ _ k => k none
def aPart (e : AEx) : AOp := fun X α k => e X α fun av => ∃ i, av = .d (.int i) ∧ k (some i)
theorem ro_none : ROp' K E tNoPart aNoPart := fun f h _ q => q _ _ _ f.k.refl h
theorem ro_some {t : TE} {e : AEx} (h1 : REx K E t e) : ROp' K E (tPart t) (aPart e) := by
  intro W H0 S0 O S α σ H X k Q f h lk q
  refine h1 f h lk fun v av S1 H1 m1 r1 ⟨i, ei, k1⟩ => ?_
  subst ei
  cases r1
  exact ⟨i, rfl, q _ S1 H1 m1 k1⟩
end
end UW
namespace UW
open PySem PySem.Spec PyProof.Rows L2
def odel (O : Nat → Option Addr) (i : Nat) : Nat → Option Addr := fun j => if j = i then none else O j
def oput (O : Nat → Option Addr) (i : Nat) (p : Addr) : Nat → Option Addr := fun j => if j = i then some p else O j
section
variable {K : Fg} {W : Wel} {Hs H0 H H1 : Hp} {S0 S S1 : Ads} {O : Nat → Option Addr} {α : Afr} {σ : L2.St} {v : V} {av : Avl} {i : Nat}
theorem Frm.back (f : Frm K W H0 S0 O S α σ H) {b : Addr} (h : H b = none) : H0 b = none := by
  cases y : H0 b with
  | none => rfl
  | some o =>
    by_cases z : W.has b
    · exact absurd z (Wel.ne f.k.w h)
    · rw [f.k0 b o y z] at h
      cases h
theorem set_get {α : Type} {l : List α} {i j : Nat} {x y : α} (h : (l.set i x)[j]? = some y) : (j = i ∧ y = x ∧ i < l.length) ∨ (j ≠ i ∧ l[j]? = some y) := by
  by_cases e : i = j
  · subst e
    by_cases hl : i < l.length
    · rw [List.getElem?_set_self hl] at h
      exact .inl ⟨rfl, (Option.some.inj h).symm, hl⟩
    · rw [List.getElem?_eq_none (by simpa using hl)] at h
      cases h
  · rw [List.getElem?_set_ne e] at h
    exact .inr ⟨fun z => e z.symm, h⟩
theorem Slr.other {z : Sot} {j : Nat} {w : Option V} {O' : Nat → Option Addr} (h : Slr K W O S H σ j z) (n : j ≠ i) (ho : O' j = O j) : Slr K W O' S H (σ.set i w) j z := by
  have e : (σ.set i w)[j]? = σ[j]? := List.getElem?_set_ne (fun q => n q.symm)
  cases z with
  | x => trivial
  | d x => obtain ⟨v, a, b⟩ := h; exact ⟨v, e.trans a, b⟩
  | own ds => obtain ⟨p, vs, a, b, c, d⟩ := h; exact ⟨p, vs, ho.trans a, e.trans b, c, d⟩
  | wl u => exact ⟨h.1, e.trans h.2⟩
  | err a => exact e.trans h
  | erx a dx fs => exact ⟨e.trans h.1, h.2⟩
  | dic c => obtain ⟨p, a, b, d⟩ := h; exact ⟨p, ho.trans a, e.trans b, d⟩
/-- any slot, its list let go -/
theorem Frm.put (f : Frm K W H0 S0 O S α σ H) {z : Sot} {w : Option V} (hz : i < σ.length → Slr K W (odel O i) S H (σ.set i w) i z) : Frm K W H0 S0 (odel O i) S (α.set i z) (σ.set i w) H := by
  refine ⟨f.k, f.k0, f.n0, f.w0, fun j p e => ?_, by rw [List.length_set, List.length_set]; exact f.len, fun j y e => ?_⟩
  · unfold odel at e
    by_cases q : j = i
    · rw [if_pos q] at e; cases e
    · rw [if_neg q] at e
      obtain ⟨a, b, c, d⟩ := f.o j p e
      refine ⟨a, b, c, fun j' e' => ?_⟩
      by_cases q' : j' = i
      · unfold odel at e'; rw [if_pos q'] at e'; cases e'
      · unfold odel at e'; rw [if_neg q'] at e'; exact d j' e'
  · rcases set_get e with ⟨rfl, rfl, hl⟩ | ⟨n, e⟩
    · exact hz (by rw [← f.len]; exact hl)
    · exact (f.sl j y e).other n (if_neg n)
theorem Frm.setD (f : Frm K W H0 S0 O S α σ H) {x : PyData} (h : Od K S H v x) : Frm K W H0 S0 (odel O i) S (α.set i (.d x)) (σ.set i (some v)) H :=
  f.put fun hl => ⟨v, List.getElem?_set_self hl, h⟩
theorem Frm.setW {u : Nat} (f : Frm K W H0 S0 O S α σ H) (h : W.is u) : Frm K W H0 S0 (odel O i) S (α.set i (.wl u)) (σ.set i (some (.ref W.a))) H := f.put fun hl => ⟨h, List.getElem?_set_self hl⟩
theorem Frm.setL (f : Frm K W H0 S0 O S α σ H) {p : Addr} {vs : List V} {ds : List PyData} (h1 : H p = some (.lst vs)) (h2 : Ods K S H vs ds) (h3 : ¬ S p) (h4 : H0 p = none) (h5 : ∀ j, O j ≠ some p) :
    Frm K W H0 S0 (oput O i p) S (α.set i (.own ds)) (σ.set i (some (.ref p))) H := by
  refine ⟨f.k, f.k0, f.n0, f.w0, fun j q e => ?_, by rw [List.length_set, List.length_set]; exact f.len, fun j y e => ?_⟩
  · unfold oput at e
    by_cases z : j = i
    · rw [if_pos z] at e
      cases e
      refine ⟨h4, (by rw [h1]; intro z; cases z), h3, fun j' e' => ?_⟩
      unfold oput at e'
      by_cases z' : j' = i
      · rw [z', z]
      · rw [if_neg z'] at e'; exact absurd e' (h5 j')
    · rw [if_neg z] at e
      obtain ⟨a, b, c, d⟩ := f.o j q e
      refine ⟨a, b, c, fun j' e' => ?_⟩
      unfold oput at e'
      by_cases z' : j' = i
      · rw [if_pos z'] at e'; cases e'; exact absurd e (h5 j)
      · rw [if_neg z'] at e'; exact d j' e'
  · rcases set_get e with ⟨rfl, rfl, hl⟩ | ⟨n, e⟩
    · exact ⟨p, vs, if_pos rfl, List.getElem?_set_self (by rw [← f.len]; exact hl), h1, h2⟩
    · exact (f.sl j y e).other n (if_neg n)
theorem Frm.setC (f : Frm K W H0 S0 O S α σ H) {p : Addr} {c : Dic} (h1 : DcR K S H p c) (h3 : ¬ S p) (h4 : H0 p = none) (h5 : ∀ j, O j ≠ some p) :
    Frm K W H0 S0 (oput O i p) S (α.set i (.dic c)) (σ.set i (some (.ref p))) H := by
  refine ⟨f.k, f.k0, f.n0, f.w0, fun j q e => ?_, by rw [List.length_set, List.length_set]; exact f.len, fun j y e => ?_⟩
  · unfold oput at e
    by_cases z : j = i
    · rw [if_pos z] at e
      cases e
      refine ⟨h4, h1.ne, h3, fun j' e' => ?_⟩
      unfold oput at e'
      by_cases z' : j' = i
      · rw [z', z]
      · rw [if_neg z'] at e'; exact absurd e' (h5 j')
    · rw [if_neg z] at e
      obtain ⟨a, b, c, d⟩ := f.o j q e
      refine ⟨a, b, c, fun j' e' => ?_⟩
      unfold oput at e'
      by_cases z' : j' = i
      · rw [if_pos z'] at e'; cases e'; exact absurd e (h5 j)
      · rw [if_neg z'] at e'; exact d j' e'
  · rcases set_get e with ⟨rfl, rfl, hl⟩ | ⟨n, e⟩
    · exact ⟨p, if_pos rfl, List.getElem?_set_self (by rw [← f.len]; exact hl), h1⟩
    · exact (f.sl j y e).other n (if_neg n)
/-- the dict of a slot is changed -/
theorem Frm.chgD (f : Frm K W H0 S0 O S α σ H) {p : Addr} {c c' : Dic} {o : HO} (ho : O i = some p) (hs : σ[i]? = some (some (.ref p))) (hu : DcR K S H p c) (h2 : (∀ {v d}, Od K S H v d → Od K S (upd H p o) v d) → DcR K S (upd H p o) p c') (hi : i < α.length) :
    Frm K W H0 S0 O S (α.set i (.dic c')) σ (upd H p o) ∧ Kee S H S (upd H p o) := by
  obtain ⟨p0, p1, p2, p3⟩ := f.o i p ho
  obtain ⟨o0, a0, a1⟩ := hu.at
  have pw : ¬ W.has p := Wel.ne f.w0 p0
  have nS : ∀ b, S b → b ≠ p := fun b h z => p2 (z ▸ h)
  have tm : Tm H (upd H p o) := fun a xs h => by
    by_cases z : a = p
    · rw [z, a0] at h
      exact absurd (Option.some.inj h) (a1 xs)
    · rw [upd_ne z]; exact h
  have kk : ∀ b u, S b → H b = some u → upd H p o b = some u := fun b u hb h => by rw [upd_ne (nS b hb)]; exact h
  have mo : ∀ {v d}, Od K S H v d → Od K S (upd H p o) v d := fun h => h.mv tm fun a o ga q => ⟨ga, kk a o ga q⟩
  have mos : ∀ {v d}, Ods K S H v d → Ods K S (upd H p o) v d := fun h => h.mv tm fun a o ga q => ⟨ga, kk a o ga q⟩
  refine ⟨⟨⟨fun on => ?_, fun b h => ?_⟩, fun b o h z => ?_, f.n0, f.w0, fun j q e => ?_, by rw [List.length_set]; exact f.len, fun j y e => ?_⟩, ⟨fun _ h => h, tm, kk⟩⟩
  · exact f.k.w.put pw on
  · rw [upd_ne (nS b h)]; exact f.k.t b h
  · rw [upd_ne fun q => by rw [q, p0] at h; cases h]; exact f.k0 b o h z
  · obtain ⟨a, b, c, d⟩ := f.o j q e
    refine ⟨a, ?_, c, d⟩
    by_cases z : q = p
    · rw [z, upd_same]; intro y; cases y
    · rw [upd_ne z]; exact b
  · rcases set_get e with ⟨rfl, rfl, hl⟩ | ⟨n, e⟩
    · exact ⟨p, ho, hs, h2 mo⟩
    · have := f.sl j y e
      cases y with
      | x => trivial
      | d x => obtain ⟨v, a, b⟩ := this; exact ⟨v, a, mo b⟩
      | own es =>
        obtain ⟨q, ws, a, b, c, d⟩ := this
        exact ⟨q, ws, a, b, by rw [upd_ne fun z => n (p3 j (by rw [← z]; exact a))]; exact c, mos d⟩
      | dic c =>
        obtain ⟨q, a, b, c⟩ := this
        exact ⟨q, a, b, c.mp (fun o e => by rw [upd_ne fun z => n (p3 j (by rw [← z]; exact a))]; exact e) mo⟩
      | wl u => exact this
      | err a => exact this
      | erx a dx fs => exact ⟨this.1, this.2.mv' (fun _ h => h) kk mo⟩
/-- the list of a slot is changed -/
theorem Frm.chg (f : Frm K W H0 S0 O S α σ H) {p : Addr} {us vs : List V} {ds : List PyData} (ho : O i = some p) (hs : σ[i]? = some (some (.ref p))) (hu : H p = some (.lst us)) (h2 : Ods K S H vs ds) (hi : i < α.length) :
    Frm K W H0 S0 O S (α.set i (.own ds)) σ (upd H p (.lst vs)) ∧ Kee S H S (upd H p (.lst vs)) := by
  obtain ⟨p0, p1, p2, p3⟩ := f.o i p ho
  have pw : ¬ W.has p := Wel.ne f.w0 p0
  have nS : ∀ b, S b → b ≠ p := fun b h z => p2 (z ▸ h)
  have tm : Tm H (upd H p (.lst vs)) := Tm.lst hu
  have kk : ∀ b o, S b → H b = some o → upd H p (.lst vs) b = some o := fun b o hb h => by rw [upd_ne (nS b hb)]; exact h
  have mo : ∀ {v d}, Od K S H v d → Od K S (upd H p (.lst vs)) v d := fun h => h.mv tm fun a o ga q => ⟨ga, kk a o ga q⟩
  have mos : ∀ {v d}, Ods K S H v d → Ods K S (upd H p (.lst vs)) v d := fun h => h.mv tm fun a o ga q => ⟨ga, kk a o ga q⟩
  refine ⟨⟨⟨fun on => ?_, fun b h => ?_⟩, fun b o h z => ?_, f.n0, f.w0, fun j q e => ?_, by rw [List.length_set]; exact f.len, fun j y e => ?_⟩, ⟨fun _ h => h, tm, kk⟩⟩
  · exact f.k.w.put pw on
  · rw [upd_ne (nS b h)]; exact f.k.t b h
  · rw [upd_ne fun q => by rw [q, p0] at h; cases h]; exact f.k0 b o h z
  · obtain ⟨a, b, c, d⟩ := f.o j q e
    refine ⟨a, ?_, c, d⟩
    by_cases z : q = p
    · rw [z, upd_same]; intro y; cases y
    · rw [upd_ne z]; exact b
  · rcases set_get e with ⟨rfl, rfl, hl⟩ | ⟨n, e⟩
    · exact ⟨p, vs, ho, hs, upd_same, mos h2⟩
    · have := f.sl j y e
      cases y with
      | dic c =>
        obtain ⟨q, a, b, c⟩ := this
        exact ⟨q, a, b, c.mp (fun o e => by rw [upd_ne fun z => n (p3 j (by rw [← z]; exact a))]; exact e) mo⟩
      | x => trivial
      | d x => obtain ⟨v, a, b⟩ := this; exact ⟨v, a, mo b⟩
      | own es =>
        obtain ⟨q, ws, a, b, c, d⟩ := this
        exact ⟨q, ws, a, b, by rw [upd_ne fun z => n (p3 j (by rw [← z]; exact a))]; exact c, mos d⟩
      | wl u => exact this
      | err a => exact this
      | erx a dx fs => exact ⟨this.1, this.2.mv' (fun _ h => h) kk mo⟩
/-- the list of a slot is kept as it is from now on -/
def frz1 (α : Afr) (i : Nat) : Afr := match α[i]? with
  | some (.own ds) => α.set i (.d (.list ds))
  | _ => α
def frzs (α : Afr) (fz : List Nat) : Afr := fz.foldl frz1 α
theorem Frm.frz (f : Frm K W H0 S0 O S α σ H) {p : Addr} {ds : List PyData} (e0 : α[i]? = some (.own ds)) (ho : O i = some p) : Frm K W H0 S0 (odel O i) (fun b => S b ∨ b = p) (α.set i (.d (.list ds))) σ H ∧ Kee S H (fun b => S b ∨ b = p) H := by
  obtain ⟨q, vs, h1, h2, h3, h4⟩ := f.sl i _ e0
  rw [ho] at h1
  cases h1
  obtain ⟨p0, p1, p2, p3⟩ := f.o i p ho
  have hl : i < α.length := (List.getElem?_eq_some_iff.mp e0).1
  refine ⟨⟨⟨f.k.w, fun b h => ?_⟩, f.k0, fun b h => ?_, f.w0, fun j q e => ?_, by rw [List.length_set]; exact f.len, fun j y e => ?_⟩, ⟨fun _ h => .inl h, Tm.refl _, fun _ _ _ h => h⟩⟩
  · rcases h with h | rfl
    · exact f.k.t b h
    · exact ⟨p1, Wel.ne f.w0 p0⟩
  · rcases h with h | rfl
    · exact f.n0 b h
    · exact .inr p0
  · unfold odel at e
    by_cases z : j = i
    · rw [if_pos z] at e; cases e
    · rw [if_neg z] at e
      obtain ⟨a, b, c, d⟩ := f.o j q e
      refine ⟨a, b, fun y => y.elim c fun y => z ?_, fun j' e' => ?_⟩
      · subst y
        exact p3 j e
      · by_cases q' : j' = i
        · unfold odel at e'; rw [if_pos q'] at e'; cases e'
        · unfold odel at e'; rw [if_neg q'] at e'; exact d j' e'
  · rcases set_get e with ⟨rfl, rfl, _⟩ | ⟨n, e⟩
    · exact ⟨_, h2, .lst (.inr rfl) h3 (h4.gr fun _ h => .inl h)⟩
    · have := f.sl j y e
      cases y with
      | dic c => obtain ⟨q, a, b, c⟩ := this; exact ⟨q, (if_neg n).trans a, b, c.mp (fun o e => e) fun z => z.gr fun _ h => .inl h⟩
      | x => trivial
      | d x => obtain ⟨v, a, b⟩ := this; exact ⟨v, a, b.gr fun _ h => .inl h⟩
      | own es => obtain ⟨q, ws, a, b, c, d⟩ := this; exact ⟨q, ws, (if_neg n).trans a, b, c, d.gr fun _ h => .inl h⟩
      | wl u => exact this
      | err a => exact this
      | erx a dx fs => exact ⟨this.1, this.2.mv' (fun _ h => .inl h) (fun _ _ _ h => h) fun z => z.gr fun _ h => .inl h⟩
end
structure AEn where
  nx : Afr → Prop
  rt : Avl → Prop
  bk : Afr → Prop := fun _ => False
  ct : Afr → Prop := fun _ => False
  er : AXr := fun _ _ _ => False
abbrev ASt := AEn → Afr → Prop
def Avl.out : Avl → Avl
  | .b _ ds => .l ds
  | x => x
/-- a value that is handed back -/
def Rtn (K : Fg) (W : Wel) (H0 : Hp) (S0 : Ads) (v : V) (av : Avl) (H' : Hp) : Prop := ∃ S' : Ads, W.ok H' ∧ (∀ b o, H0 b = some o → ¬ W.has b → H' b = some o) ∧ (∀ b, S' b → (S0 b ∨ H0 b = none) ∧ H' b ≠ none ∧ ¬ W.has b) ∧ Vrp K W H0 (fun _ => none) S' H' v av
structure Lnk (K : Fg) (W : Wel) (H0 : Hp) (S0 : Ads) (S : Ads) (H : Hp) (E : WX) (A : AEn) (D : Ends) : Prop where
  nx : ∀ O' S' α' σ' H', Kee S H S' H' → Frm K W H0 S0 O' S' α' σ' H' → A.nx α' → D.nx σ' H'
  bk : ∀ O' S' α' σ' H', Kee S H S' H' → Frm K W H0 S0 O' S' α' σ' H' → A.bk α' → D.bk σ' H'
  ct : ∀ O' S' α' σ' H', Kee S H S' H' → Frm K W H0 S0 O' S' α' σ' H' → A.ct α' → D.ct σ' H'
  rt : ∀ v av H', Rtn K W H0 S0 v av H' → A.rt av → D.rt v H'
  er : Lkx K W H0 S0 S H E A.er
theorem Lnk.kee {K : Fg} {W : Wel} {H0 : Hp} {S0 S S1 : Ads} {H H1 : Hp} {E : WX} {A : AEn} {D : Ends} (l : Lnk K W H0 S0 S H E A D) (k : Kee S H S1 H1) : Lnk K W H0 S0 S1 H1 E A D :=
  ⟨fun O' S' α' σ' H' a b c => l.nx O' S' α' σ' H' (k.trans a) b c, fun O' S' α' σ' H' a b c => l.bk O' S' α' σ' H' (k.trans a) b c, fun O' S' α' σ' H' a b c => l.ct O' S' α' σ' H' (k.trans a) b c, l.rt, l.er.kee k⟩
def RSt (K : Fg) (E : WX) (t : TS) (s : ASt) : Prop := ∀ {W : Wel} {H0 : Hp} {S0 : Ads} {O : Nat → Option Addr} {S : Ads} {α : Afr} {σ : L2.St} {H : Hp} {A : AEn} {D : Ends},
  Frm K W H0 S0 O S α σ H → s A α → Lnk K W H0 S0 S H E A D → t D σ H
section
variable {K : Fg} {E : WX} {t u : TS} {a b : ASt} {te ti : TE} {e ei : AEx} {i j : Nat}
def aSeq (a b : ASt) : ASt := fun A α => a { A with nx := b A } α
theorem rs_seq (h1 : RSt K E t a) (h2 : RSt K E u b) : RSt K E (tSeq t u) (aSeq a b) := by
  intro W H0 S0 O S α σ H A D f h l
  exact h1 (D := { D with nx := u D }) f h ⟨fun O' S' α' σ' H' k g q => h2 g q (l.kee k), l.bk, l.ct, l.rt, l.er⟩
def aCut (a b : ASt) : ASt := fun A α => ∃ M : Afr → Prop, a { A with nx := M } α ∧ ∀ α', M α' → b A α'
theorem rs_cut (h1 : RSt K E t a) (h2 : RSt K E u b) : RSt K E (Evl.tCut t u) (aCut a b) := by
  intro W H0 S0 O S α σ H A D f ⟨M, h, hm⟩ l
  refine ⟨fun σ' H' => ∃ O' S' α', Kee S H S' H' ∧ Frm K W H0 S0 O' S' α' σ' H' ∧ M α', ?_, ?_⟩
  · exact h1 (D := { D with nx := _ }) f h ⟨fun O' S' α' σ' H' k g q => ⟨O', S', α', k, g, q⟩, l.bk, l.ct, l.rt, l.er⟩
  · rintro σ' H' ⟨O', S', α', k, g, q⟩
    exact h2 g (hm α' q) (l.kee k)
def aNext : ASt := fun A α => A.nx α
def aBrk : ASt := fun A α => A.bk α
def aCont : ASt := fun A α => A.ct α
theorem rs_next : RSt K E tNext aNext := fun f h l => l.nx _ _ _ _ _ Kee.refl f h
/-- a value leaves -/
theorem rtn_of {W : Wel} {H0 : Hp} {S0 : Ads} {O : Nat → Option Addr} {S S1 : Ads} {α : Afr} {σ : L2.St} {H H1 : Hp} {v : V} {av : Avl} (f : Frm K W H0 S0 O S α σ H) (m : Mvh W S H S1 H1) (r : Vrp K W H O S1 H1 v av) : Rtn K W H0 S0 v av.out H1 := by
  have g := f.mv m
  refine ⟨S1, g.k.w, g.k0, fun b h => ⟨g.n0 b h, g.k.t b h⟩, ?_⟩
  cases av with
  | d x => exact r
  | l ds =>
    obtain ⟨p, vs, rfl, h1, h2, h3, h4, h5⟩ := r
    exact ⟨p, vs, rfl, h1, h2, h3, f.back h4, h5⟩
  | b i ds =>
    obtain ⟨p, vs, rfl, h0, h1, h2, h3⟩ := r
    obtain ⟨a, b, c, d⟩ := g.o i p h0
    exact ⟨p, vs, rfl, h1, h2, c, a, h3⟩
  | wl u => exact r
  | k c =>
    obtain ⟨p, rfl, h1, h3, h4, h5⟩ := r
    exact ⟨p, rfl, h1, h3, f.back h4, h5⟩
def aRet (e : AEx) : ASt := fun A α => e A.er α fun av => A.rt av.out
def aRetN : ASt := fun A _ => A.rt (.d .none)
theorem rs_ret (h1 : REx K E te e) : RSt K E (tRet te) (aRet e) := by
  intro W H0 S0 O S α σ H A D f h l
  exact h1 f h l.er fun v av S1 H1 m r k => l.rt v _ H1 (rtn_of f m r) k
def aDrop (e : AEx) : ASt := fun A α => e A.er α fun _ => A.nx α
def aIfS (c : ATx) (a b : ASt) : ASt := fun A α => c A.er α fun x => if x = true then a A α else b A α
theorem rs_ifs {c : TT} {x : ATx} (h0 : RTx K E c x) (h1 : RSt K E t a) (h2 : RSt K E u b) : RSt K E (tIfS c t u) (aIfS x a b) := by
  intro W H0 S0 O S α σ H A D f h l
  refine h0 f h l.er fun c S1 H1 m k => ?_
  cases c with
  | true =>
    rw [if_pos rfl] at k ⊢
    exact h1 (f.mv m) k (l.kee (m.kee f.k))
  | false =>
    rw [if_neg (by decide)] at k ⊢
    exact h2 (f.mv m) k (l.kee (m.kee f.k))
def Avl.sot : Avl → Option Sot
  | .d x => some (.d x)
  | .l ds => some (.own ds)
  | .b _ _ => none
  | .wl u => some (.wl u)
  | .k c => some (.dic c)
def Avl.isL : Avl → Bool
  | .l _ => true
  | .k _ => true
  | _ => false
/-- a value comes to a slot -/
theorem store_av {W : Wel} {H0 : Hp} {S0 : Ads} {O : Nat → Option Addr} {S : Ads} {α : Afr} {σ : L2.St} {H Hs : Hp} {v : V} {av : Avl} {z : Sot} (f : Frm K W H0 S0 O S α σ H) (r : Vrp K W Hs O S H v av) (hz : av.sot = some z) (hb : ∀ b, Hs b = none → H0 b = none) (ho : ∀ j p, O j = some p → Hs p ≠ none) :
    ∃ O', Frm K W H0 S0 O' S (α.set i z) (σ.set i (some v)) H ∧ ∀ j p, O' j = some p → O j = some p ∨ (av.isL = true ∧ v = .ref p) := by
  cases av with
  | d x =>
    cases hz
    exact ⟨_, f.setD r, fun j p e => .inl (by unfold odel at e; split at e <;> first | cases e | exact e)⟩
  | l ds =>
    cases hz
    obtain ⟨p, vs, rfl, h1, h2, h3, h4, h5⟩ := r
    refine ⟨_, f.setL (i := i) h1 h2 h3 (hb _ h4) (fun j e => ho j p e h4), fun j q e => ?_⟩
    unfold oput at e
    split at e
    · cases e; exact .inr ⟨rfl, rfl⟩
    · exact .inl e
  | b i ds => cases hz
  | k c =>
    cases hz
    obtain ⟨p, rfl, h1, h3, h4, h5⟩ := r
    refine ⟨_, f.setC (i := i) h1 h3 (hb _ h4) (fun j e => ho j p e h4), fun j q e => ?_⟩
    unfold oput at e
    split at e
    · cases e; exact .inr ⟨rfl, rfl⟩
    · exact .inl e
  | wl u =>
    cases hz
    obtain ⟨on, rfl⟩ := r
    exact ⟨_, f.setW on, fun j p e => .inl (by unfold odel at e; split at e <;> first | cases e | exact e)⟩
def aSet (i : Nat) (e : AEx) : ASt := fun A α => e A.er α fun av => ∃ z, av.sot = some z ∧ A.nx (α.set i z)
theorem rs_set (h1 : REx K E te e) : RSt K E (tAsg te (gName i)) (aSet i e) := by
  intro W H0 S0 O S α σ H A D f h l
  refine h1 f h l.er fun v av S1 H1 m r ⟨z, hz, k⟩ => ?_
  obtain ⟨O', g, _⟩ := store_av (i := i) (f.mv m) r hz (fun b q => f.back q) fun j p e => (f.o j p e).2.1
  exact l.nx O' S1 _ _ H1 (m.kee f.k) g k
/-- two values to two slots -/
def aSet2 (i j : Nat) (e e' : AEx) : ASt := fun A α => e A.er α fun x => e' A.er α fun y => ∃ z w, x.sot = some z ∧ y.sot = some w ∧ A.nx ((α.set i z).set j w)
theorem own_old {W : Wel} {H0 : Hp} {S0 : Ads} {O O1 : Nat → Option Addr} {S1 : Ads} {α : Afr} {σ : L2.St} {H H1 : Hp} {v : V} {av : Avl} (f1 : Frm K W H0 S0 O S1 α σ H1) (r1 : Vrp K W H O S1 H1 v av) (h1 : ∀ j p, O1 j = some p → O j = some p ∨ (av.isL = true ∧ v = .ref p)) : ∀ j p, O1 j = some p → H1 p ≠ none := by
  intro j p e
  rcases h1 j p e with q | ⟨q, rfl⟩
  · exact (f1.o j p q).2.1
  · cases av with
    | l ds =>
      obtain ⟨p', vs, e', a1, _⟩ := r1
      cases e'
      rw [a1]
      intro y
      cases y
    | k c =>
      obtain ⟨p', e', a1, _⟩ := r1
      cases e'
      exact a1.ne
    | d x => cases q
    | b i ds => cases q
    | wl u => cases q
theorem store2 {W : Wel} {H0 : Hp} {S0 : Ads} {O : Nat → Option Addr} {S S1 S2 : Ads} {α : Afr} {σ : L2.St} {H H1 H2 : Hp} {v u : V} {av au : Avl} {z w : Sot} (f : Frm K W H0 S0 O S α σ H) (m1 : Mvh W S H S1 H1) (r1 : Vrp K W H O S1 H1 v av) (m2 : Mvh W S1 H1 S2 H2) (r2 : Vrp K W H1 O S2 H2 u au)
    (hz : av.sot = some z) (hw : au.sot = some w) : ∃ O', Frm K W H0 S0 O' S2 ((α.set i z).set j w) ((σ.set i (some v)).set j (some u)) H2 := by
  have f1 := f.mv m1
  have f2 := f1.mv m2
  obtain ⟨O1, g1, h1⟩ := store_av (i := i) f2 (r1.mv f1.k m2) hz (fun b q => f.back q) fun j p e => (f.o j p e).2.1
  have old := own_old f1 r1 h1
  have r2' : Vrp K W H1 O1 S2 H2 u au := by
    cases au with
    | b k ds => cases hw
    | d x => exact r2
    | l ds => exact r2
    | k c => exact r2
    | wl u => exact r2
  obtain ⟨O2, g2, _⟩ := store_av (i := j) g1 r2' hw (fun b q => f1.back q) old
  exact ⟨O2, g2⟩
theorem rs_set2 {te' : TE} {e' : AEx} (h1 : REx K E te e) (h2 : REx K E te' e') : RSt K E (tPar i j (tCons te (tCons te' tNil))) (aSet2 i j e e') := by
  intro W H0 S0 O S α σ H A D f h l
  refine h1 f h l.er fun v av S1 H1 m r h' => ?_
  have f1 := f.mv m
  refine h2 f1 h' (l.er.kee (m.kee f.k)) fun u au S2 H2 m2 r2 ⟨z, w, hz, hw, k⟩ => ?_
  obtain ⟨O', g⟩ := store2 (i := i) (j := j) f m r m2 r2 hz hw
  exact ⟨v, u, rfl, l.nx O' S2 _ _ H2 ((m.trans m2).kee f.k) g k⟩
def aSet3 (i j n : Nat) (e e' e2 : AEx) : ASt := fun A α => e A.er α fun x => e' A.er α fun y => e2 A.er α fun x2 => ∃ z w z2, x.sot = some z ∧ y.sot = some w ∧ x2.sot = some z2 ∧ A.nx (((α.set i z).set j w).set n z2)
def aApp (i : Nat) (e : AEx) : ASt := fun A α => ∃ ds, α[i]? = some (.own ds) ∧ e A.er α fun av => ∃ x, av.cl = some x ∧ ds.length < 100000 ∧ A.nx (α.set i (.own (ds ++ [x])))
theorem own_at {W : Wel} {H0 : Hp} {S0 : Ads} {O : Nat → Option Addr} {S : Ads} {α : Afr} {σ : L2.St} {H : Hp} {ds : List PyData} (f : Frm K W H0 S0 O S α σ H) (h : α[i]? = some (.own ds)) : ∃ p vs, O i = some p ∧ σ[i]? = some (some (.ref p)) ∧ H p = some (.lst vs) ∧ Ods K S H vs ds ∧ i < α.length ∧ ¬ W.has p ∧ vs.length = ds.length := by
  obtain ⟨p, vs, a, b, c, d⟩ := f.sl i _ h
  exact ⟨p, vs, a, b, c, d, (List.getElem?_eq_some_iff.mp h).1, Wel.ne f.w0 (f.o i p a).1, d.length⟩
/-- the slot's list, ahead of and behind an expression -/
theorem own_mv {W : Wel} {H0 : Hp} {S0 : Ads} {O : Nat → Option Addr} {S S1 : Ads} {α : Afr} {σ : L2.St} {H H1 : Hp} (f : Frm K W H0 S0 O S α σ H) (m : Mvh W S H S1 H1) {p : Addr} {vs : List V} (a : O i = some p) (c : H p = some (.lst vs)) : H1 p = some (.lst vs) := m.k _ _ c (Wel.ne f.w0 (f.o i p a).1)
end
section
variable {K : Fg} {E : WX} {te ti : TE} {e ei : AEx} {i j : Nat}
theorem rs_app (h1 : REx K E te e) : RSt K E (tDrop (tBM K "list" rAppend (tVar i) (tCons te tNil))) (aApp i e) := by
  intro W H0 S0 O S α σ H A D f ⟨ds, h0, h⟩ l
  obtain ⟨p, vs, a, b, c, d, hi, nw, ln⟩ := own_at f h0
  refine ⟨_, b, o_tyL c ?_⟩
  refine h1 f h l.er fun v av S1 H1 m r ⟨x, hx, hl, k⟩ => ?_
  obtain ⟨S2, m2, _, od⟩ := keepx f.k m r hx
  have c2 := own_mv f m2 a c
  have f2 := f.mv m2
  have ods : Ods K S2 H1 (vs ++ [v]) (ds ++ [x]) := (m2.ods f.k.w (fun b z => (f.k.t b z).2) d).append (.cons od .nil)
  obtain ⟨g, ke⟩ := f2.chg a b c2 ods hi
  exact ⟨p, vs, v, rfl, rfl, c2, Nat.lt_of_lt_of_le (by omega) (show 100000 ≤ sizeLine by decide), l.nx O S2 _ σ _ ((m2.kee f.k).trans ke) g k⟩
def aExt (i : Nat) (e : AEx) : ASt := fun A α => ∃ ds, α[i]? = some (.own ds) ∧ e A.er α fun av => ∃ xs, av.lst = some xs ∧ ds.length + xs.length < 100000 ∧ A.nx (α.set i (.own (ds ++ xs)))
theorem Vrp.lst {W : Wel} {Hs : Hp} {O : Nat → Option Addr} {S : Ads} {H : Hp} {v : V} {av : Avl} {ds : List PyData} (r : Vrp K W Hs O S H v av) (e : av.lst = some ds) : ∃ p vs, v = .ref p ∧ H p = some (.lst vs) ∧ Ods K S H vs ds := by
  cases av with
  | d x =>
    cases x with
    | list xs =>
      cases e
      cases r with
      | lst a b c => exact ⟨_, _, rfl, b, c⟩
    | _ => cases e
  | l xs =>
    cases e
    obtain ⟨p, vs, rfl, h1, h2, _⟩ := r
    exact ⟨p, vs, rfl, h1, h2⟩
  | b j xs =>
    cases e
    obtain ⟨p, vs, rfl, _, h1, h2, _⟩ := r
    exact ⟨p, vs, rfl, h1, h2⟩
  | k c => cases e
  | wl u => cases e
theorem Vrp.tup {W : Wel} {Hs : Hp} {O : Nat → Option Addr} {S : Ads} {H : Hp} {v : V} {av : Avl} {ds : List PyData} (r : Vrp K W Hs O S H v av) (e : av.tup = some ds) : ∃ p vs, v = .ref p ∧ SqT K H p vs ∧ Ods K S H vs ds := by
  cases av with
  | d x =>
    cases x with
    | tuple xs =>
      cases e
      cases r with
      | tup a b => exact ⟨_, _, rfl, a, b⟩
    | _ => cases e
  | l xs => cases e
  | b j xs => cases e
  | k c => cases e
  | wl u => cases e
/-- x = y.pop(i) -/
def aPop (i j : Nat) (e : AEx) : ASt := fun A α => ∃ ds, α[i]? = some (.own ds) ∧ e A.er α fun av => ∃ (n : Nat) (x : PyData), av = .d (.int n) ∧ ds[n]? = some x ∧ n < 100000 ∧ A.nx ((α.set i (.own (ds.eraseIdx n))).set j (.d x))
theorem Ods.erase {G : Ads} {H : Hp} : ∀ {vs : List V} {ds : List PyData} (n : Nat), Ods K G H vs ds → Ods K G H (vs.eraseIdx n) (ds.eraseIdx n)
  | _, _, _, .nil => .nil
  | _, _, 0, .cons _ h => h
  | _, _, n + 1, .cons a h => .cons a (Ods.erase n h)
/-- x[i] = e, x a slot's list -/
def aSetI (i : Nat) (e ei : AEx) : ASt := fun A α => e A.er α fun av => ∃ x, av.cl = some x ∧ ∃ ds, α[i]? = some (.own ds) ∧ ei A.er α fun ai => ∃ (j : Int) (n : Nat), ai = .d (.int j) ∧ ixN ds.length j = some n ∧ A.nx (α.set i (.own (ds.set n x)))
theorem Ods.setN {G : Ads} {H : Hp} {v : V} {x : PyData} (o : Od K G H v x) : ∀ {vs : List V} {ds : List PyData} (n : Nat), Ods K G H vs ds → Ods K G H (vs.set n v) (ds.set n x)
  | _, _, _, .nil => .nil
  | _, _, 0, .cons _ h => .cons o h
  | _, _, n + 1, .cons a h => .cons a (Ods.setN o n h)
theorem rs_setI (h1 : REx K E te e) (h2 : REx K E ti ei) : RSt K E (tAsg te (gSub (tVar i) ti rSetL)) (aSetI i e ei) := by
  intro W H0 S0 O S α σ H A D f h l
  refine h1 f h l.er fun v av S1 H1 m r ⟨x, hx, ds, h0, h'⟩ => ?_
  obtain ⟨S2, m2, _, od⟩ := keepx f.k m r hx
  have f2 := f.mv m2
  obtain ⟨p, vs, a, b, c, d, hi, nw, ln⟩ := own_at f2 h0
  refine ⟨_, b, ?_⟩
  refine h2 f2 h' (l.er.kee (m2.kee f.k)) fun u au S3 H3 m3 r3 ⟨j, n, ev, hn, k⟩ => ?_
  subst ev
  cases r3
  have f3 := f2.mv m3
  have t2 : ∀ b, S2 b → ¬ W.has b := fun b z => (f2.k.t b z).2
  have c3 := own_mv f2 m3 a c
  obtain ⟨g, ke⟩ := f3.chg a b c3 ((m3.ods f2.k.w t2 d).setN (m3.od f2.k.w t2 od) n) hi
  exact ⟨p, vs, j, n, rfl, rfl, c3, by rw [ln]; exact hn, l.nx O S3 _ _ _ (((m2.trans m3).kee f.k).trans ke) g k⟩
end
abbrev ATg := PyData → Afr → (Afr → Prop) → Prop
abbrev ATgs := List PyData → Afr → (Afr → Prop) → Prop
def awipe (α : Afr) : List Nat → Afr
  | [] => α
  | v :: vs => (awipe α vs).set v .x
/-- is: what it may store to -/
def RTg (K : Fg) (g : TG) (ag : ATg) (is : List Nat) : Prop := ∀ {W : Wel} {H0 : Hp} {S0 : Ads} {O : Nat → Option Addr} {S : Ads} {α : Afr} {σ : L2.St} {H : Hp} {v : V} {x : PyData} {k : Afr → Prop} {Q : L2.St → Hp → Prop},
  Frm K W H0 S0 O S α σ H → Od K S H v x → ag x α k → (∀ O' α' σ', Frm K W H0 S0 O' S α' σ' H → (∀ i, i ∉ is → σ'[i]? = σ[i]?) → σ'.length = σ.length → k α' → Q σ' H) → g v σ H Q
def RTgs (K : Fg) (g : TGs) (ag : ATgs) (is : List Nat) : Prop := ∀ {W : Wel} {H0 : Hp} {S0 : Ads} {O : Nat → Option Addr} {S : Ads} {α : Afr} {σ : L2.St} {H : Hp} {vs : List V} {xs : List PyData} {k : Afr → Prop} {Q : L2.St → Hp → Prop},
  Frm K W H0 S0 O S α σ H → Ods K S H vs xs → ag xs α k → (∀ O' α' σ', Frm K W H0 S0 O' S α' σ' H → (∀ i, i ∉ is → σ'[i]? = σ[i]?) → σ'.length = σ.length → k α' → Q σ' H) → g vs σ H Q
section
variable {K : Fg} {E : WX} {i n : Nat} {g : TG} {gs : TGs} {ag : ATg} {ags : ATgs} {is js : List Nat}
def agName (i : Nat) : ATg := fun x α k => k (α.set i (.d x))
def agNil : ATgs := fun xs α k => xs = [] ∧ k α
def agCons (a : ATg) (r : ATgs) : ATgs := fun xs α k => ∃ y ys, xs = y :: ys ∧ a y α fun α1 => r ys α1 k
def agTup (n : Nat) (r : ATgs) : ATg := fun x α k => ∃ ds, x = .tuple ds ∧ ds.length = n ∧ r ds α k
theorem rg_name : RTg K (gName i) (agName i) [i] := by
  intro W H0 S0 O S α σ H v x k Q f o h q
  exact q _ _ _ (f.setD o) (fun j hj => List.getElem?_set_ne fun z => hj (by rw [z]; exact List.mem_singleton_self _)) (List.length_set) h
theorem rgs_nil : RTgs K gNil agNil [] := by
  intro W H0 S0 O S α σ H vs xs k Q f o ⟨e, h⟩ q
  subst e
  cases o
  exact ⟨rfl, q _ _ _ f (fun _ _ => rfl) rfl h⟩
theorem rgs_cons (h1 : RTg K g ag is) (h2 : RTgs K gs ags js) : RTgs K (gCons g gs) (agCons ag ags) (is ++ js) := by
  intro W H0 S0 O S α σ H vs xs k Q f o ⟨y, ys, e, h⟩ q
  subst e
  cases o with
  | cons o os =>
    refine ⟨_, _, rfl, h1 f o h fun O1 α1 σ1 f1 a1 l1 h' => ?_⟩
    exact h2 f1 os h' fun O2 α2 σ2 f2 a2 l2 k2 => q _ _ _ f2 (fun i hi => (a2 i fun z => hi (List.mem_append_right _ z)).trans (a1 i fun z => hi (List.mem_append_left _ z))) (l2.trans l1) k2
theorem rg_tup (h1 : RTgs K gs ags is) : RTg K (gTup K n gs) (agTup n ags) is := by
  intro W H0 S0 O S α σ H v x k Q f o ⟨ds, e, hl, h⟩ q
  subst e
  cases o with
  | tup a b => exact ⟨_, _, rfl, a.up, by rw [b.length]; exact hl, h1 f b h q⟩
def aAsg (e : AEx) (g : ATg) : ASt := fun A α => e A.er α fun av => ∃ x, av.cl = some x ∧ g x α A.nx
theorem rs_asg {te : TE} {e : AEx} (h1 : REx K E te e) (h2 : RTg K g ag is) : RSt K E (tAsg te g) (aAsg e ag) := by
  intro W H0 S0 O S α σ H A D f h l
  refine h1 f h l.er fun v av S1 H1 m r ⟨x, hx, k⟩ => ?_
  obtain ⟨S2, m2, _, od⟩ := keepx f.k m r hx
  exact h2 (f.mv m2) od k fun O' α' σ' f' _ _ k' => l.nx O' S2 α' σ' H1 (m2.kee f.k) f' k'
abbrev AIt := AXr → Afr → (List PyData → List Nat → Prop) → Prop
def Kgo (G : Ads) (H1 : Hp) : Hp → Prop := fun H2 => Tm H1 H2 ∧ ∀ b o, G b → H1 b = some o → H2 b = some o
def Ygo (K : Fg) (G : Ads) (xs : List PyData) : Nat → Hp → V → Hp → Prop := fun i H v H' => Same H H' ∧ ∃ x, xs[i]? = some x ∧ Od K G H' v x
def RIt (K : Fg) (E : WX) (t : TI) (e : AIt) : Prop := ∀ {W : Wel} {H0 : Hp} {S0 : Ads} {O : Nat → Option Addr} {S : Ads} {α : Afr} {σ : L2.St} {H : Hp} {X : AXr} {k : List PyData → List Nat → Prop} {R : It → Hp → Prop},
  Frm K W H0 S0 O S α σ H → e X α k → Lkx K W H0 S0 S H E X → (∀ J xs fz G S' H', Mvh W S H S' H' → (∀ i ∈ fz, ∃ ds, α[i]? = some (.own ds)) → (∀ b, G b → S' b ∨ ∃ i ∈ fz, O i = some b) → Walk J xs.length (Kgo G H') (Ygo K S' xs) → k xs fz → R J H') → t σ H R
def aFrz (α : Afr) : List Nat → Afr
  | [] => α
  | i :: r => aFrz (match α[i]? with | some (.own ds) => α.set i (.d (.list ds)) | _ => α) r
theorem Frm.frzs {W : Wel} {H0 : Hp} {S0 : Ads} {σ : L2.St} {H : Hp} : ∀ (fz : List Nat) {O : Nat → Option Addr} {S : Ads} {α : Afr}, Frm K W H0 S0 O S α σ H → ∃ O' S', Frm K W H0 S0 O' S' (aFrz α fz) σ H ∧ Kee S H S' H ∧ ∀ i ∈ fz, (∃ ds, α[i]? = some (.own ds)) → ∀ b, O i = some b → S' b
  | [], O, S, α, f => ⟨O, S, f, Kee.refl, fun i hi => by cases hi⟩
  | j :: r, O, S, α, f => by
    unfold aFrz
    split
    · rename_i ds e
      obtain ⟨p, vs, a, _⟩ := f.sl j _ e
      obtain ⟨f1, k1⟩ := f.frz e a
      obtain ⟨O', S', f', k', h'⟩ := Frm.frzs r f1
      refine ⟨O', S', f', k1.trans k', fun i hi ⟨es, ei⟩ b hb => ?_⟩
      by_cases z : i = j
      · subst z
        rw [a] at hb
        cases hb
        exact k'.s _ (.inr rfl)
      · rcases List.mem_cons.mp hi with q | hi
        · exact absurd q z
        · exact h' i hi ⟨es, by rw [List.getElem?_set_ne fun y => z y.symm]; exact ei⟩ b (by unfold odel; rw [if_neg z]; exact hb)
    · rename_i ne
      obtain ⟨O', S', f', k', h'⟩ := Frm.frzs r f
      refine ⟨O', S', f', k', fun i hi ⟨es, ei⟩ b hb => ?_⟩
      rcases List.mem_cons.mp hi with q | hi
      · subst q
        exact absurd ei (ne es)
      · exact h' i hi ⟨es, ei⟩ b hb
def aLoop (g : ATg) (b : ASt) (A : AEn) (xs : List PyData) (α : Afr) : Prop := ∃ Pv : Nat → Afr → Prop, Pv 0 α ∧ (∀ i x α, xs[i]? = some x → Pv i α → g x α fun α1 => b { A with nx := Pv (i + 1), ct := Pv (i + 1), bk := A.nx } α1) ∧ ∀ α, Pv xs.length α → A.nx α
def aFor (w : AIt) (g : ATg) (b : ASt) : ASt := fun A α => w A.er α fun xs fz => aLoop g b A xs (aFrz α fz)
theorem rs_for {wi : TI} {tb : TS} {w : AIt} {b : ASt} (h1 : RIt K E wi w) (h2 : RTg K g ag is) (h3 : RSt K E tb b) : RSt K E (tFor wi g tb) (aFor w ag b) := by
  intro W H0 S0 O S α σ H A D f h l
  refine s_for ?_
  refine h1 f h l.er fun J xs fz G S1 H1 m hz hG wk ⟨Pv, p0, ps, pd⟩ => ?_
  obtain ⟨O2, S2, f2, k2, hS⟩ := Frm.frzs fz (f.mv m)
  have gs : ∀ b, G b → S2 b := fun b hb => by
    rcases hG b hb with q | ⟨i, hi, q⟩
    · exact k2.s b q
    · exact hS i hi (hz i hi) b q
  have k02 := (m.kee f.k).trans k2
  refine f_go wk (fun i σ' H' => ∃ O' S' α', Kee S2 H1 S' H' ∧ Frm K W H0 S0 O' S' α' σ' H' ∧ Pv i α') ⟨O2, S2, _, Kee.refl, f2, p0⟩ (fun i σ' H' _ ⟨_, _, _, ke, _⟩ => ⟨ke.t, fun b o hb e => ke.k b o (gs b hb) e⟩) ?_ ?_
  · rintro i v σ' H' H2 hi ⟨O', S', α', ke, f', hl⟩ ⟨sm, x, hx, ox⟩
    have m' := f'.k.same sm
    have f'' := f'.mv m'
    refine h2 f'' (ox.gr fun b hb => ke.s b (k2.s b hb)) (ps i x α' hx hl) fun O3 α3 σ3 f3 _ _ hb => ?_
    have ke3 := ke.trans (m'.kee f'.k)
    refine h3 (D := { D with nx := _, ct := _, bk := D.nx }) f3 hb ⟨fun O4 S4 α4 σ4 H4 q1 q2 q3 => ⟨O4, S4, α4, ke3.trans q1, q2, q3⟩, fun O4 S4 α4 σ4 H4 q1 q2 q3 => l.nx O4 S4 α4 σ4 H4 (k02.trans (ke3.trans q1)) q2 q3, fun O4 S4 α4 σ4 H4 q1 q2 q3 => ⟨O4, S4, α4, ke3.trans q1, q2, q3⟩, l.rt, l.er.kee (k02.trans ke3)⟩
  · rintro σ' H' ⟨O', S', α', ke, f', hl⟩
    exact l.nx O' S' α' σ' H' (k02.trans ke) f' (pd α' hl)
def aWhile (c : ATx) (b : ASt) : ASt := fun A α => ∃ I : Nat → Afr → Prop, (∃ m, I m α) ∧ ∀ m α, I m α → c A.er α fun t => if t = true then b { A with nx := fun α' => ∃ m', m' < m ∧ I m' α', ct := fun α' => ∃ m', m' < m ∧ I m' α', bk := A.nx } α else A.nx α
theorem rs_while {c : TT} {tb : TS} {x : ATx} {b : ASt} (h1 : RTx K E c x) (h2 : RSt K E tb b) : RSt K E (tWhile c tb) (aWhile x b) := by
  intro W H0 S0 O S α σ H A D f ⟨I, ⟨m0, i0⟩, h⟩ l
  refine ⟨fun m σ' H' => ∃ O' S' α', Kee S H S' H' ∧ Frm K W H0 S0 O' S' α' σ' H' ∧ I m α', ⟨m0, O, S, α, Kee.refl, f, i0⟩, ?_⟩
  rintro m σ' H' ⟨O', S', α', ke, f', im⟩
  refine h1 f' (h m α' im) (l.er.kee ke) fun t S1 H1 m1 k1 => ?_
  have ke1 := ke.trans (m1.kee f'.k)
  cases t with
  | true =>
    rw [if_pos rfl] at k1 ⊢
    refine ⟨fun σ' H' => ∃ m', m' < m ∧ ∃ O' S' α', Kee S H S' H' ∧ Frm K W H0 S0 O' S' α' σ' H' ∧ I m' α', fun σ2 H2 ⟨m', hm, q⟩ => ⟨m', hm, q⟩, ?_⟩
    exact h2 (D := { D with nx := _, ct := _, bk := D.nx }) (f'.mv m1) k1 ⟨fun O4 S4 α4 σ4 H4 q1 q2 ⟨m', hm, q3⟩ => ⟨m', hm, O4, S4, α4, ke1.trans q1, q2, q3⟩, fun O4 S4 α4 σ4 H4 q1 q2 q3 => l.nx O4 S4 α4 σ4 H4 (ke1.trans q1) q2 q3, fun O4 S4 α4 σ4 H4 q1 q2 ⟨m', hm, q3⟩ => ⟨m', hm, O4, S4, α4, ke1.trans q1, q2, q3⟩, l.rt, l.er.kee ke1⟩
  | false =>
    rw [if_neg (by decide)] at k1 ⊢
    exact l.nx O' S1 α' σ' H1 ke1 (f'.mv m1) k1
end
end UW
namespace UW
open PySem PySem.Spec PyProof.Rows L2
theorem wipe_get {σ : L2.St} {j : Nat} : ∀ {vs : List Nat}, (wipe σ vs)[j]? = if j ∈ vs ∧ j < σ.length then some none else σ[j]?
  | [] => by simp [wipe]
  | v :: vs => by
    unfold wipe
    by_cases e : v = j
    · subst e
      by_cases hl : v < σ.length
      · rw [List.getElem?_set_self (by rw [wipe_length]; exact hl), if_pos ⟨List.mem_cons_self .., hl⟩]
      · rw [List.getElem?_eq_none (by rw [List.length_set, wipe_length]; omega), if_neg (fun z => hl z.2), List.getElem?_eq_none (by omega)]
    · rw [List.getElem?_set_ne e, wipe_get (vs := vs)]
      by_cases q : j ∈ vs ∧ j < σ.length
      · rw [if_pos q, if_pos ⟨List.mem_cons_of_mem _ q.1, q.2⟩]
      · rw [if_neg q, if_neg fun z => q ⟨(List.mem_cons.mp z.1).elim (fun y => absurd y.symm e) id, z.2⟩]
theorem wipe_agree {σ σ2 : L2.St} {vs : List Nat} (h : ∀ i, i ∉ vs → σ2[i]? = (wipe σ vs)[i]?) (hl : σ2.length = (wipe σ vs).length) : wipe σ2 vs = wipe σ vs := by
  rw [wipe_length] at hl
  refine List.ext_getElem? fun j => ?_
  rw [wipe_get, wipe_get]
  by_cases e : j ∈ vs
  · by_cases q : j < σ.length
    · rw [if_pos ⟨e, by omega⟩, if_pos ⟨e, q⟩]
    · rw [if_neg (fun z => q (by omega)), if_neg (fun z => q z.2), List.getElem?_eq_none (by omega), List.getElem?_eq_none (by omega)]
  · rw [if_neg (fun z => e z.1), if_neg (fun z => e z.1), h j e, wipe_get, if_neg (fun z => e z.1)]
section
variable {K : Fg} {W : Wel} {H0 H H1 : Hp} {S0 S S1 : Ads} {O : Nat → Option Addr} {α : Afr} {σ : L2.St} {i : Nat}
theorem Frm.keepO (f : Frm K W H0 S0 O S α σ H) : Frm K W H0 S0 O S (α.set i .x) (σ.set i none) H := by
  refine ⟨f.k, f.k0, f.n0, f.w0, f.o, by rw [List.length_set, List.length_set]; exact f.len, fun j y e => ?_⟩
  rcases set_get e with ⟨rfl, rfl, hl⟩ | ⟨n, e⟩
  · trivial
  · exact (f.sl j y e).other n rfl
theorem Frm.wiped (f : Frm K W H0 S0 O S α σ H) : ∀ vs : List Nat, Frm K W H0 S0 O S (awipe α vs) (wipe σ vs) H
  | [] => f
  | v :: vs => (Frm.wiped f vs).keepO
end
def aX0 : AXr := fun _ _ _ => False
def aLcGo (g : ATg) (t : ATx) (e : AEx) (α : Afr) (k : Avl → Prop) (xs : List PyData) : Prop := ∃ Pv : Nat → List PyData → Prop, Pv 0 [] ∧
  (∀ i x acc, xs[i]? = some x → Pv i acc → g x α fun α2 => t aX0 α2 fun b => if b = true then e aX0 α2 fun av => ∃ y, av.cl = some y ∧ Pv (i + 1) (acc ++ [y]) else Pv (i + 1) acc) ∧ ∀ acc, Pv xs.length acc → acc.length ≤ xs.length → k (.l acc)
def aLc (w : AIt) (g : ATg) (t : ATx) (e : AEx) (vs : List Nat) : AEx := fun X α k => w X α fun xs _ => xs.length < 100000 ∧ aLcGo g t e (awipe α vs) k xs
section
variable {K : Fg} {E : WX} {n : Nat} {g : TG} {ag : ATg} {is : List Nat}
theorem re_lc {wi : TI} {tt : TT} {te : TE} {w : AIt} {t : ATx} {e : AEx} {vs : List Nat} (h1 : RIt K E wi w) (h2 : RTg K g ag is) (h3 : RTx K E tt t) (h4 : REx K E te e) (hs : is.all (fun i => vs.contains i) = true) : REx K E (tLc wi g tt te vs) (aLc w ag t e vs) := by
  intro W H0 S0 O S α σ H X k Q f h lk q
  refine s_lc ?_
  refine h1 f h lk fun J xs fz G S1 H1 m hz hG wk ⟨hl, Pv, p0, ps, pd⟩ => ?_
  have f1 := f.mv m
  have hv : ∀ i, i ∉ vs → i ∉ is := fun i hi z => hi (by have := List.all_eq_true.mp hs i z; simpa using this)
  have noX : ∀ {S' : Ads} {H' : Hp}, Lkx K W H0 S0 S' H' E aX0 := fun O S' α σ H' C d f _ _ _ z => z.elim
  have keepG : ∀ {S2 : Ads} {H2 : Hp}, Mvh W S1 H1 S2 H2 → Kgo G H1 H2 := fun m2 => ⟨m2.tm f1.k.w, fun b o hb e => by
    rcases hG b hb with z | ⟨i, hi, z⟩
    · exact m2.k b o e (f1.k.t b z).2
    · exact m2.k b o e (Wel.ne f.w0 (f.o i b z).1)⟩
  -- the new list changes
  have push : ∀ {D : Addr} {S5 : Ads} {H5 H6 : Hp} {us ws : List V}, H1 D = none → Mvh W S1 H1 S5 H5 → ¬ S5 D → H5 D = some (.lst us) → At D (.lst ws) H5 H6 → Mvh W S1 H1 S5 H6 := by
    intro D S5 H5 H6 us ws hD m5 nD h5 a6
    have nDw : ¬ W.has D := Wel.ne m.w hD
    refine ⟨fun b o e z => a6.ne (m5.k b o e z) (fun y => by rw [y, hD] at e; cases e), fun on => ?_, m5.s, m5.n, fun b hb => ⟨?_, (m5.t b hb).2⟩⟩
    · exact (m5.w.keep fun b o z e => a6.ne e fun y => nDw (y ▸ z)) on
    · rw [a6.2 b fun y => nD (y ▸ hb)]
      exact (m5.t b hb).1
  refine lc_inv wk (fun D i ys H' => ∃ S2 acc, Mvh W S1 H1 S2 H' ∧ Ods K S2 H' ys acc ∧ ¬ S2 D ∧ Pv i acc ∧ acc.length ≤ i) hl ?_ ?_ ?_ ?_
  · intro D H' hD sm _
    exact ⟨S1, [], m.oks.same sm, .nil, fun z => (m.t D z).1 hD, p0, Nat.le_refl _⟩
  · rintro D i ys H' _ ⟨S2, acc, m2, _⟩
    exact keepG m2
  · rintro D i ys x H2 H3 hD hi ⟨S2, acc, m2, oy, nD, go, la⟩ hy ⟨sm, z, hx, ox⟩ Yes No hyes hno
    have m23 := m2.oks.same sm
    have m3 := m2.trans m23
    have fw := (f1.mv m3).wiped vs
    refine h2 fw (ox.gr m2.s) (ps i z acc hx go) fun O3 α3 σ3 f3 a3 l3 go => ⟨wipe_agree (fun i hi => a3 i (hv i hi)) l3, ?_⟩
    refine h3 f3 go noX fun b S4 H4 m4 go => ?_
    have f4 := f3.mv m4
    have m14 := m3.trans m4
    have nD4 : ¬ S4 D := fun y => (m4.n D y).elim nD fun y => by rw [sm D _ hy] at y; cases y
    have nDw : ¬ W.has D := Wel.ne m.w hD
    have hy4 := m4.k D _ (sm D _ hy) nDw
    have oy4 := (m23.trans m4).ods m2.w (fun b z => (m2.t b z).2) oy
    cases b with
    | true =>
      rw [if_pos rfl] at go ⊢
      refine h4 f4 go noX fun v av S5 H5 m5 r5 ⟨y, hy5, go⟩ => ?_
      obtain ⟨S6, m6, _, o6⟩ := keepx f4.k m5 r5 hy5
      have nD6 : ¬ S6 D := fun y => (m6.n D y).elim nD4 fun y => by rw [hy4] at y; cases y
      have hy6 := m6.k D _ hy4 nDw
      refine hyes v H5 hy6 fun H7 a7 => ⟨S6, acc ++ [y], push hD (m14.trans m6) nD6 hy6 a7, ?_, nD6, go, by rw [List.length_append, List.length_singleton]; omega⟩
      have kk : ∀ b o, S6 b → H5 b = some o → H7 b = some o := fun b o hb e => a7.ne e (fun y => nD6 (y ▸ hb))
      have tm := a7.tm hy6
      exact ((m6.ods f4.k.w (fun b z => (f4.k.t b z).2) oy4).append (.cons o6 .nil)).mv tm fun b o hb e => ⟨hb, kk b o hb e⟩
    | false =>
      rw [if_neg (by decide)] at go ⊢
      exact hno H4 hy4 ⟨S4, acc, m14, oy4, nD4, go, by omega⟩
  · rintro D ys H2 hD ⟨S2, acc, m2, oy, nD, go, la⟩ hy _
    exact q (.ref D) (.l acc) S2 H2 (m.trans m2) ⟨D, ys, rfl, hy, oy, nD, m.back hD, Wel.ne m.w hD⟩ (pd acc go la)
def aSeqI (e : AEx) : AIt := fun X α k => e X α fun av => (∃ ds, av = .d (.tuple ds) ∧ k ds []) ∨ (∃ ds, av.cl = some (.list ds) ∧ k ds []) ∨ ∃ i ds, av = .b i ds ∧ α[i]? = some (.own ds) ∧ k ds [i]
theorem walk_seqT {S' G : Ads} {H' : Hp} {p : Addr} {vs : List V} {ds : List PyData} (h : SqT K H' p vs) (o : Ods K S' H' vs ds) (g : ∀ b, S' b → G b) : Walk (Itt K p) ds.length (Kgo G H') (Ygo K S' ds) := by
  rw [← o.length]
  refine walk_tup.mono (fun H2 k => k.1.sq h) fun i H2 x H3 hi k y => ?_
  obtain ⟨rfl, hx⟩ := y
  obtain ⟨d, hd, od⟩ := o.get hx
  exact ⟨Same.refl _, d, hd, od.mv k.1 fun a o ga e => ⟨ga, k.2 a o (g a ga) e⟩⟩
theorem walk_seqL {S' G : Ads} {H' : Hp} {p : Addr} {vs : List V} {ds : List PyData} (h : H' p = some (.lst vs)) (gp : G p) (o : Ods K S' H' vs ds) (g : ∀ b, S' b → G b) : Walk (Itl K p) ds.length (Kgo G H') (Ygo K S' ds) := by
  rw [← o.length]
  refine walk_list.mono (fun H2 k => SqL.of (k.2 p _ gp h)) fun i H2 x H3 hi k y => ?_
  obtain ⟨rfl, hx⟩ := y
  obtain ⟨d, hd, od⟩ := o.get hx
  exact ⟨Same.refl _, d, hd, od.mv k.1 fun a o ga e => ⟨ga, k.2 a o (g a ga) e⟩⟩
/-- what is walked: where it is, and what is to be kept -/
theorem seq_at {W : Wel} {H0 : Hp} {S0 : Ads} {O : Nat → Option Addr} {S S1 : Ads} {α : Afr} {σ : L2.St} {H H1 : Hp} {v : V} {av : Avl} {k : List PyData → List Nat → Prop} (f : Frm K W H0 S0 O S α σ H) (m : Mvh W S H S1 H1) (r : Vrp K W H O S1 H1 v av)
    (h : (∃ ds, av = .d (.tuple ds) ∧ k ds []) ∨ (∃ ds, av.cl = some (.list ds) ∧ k ds []) ∨ ∃ i ds, av = .b i ds ∧ α[i]? = some (.own ds) ∧ k ds [i]) :
    ∃ p vs ds fz S2, v = .ref p ∧ Mvh W S H S2 H1 ∧ Ods K S2 H1 vs ds ∧ (SqT K H1 p vs ∨ (H1 p = some (.lst vs) ∧ (S2 p ∨ ∃ i ∈ fz, O i = some p))) ∧ (∀ i ∈ fz, ∃ ds, α[i]? = some (.own ds)) ∧ k ds fz := by
  rcases h with ⟨ds, e, h⟩ | ⟨ds, e, h⟩ | ⟨i, ds, e, hi, h⟩
  · subst e
    obtain ⟨p, vs, rfl, a, b⟩ := r.tup (ds := ds) rfl
    exact ⟨p, vs, ds, [], S1, rfl, m, b, .inl a, (fun i hi => by cases hi), h⟩
  · obtain ⟨S2, m2, _, o⟩ := keepx f.k m r e
    cases o with
    | lst a b c => exact ⟨_, _, ds, [], S2, rfl, m2, c, .inr ⟨b, .inl a⟩, (fun i hi => by cases hi), h⟩
  · subst e
    obtain ⟨p, vs, rfl, a, b, c, _⟩ := r
    exact ⟨p, vs, ds, [i], S1, rfl, m, c, .inr ⟨b, .inr ⟨i, List.mem_singleton_self _, a⟩⟩, fun j hj => by rw [List.mem_singleton.mp hj]; exact ⟨ds, hi⟩, h⟩
theorem ri_seq {tl : TE} {e : AEx} (h1 : REx K E tl e) : RIt K E (iSeq K tl) (aSeqI e) := by
  intro W H0 S0 O S α σ H X k R f h lk q
  refine w_seq ?_
  refine h1 f h lk fun v av S1 H1 m r h' => ?_
  obtain ⟨p, vs, ds, fz, S2, rfl, m2, o, hp, hz, hk⟩ := seq_at f m r h'
  rcases hp with hp | ⟨hp, gp⟩
  · exact w_seqT hp (q _ ds fz S2 S2 H1 m2 hz (fun b z => .inl z) (walk_seqT hp o fun _ z => z) hk)
  · exact w_seqL (SqL.of hp) (q _ ds fz (fun b => S2 b ∨ b = p) S2 H1 m2 hz (fun b z => z.elim .inl fun y => by rw [y]; exact gp) (walk_seqL hp (.inr rfl) o fun _ z => .inl z) hk)
def aRng1 (a : AAv) : AIt := fun X α k => a X α fun as => ∃ j : Int, as = [.d (.int j)] ∧ -1000000 ≤ j ∧ j ≤ 1000000 ∧ k ((iota j.toNat).map .int) []
def rgI (i j : Int) : List Int := (List.range (j - i).toNat).map fun (t : Nat) => i + (t : Int)
def aRng2 (a : AAv) : AIt := fun X α k => a X α fun as => ∃ i j : Int, as = [.d (.int i), .d (.int j)] ∧ -1000000 ≤ i ∧ i ≤ 1000000 ∧ -1000000 ≤ j ∧ j ≤ 1000000 ∧ k ((rgI i j).map .int) []
theorem walk_rg {S' G : Ads} {H' : Hp} {lo : Int} {n : Nat} {ns : List Int} (h : ns = (List.range n).map fun (t : Nat) => lo + (t : Int)) : Walk (Itr lo n) (ns.map PyData.int).length (Kgo G H') (Ygo K S' (ns.map .int)) := by
  have e : (ns.map PyData.int).length = n := by rw [List.length_map, h, List.length_map, List.length_range]
  rw [e]
  refine walk_range.mono (fun _ _ => trivial) fun i H2 x H3 hi _ y => ?_
  obtain ⟨rfl, rfl⟩ := y
  refine ⟨Same.refl _, .int (lo + (i : Int)), ?_, .int _⟩
  rw [h, List.map_map, List.getElem?_map, List.getElem?_range hi]
  rfl
theorem ri_rng1 {ta : TA} {a : AAv} (h1 : RAv K E ta a 1) : RIt K E (iRng1 ta) (aRng1 a) := by
  intro W H0 S0 O S α σ H X k R f h lk q
  refine w_rng1 ?_
  refine h1 f h lk fun vs avs S1 H1 m r _ ⟨j, e, j0, j1, hk⟩ => ?_
  subst e
  rcases r with _ | ⟨r1, r2⟩
  cases r2
  cases r1
  refine w_rng (by omega) (q _ _ [] S1 S1 H1 m (fun i hi => by cases hi) (fun b z => .inl z) (walk_rg ?_) hk)
  unfold iota
  exact List.map_congr_left fun t _ => (Int.zero_add _).symm
theorem ri_rng2 {ta : TA} {a : AAv} (h1 : RAv K E ta a 2) : RIt K E (iRng2 ta) (aRng2 a) := by
  intro W H0 S0 O S α σ H X k R f h lk q
  refine w_rng2 ?_
  refine h1 f h lk fun vs avs S1 H1 m r _ ⟨i, j, e, i0, i1, j0, j1, hk⟩ => ?_
  subst e
  rcases r with _ | ⟨r1, r2⟩
  rcases r2 with _ | ⟨r2, r3⟩
  cases r3
  cases r1
  cases r2
  exact w_rngB (by omega) (q _ _ [] S1 S1 H1 m (fun i hi => by cases hi) (fun b z => .inl z) (walk_rg rfl) hk)
def enD (ds : List PyData) : List PyData := (List.range ds.length).map fun (i : Nat) => .tuple [.int (i : Int), ds.getD i .none]
def ziD : List PyData → List PyData → List PyData
  | x :: xs, y :: ys => .tuple [x, y] :: ziD xs ys
  | _, _ => []
theorem ziD_len : ∀ xs ys : List PyData, (ziD xs ys).length = min xs.length ys.length
  | [], _ => by simp [ziD]
  | _ :: _, [] => by simp [ziD]
  | x :: xs, y :: ys => by simp only [ziD, List.length_cons, ziD_len xs ys]; omega
theorem ziD_get : ∀ {xs ys : List PyData} {i : Nat} {x y : PyData}, xs[i]? = some x → ys[i]? = some y → (ziD xs ys)[i]? = some (.tuple [x, y])
  | [], _, _, _, _, h, _ => by simp at h
  | _ :: _, [], _, _, _, _, h => by simp at h
  | a :: xs, b :: ys, 0, x, y, h, h' => by simp at h h'; subst h; subst h'; rfl
  | a :: xs, b :: ys, i + 1, x, y, h, h' => by
    have := ziD_get (xs := xs) (ys := ys) (i := i) (by simpa using h) (by simpa using h')
    simpa [ziD] using this
def aEnum (a : AAv) : AIt := fun X α k => a X α fun as => ∃ av, as = [av] ∧ ((∃ ds, av = .d (.tuple ds) ∧ k (enD ds) []) ∨ (∃ ds, av.cl = some (.list ds) ∧ k (enD ds) []) ∨ ∃ i ds, av = .b i ds ∧ α[i]? = some (.own ds) ∧ k (enD ds) [i])
theorem od_pair {S' : Ads} {H3 : Hp} {T : Addr} {v u : V} {x y : PyData} (h : H3 T = some (.tup [v, u])) (a : Od K S' H3 v x) (b : Od K S' H3 u y) : Od K S' H3 (.ref T) (.tuple [x, y]) := .tup (SqT.of h) (.cons a (.cons b .nil))
theorem enD_get {ds : List PyData} {i : Nat} {d : PyData} (h : ds[i]? = some d) : (enD ds)[i]? = some (.tuple [.int (i : Int), d]) := by
  have hl := (List.getElem?_eq_some_iff.mp h).1
  unfold enD
  rw [List.getElem?_map, List.getElem?_range hl]
  show some (PyData.tuple [.int (i : Int), ds.getD i .none]) = _
  rw [List.getD_eq_getElem?_getD, h]
  rfl
theorem enD_len (ds : List PyData) : (enD ds).length = ds.length := by unfold enD; rw [List.length_map, List.length_range]
def iEnumV (K : Fg) (ta : TA) : TI := fun σ H R => ta σ H fun vs H1 => ∃ a, vs = [.ref a] ∧ ((∃ xs, L2.SqT K H1 a xs ∧ R (IteT K a) H1) ∨ ∃ xs, SqL K H1 a xs ∧ R (Ite K a) H1)
theorem pi_enumV {X : Cx} {e : Expr} {ta : TA} {p pos tpos : Pos} {elts : List Expr} {kk : Nat} (hm : X.mg "enumerate" = none) (ha : PA X [e] ta) (hg : Gl X "enumerate" := by rfl) (hs : starEach [e] X.env = [(false, eval e X.env)] := by rfl) :
    PI X (.Tuple elts kk tpos) (.Call (.Name "enumerate" p) [e] [] pos) (iEnumV X.K ta) := by
  refine ⟨fun pins s σ H R I h => ?_⟩
  refine Call_ (ld_blt I hg hm PyProof.Rows.boot_enumerate (PyProof.Rows.callWith_type1 (thn (ha.run pos pins s σ H _ I h) ?_) hs rfl))
  intro us s1 ⟨vs, H1, I1, r1, a, ex, q⟩
  subst ex
  cases r1 with
  | cons r rr =>
    cases rr
    cases r
    have fresh : ∀ b ∈ [s1.heap.objs.size + 1, s1.heap.objs.size], FpOk X pins H1 b := fun b hb => by
      have hle : s1.heap.objs.size ≤ b := by
        rcases (show b = s1.heap.objs.size + 1 ∨ b = s1.heap.objs.size by simpa using hb) with z | z
        · rw [z]; exact Nat.le_succ _
        · rw [z]; exact Nat.le_refl _
      exact I1.fpOk hle (I1.hok.fresh hle)
    rcases q with ⟨xs, hq, q⟩ | ⟨xs, hq, q⟩
    · obtain ⟨its, rv, p', hz⟩ := I1.tuple hq
      refine enum_one (begins_tuple a its.toArray) p' fun h' he hit hk => wpAny_pyIter_enum he ?_
      have I2 : Inv X pins σ H1 { s1 with heap := h' } := I1.kept (t' := s1.toks) hk
      have al : a < s1.heap.objs.size := by
        obtain ⟨_, q, _⟩ := p'
        exact Heap.lt_size q
      exact ⟨s1.heap.objs.size + 1, [s1.heap.objs.size + 1, s1.heap.objs.size], _, _, H1, rfl, I2, turn_enumT a (s1.heap.objs.size + 1) s1.heap.objs.size, ⟨⟨.none, he⟩, ⟨_, hit, rfl, rfl⟩, Nat.succ_ne_self _, Nat.ne_of_lt (Nat.lt_succ_of_lt al), Nat.ne_of_lt al⟩, fresh, q⟩
    · obtain ⟨its, rv, p', hz⟩ := I1.list hq
      refine call_enumerate_list p'.isList fun h' he hit hsz hk => wpAny_pyIter_enum he ?_
      have I2 : Inv X pins σ H1 { s1 with heap := h' } := I1.kept (t' := s1.toks) hk
      exact ⟨s1.heap.objs.size + 1, [s1.heap.objs.size + 1, s1.heap.objs.size], _, _, H1, rfl, I2, turn_enum a (s1.heap.objs.size + 1) s1.heap.objs.size, ⟨⟨.none, he⟩, hit, Nat.succ_ne_self _⟩, fresh, q⟩
theorem ri_enum {ta : TA} {a : AAv} (h1 : RAv K E ta a 1) : RIt K E (iEnumV K ta) (aEnum a) := by
  intro W H0 S0 O S α σ H X k R f h lk q
  refine h1 f h lk fun us avs S1 H1 m r _ ⟨av, e, h'⟩ => ?_
  subst e
  rcases r with _ | ⟨r1, r2⟩
  cases r2
  obtain ⟨p, vs, ds, fz, S2, rfl, m2, o, hp, hz, hk⟩ := seq_at (k := fun ds fz => k (enD ds) fz) f m r1 h'
  refine ⟨p, rfl, ?_⟩
  have fin : ∀ {G : Ads} {J : It}, (∀ b, S2 b → G b) → (∀ b, G b → S2 b ∨ ∃ i ∈ fz, O i = some b) → Walk J vs.length (Kgo G H1) (YPair (fun i => some (.int (i : Nat))) (fun i => vs[i]?)) → R J H1 := by
    intro G J g1 g2 w
    refine q J (enD ds) fz G S2 H1 m2 hz g2 ?_ hk
    rw [enD_len, ← o.length]
    refine w.mono (fun _ z => z) fun i H2 x H3 hi kg y => ?_
    obtain ⟨T, v1, v2, rfl, nT, rfl, e1, e2⟩ := y
    cases e1
    obtain ⟨d, hd, od⟩ := o.get e2
    exact ⟨Same.new nT, _, enD_get hd, od_pair upd_same (.int _) ((od.mv kg.1 fun a o ga e => ⟨ga, kg.2 a o (g1 a ga) e⟩).same (Same.new nT))⟩
  rcases hp with hp | ⟨hp, gp⟩
  · exact .inl ⟨vs, hp.up, fin (G := S2) (fun _ z => z) (fun _ z => .inl z) (walk_enumT.mono (fun H2 k => k.1.sq hp) fun _ _ _ _ _ _ y => y)⟩
  · exact .inr ⟨vs, SqL.of hp, fin (G := fun b => S2 b ∨ b = p) (fun _ z => .inl z) (fun b z => z.elim .inl fun y => by rw [y]; exact gp) (walk_enum.mono (fun H2 k => SqL.of (k.2 p _ (.inr rfl) hp)) fun _ _ _ _ _ _ y => y)⟩
/-- zip of two tuples; of two lists (slots' or kept) -/
def aZip (a : AAv) : AIt := fun X α k => a X α fun as => (∃ xs ys, as = [.d (.tuple xs), .d (.tuple ys)] ∧ k (ziD xs ys) []) ∨ (∃ x y xs ys, as = [x, y] ∧ x.cl = some (.list xs) ∧ y.cl = some (.list ys) ∧ k (ziD xs ys) [])
theorem walk_zipD {S' G : Ads} {H1 : Hp} {J : It} {n : Nat} {us vs : List V} {xs ys : List PyData} (o1 : Ods K S' H1 us xs) (o2 : Ods K S' H1 vs ys) (g1 : ∀ b, S' b → G b) (hn : n = min us.length vs.length) (w : Walk J n (Kgo G H1) (YPair (fun i => us[i]?) (fun i => vs[i]?))) :
    Walk J (ziD xs ys).length (Kgo G H1) (Ygo K S' (ziD xs ys)) := by
  rw [ziD_len, ← o1.length, ← o2.length, ← hn]
  refine w.mono (fun _ z => z) fun i H2 x H3 hi kg y => ?_
  obtain ⟨T, v1, v2, rfl, nT, rfl, e1, e2⟩ := y
  obtain ⟨d1, hd1, od1⟩ := o1.get e1
  obtain ⟨d2, hd2, od2⟩ := o2.get e2
  have mo : ∀ {v d}, Od K S' H1 v d → Od K S' (upd H2 T (.tup [v1, v2])) v d := fun h => (h.mv kg.1 fun a o ga e => ⟨ga, kg.2 a o (g1 a ga) e⟩).same (Same.new nT)
  exact ⟨Same.new nT, _, ziD_get hd1 hd2, od_pair upd_same (mo od1) (mo od2)⟩
theorem ri_zip {ta : TA} {a : AAv} (h1 : RAv K E ta a 2) : RIt K E (RZ.iZipA K ta) (aZip a) := by
  intro W H0 S0 O S α σ H X k R f h lk q
  refine w_zip ?_
  refine h1 f h lk fun us avs S1 H1 m r _ h' => ?_
  rcases h' with ⟨xs, ys, e, hk⟩ | ⟨x, y, xs, ys, e, ex, ey, hk⟩
  · subst e
    rcases r with _ | ⟨r1, r2⟩
    rcases r2 with _ | ⟨r2, r3⟩
    cases r3
    obtain ⟨p, us, rfl, a1, o1⟩ := r1.tup (ds := xs) rfl
    obtain ⟨p', vs, rfl, a2, o2⟩ := r2.tup (ds := ys) rfl
    exact w_zipT a1 a2 (q _ _ [] S1 S1 H1 m (fun i hi => by cases hi) (fun b z => .inl z) (walk_zipD o1 o2 (fun _ z => z) rfl ((walk_zipT rfl).mono (fun H2 k => ⟨k.1.sq a1, k.1.sq a2⟩) fun _ _ _ _ _ _ y => y)) hk)
  · subst e
    rcases r with _ | @⟨v1, _, _, _, r1, r2⟩
    rcases r2 with _ | @⟨v2, _, _, _, r2, r3⟩
    cases r3
    obtain ⟨S2, m2, s2, o1⟩ := keepx f.k m r1 ex
    have r2' : ∃ S3, Mvh W S H S3 H1 ∧ (∀ b, S2 b → S3 b) ∧ Od K S3 H1 v2 (.list ys) := by
      cases y with
      | d z => cases ey; exact ⟨S2, m2, fun _ h => h, Od.gr s2 r2⟩
      | l ds =>
        cases ey
        obtain ⟨p, vs, rfl, h1, h2, h3, h4, h5⟩ := r2
        exact ⟨_, f.k.keep m2 h1 h4, fun _ h => .inl h, .lst (.inr rfl) h1 (h2.gr fun b h => .inl (s2 b h))⟩
      | b i ds => cases ey
      | wl u => cases ey
      | k c => cases ey
    obtain ⟨S3, m3, s3, o2⟩ := r2'
    cases o1 with
    | lst g1 a1 b1 =>
      cases o2 with
      | lst g2 a2 b2 =>
        exact w_zipL (SqL.of a1) (SqL.of a2) (q _ _ [] S3 S3 H1 m3 (fun i hi => by cases hi) (fun b z => .inl z) (walk_zipD (b1.gr s3) b2 (fun _ z => z) rfl ((walk_zip rfl).mono (fun H2 k => ⟨SqL.of (k.2 _ _ (s3 _ g1) a1), SqL.of (k.2 _ _ g2 a2)⟩) fun _ _ _ _ _ _ y => y)) hk)
mutual
def flatD : PyData → Bool
  | .tuple ds => flatDs ds
  | .list _ => false
  | .dict _ => false
  | _ => true
def flatDs : List PyData → Bool
  | [] => true
  | d :: ds => flatD d && flatDs ds
end
mutual
theorem Od.flat {G G' : Ads} {H : Hp} : ∀ {d : PyData} {v : V}, flatD d = true → Od K G H v d → Od K G' H v d
  | _, _, _, .non => .non
  | _, _, _, .bl b => .bl b
  | _, _, _, .int i => .int i
  | _, _, _, .str x => .str x
  | _, _, h, .tup a b => .tup a (Ods.flat (by simpa [flatD] using h) b)
  | _, _, h, .lst _ _ _ => by simp [flatD] at h
  | _, _, h, .dic _ _ => by simp [flatD] at h
  | _, _, h, .dic1 _ _ _ => by simp [flatD] at h
  | _, _, h, .dk _ _ _ => by simp [flatD] at h
  | _, _, h, .dt _ _ _ => by simp [flatD] at h
theorem Ods.flat {G G' : Ads} {H : Hp} : ∀ {ds : List PyData} {vs : List V}, flatDs ds = true → Ods K G H vs ds → Ods K G' H vs ds
  | _, _, _, .nil => .nil
  | _, _, h, .cons a b => by
    simp only [flatDs, Bool.and_eq_true] at h
    exact .cons (Od.flat h.1 a) (Ods.flat h.2 b)
end
def flatC : Dic → Bool
  | .k kvs => flatDs (kvs.map (·.2))
  | .t kvs => flatDs (kvs.map (·.2))
theorem flat_pairs {κ : Type} {K : Fg} {G G' : Ads} {H : Hp} : ∀ {ls : List (κ × V)} {kvs : List (κ × PyData)}, flatDs (kvs.map (·.2)) = true → Paired (fun (a : κ × V) (b : κ × PyData) => a.1 = b.1 ∧ Od K G H a.2 b.2) ls kvs → Paired (fun (a : κ × V) (b : κ × PyData) => a.1 = b.1 ∧ Od K G' H a.2 b.2) ls kvs
  | _, _, _, .nil => .nil
  | _, _, h, .cons a b => by
    simp only [List.map_cons, flatDs, Bool.and_eq_true] at h
    exact .cons ⟨a.1, Od.flat h.1 a.2⟩ (flat_pairs h.2 b)
theorem DcR.flat {K : Fg} {G G' : Ads} {H : Hp} {p : Addr} {c : Dic} (h : flatC c = true) (r : DcR K G H p c) : DcR K G' H p c := by
  cases c with
  | k kvs => obtain ⟨ls, a, b⟩ := r; exact ⟨ls, a, flat_pairs h b⟩
  | t kvs => obtain ⟨ls, a, b⟩ := r; exact ⟨ls, a, flat_pairs h b⟩
def Avl.flat : Avl → Bool
  | .d x => flatD x
  | .l ds => flatDs ds
  | .b _ ds => flatDs ds
  | .wl u => true
  | .k c => flatC c
abbrev AXc := Addr → Option (List (Str × PyData)) → Prop
abbrev AFn := List Avl → AXc → (Avl → Prop) → Prop
def anyB (as : List Avl) : Bool := as.any Avl.isB
/-- where lists of what is handed in may be -/
def argS (W : Wel) (Hs : Hp) (O : Nat → Option Addr) (S : Ads) (H : Hp) (as : List Avl) : Ads := fun b => S b ∨ (Hs b = none ∧ H b ≠ none ∧ ¬ W.has b) ∨ (anyB as = true ∧ (∃ i, O i = some b) ∧ H b ≠ none ∧ ¬ W.has b)
def Xrn (K : Fg) (W : Wel) (H0 : Hp) (S0 : Ads) (d : Option Addr) (f : Option (List (Str × PyData))) (H' : Hp) : Prop := ∃ S' : Ads, W.ok H' ∧ (∀ b o, H0 b = some o → ¬ W.has b → H' b = some o) ∧ (∀ b, S' b → (S0 b ∨ H0 b = none) ∧ H' b ≠ none ∧ ¬ W.has b) ∧ Xrp K S' H' d f
/-- a def's promise, by its mirror -/
def SpA (K : Fg) (n : Nat) (m : AFn) : Sp := fun vs H Q E => ∃ (W : Wel) (Hs : Hp) (O : Nat → Option Addr) (S : Ads) (as : List Avl) (x : AXc) (k : Avl → Prop),
  vs.length = n ∧ Oks W S H ∧ (∀ b, H b = none → Hs b = none) ∧ Paired (Vrp K W Hs O S H) vs as ∧ m as x k ∧ (∀ v av H', Rtn K W H (argS W Hs O S H as) v av H' → k av → Q v H') ∧ ∀ C d f H', Xrn K W H (argS W Hs O S H as) d f H' → x C f → E (.ref C) d H'
theorem l_spa {m : AFn} : ∀ vs H Q E, SpA K n m vs H Q E → vs.length = n := by
  rintro vs H Q E ⟨W, Hs, O, S, as, x, k, h, _⟩
  exact h
def aCall (m : AFn) (a : AAv) : AEx := fun X α k => a X α fun as => m as (fun C f => X α C f ∧ (anyB as = true → f = none)) fun av => k av ∧ (anyB as = true → av.flat = true)
section
variable {W : Wel} {H0 H H1 H' : Hp} {S0 S S1 : Ads} {O : Nat → Option Addr} {α : Afr} {σ : L2.St} {v : V} {av : Avl} {as : List Avl}
/-- what a call hands back, to the caller -/
theorem back_of (f : Frm K W H0 S0 O S α σ H) (m : Mvh W S H S1 H1) (r : Rtn K W H1 (argS W H O S1 H1 as) v av H') (hf : anyB as = true → av.flat = true) : ∃ S2, Mvh W S H S2 H' ∧ Vrp K W H O S2 H' v av := by
  obtain ⟨S', w', k', t', r'⟩ := r
  have kk : ∀ b o, H b = some o → ¬ W.has b → H' b = some o := fun b o e z => k' b o (m.k b o e z) z
  have nn : ∀ b, H1 b = none → H b = none := fun b => m.back
  have tS : ∀ b, S1 b → H' b ≠ none ∧ ¬ W.has b := fun b hb => by
    refine ⟨?_, (m.t b hb).2⟩
    cases q : H1 b with
    | none => exact absurd q (m.t b hb).1
    | some o => rw [k' b o q (m.t b hb).2]; intro y; cases y
  by_cases hB : anyB as = true
  · have fl := hf hB
    refine ⟨S1, ⟨kk, w', m.s, m.n, tS⟩, ?_⟩
    cases av with
    | d x => exact Od.flat fl r'
    | l ds =>
      obtain ⟨p, vs, rfl, h1, h2, h3, h4, h5⟩ := r'
      exact ⟨p, vs, rfl, h1, Ods.flat fl h2, fun z => (m.t p z).1 h4, nn p h4, h5⟩
    | b i ds =>
      obtain ⟨p, vs, _, h0, _⟩ := r'
      cases h0
    | wl u => exact r'
    | k c =>
      obtain ⟨p, rfl, h1, h3, h4, h5⟩ := r'
      exact ⟨p, rfl, DcR.flat fl h1, fun z => (m.t p z).1 h4, nn p h4, h5⟩
  · refine ⟨fun b => S1 b ∨ S' b, ⟨kk, w', fun b hb => .inl (m.s b hb), fun b hb => ?_, fun b hb => ?_⟩, ?_⟩
    · rcases hb with hb | hb
      · exact m.n b hb
      · rcases (t' b hb).1 with (q | q | q) | q
        · exact m.n b q
        · exact .inr q.1
        · exact absurd q.1 hB
        · exact .inr (nn b q)
    · rcases hb with hb | hb
      · exact tS b hb
      · exact (t' b hb).2
    · cases av with
      | d x => exact Od.gr (fun b hb => .inr hb) r'
      | l ds =>
        obtain ⟨p, vs, rfl, h1, h2, h3, h4, h5⟩ := r'
        exact ⟨p, vs, rfl, h1, h2.gr fun b hb => .inr hb, fun z => z.elim (fun z => (m.t p z).1 h4) h3, nn p h4, h5⟩
      | b i ds =>
        obtain ⟨p, vs, _, h0, _⟩ := r'
        cases h0
      | wl u => exact r'
      | k c =>
        obtain ⟨p, rfl, h1, h3, h4, h5⟩ := r'
        exact ⟨p, rfl, h1.mp (fun o e => e) (fun z => z.gr fun b hb => .inr hb), fun z => z.elim (fun z => (m.t p z).1 h4) h3, nn p h4, h5⟩
theorem backX_of (f : Frm K W H0 S0 O S α σ H) (m : Mvh W S H S1 H1) {d : Option Addr} {fs : Option (List (Str × PyData))} (r : Xrn K W H1 (argS W H O S1 H1 as) d fs H') (hf : anyB as = true → fs = none) : ∃ S2, Mvh W S H S2 H' ∧ Xrp K S2 H' d fs := by
  obtain ⟨S', w', k', t', r'⟩ := r
  have kk : ∀ b o, H b = some o → ¬ W.has b → H' b = some o := fun b o e z => k' b o (m.k b o e z) z
  have nn : ∀ b, H1 b = none → H b = none := fun b => m.back
  have tS : ∀ b, S1 b → H' b ≠ none ∧ ¬ W.has b := fun b hb => by
    refine ⟨?_, (m.t b hb).2⟩
    cases q : H1 b with
    | none => exact absurd q (m.t b hb).1
    | some o => rw [k' b o q (m.t b hb).2]; intro y; cases y
  by_cases hB : anyB as = true
  · have fl := hf hB
    subst fl
    exact ⟨S1, ⟨kk, w', m.s, m.n, tS⟩, r'⟩
  · refine ⟨fun b => S1 b ∨ S' b, ⟨kk, w', fun b hb => .inl (m.s b hb), fun b hb => ?_, fun b hb => ?_⟩, ?_⟩
    · rcases hb with hb | hb
      · exact m.n b hb
      · rcases (t' b hb).1 with (q | q | q) | q
        · exact m.n b q
        · exact .inr q.1
        · exact absurd q.1 hB
        · exact .inr (nn b q)
    · rcases hb with hb | hb
      · exact tS b hb
      · exact (t' b hb).2
    · cases fs with
      | none => exact r'
      | some fs =>
        obtain ⟨dx, e, h1⟩ := r'
        exact ⟨dx, e, h1.mv' (fun _ hb => .inr hb) (fun _ _ _ z => z) fun z => z.gr fun b hb => .inr hb⟩
end
theorem re_call {sp : Sp} {m : AFn} {ta : TA} {a : AAv} {E' : L2.St → XK} (hb : ∀ vs H Q E, SpA K n m vs H Q E → sp vs H Q E) (hE : ∀ σ c d H, E c d σ H → E' σ c d H) (h1 : RAv K E ta a n) : REx K E (tG sp E' ta) (aCall m a) := by
  intro W H0 S0 O S α σ H X k Q f h lk q
  refine h1 f h lk fun vs avs S1 H1 m1 r1 hl h' => ?_
  refine hb _ _ _ _ ⟨W, H, O, S1, avs, _, _, hl, m1.oks, fun b => m1.back, r1, h', fun v av H' rt ⟨kv, kf⟩ => ?_, fun C d fs H' rx ⟨x1, x2⟩ => ?_⟩
  · obtain ⟨S2, m2, r2⟩ := back_of f m1 rt kf
    exact q v av S2 H' m2 r2 kv
  · obtain ⟨S2, m2, r2⟩ := backX_of f m1 rx x2
    exact hE _ _ _ _ (lk O S2 α σ H' C d fs (m2.kee f.k) (f.mv m2) r2 x1)
/-- where no error can come -/
theorem re_call0 {sp : Sp} {m : AFn} {ta : TA} {a : AAv} {E' : L2.St → XK} (hb : ∀ vs H Q E, SpA K n m vs H Q E → sp vs H Q E) (h1 : RAv K E ta a n) : REx K E (tG sp E' ta) (fun X α k => a X α fun as => m as (fun _ _ => False) fun av => k av ∧ (anyB as = true → av.flat = true)) := by
  intro W H0 S0 O S α σ H X k Q f h lk q
  refine h1 f h lk fun vs avs S1 H1 m1 r1 hl h' => ?_
  refine hb _ _ _ _ ⟨W, H, O, S1, avs, _, _, hl, m1.oks, fun b => m1.back, r1, h', fun v av H' rt ⟨kv, kf⟩ => ?_, fun C d fs H' rx z => z.elim⟩
  obtain ⟨S2, m2, r2⟩ := back_of f m1 rt kf
  exact q v av S2 H' m2 r2 kv
def aCall0 (m : AFn) (a : AAv) : AEx := fun X α k => a X α fun as => m as (fun _ _ => False) fun av => k av ∧ (anyB as = true → av.flat = true)
/-- by keywords -/
def aKw (n : Nat) (g : List Avl → List Avl) (a : AAv) : AAv := fun X α k => a X α fun as => k (g as)
theorem re_kw {sp : Sp} {m : AFn} {ta : TA} {a : AAv} {E' : L2.St → XK} {g : {α : Type} → List α → List α} (hb : ∀ vs H Q E, SpA K n m vs H Q E → sp vs H Q E) (hE : ∀ σ c d H, E c d σ H → E' σ c d H)
    (hg : ∀ {R : V → Avl → Prop} {vs : List V} {as : List Avl}, Paired R vs as → vs.length = n → Paired R (g vs) (g as) ∧ (g vs).length = n) (h1 : RAv K E ta a n) : REx K E (tKw sp n (fun l => g l) E' ta) (aCall m (aKw n (fun l => g l) a)) := by
  intro W H0 S0 O S α σ H X k Q f h lk q
  refine h1 f h lk fun vs avs S1 H1 m1 r1 hl h' => ⟨hl, ?_⟩
  obtain ⟨r2, l2⟩ := hg r1 hl
  refine hb _ _ _ _ ⟨W, H, O, S1, g avs, _, _, l2, m1.oks, fun b => m1.back, r2, h', fun v av H' rt ⟨kv, kf⟩ => ?_, fun C d fs H' rx ⟨x1, x2⟩ => ?_⟩
  · obtain ⟨S2, m2, r2⟩ := back_of f m1 rt kf
    exact q v av S2 H' m2 r2 kv
  · obtain ⟨S2, m2, r2⟩ := backX_of f m1 rx x2
    exact hE _ _ _ _ (lk O S2 α σ H' C d fs (m2.kee f.k) (f.mv m2) r2 x1)
def Avl.inn : Avl → Sot
  | .d x => .d x
  | .l ds => .d (.list ds)
  | .b _ ds => .d (.list ds)
  | .wl u => .wl u
  | .k _ => .x
/-- what a body is worth as a def of n parameters and x further names -/
def mOf (x : Nat) (a : ASt) : AFn := fun as e k => a { nx := fun _ => k (.d .none), rt := k, er := fun _ => e } (as.map Avl.inn ++ List.replicate x .x)
theorem pair_get {α β : Type} {R : α → β → Prop} : ∀ {xs : List α} {ys : List β} {i : Nat} {y : β}, Paired R xs ys → ys[i]? = some y → ∃ x, xs[i]? = some x ∧ R x y
  | _, _, _, _, .nil, e => by simp at e
  | _, _, 0, _, .cons r _, e => by simp at e; subst e; exact ⟨_, rfl, r⟩
  | _, _, i + 1, _, .cons _ t, e => by
    obtain ⟨x, h1, h2⟩ := pair_get (i := i) t (by simpa using e)
    exact ⟨x, by simpa using h1, h2⟩
theorem pair_len {α β : Type} {R : α → β → Prop} : ∀ {xs : List α} {ys : List β}, Paired R xs ys → xs.length = ys.length
  | _, _, .nil => rfl
  | _, _, .cons _ t => by rw [List.length_cons, List.length_cons, pair_len t]
theorem p_spa {t : TS} {a : ASt} {x : Nat} {N : List Str} {vs : List V} {H : Hp} {Q : VK} {E : XK} (hr : RSt K (fun c d _ H => E c d H) t a) (h : SpA K n (mOf x a) vs H Q E) (hN : N.length = n + x) : t { nx := fun _ H' => Q .non H', rt := Q } (start N vs) H := by
  obtain ⟨W, Hs, O, S, as, e, k, hl, ok, hh, pr, hm, hq, he⟩ := h
  have la := pair_len pr
  have tt : ∀ b, argS W Hs O S H as b → H b ≠ none ∧ ¬ W.has b := by
    rintro b (q | q | q)
    · exact ok.t b q
    · exact q.2
    · exact q.2.2
  have f0 : Frm K W H (argS W Hs O S H as) (fun _ => none) (argS W Hs O S H as) (as.map Avl.inn ++ List.replicate x .x) (start N vs) H := by
    refine ⟨⟨ok.w, tt⟩, fun b o h _ => h, fun b h => .inl h, ok.w, (fun i p z => by cases z), ?_, fun i z ez => ?_⟩
    · unfold L2.start
      simp only [List.length_append, List.length_map, List.length_replicate]
      omega
    · rw [List.getElem?_append] at ez
      split at ez
      · rename_i hi
        rw [List.getElem?_map] at ez
        cases q : as[i]? with
        | none => rw [q] at ez; cases ez
        | some av =>
          rw [q] at ez
          have ez' : av.inn = z := Option.some.inj ez
          subst ez'
          obtain ⟨v, hv, rv⟩ := pair_get pr q
          have sv : (start N vs)[i]? = some (some v) := by
            unfold L2.start
            rw [List.getElem?_append, if_pos (by rw [List.length_map] at hi ⊢; omega), List.getElem?_map, hv]
            rfl
          have bq : av.isB = true → anyB as = true := fun z => List.any_eq_true.mpr ⟨av, List.mem_of_getElem? q, z⟩
          cases av with
          | d y => exact ⟨v, sv, Od.gr (fun b hb => .inl hb) rv⟩
          | l ds =>
            obtain ⟨p, us, rfl, h1, h2, h3, h4, h5⟩ := rv
            exact ⟨_, sv, .lst (.inr (.inl ⟨h4, (by rw [h1]; intro y; cases y), h5⟩)) h1 (h2.gr fun b hb => .inl hb)⟩
          | b j ds =>
            obtain ⟨p, us, rfl, h0, h1, h2, h3⟩ := rv
            exact ⟨_, sv, .lst (.inr (.inr ⟨bq rfl, ⟨j, h0⟩, (by rw [h1]; intro y; cases y), h3⟩)) h1 (h2.gr fun b hb => .inl hb)⟩
          | wl u =>
            obtain ⟨on, rfl⟩ := rv
            exact ⟨on, sv⟩
          | k c => trivial
      · rw [List.getElem?_replicate] at ez
        split at ez
        · cases ez; trivial
        · cases ez
  refine hr (D := { nx := fun _ H' => Q .non H', rt := Q }) f0 hm ⟨fun O' S' α' σ' H' ke f' z => hq .non _ H' (rtn_of (av := .d .none) f' f'.k.refl Od.non) z, fun O' S' α' σ' H' ke f' z => z.elim, fun O' S' α' σ' H' ke f' z => z.elim, hq, ?_⟩
  intro O' S' α' σ' H' C d fs ke f' xr z
  exact he C d fs H' ⟨S', f'.k.w, f'.k0, fun b hb => ⟨f'.n0 b hb, f'.k.t b hb⟩, xr⟩ z
end
end UW
namespace UW
open PySem PySem.Spec PyProof.Rows L2
section
variable {K : Fg} {E : WX} {i n : Nat} {C D : Addr}
def aRaise (C : Addr) : ASt := fun A α => A.er α C none
def aTry (C : Addr) (i : Nat) (b : ASt) (s : Addr → ASt) : ASt := fun A α =>
  b { A with er := fun α' C' f => C' = C ∧ f = none ∧ ∀ a, s a { A with nx := fun α'' => A.nx (α''.set i .x), bk := fun α'' => A.bk (α''.set i .x), ct := fun α'' => A.ct (α''.set i .x) } (α'.set i (.err a)) } α
def aIsX (i : Nat) (a : Addr) : AEx := fun _ α k => α[i]? = some (.err a) ∧ k (.d (.bool true))
theorem Vrp.od {W : Wel} {Hs : Hp} {O : Nat → Option Addr} {S : Ads} {H : Hp} {v : V} {av : Avl} {d : PyData} (r : Vrp K W Hs O S H v av) (e : av.dat = some d) : Od K (fun _ => True) H v d := by
  cases av with
  | d x => cases e; exact Od.gr (fun _ _ => trivial) r
  | l ds =>
    cases e
    obtain ⟨p, vs, rfl, h1, h2, _⟩ := r
    exact .lst trivial h1 (h2.gr fun _ _ => trivial)
  | b j ds =>
    cases e
    obtain ⟨p, vs, rfl, _, h1, h2, _⟩ := r
    exact .lst trivial h1 (h2.gr fun _ _ => trivial)
  | wl u => cases e
  | k c => cases e
def aIsi (g : PyData → Bool) (e : AEx) : AEx := fun X α k => e X α fun av => ∃ d, av.dat = some d ∧ k (.d (.bool (g d)))
theorem re_isi {te : TE} {e : AEx} {z : String} {g : PyData → Bool} (hk : ∀ d, PySem.W.kitOne K (tyD d) (.type z) = some (g d)) (h1 : REx K E te e) : REx K E (tCB (rIsi K) (tCons te (tCons (tC (.ty z)) tNil))) (aIsi g e) := by
  intro W H0 S0 O S α σ H X k Q f h lk q
  refine h1 f h lk fun v av S1 H1 m r ⟨d, e, k1⟩ => ?_
  exact ⟨v, _, _, _, _, rfl, .ty _, (r.od e).ty, hk d, q _ (.d (.bool (g d))) S1 H1 m (Od.bl _) k1⟩
def aParD (i j : Nat) (a : AAd) : ASt := fun A α => a A.er α fun xs => ∃ x y, xs = [x, y] ∧ A.nx ((α.set i (.d x)).set j (.d y))
theorem rs_parD {j : Nat} {ta : TA} {a : AAd} (h1 : RAd K E ta a 2) : RSt K E (tPar i j ta) (aParD i j a) := by
  intro W H0 S0 O S α σ H A D f h l
  refine h1 f h l.er fun vs xs S1 H1 m r _ ⟨x, y, e, k⟩ => ?_
  subst e
  cases r with
  | cons r1 r2 =>
    cases r2 with
    | cons r2 r3 =>
      cases r3
      exact ⟨_, _, rfl, l.nx _ S1 _ _ H1 (m.kee f.k) (((f.mv m).setD r1).setD r2) k⟩
end
end UW
namespace UW
open PySem PySem.Spec PyProof.Rows L2
section
variable {K : Fg} {G : Ads} {H : Hp}
mutual
theorem Od.dp : ∀ {d : PyData} {v : V}, d.canLay0 = true → Od K G H v d → Dp K H v d
  | _, _, _, .non => .non
  | _, _, _, .bl b => .bl b
  | _, _, _, .int i => .int i
  | _, _, _, .str x => .str x
  | _, _, h, .tup a b => .tup a.up (Ods.dp (by simpa only [PyData.canLay0] using h) b)
  | _, _, h, .lst _ a b => .lst (SqL.of a) (Ods.dp (by simpa only [PyData.canLay0] using h) b)
  | _, _, h, .dic _ _ => by simp [PyData.canLay0] at h
  | _, _, h, .dic1 _ _ _ => by simp [PyData.canLay0] at h
  | _, _, h, .dk _ _ _ => by simp [PyData.canLay0] at h
  | _, _, h, .dt _ _ _ => by simp [PyData.canLay0] at h
theorem Ods.dp : ∀ {ds : List PyData} {vs : List V}, PyData.canLayAll0 ds = true → Ods K G H vs ds → DpAll K H vs ds
  | _, _, _, .nil => .nil
  | _, _, h, .cons a b => by
    simp only [PyData.canLayAll0, Bool.and_eq_true] at h
    exact .cons (Od.dp h.1 a) (Ods.dp h.2 b)
end
mutual
theorem Od.tp : ∀ {d : PyData} {v : V}, flatD d = true → Od K G H v d → Tp K H v d
  | _, _, _, .non => .non
  | _, _, _, .bl b => .bl b
  | _, _, _, .int i => .int i
  | _, _, _, .str x => .str x
  | _, _, h, .tup a b => .tup a (Ods.tps (by simpa [flatD] using h) b)
  | _, _, h, .lst _ _ _ => by simp [flatD] at h
  | _, _, h, .dic _ _ => by simp [flatD] at h
  | _, _, h, .dic1 _ _ _ => by simp [flatD] at h
  | _, _, h, .dk _ _ _ => by simp [flatD] at h
  | _, _, h, .dt _ _ _ => by simp [flatD] at h
theorem Ods.tps : ∀ {ds : List PyData} {vs : List V}, flatDs ds = true → Ods K G H vs ds → Tps K H vs ds
  | _, _, _, .nil => .nil
  | _, _, h, .cons a b => by
    simp only [flatDs, Bool.and_eq_true] at h
    exact .cons (Od.tp h.1 a) (Ods.tps h.2 b)
end
theorem Ods.drop : ∀ {vs : List V} {ds : List PyData} (n : Nat), Ods K G H vs ds → Ods K G H (vs.drop n) (ds.drop n)
  | _, _, 0, h => h
  | _, _, _ + 1, .nil => .nil
  | _, _, n + 1, .cons _ h => Ods.drop n h
theorem Ods.take : ∀ {vs : List V} {ds : List PyData} (n : Nat), Ods K G H vs ds → Ods K G H (vs.take n) (ds.take n)
  | _, _, 0, _ => .nil
  | _, _, _ + 1, .nil => .nil
  | _, _, n + 1, .cons a h => .cons a (Ods.take n h)
theorem Ods.ints {ns : List Int} : ∀ {vs : List V}, Ods K G H vs (ns.map .int) → vs = ns.map V.int := by
  induction ns with
  | nil => intro vs h; cases h; rfl
  | cons n ns ih =>
    intro vs h
    cases h with
    | cons a b => cases a; rw [ih b]; rfl
theorem Ods.at {vs : List V} {ds : List PyData} {i : Int} {x : PyData} (o : Ods K G H vs ds) (h : atI ds i = some x) : ∃ v, atI vs i = some v ∧ Od K G H v x := by
  unfold atI at h ⊢
  rw [o.length]
  cases q : ixN ds.length i with
  | none => rw [q] at h; cases h
  | some j =>
    rw [q] at h
    exact o.nth h
theorem Ods.rep {vs : List V} {ds : List PyData} (o : Ods K G H vs ds) : ∀ n : Nat, Ods K G H (List.replicate n vs).flatten (List.replicate n ds).flatten
  | 0 => .nil
  | n + 1 => by
    rw [List.replicate_succ, List.replicate_succ, List.flatten_cons, List.flatten_cons]
    exact o.append (Ods.rep o n)
end
def cutD (ds : List PyData) (lo hi : Option Int) : List PyData := (ds.drop (HT.sIx ds.length 0 lo)).take (HT.sIx ds.length ds.length hi - HT.sIx ds.length 0 lo)
theorem Ods.cut {K : Fg} {G : Ads} {H : Hp} {vs : List V} {ds : List PyData} (o : Ods K G H vs ds) (lo hi : Option Int) : Ods K G H (cutV vs lo hi) (cutD ds lo hi) := by
  unfold cutV cutD
  rw [o.length]
  exact (o.drop _).take _
section
variable {K : Fg} {E : WX}
abbrev Rst (K : Fg) (W : Wel) (O : Nat → Option Addr) (S : Ads) (H : Hp) (k : Avl → Prop) (Q : VK) : Prop := ∀ v av S' H', Mvh W S H S' H' → Vrp K W H O S' H' v av → k av → Q v H'
section
variable {W : Wel} {O : Nat → Option Addr} {S : Ads} {H : Hp} {k : Avl → Prop} {Q : VK}
theorem Rst.int (q : Rst K W O S H k Q) (ok : Oks W S H) {i : Int} (h : k (.d (.int i))) : Q (.int i) H := q _ (.d (.int i)) S H ok.refl (Od.int i) h
theorem Rst.bl (q : Rst K W O S H k Q) (ok : Oks W S H) {i : Bool} (h : k (.d (.bool i))) : Q (.bl i) H := q _ (.d (.bool i)) S H ok.refl (Od.bl i) h
theorem Rst.str (q : Rst K W O S H k Q) (ok : Oks W S H) {i : Str} (h : k (.d (.str i))) : Q (.str i) H := q _ (.d (.str i)) S H ok.refl (Od.str i) h
theorem Rst.d (q : Rst K W O S H k Q) (ok : Oks W S H) {v : V} {x : PyData} (o : Od K S H v x) (h : k (.d x)) : Q v H := q _ (.d x) S H ok.refl o h
theorem Rst.tup (q : Rst K W O S H k Q) (ok : Oks W S H) {p : Addr} {H' : Hp} {vs : List V} {ds : List PyData} (e : Same H H') (a : SqT K H' p vs) (o : Ods K S H vs ds) (h : k (.d (.tuple ds))) : Q (.ref p) H' :=
  q _ (.d (.tuple ds)) S H' (ok.same e) (Od.tup a (o.same e)) h
theorem Rst.new (q : Rst K W O S H k Q) (ok : Oks W S H) {vs : List V} {ds : List PyData} (o : Ods K S H vs ds) (h : k (.l ds)) : New Q H (.lst vs) := fun p np =>
  q _ (.l ds) S _ (ok.same (Same.new np)) ⟨p, vs, rfl, upd_same, o.same (Same.new np), fun z => (ok.t p z).1 np, np, Wel.ne ok.w np⟩ h
theorem Rst.newT (q : Rst K W O S H k Q) (ok : Oks W S H) {vs : List V} {ds : List PyData} (o : Ods K S H vs ds) (h : k (.d (.tuple ds))) : New Q H (.tup vs) := fun p np => q.tup ok (Same.new np) (SqT.of upd_same) o h
end
def gI (g : Int → Int → PyData) : AO2 := fun x y k => ∃ i j, x = .d (.int i) ∧ y = .d (.int j) ∧ k (.d (g i j))
theorem int_inv {W : Wel} {Hs : Hp} {O : Nat → Option Addr} {S : Ads} {H : Hp} {v : V} {i : Int} (r : Vrp K W Hs O S H v (.d (.int i))) : v = .int i := by cases r; rfl
theorem str_inv {W : Wel} {Hs : Hp} {O : Nat → Option Addr} {S : Ads} {H : Hp} {v : V} {i : Str} (r : Vrp K W Hs O S H v (.d (.str i))) : v = .str i := by cases r; rfl
theorem non_inv {W : Wel} {Hs : Hp} {O : Nat → Option Addr} {S : Ads} {H : Hp} {v : V} (r : Vrp K W Hs O S H v (.d .none)) : v = .non := by cases r; rfl
theorem ro_i0 {g : Int → Int → V} {g' : Int → Int → PyData} (h : ∀ i j S H, Od K S H (g i j) (g' i j)) : ROp K (rI0 g) (gI g') := by
  intro W Hs O S H x y ax ay k Q ok r1 r2 ⟨i, j, e1, e2, hk⟩ q
  subst e1 e2
  obtain rfl := int_inv r1
  obtain rfl := int_inv r2
  exact ⟨i, j, rfl, rfl, Rst.d q ok (h i j _ _) hk⟩
def gAdd : AO2 := fun x y k => (∃ i j, x = .d (.int i) ∧ y = .d (.int j) ∧ k (.d (.int (i + j)))) ∨ (∃ i j, x = .d (.str i) ∧ y = .d (.str j) ∧ i.length + j.length ≤ 100000 ∧ k (.d (.str (i ++ j)))) ∨
  (∃ xs ys, x.tup = some xs ∧ y.tup = some ys ∧ xs.length + ys.length ≤ 100000 ∧ k (.d (.tuple (xs ++ ys)))) ∨ (∃ xs ys, x.lst = some xs ∧ y.lst = some ys ∧ xs.length + ys.length ≤ 100000 ∧ k (.l (xs ++ ys)))
theorem ro_add : ROp K (rAddU K) gAdd := by
  intro W Hs O S H x y ax ay k Q ok r1 r2 h q
  rcases h with ⟨i, j, e1, e2, hk⟩ | ⟨i, j, e1, e2, hl, hk⟩ | ⟨xs, ys, e1, e2, hl, hk⟩ | ⟨xs, ys, e1, e2, hl, hk⟩
  · subst e1 e2
    obtain rfl := int_inv r1
    obtain rfl := int_inv r2
    exact o_addI (Rst.int q ok hk)
  · subst e1 e2
    obtain rfl := str_inv r1
    obtain rfl := str_inv r2
    exact .inr (.inr (.inr ⟨i, j, rfl, rfl, Nat.le_trans hl (by decide), Rst.str q ok hk⟩))
  · obtain ⟨p, us, rfl, a1, o1⟩ := r1.tup e1
    obtain ⟨p', vs, rfl, a2, o2⟩ := r2.tup e2
    exact o_catT a1 a2 (by rw [o1.length, o2.length]; exact hl) fun p H' e a => Rst.tup q ok e a (o1.append o2) hk
  · obtain ⟨p, us, rfl, a1, o1⟩ := r1.lst e1
    obtain ⟨p', vs, rfl, a2, o2⟩ := r2.lst e2
    exact o_cat a1 a2 (by rw [o1.length, o2.length]; exact hl) (Rst.new q ok (o1.append o2) hk)
def gSub' : AO2 := gI fun i j => .int (i - j)
theorem ro_sub : ROp K rSubI gSub' := ro_i0 fun i j _ _ => .int _
def Sml (i j : Int) : Prop := (-(2 ^ 64) < i ∧ i < 2 ^ 64) ∨ (-(2 ^ 64) < j ∧ j < 2 ^ 64)
def gMul : AO2 := fun x y k => (∃ i j, x = .d (.int i) ∧ y = .d (.int j) ∧ Sml i j ∧ k (.d (.int (i * j)))) ∨ (∃ xs n, x.lst = some xs ∧ y = .d (.int n) ∧ 0 ≤ n ∧ n ≤ 100000 ∧ xs.length * n.toNat ≤ 100000 ∧ k (.l (List.replicate n.toNat xs).flatten))
theorem ro_mul : ROp K (rMulU K) gMul := by
  intro W Hs O S H x y ax ay k Q ok r1 r2 h q
  rcases h with ⟨i, j, e1, e2, hs, hk⟩ | ⟨xs, n, e1, e2, n0, n1, hl, hk⟩
  · subst e1 e2
    obtain rfl := int_inv r1
    obtain rfl := int_inv r2
    exact o_mulI hs (Rst.int q ok hk)
  · subst e2
    obtain rfl := int_inv r2
    obtain ⟨p, us, rfl, a1, o1⟩ := r1.lst e1
    exact .inr (.inl ⟨p, n, us, rfl, rfl, a1, by omega, by omega, by rw [o1.length]; exact Nat.le_trans hl (by decide), Rst.new q ok (o1.rep _) hk⟩)
def gDiv : AO2 := fun x y k => ∃ i j, x = .d (.int i) ∧ y = .d (.int j) ∧ 0 < j ∧ j < 1073741824 ∧ k (.d (.int (i / j)))
def gMod : AO2 := fun x y k => ∃ i j, x = .d (.int i) ∧ y = .d (.int j) ∧ 0 < j ∧ k (.d (.int (i % j)))
theorem ro_div : ROp K rDivI gDiv := by
  intro W Hs O S H x y ax ay k Q ok r1 r2 ⟨i, j, e1, e2, h1, h2, hk⟩ q
  subst e1 e2
  obtain rfl := int_inv r1
  obtain rfl := int_inv r2
  exact o_div h1 h2 (Rst.int q ok hk)
def gEq : AO2 := fun x y k => (∃ i j, x = .d (.int i) ∧ y = .d (.int j) ∧ k (.d (.bool (decide (i = j))))) ∨ (∃ i j, x = .d (.str i) ∧ y = .d (.str j) ∧ k (.d (.bool (decide (i = j))))) ∨
  ∃ d e, x.dat = some d ∧ y.dat = some e ∧ SeqAt.shaped d = true ∧ SeqAt.shaped e = true ∧ k (.d (.bool (PyData.eqv d e)))
def gNe : AO2 := fun x y k => (∃ i j, x = .d (.int i) ∧ y = .d (.int j) ∧ k (.d (.bool (!decide (i = j))))) ∨ (∃ i j, x = .d (.str i) ∧ y = .d (.str j) ∧ k (.d (.bool (!decide (i = j))))) ∨
  ∃ d e, x.dat = some d ∧ y.dat = some e ∧ SeqAt.shaped d = true ∧ SeqAt.shaped e = true ∧ k (.d (.bool (!PyData.eqv d e)))
theorem dec_str {i j : Str} : decide (V.str i = V.str j) = decide (i = j) := by simp
theorem ro_eq : ROp K (rEqU K) gEq := by
  intro W Hs O S H x y ax ay k Q ok r1 r2 h q
  rcases h with ⟨i, j, e1, e2, hk⟩ | ⟨i, j, e1, e2, hk⟩ | ⟨d, e, e1, e2, h1, h2, hk⟩
  · subst e1 e2
    obtain rfl := int_inv r1
    obtain rfl := int_inv r2
    exact o_eqI (Rst.bl q ok hk)
  · subst e1 e2
    obtain rfl := str_inv r1
    obtain rfl := str_inv r2
    exact o_eqS rfl (by rw [dec_str]; exact Rst.bl q ok hk)
  · exact o_eqD ((r1.od e1).dp (SeqAt.canLay_of_shaped h1)) ((r2.od e2).dp (SeqAt.canLay_of_shaped h2)) h1 h2 (Rst.bl q ok hk)
theorem ro_ne : ROp K (rNeU K) gNe := by
  intro W Hs O S H x y ax ay k Q ok r1 r2 h q
  rcases h with ⟨i, j, e1, e2, hk⟩ | ⟨i, j, e1, e2, hk⟩ | ⟨d, e, e1, e2, h1, h2, hk⟩
  · subst e1 e2
    obtain rfl := int_inv r1
    obtain rfl := int_inv r2
    exact o_neI (Rst.bl q ok hk)
  · subst e1 e2
    obtain rfl := str_inv r1
    obtain rfl := str_inv r2
    exact o_neS rfl (by rw [dec_str]; exact Rst.bl q ok hk)
  · exact o_neD ((r1.od e1).dp (SeqAt.canLay_of_shaped h1)) ((r2.od e2).dp (SeqAt.canLay_of_shaped h2)) h1 h2 (Rst.bl q ok hk)
def gLt : AO2 := fun x y k => (∃ i j, x = .d (.int i) ∧ y = .d (.int j) ∧ k (.d (.bool (decide (i < j))))) ∨ ∃ ns ms : List Int, x = .d (.tuple (ns.map .int)) ∧ y = .d (.tuple (ms.map .int)) ∧ k (.d (.bool (HT.lexLt ns ms)))
theorem ro_lt : ROp K (rLtU K) gLt := by
  intro W Hs O S H x y ax ay k Q ok r1 r2 h q
  rcases h with ⟨i, j, e1, e2, hk⟩ | ⟨ns, ms, e1, e2, hk⟩
  · subst e1 e2
    obtain rfl := int_inv r1
    obtain rfl := int_inv r2
    exact o_ltI (Rst.bl q ok hk)
  · subst e1 e2
    obtain ⟨p, us, rfl, a1, o1⟩ := r1.tup rfl
    obtain ⟨p', vs, rfl, a2, o2⟩ := r2.tup rfl
    rw [o1.ints] at a1
    rw [o2.ints] at a2
    exact .inr ⟨p, p', ns, ms, rfl, rfl, a1.up, a2.up, Rst.bl q ok hk⟩
def gLe : AO2 := gI fun i j => .bool (decide (i ≤ j))
def gGt : AO2 := gI fun i j => .bool (decide (j < i))
def gGe : AO2 := gI fun i j => .bool (decide (j ≤ i))
theorem ro_le : ROp K rLeI gLe := ro_i0 fun i j _ _ => .bl _
theorem ro_gt : ROp K rGtI gGt := ro_i0 fun i j _ _ => .bl _
def isNon : PyData → Bool
  | .none => true
  | _ => false
def gIsN : AO2 := fun x y k => y = .d .none ∧ ∃ d, x.dat = some d ∧ k (.d (.bool (isNon d)))
def gNotN : AO2 := fun x y k => y = .d .none ∧ ∃ d, x.dat = some d ∧ k (.d (.bool (!isNon d)))
theorem non_iff {G : Ads} {H : Hp} {v : V} {d : PyData} (o : Od K G H v d) : decide (v = V.non) = isNon d := by
  cases o <;> rfl
theorem ro_isN : ROp K rIsN gIsN := by
  intro W Hs O S H x y ax ay k Q ok r1 r2 ⟨e, d, e1, hk⟩ q
  subst e
  obtain rfl := non_inv r2
  refine ⟨rfl, ?_⟩
  rw [non_iff (r1.od e1)]
  exact Rst.bl q ok hk
theorem ro_notN : ROp K rNotN gNotN := by
  intro W Hs O S H x y ax ay k Q ok r1 r2 ⟨e, d, e1, hk⟩ q
  subst e
  obtain rfl := non_inv r2
  refine ⟨rfl, ?_⟩
  rw [non_iff (r1.od e1)]
  exact Rst.bl q ok hk
def gIn (neg : Bool) : AO2 := fun x y k => ∃ d ds, x.dat = some d ∧ (y.tup = some ds ∨ y.lst = some ds) ∧ SeqAt.shaped d = true ∧ SeqAt.shaped (.tuple ds) = true ∧ k (.d (.bool (if neg then !(ds.any fun z => PyData.eqv z d) else ds.any fun z => PyData.eqv z d)))
theorem shaped_tl {ds : List PyData} (h : SeqAt.shaped (.tuple ds) = true) : SeqAt.shaped (.list ds) = true := by
  have h' : ((PyData.tuple ds).canLay0 && decide ((PyData.tuple ds).depth ≤ 64)) = true := h
  show ((PyData.list ds).canLay0 && decide ((PyData.list ds).depth ≤ 64)) = true
  simp only [PyData.canLay0, PyData.depth] at h' ⊢
  exact h'
theorem Vrp.seq {W : Wel} {Hs : Hp} {O : Nat → Option Addr} {S : Ads} {H : Hp} {v : V} {av : Avl} {ds : List PyData} (r : Vrp K W Hs O S H v av) (e : av.tup = some ds ∨ av.lst = some ds) : ∃ p vs, v = .ref p ∧ Ods K S H vs ds ∧ (SqT K H p vs ∨ H p = some (.lst vs)) := by
  rcases e with e | e
  · obtain ⟨p, vs, e1, a, b⟩ := r.tup e
    exact ⟨p, vs, e1, b, .inl a⟩
  · obtain ⟨p, vs, e1, a, b⟩ := r.lst e
    exact ⟨p, vs, e1, b, .inr a⟩
theorem ro_in : ROp K (rInU K) (gIn false) := by
  intro W Hs O S H x y ax ay k Q ok r1 r2 ⟨d, ds, e1, e2, h1, h2, hk⟩ q
  obtain ⟨p, vs, rfl, o, a⟩ := r2.seq e2
  have c2 : PyData.canLayAll0 ds = true := by
    have := SeqAt.canLay_of_shaped h2
    simpa only [PyData.canLay0] using this
  have d1 := (r1.od e1).dp (SeqAt.canLay_of_shaped h1)
  rcases a with a | a
  · exact .inr (.inr ⟨d, ds, d1, .tup a.up (o.dp c2), h1, h2, Rst.bl q ok hk⟩)
  · exact .inr (.inl ⟨d, ds, d1, .lst (SqL.of a) (o.dp c2), h1, shaped_tl h2, Rst.bl q ok hk⟩)
theorem ro_ni : ROp K (rNiU K) (gIn true) := by
  intro W Hs O S H x y ax ay k Q ok r1 r2 ⟨d, ds, e1, e2, h1, h2, hk⟩ q
  obtain ⟨p, vs, rfl, o, a⟩ := r2.seq e2
  have c2 : PyData.canLayAll0 ds = true := by
    have := SeqAt.canLay_of_shaped h2
    simpa only [PyData.canLay0] using this
  have d1 := (r1.od e1).dp (SeqAt.canLay_of_shaped h1)
  rcases a with a | a
  · exact .inr (.inr ⟨d, ds, d1, .tup a.up (o.dp c2), h1, h2, Rst.bl q ok hk⟩)
  · exact .inr (.inl ⟨d, ds, d1, .lst (SqL.of a) (o.dp c2), h1, shaped_tl h2, Rst.bl q ok hk⟩)
def gNeg : AO1 := fun x k => ∃ i, x = .d (.int i) ∧ k (.d (.int (-i)))
theorem rou_neg : ROu K (rU fun i => .int (-i)) gNeg := by
  intro W Hs O S H x ax k Q ok r ⟨i, e, hk⟩ q
  subst e
  obtain rfl := int_inv r
  exact ⟨i, rfl, Rst.int q ok hk⟩
def gIx : AO2 := fun x y k => ∃ i, y = .d (.int i) ∧ (∃ ds z, (x.tup = some ds ∨ x.lst = some ds) ∧ atI ds i = some z ∧ k (.d z))
theorem ro_ix : ROp K (rIx K) gIx := by
  intro W Hs O S H x y ax ay k Q ok r1 r2 ⟨i, e, h⟩ q
  subst e
  obtain rfl := int_inv r2
  obtain ⟨ds, z, e1, hz, hk⟩ := h
  obtain ⟨p, vs, rfl, o, a⟩ := r1.seq e1
  obtain ⟨v, hv, ov⟩ := o.at hz
  rcases a with a | a
  · exact o_ixT a hv (Rst.d q ok ov hk)
  · exact o_ixL (SqL.of a) hv (Rst.d q ok ov hk)
def gSl (lo hi : Option Int) : AO1 := fun x k => (∃ ds, x.tup = some ds ∧ k (.d (.tuple (cutD ds lo hi)))) ∨ ∃ ds, x.lst = some ds ∧ k (.l (cutD ds lo hi))
def aSl (e : AEx) (lo hi : AOp) : AEx := fun X α k => e X α fun x => lo X α fun l => hi X α fun u => gSl l u x k
theorem re_sl {te : TE} {tl th : TO} {e : AEx} {l u : AOp} (h1 : REx K E te e) (h2 : ROp' K E tl l) (h3 : ROp' K E th u) : REx K E (tSl (rSlU K) te tl th) (aSl e l u) := by
  intro W H0 S0 O S α σ H X k Q f h lk q
  refine h1 f h lk fun v av S1 H1 m1 r1 k1 => ?_
  refine h2 (f.mv m1) k1 (lk.kee (m1.kee f.k)) fun lo S2 H2 m2 k2 => ?_
  have m12 := m1.trans m2
  refine h3 (f.mv m12) k2 (lk.kee (m12.kee f.k)) fun hi S3 H3 m3 k3 => ?_
  have m13 := m12.trans m3
  have r3 := (r1.mv m1.oks m2).mv m2.oks m3
  have q3 : Rst K W O S3 H3 k Q := fun v av S' H' m r h => q v av S' H' (m13.trans m) (r.hs fun b y => m13.back y) h
  rcases k3 with ⟨ds, e1, hk⟩ | ⟨ds, e1, hk⟩
  · obtain ⟨p, vs, rfl, a, o⟩ := r3.tup e1
    exact o_slT a fun p H' e a' => q3.tup m13.oks e a' (o.cut lo hi) hk
  · obtain ⟨p, vs, rfl, a, o⟩ := r3.lst e1
    exact o_slL (SqL.of a) (q3.new m13.oks (o.cut lo hi) hk)
def aRev (e : AEx) : AEx := fun X α k => e X α fun x => (∃ ds, x.tup = some ds ∧ k (.d (.tuple ds.reverse))) ∨ ∃ ds, x.lst = some ds ∧ k (.l ds.reverse)
theorem Ods.rev {G : Ads} {H : Hp} : ∀ {vs : List V} {ds : List PyData}, Ods K G H vs ds → Ods K G H vs.reverse ds.reverse
  | _, _, .nil => .nil
  | _, _, .cons a h => by
    rw [List.reverse_cons, List.reverse_cons]
    exact (Ods.rev h).append (.cons a .nil)
theorem re_rev {te : TE} {e : AEx} (h1 : REx K E te e) : REx K E (tRev K te) (aRev e) := by
  intro W H0 S0 O S α σ H X k Q f h lk q
  refine h1 f h lk fun v av S1 H1 m1 r1 k1 => ?_
  have q1 : Rst K W O S1 H1 k Q := fun v av S' H' m r h => q v av S' H' (m1.trans m) (r.hs fun b y => m1.back y) h
  rcases k1 with ⟨ds, e1, hk⟩ | ⟨ds, e1, hk⟩
  · obtain ⟨p, vs, rfl, a, o⟩ := r1.tup e1
    exact ⟨p, vs, rfl, .inr ⟨a.up, q1.newT m1.oks o.rev hk⟩⟩
  · obtain ⟨p, vs, rfl, a, o⟩ := r1.lst e1
    exact ⟨p, vs, rfl, .inl ⟨SqL.of a, q1.new m1.oks o.rev hk⟩⟩
/-- a slot's list is kept as it is -/
def aFz (i : Nat) (a : ASt) : ASt := fun A α => ∃ ds, α[i]? = some (.own ds) ∧ a A (α.set i (.d (.list ds)))
theorem rs_fz {i : Nat} {t : TS} {a : ASt} (h1 : RSt K E t a) : RSt K E t (aFz i a) := by
  intro W H0 S0 O S α σ H A D f ⟨ds, e, h⟩ l
  obtain ⟨p, vs, a1, _⟩ := own_at f e
  obtain ⟨g, ke⟩ := f.frz e a1
  exact h1 g h (l.kee ke)
def aSwap (i j : Nat) (e e' ei ej : AEx) : ASt := fun A α => e A.er α fun x => ∃ x', x.cl = some x' ∧ e' A.er α fun y => ∃ y', y.cl = some y' ∧ ∃ ds, α[i]? = some (.own ds) ∧ ei A.er α fun a => ∃ (p : Int) (n : Nat), a = .d (.int p) ∧ ixN ds.length p = some n ∧
  ∃ es, (α.set i (.own (ds.set n x')))[j]? = some (.own es) ∧ ej A.er (α.set i (.own (ds.set n x'))) fun b => ∃ (q : Int) (m : Nat), b = .d (.int q) ∧ ixN es.length q = some m ∧ A.nx ((α.set i (.own (ds.set n x'))).set j (.own (es.set m y')))
theorem rs_swap {i j : Nat} {te te' ti tj : TE} {e e' ei ej : AEx} (h1 : REx K E te e) (h2 : REx K E te' e') (h3 : REx K E ti ei) (h4 : REx K E tj ej) :
    RSt K E (tAsg (tTup (tCons te (tCons te' tNil))) (gTup K 2 (gCons (gSub (tVar i) ti rSetL) (gCons (gSub (tVar j) tj rSetL) gNil)))) (aSwap i j e e' ei ej) := by
  intro W H0 S0 O S α σ H A D f h l
  refine h1 f h l.er fun v av S1 H1 m1 r1 ⟨x', hx, h'⟩ => ?_
  obtain ⟨S2, m2, _, od1⟩ := keepx f.k m1 r1 hx
  have f2 := f.mv m2
  refine h2 f2 h' (l.er.kee (m2.kee f.k)) fun u au S3 H3 m3 r3 ⟨y', hy, ds, h0, h'⟩ => ?_
  obtain ⟨S4, m4, _, od2⟩ := keepx f2.k m3 r3 hy
  have f4 := f2.mv m4
  have t2 : ∀ b, S2 b → ¬ W.has b := fun b z => (f2.k.t b z).2
  have t4 : ∀ b, S4 b → ¬ W.has b := fun b z => (f4.k.t b z).2
  refine ⟨by show 2 ≤ sizeLine; decide, fun p np => ?_⟩
  have m5 := m4.oks.same (Same.new (o := .tup [v, u]) np)
  have f5 := f4.mv m5
  have l5 := l.kee (((m2.trans m4).trans m5).kee f.k)
  have od1' := m5.od f4.k.w t4 (m4.od f2.k.w t2 od1)
  have od2' := m5.od f4.k.w t4 od2
  refine ⟨p, _, rfl, (SqT.of (K := K) upd_same).up, rfl, _, _, rfl, ?_⟩
  obtain ⟨a, vs, a1, a2, a3, a4, ai, nw, ln⟩ := own_at f5 h0
  refine ⟨_, a2, ?_⟩
  refine h3 f5 h' l5.er fun w aw S6 H6 m6 r6 ⟨pi, n, ew, hn, es, he, h'⟩ => ?_
  subst ew
  cases r6
  have f6 := f5.mv m6
  have t5 : ∀ b, S4 b → ¬ W.has b := t4
  have c6 := own_mv f5 m6 a1 a3
  obtain ⟨g, ke⟩ := f6.chg a1 a2 c6 ((m6.ods f5.k.w (fun b z => (f5.k.t b z).2) a4).setN (m6.od f5.k.w (fun b z => (f5.k.t b z).2) od1') n) ai
  have l7 := (l5.kee (m6.kee f5.k)).kee ke
  have od2'' := ke.od (m6.od f5.k.w (fun b z => (f5.k.t b z).2) od2')
  refine ⟨a, vs, pi, n, rfl, rfl, c6, by rw [ln]; exact hn, ?_⟩
  obtain ⟨b, us, b1, b2, b3, b4, bi, nw', ln'⟩ := own_at g he
  refine ⟨_, _, rfl, _, b2, ?_⟩
  refine h4 g h' l7.er fun w aw S8 H8 m8 r8 ⟨qi, m, ew, hm, k⟩ => ?_
  subst ew
  cases r8
  have f8 := g.mv m8
  have c8 := own_mv g m8 b1 b3
  obtain ⟨g', ke'⟩ := f8.chg b1 b2 c8 ((m8.ods g.k.w (fun b z => (g.k.t b z).2) b4).setN (m8.od g.k.w (fun b z => (g.k.t b z).2) od2'') m) bi
  exact ⟨b, us, qi, m, rfl, rfl, c8, by rw [ln']; exact hm, rfl, (l7.kee (m8.kee g.k)).nx O S8 _ σ _ ke' g' k⟩
theorem one_inv {W : Wel} {Hs : Hp} {O : Nat → Option Addr} {S : Ads} {H : Hp} {xs : List V} {a : Avl} (r : Paired (Vrp K W Hs O S H) xs [a]) : ∃ v, xs = [v] ∧ Vrp K W Hs O S H v a := by
  rcases r with _ | ⟨r1, r2⟩
  cases r2
  exact ⟨_, rfl, r1⟩
theorem two_inv {W : Wel} {Hs : Hp} {O : Nat → Option Addr} {S : Ads} {H : Hp} {xs : List V} {a b : Avl} (r : Paired (Vrp K W Hs O S H) xs [a, b]) : ∃ v u, xs = [v, u] ∧ Vrp K W Hs O S H v a ∧ Vrp K W Hs O S H u b := by
  rcases r with _ | ⟨r1, r2⟩
  rcases r2 with _ | ⟨r2, r3⟩
  cases r3
  exact ⟨_, _, rfl, r1, r2⟩
def gLen : AOn := fun as k => ∃ a ds, as = [a] ∧ (a.tup = some ds ∨ a.lst = some ds) ∧ k (.d (.int ds.length))
theorem rb_len : RCb K (rLenU K) gLen := by
  intro W Hs O S H xs as k Q ok r ⟨a, ds, e, h, hk⟩ q
  subst e
  obtain ⟨v, rfl, r1⟩ := one_inv r
  obtain ⟨p, vs, rfl, o, a⟩ := r1.seq h
  rw [← o.length] at hk
  rcases a with a | a
  · exact o_lenT a (Rst.int q ok hk)
  · exact o_lenL (SqL.of a) (Rst.int q ok hk)
def gAbs : AOn := fun as k => ∃ i, as = [.d (.int i)] ∧ k (.d (.int (if i < 0 then -i else i)))
def gInt : AOn := fun as k => (∃ i, as = [.d (.int i)] ∧ k (.d (.int i))) ∨ ∃ b, as = [.d (.bool b)] ∧ k (.d (.int (b2i b)))
theorem rb_int : RCb K rInt gInt := by
  intro W Hs O S H xs as k Q ok r h q
  rcases h with ⟨i, e, hk⟩ | ⟨b, e, hk⟩
  · subst e
    obtain ⟨v, rfl, r1⟩ := one_inv r
    obtain rfl := int_inv r1
    exact o_int (Rst.int q ok hk)
  · subst e
    obtain ⟨v, rfl, r1⟩ := one_inv r
    cases r1
    exact o_intB (Rst.int q ok hk)
def gMax2 : AOn := fun as k => ∃ i j, as = [.d (.int i), .d (.int j)] ∧ k (.d (.int (if j > i then j else i)))
def gMin2 : AOn := fun as k => ∃ i j, as = [.d (.int i), .d (.int j)] ∧ k (.d (.int (if j < i then j else i)))
theorem rb_max2 : RCb K rMax2 gMax2 := by
  intro W Hs O S H xs as k Q ok r ⟨i, j, e, hk⟩ q
  subst e
  obtain ⟨v, u, rfl, r1, r2⟩ := two_inv r
  obtain rfl := int_inv r1
  obtain rfl := int_inv r2
  exact o_max2 (Rst.int q ok hk)
theorem rb_min2 : RCb K rMin2 gMin2 := by
  intro W Hs O S H xs as k Q ok r ⟨i, j, e, hk⟩ q
  subst e
  obtain ⟨v, u, rfl, r1, r2⟩ := two_inv r
  obtain rfl := int_inv r1
  obtain rfl := int_inv r2
  exact o_min2 (Rst.int q ok hk)
/-- what repr may cost -/
structure Shw (d : PyData) : Prop where
  sh : d.showable = true
  dp : d.depth ≤ 60
  ln : d.shown.length ≤ 10000000
def gRepr : AOn := fun as k => ∃ a d, as = [a] ∧ a.dat = some d ∧ Shw d ∧ k (.d (.str d.shown))
theorem rb_repr : RCb K (rReprU K) gRepr := by
  intro W Hs O S H xs as k Q ok r ⟨a, d, e, h, hs, hk⟩ q
  subst e
  obtain ⟨v, rfl, r1⟩ := one_inv r
  exact .inr ⟨_, v, d, rfl, r1.od h, hs.sh, hs.dp, Nat.le_trans hs.ln (by decide), Rst.str q ok hk⟩
theorem flat_dPs : ∀ rs : List (Int × Int), flatDs (rs.map dP) = true
  | [] => by simp [flatDs]
  | p :: rs => by simp [flatDs, flatD, dP, flat_dPs rs]
def gTupOf : AOn := fun as k => ∃ a ds, as = [a] ∧ (a.tup = some ds ∨ a.lst = some ds) ∧ k (.d (.tuple ds))
theorem rb_tupOf : RCb K (rTupOf K) gTupOf := by
  intro W Hs O S H xs as k Q ok r ⟨a, ds, e, h, hk⟩ q
  subst e
  obtain ⟨v, rfl, r1⟩ := one_inv r
  obtain ⟨p, vs, rfl, o, a⟩ := r1.seq h
  rcases a with a | a
  · exact ⟨p, vs, rfl, .inr ⟨a.up, Rst.d q ok (.tup a o) hk⟩⟩
  · exact ⟨p, vs, rfl, .inl ⟨SqL.of a, Rst.newT q ok o hk⟩⟩
def gLstOf : AOn := fun as k => ∃ a ds, as = [a] ∧ (a.tup = some ds ∨ a.lst = some ds) ∧ k (.l ds)
theorem rb_lstOf : RCb K (rLstOf K) gLstOf := by
  intro W Hs O S H xs as k Q ok r ⟨a, ds, e, h, hk⟩ q
  subst e
  obtain ⟨v, rfl, r1⟩ := one_inv r
  obtain ⟨p, vs, rfl, o, a⟩ := r1.seq h
  rcases a with a | a
  · exact ⟨p, vs, rfl, .inr a.up, Rst.new q ok o hk⟩
  · exact ⟨p, vs, rfl, .inl (SqL.of a), Rst.new q ok o hk⟩
theorem re_isTup {te : TE} {e : AEx} (h1 : REx K E te e) : REx K E (tCB (rIsi K) (tCons te (tCons (tC (.ty "tuple")) tNil))) (aIsi isTup e) := re_isi (fun d => kit_tup d) h1
/-- list(range(n)) -/
def aLstRg (e : AEx) : AEx := fun X α k => e X α fun x => ∃ n : Int, x = .d (.int n) ∧ -1000000 ≤ n ∧ n ≤ 1000000 ∧ k (.l ((iota n.toNat).map .int))
theorem re_lstRg {te : TE} {e : AEx} (h1 : REx K E te e) : REx K E (tLstRg (tRg1 te)) (aLstRg e) := by
  intro W H0 S0 O S α σ H X k Q f h lk q
  refine h1 f h lk fun v av S1 H1 m r ⟨n, e, n0, n1, hk⟩ => ?_
  subst e
  obtain rfl := int_inv r
  refine ⟨n, rfl, ⟨by omega, by omega, by omega, by omega, by omega⟩, ?_⟩
  rw [rgV_iota]
  have q1 : Rst K W O S1 H1 k Q := fun v av S' H' m' r h => q v av S' H' (m.trans m') (r.hs fun b y => m.back y) h
  exact q1.new m.oks (Tps.ods (Tps.of_ints _)) hk
/-- {} -/
def aDict0 : AEx := fun _ _ k => k (.d (.dict []))
end
end UW
namespace UW
open PySem PySem.Spec PyProof.Rows L2
section
variable {K : Fg} {W : Wel} {Hs H H' : Hp} {O : Nat → Option Addr} {S S0 : Ads} {v : V} {av : Avl}
theorem rtn_wel (ok : Oks W S H) (on : W.is 0) (e : WK W.a W.l H H') (hs : ∀ b, S b → S0 b) (r : Vrp K W H (fun _ => none) S H' v av) : Rtn K W H S0 v av H' := by
  refine ⟨S, fun _ => by rw [on.2]; exact ⟨e.w, (ok.w.of on).2⟩, fun b o h z => e.k b o h (fun y => z ⟨on.1, .inl y⟩) (fun y => z ⟨on.1, .inr (.inl y)⟩), fun b hb => ⟨.inl (hs b hb), ?_, (ok.t b hb).2⟩, r⟩
  cases q : H b with
  | none => exact absurd q (ok.t b hb).1
  | some o =>
    rw [e.k b o q (fun y => (ok.t b hb).2 ⟨on.1, .inl y⟩) (fun y => (ok.t b hb).2 ⟨on.1, .inr (.inl y)⟩)]
    intro y
    cases y
theorem rtn_same (ok : Oks W S H) (e : Same H H') (hs : ∀ b, S b → S0 b) (r : Vrp K W H (fun _ => none) S H' v av) : Rtn K W H S0 v av H' := by
  have m := ok.same e
  exact ⟨S, m.w, fun b o h _ => e b o h, fun b hb => ⟨.inl (hs b hb), m.t b hb⟩, r⟩
theorem new_l (ok : Oks W S H) {p : Addr} {vs : List V} {ds : List PyData} (np : H p = none) (h : H' p = some (.lst vs)) (o : Ods K S H' vs ds) : Vrp K W H (fun _ => none) S H' (.ref p) (.l ds) :=
  ⟨p, vs, rfl, h, o, fun z => (ok.t p z).1 np, np, Wel.ne ok.w np⟩
theorem argS_S {as : List Avl} : ∀ b, S b → argS W Hs O S H as b := fun _ h => .inl h
theorem tp_of {d : PyData} (h : flatD d = true) (r : Vrp K W Hs O S H v (.d d)) : Tp K H v d := Od.tp h r
mutual
theorem Tp.fl {H : Hp} : ∀ {v : V} {d : PyData}, Tp K H v d → flatD d = true
  | _, _, .non => by simp [flatD]
  | _, _, .bl b => by simp [flatD]
  | _, _, .int i => by simp [flatD]
  | _, _, .str x => by simp [flatD]
  | _, _, .tup h hs => by simp only [flatD]; exact Tps.fl hs
theorem Tps.fl {H : Hp} : ∀ {vs : List V} {ds : List PyData}, Tps K H vs ds → flatDs ds = true
  | _, _, .nil => by simp [flatDs]
  | _, _, .cons h hs => by simp only [flatDs, Bool.and_eq_true]; exact ⟨Tp.fl h, Tps.fl hs⟩
end
end
theorem flat_ints : ∀ l : List Int, flatDs (l.map .int) = true
  | [] => by simp [flatDs]
  | p :: rs => by simp [flatDs, flatD, flat_ints rs]
theorem flat_dIs (l : List Int) : flatD (dIs l) = true := by unfold dIs; simp only [flatD]; exact flat_ints l
theorem flat_dPsD (l : List (Int × Int)) : flatD (dPs l) = true := by unfold dPs; simp only [flatD]; exact flat_dPs l
theorem flat_web (n : Int) (rs : List (Int × Int)) (ms : List Int) : flatD (dWeb n rs ms) = true := by unfold dWeb; simp [flatD, flatDs, flat_dIs, flat_dPsD]
theorem four_inv {K : Fg} {W : Wel} {Hs : Hp} {O : Nat → Option Addr} {S : Ads} {H : Hp} {xs : List V} {a b c d : Avl} (r : Paired (Vrp K W Hs O S H) xs [a, b, c, d]) : ∃ v1 v2 v3 v4, xs = [v1, v2, v3, v4] ∧ Vrp K W Hs O S H v1 a ∧ Vrp K W Hs O S H v2 b ∧ Vrp K W Hs O S H v3 c ∧ Vrp K W Hs O S H v4 d := by
  rcases r with _ | ⟨r1, r⟩
  rcases r with _ | ⟨r2, r⟩
  rcases r with _ | ⟨r3, r⟩
  rcases r with _ | ⟨r4, r⟩
  cases r
  exact ⟨_, _, _, _, rfl, r1, r2, r3, r4⟩
section
variable {K : Fg}
def m__law_draw : AFn := fun as _ k => ∃ m : Int, as = [.w, .d (.int m)] ∧ 0 < m ∧ m < 1073741824 ∧ ∀ r : Int, 0 ≤ r → r < m → k (.d (.int r))
theorem br__law_draw : ∀ vs H Q E, SpA K 2 m__law_draw vs H Q E → sp__law_draw K vs H Q E := by
  rintro vs H Q E ⟨W, Hs, O, S, as, x, k, _, ok, _, pr, ⟨m, rfl, m0, m1, h⟩, hq, _⟩
  obtain ⟨v, u, rfl, r1, r2⟩ := two_inv pr
  obtain ⟨on, rfl⟩ := r1
  obtain rfl := int_inv r2
  exact ⟨W.a, W.l, m, rfl, (ok.w.of on).1, m0, m1, fun r H' r0 r1 w' k' => hq _ (.d (.int r)) _ (rtn_wel ok on ⟨w', k'⟩ argS_S (Od.int r)) (h r r0 r1)⟩
def m__law_mixed : AFn := fun as _ k => ∃ n : Nat, as = [.w, .d (.int n)] ∧ n ≤ 1000 ∧ ∀ ns : List Int, ns.Perm (iota n) → k (.l (ns.map .int))
theorem br__law_mixed : ∀ vs H Q E, SpA K 2 m__law_mixed vs H Q E → sp__law_mixed K vs H Q E := by
  rintro vs H Q E ⟨W, Hs, O, S, as, x, k, _, ok, _, pr, ⟨n, rfl, m0, h⟩, hq, _⟩
  obtain ⟨v, u, rfl, r1, r2⟩ := two_inv pr
  obtain ⟨on, rfl⟩ := r1
  obtain rfl := int_inv r2
  exact ⟨W.a, W.l, n, rfl, (ok.w.of on).1, m0, fun p H' ns np wk e pm => hq _ (.l (ns.map .int)) _ (rtn_wel ok on wk argS_S (new_l ok np e (Tps.of_ints ns).ods)) (h ns pm)⟩
def m__law_web : AFn := fun as _ k => ∃ size room load : Int, as = [.w, .d (.int size), .d (.int room), .d (.int load)] ∧ 3 ≤ size ∧ size ≤ 24 ∧ 1 ≤ room ∧ room ≤ 40 ∧ 1 ≤ load ∧ load ≤ 9 ∧
  ∀ (n : Int) (rs : List (Int × Int)) (ms : List Int), WebOk size room load n rs ms → k (.d (dWeb n rs ms))
theorem br__law_web : ∀ vs H Q E, SpA K 4 m__law_web vs H Q E → sp__law_web K vs H Q E := by
  rintro vs H Q E ⟨W, Hs, O, S, as, x, k, _, ok, _, pr, ⟨s, r, l, rfl, a1, a2, a3, a4, a5, a6, h⟩, hq, _⟩
  obtain ⟨v1, v2, v3, v4, rfl, r1, r2, r3, r4⟩ := four_inv pr
  obtain ⟨on, rfl⟩ := r1
  obtain rfl := int_inv r2
  obtain rfl := int_inv r3
  obtain rfl := int_inv r4
  exact ⟨W.a, W.l, s, r, l, rfl, (ok.w.of on).1, a1, a2, a3, a4, a5, a6, fun v H' n rs ms wk tv w => hq _ (.d (dWeb n rs ms)) _ (rtn_wel ok on wk argS_S (Tp.od tv)) (h n rs ms w)⟩
def m__law_standing : AFn := fun as _ k => ∃ (n : Int) (rs : List (Int × Int)) (ms : List Int), as = [.w, .d (dWeb n rs ms)] ∧ ms ≠ [] ∧ ms.length ≤ 1000 ∧ (∀ m ∈ ms, 0 ≤ m ∧ m ≤ 1000) ∧ ∀ ls : List Int, Stand ms ls → k (.d (dIs ls))
theorem br__law_standing : ∀ vs H Q E, SpA K 2 m__law_standing vs H Q E → sp__law_standing K vs H Q E := by
  rintro vs H Q E ⟨W, Hs, O, S, as, x, k, _, ok, _, pr, ⟨n, rs, ms, rfl, a1, a2, a3, h⟩, hq, _⟩
  obtain ⟨v1, v2, rfl, r1, r2⟩ := two_inv pr
  obtain ⟨on, rfl⟩ := r1
  exact ⟨W.a, W.l, v2, n, rs, ms, rfl, (ok.w.of on).1, tp_of (flat_web n rs ms) r2, a1, a2, a3, fun u H' ls wk tu st => hq _ (.d (dIs ls)) _ (rtn_wel ok on wk argS_S (Tp.od tu)) (h ls st)⟩
def m__law_pick : AFn := fun as _ k => ∃ (a : Avl) (ds : List PyData), as = [.w, a] ∧ (a.tup = some ds ∨ a.lst = some ds) ∧ ds ≠ [] ∧ ds.length ≤ 1000 ∧ ∀ d ∈ ds, k (.d d)
theorem seq_nw {W : Wel} {Hs : Hp} {O : Nat → Option Addr} {S : Ads} {H : Hp} {v : V} {av : Avl} {ds : List PyData} (ok : Oks W S H) (r : Vrp K W Hs O S H v av) (e : av.tup = some ds ∨ av.lst = some ds) : ∃ p vs, v = .ref p ∧ Ods K S H vs ds ∧ (SqT K H p vs ∨ (H p = some (.lst vs) ∧ ¬ W.has p)) := by
  cases av with
  | d x =>
    cases x with
    | tuple xs =>
      have e' : xs = ds := by rcases e with e | e <;> first | exact Option.some.inj e | cases e
      subst e'
      cases r with
      | tup a b => exact ⟨_, _, rfl, b, .inl a⟩
    | list xs =>
      have e' : xs = ds := by rcases e with e | e <;> first | exact Option.some.inj e | cases e
      subst e'
      cases r with
      | lst g a b => exact ⟨_, _, rfl, b, .inr ⟨a, (ok.t _ g).2⟩⟩
    | _ => rcases e with e | e <;> cases e
  | l xs =>
    have e' : xs = ds := by rcases e with e | e <;> first | exact Option.some.inj e | cases e
    subst e'
    obtain ⟨p, vs, rfl, h1, h2, h3, h4, h5⟩ := r
    exact ⟨p, vs, rfl, h2, .inr ⟨h1, h5⟩⟩
  | b j xs =>
    have e' : xs = ds := by rcases e with e | e <;> first | exact Option.some.inj e | cases e
    subst e'
    obtain ⟨p, vs, rfl, _, h1, h2, h5⟩ := r
    exact ⟨p, vs, rfl, h2, .inr ⟨h1, h5⟩⟩
  | wl u => rcases e with e | e <;> cases e
  | k c => rcases e with e | e <;> cases e
theorem br__law_pick : ∀ vs H Q E, SpA K 2 m__law_pick vs H Q E → sp__law_pick K vs H Q E := by
  rintro vs H Q E ⟨W, Hs, O, S, as, x, k, _, ok, _, pr, ⟨a, ds, rfl, ha, a1, a2, h⟩, hq, _⟩
  obtain ⟨v1, v2, rfl, r1, r2⟩ := two_inv pr
  obtain ⟨on, rfl⟩ := r1
  obtain ⟨p, us, rfl, o, c⟩ := seq_nw ok r2 ha
  have w := (ok.w.of on).1
  refine ⟨W.a, W.l, p, us, rfl, w, c.elim (fun c => .inr c.up) fun c => .inl (SqL.of c.1), fun H' e => ?_, by rw [o.length]; exact List.length_pos_iff.mpr a1, by rw [o.length]; exact a2, fun z H' hz e => ?_⟩
  · rcases c with c | c
    · exact .inr ((e.tm w).sq c).up
    · exact .inl (SqL.of (e.get c.1 (fun y => c.2 ⟨on.1, .inl y⟩) fun y => c.2 ⟨on.1, .inr (.inl y)⟩))
  · obtain ⟨i, hi, ei⟩ := List.mem_iff_getElem.mp hz
    obtain ⟨d, hd, od⟩ := o.get (i := i) (x := z) (by rw [List.getElem?_eq_getElem hi, ei])
    refine hq _ (.d d) _ (rtn_wel ok on e argS_S ?_) (h d (List.mem_of_getElem? hd))
    exact od.mv (e.tm w) fun b o' g q => ⟨g, e.get q (fun y => (ok.t b g).2 ⟨on.1, .inl y⟩) fun y => (ok.t b g).2 ⟨on.1, .inr (.inl y)⟩⟩
def m_sums_of : AFn := fun as _ k => ∃ (n : Int) (rs : List (Int × Int)) (ms ls : List Int), as = [.d (dWeb n rs ms), .d (dIs ls)] ∧ Laid n rs ms ls ∧ k (.d (dIs (sums n rs ls)))
def m__law_sums : AFn := fun as _ k => ∃ (n : Int) (rs : List (Int × Int)) (ms ls : List Int), as = [.d (dWeb n rs ms), .d (dIs ls)] ∧ Laid n rs ms ls ∧ k (.l ((sums n rs ls).map .int))
theorem br__law_sums : ∀ vs H Q E, SpA K 2 m__law_sums vs H Q E → sp__law_sums K vs H Q E := by
  rintro vs H Q E ⟨W, Hs, O, S, as, x, k, _, ok, _, pr, ⟨n, rs, ms, ls, rfl, L, h⟩, hq, _⟩
  obtain ⟨v, u, rfl, r1, r2⟩ := two_inv pr
  exact ⟨v, u, n, rs, ms, ls, rfl, tp_of (flat_web n rs ms) r1, tp_of (flat_dIs ls) r2, L, fun p H' np e a => hq _ (.l _) _ (rtn_same ok e argS_S (new_l ok np a (Tps.of_ints _).ods)) h⟩
def m_unlike_roads : AFn := fun as _ k => ∃ (n : Int) (rs : List (Int × Int)) (ms ls : List Int), as = [.d (dWeb n rs ms), .d (dIs ls)] ∧ Laid n rs ms ls ∧ k (.d (.tuple ((unlR rs ls).map fun (i : Nat) => .int (i : Int))))
theorem br_unlike_roads : ∀ vs H Q E, SpA K 2 m_unlike_roads vs H Q E → sp_unlike_roads K vs H Q E := by
  rintro vs H Q E ⟨W, Hs, O, S, as, x, k, _, ok, _, pr, ⟨n, rs, ms, ls, rfl, L, h⟩, hq, _⟩
  obtain ⟨v, u, rfl, r1, r2⟩ := two_inv pr
  refine ⟨v, u, n, rs, ms, ls, rfl, tp_of (flat_web n rs ms) r1, tp_of (flat_dIs ls) r2, L, fun p H' e a => hq _ (.d _) _ (rtn_same ok e argS_S ?_) h⟩
  refine Od.tup a ?_
  have := Tps.of_ints (K := K) (H := H') ((unlR rs ls).map fun (i : Nat) => (i : Int))
  rw [List.map_map, List.map_map] at this
  exact this.ods
end
end UW
namespace UW
open PySem PySem.Spec PyProof.Rows L2
theorem iteT' {c : Bool} {A B : Prop} (h : c = true) (k : A) : if c = true then A else B := by rw [if_pos h]; exact k
theorem iteF' {c : Bool} {A B : Prop} (h : c = false) (k : B) : if c = true then A else B := by rw [if_neg (by rw [h]; decide)]; exact k
theorem iteNT {d : PyData} {A B : Prop} (h : isNon d = false) (k : A) : if (!isNon d) = true then A else B := by rw [h]; exact k
theorem iteNF {d : PyData} {A B : Prop} (h : isNon d = true) (k : B) : if (!isNon d) = true then A else B := by rw [h]; exact k
theorem iteIT {d : PyData} {A B : Prop} (h : isNon d = true) (k : A) : if isNon d = true then A else B := by rw [h]; exact k
theorem iteIF {d : PyData} {A B : Prop} (h : isNon d = false) (k : B) : if isNon d = true then A else B := by rw [h]; exact k
section
variable {X : AXr} {α : Afr} {k : Avl → Prop} {A : AEn} {a b : ASt} {e e' e2 ei : AEx} {i j n : Nat} {P : Avl → Prop} {d : PyData} {ds xs ys : List PyData} {t u : ATx} {R : Bool → Prop} {g g' : AO2} {x y z : Avl}
theorem a_seq (h : a { A with nx := b A } α) : aSeq a b A α := h
theorem a_cut (M : Afr → Prop) (h : a { A with nx := M } α) (h2 : ∀ α', M α' → b A α') : aCut a b A α := ⟨M, h, h2⟩
theorem a_next (h : A.nx α) : aNext A α := h
theorem a_brk (h : A.bk α) : aBrk A α := h
theorem a_cont (h : A.ct α) : aCont A α := h
theorem a_ret (h : e A.er α fun av => A.rt av.out) : aRet e A α := h
theorem a_retN (h : A.rt (.d .none)) : aRetN A α := h
theorem a_drop (h : e A.er α fun _ => A.nx α) : aDrop e A α := h
theorem a_ifs (h : t A.er α fun x => if x = true then a A α else b A α) : aIfS t a b A α := h
theorem a_set (h : e A.er α fun av => ∃ z, av.sot = some z ∧ A.nx (α.set i z)) : aSet i e A α := h
theorem a_set2 (h : e A.er α fun x => e' A.er α fun y => ∃ z w, x.sot = some z ∧ y.sot = some w ∧ A.nx ((α.set i z).set j w)) : aSet2 i j e e' A α := h
theorem a_set3 (h : e A.er α fun x => e' A.er α fun y => e2 A.er α fun x2 => ∃ z w z2, x.sot = some z ∧ y.sot = some w ∧ x2.sot = some z2 ∧ A.nx (((α.set i z).set j w).set n z2)) : aSet3 i j n e e' e2 A α := h
theorem a_parD {r : AAd} (h : r A.er α fun xs => ∃ x y, xs = [x, y] ∧ A.nx ((α.set i (.d x)).set j (.d y))) : aParD i j r A α := h
theorem a_p2 {Q : PyData → PyData → Prop} {x y : PyData} (h : Q x y) : ∃ x' y', [x, y] = [x', y'] ∧ Q x' y' := ⟨x, y, rfl, h⟩
theorem a_s1 {Q : Sot → Prop} {z : Sot} (h : x.sot = some z) (k : Q z) : ∃ z, x.sot = some z ∧ Q z := ⟨z, h, k⟩
theorem a_s2 {Q : Sot → Sot → Prop} {z w : Sot} (h : x.sot = some z) (h2 : y.sot = some w) (k : Q z w) : ∃ z w, x.sot = some z ∧ y.sot = some w ∧ Q z w := ⟨z, w, h, h2, k⟩
theorem a_s3 {Q : Sot → Sot → Sot → Prop} {s w v : Sot} (h : x.sot = some s) (h2 : y.sot = some w) (h3 : z.sot = some v) (k : Q s w v) : ∃ s w v, x.sot = some s ∧ y.sot = some w ∧ z.sot = some v ∧ Q s w v := ⟨s, w, v, h, h2, h3, k⟩
theorem a_var {z : Sot} {av : Avl} (h : α[i]? = some z) (h2 : z.av i = some av) (q : k av) : aVar i X α k := ⟨z, av, h, h2, q⟩
theorem a_c (q : k (.d d)) : aC d X α k := q
theorem a_tup {r : AAd} (h : r X α fun xs => k (.d (.tuple xs))) : aTup r X α k := h
theorem a_lst {r : AAd} (h : r X α fun xs => k (.l xs)) : aLst r X α k := h
theorem a_nil {R : List PyData → Prop} (h : R []) : aNil X α R := h
theorem a_cons {r : AAd} {R : List PyData → Prop} (h : e X α fun av => ∃ x, av.cl = some x ∧ r X α fun xs => R (x :: xs)) : aCons e r X α R := h
theorem a_cl {Q : PyData → Prop} {w : PyData} (h : x.cl = some w) (q : Q w) : ∃ x', x.cl = some x' ∧ Q x' := ⟨w, h, q⟩
theorem b_nil {R : List Avl → Prop} (h : R []) : bNil X α R := h
theorem b_cons {r : AAv} {R : List Avl → Prop} (h : e X α fun x => r X α fun xs => R (x :: xs)) : bCons e r X α R := h
theorem a_b (h : e X α fun av => ∃ b, av = .d (.bool b) ∧ R b) : aB e X α R := h
theorem a_bl {Q : Bool → Prop} {b : Bool} (h : Q b) : ∃ c, Avl.d (.bool b) = .d (.bool c) ∧ Q c := ⟨b, rfl, h⟩
theorem a_ii {Q : Int → Prop} {i : Int} (h : Q i) : ∃ j, Avl.d (.int i) = .d (.int j) ∧ Q j := ⟨i, rfl, h⟩
theorem a_yes (h : R true) : aYes X α R := h
theorem a_and (h : t X α fun c => if c = true then u X α R else R false) : aAnd t u X α R := h
theorem a_or (h : t X α fun c => if c = true then R true else u X α R) : aOr t u X α R := h
theorem a_not (h : t X α fun c => R (!c)) : aNot t X α R := h
theorem a_if (h : t X α fun c => if c = true then e X α k else e' X α k) : aIf t e e' X α k := h
theorem a_andV (h : e X α fun x => ∃ c, x = .d (.bool c) ∧ if c = true then e' X α k else k (.d (.bool false))) : aAndV e e' X α k := h
theorem a_orV (h : e X α fun x => ∃ c, x = .d (.bool c) ∧ if c = true then k (.d (.bool true)) else e' X α k) : aOrV e e' X α k := h
theorem a_notV (h : e X α fun x => ∃ c, x = .d (.bool c) ∧ k (.d (.bool (!c)))) : aNotV e X α k := h
theorem a_op (h : e X α fun x => e' X α fun y => g x y k) : aOp g e e' X α k := h
theorem a_chain (h : e X α fun x => e' X α fun y => g x y fun z => ∃ p, z = .d (.bool p) ∧ if p = true then e2 X α fun w => g' y w k else k (.d (.bool false))) : aChain g g' e e' e2 X α k := h
theorem a_un {g : AO1} (h : e X α fun x => g x k) : aUn g e X α k := h
theorem a_cb {g : AOn} {r : AAv} (h : r X α fun xs => g xs k) : aCB g r X α k := h
theorem a_sl {lo hi : AOp} (h : e X α fun x => lo X α fun l => hi X α fun u => gSl l u x k) : aSl e lo hi X α k := h
theorem a_rev (h : e X α fun x => (∃ ds, x.tup = some ds ∧ k (.d (.tuple ds.reverse))) ∨ ∃ ds, x.lst = some ds ∧ k (.l ds.reverse)) : aRev e X α k := h
theorem a_revT {Q R : List PyData → Prop} (e : x.tup = some ds) (h : Q ds) : (∃ ds, x.tup = some ds ∧ Q ds) ∨ ∃ ds, x.lst = some ds ∧ R ds := .inl ⟨ds, e, h⟩
theorem a_revL {Q R : List PyData → Prop} (e : x.lst = some ds) (h : R ds) : (∃ ds, x.tup = some ds ∧ Q ds) ∨ ∃ ds, x.lst = some ds ∧ R ds := .inr ⟨ds, e, h⟩
theorem a_part {Q : Option Int → Prop} (h : e X α fun av => ∃ i, av = .d (.int i) ∧ Q (some i)) : aPart e X α Q := h
theorem a_nopart {Q : Option Int → Prop} (h : Q none) : aNoPart X α Q := h
theorem a_call {m : AFn} {r : AAv} (h : r X α fun as => m as (fun C f => X α C f ∧ (anyB as = true → f = none)) fun av => k av ∧ (anyB as = true → av.flat = true)) : aCall m r X α k := h
theorem a_call0 {m : AFn} {r : AAv} (h : r X α fun as => m as (fun _ _ => False) fun av => k av ∧ (anyB as = true → av.flat = true)) : aCall0 m r X α k := h
theorem a_nb {P Q : Prop} {as : List Avl} (h : anyB as = false) (p : P) : P ∧ (anyB as = true → Q) := ⟨p, fun z => by rw [h] at z; cases z⟩
theorem a_kw {gg : List Avl → List Avl} {r : AAv} {R : List Avl → Prop} (h : r X α fun as => R (gg as)) : aKw n gg r X α R := h
theorem a_asg {gt : ATg} (h : e A.er α fun av => ∃ x, av.cl = some x ∧ gt x α A.nx) : aAsg e gt A α := h
theorem a_gtup {gs : ATgs} {Q : Afr → Prop} (e : d = .tuple ds) (h : ds.length = n) (q : gs ds α Q) : agTup n gs d α Q := ⟨ds, e, h, q⟩
theorem a_gcons {gt : ATg} {gs : ATgs} {Q : Afr → Prop} (h : gt d α fun α1 => gs ds α1 Q) : agCons gt gs (d :: ds) α Q := ⟨d, ds, rfl, h⟩
theorem a_gnil {Q : Afr → Prop} (h : Q α) : agNil [] α Q := ⟨rfl, h⟩
theorem a_isi {f : PyData → Bool} (h : e X α fun av => ∃ d, av.dat = some d ∧ k (.d (.bool (f d)))) : aIsi f e X α k := h
theorem a_dat {Q : PyData → Prop} {w : PyData} (h : x.dat = some w) (q : Q w) : ∃ d, x.dat = some d ∧ Q d := ⟨w, h, q⟩
theorem a_isX {a : Addr} (h : α[i]? = some (.err a)) (q : k (.d (.bool true))) : aIsX i a X α k := ⟨h, q⟩
theorem a_lstRg (h : e X α fun x => ∃ n : Int, x = .d (.int n) ∧ -1000000 ≤ n ∧ n ≤ 1000000 ∧ k (.l ((iota n.toNat).map .int))) : aLstRg e X α k := h
theorem a_dict0 (h : k (.d (.dict []))) : aDict0 X α k := h
theorem g_addI {i j : Int} (h : k (.d (.int (i + j)))) : gAdd (.d (.int i)) (.d (.int j)) k := .inl ⟨i, j, rfl, rfl, h⟩
theorem g_addT (e : x.tup = some xs) (e' : y.tup = some ys) (h : xs.length + ys.length ≤ 100000) (q : k (.d (.tuple (xs ++ ys)))) : gAdd x y k := .inr (.inr (.inl ⟨xs, ys, e, e', h, q⟩))
theorem g_addL (e : x.lst = some xs) (e' : y.lst = some ys) (h : xs.length + ys.length ≤ 100000) (q : k (.l (xs ++ ys))) : gAdd x y k := .inr (.inr (.inr ⟨xs, ys, e, e', h, q⟩))
theorem g_sub {i j : Int} (h : k (.d (.int (i - j)))) : gSub' (.d (.int i)) (.d (.int j)) k := ⟨i, j, rfl, rfl, h⟩
theorem g_mulI {i j : Int} (s : Sml i j) (h : k (.d (.int (i * j)))) : gMul (.d (.int i)) (.d (.int j)) k := .inl ⟨i, j, rfl, rfl, s, h⟩
theorem g_div {i j : Int} (h1 : 0 < j) (h2 : j < 1073741824) (h : k (.d (.int (i / j)))) : gDiv (.d (.int i)) (.d (.int j)) k := ⟨i, j, rfl, rfl, h1, h2, h⟩
theorem g_mod {i j : Int} (h1 : 0 < j) (h : k (.d (.int (i % j)))) : gMod (.d (.int i)) (.d (.int j)) k := ⟨i, j, rfl, rfl, h1, h⟩
theorem g_eqI {i j : Int} (h : k (.d (.bool (decide (i = j))))) : gEq (.d (.int i)) (.d (.int j)) k := .inl ⟨i, j, rfl, rfl, h⟩
theorem g_neI {i j : Int} (h : k (.d (.bool (!decide (i = j))))) : gNe (.d (.int i)) (.d (.int j)) k := .inl ⟨i, j, rfl, rfl, h⟩
theorem g_eqS {i j : Str} (h : k (.d (.bool (decide (i = j))))) : gEq (.d (.str i)) (.d (.str j)) k := .inr (.inl ⟨i, j, rfl, rfl, h⟩)
theorem g_neS {i j : Str} (h : k (.d (.bool (!decide (i = j))))) : gNe (.d (.str i)) (.d (.str j)) k := .inr (.inl ⟨i, j, rfl, rfl, h⟩)
theorem g_eqD {d e : PyData} (e1 : x.dat = some d) (e2 : y.dat = some e) (h1 : SeqAt.shaped d = true) (h2 : SeqAt.shaped e = true) (h : k (.d (.bool (PyData.eqv d e)))) : gEq x y k := .inr (.inr ⟨d, e, e1, e2, h1, h2, h⟩)
theorem g_neD {d e : PyData} (e1 : x.dat = some d) (e2 : y.dat = some e) (h1 : SeqAt.shaped d = true) (h2 : SeqAt.shaped e = true) (h : k (.d (.bool (!PyData.eqv d e)))) : gNe x y k := .inr (.inr ⟨d, e, e1, e2, h1, h2, h⟩)
theorem g_ltI {i j : Int} (h : k (.d (.bool (decide (i < j))))) : gLt (.d (.int i)) (.d (.int j)) k := .inl ⟨i, j, rfl, rfl, h⟩
theorem g_le {i j : Int} (h : k (.d (.bool (decide (i ≤ j))))) : gLe (.d (.int i)) (.d (.int j)) k := ⟨i, j, rfl, rfl, h⟩
theorem g_gt {i j : Int} (h : k (.d (.bool (decide (j < i))))) : gGt (.d (.int i)) (.d (.int j)) k := ⟨i, j, rfl, rfl, h⟩
theorem g_ge {i j : Int} (h : k (.d (.bool (decide (j ≤ i))))) : gGe (.d (.int i)) (.d (.int j)) k := ⟨i, j, rfl, rfl, h⟩
theorem g_isN {d : PyData} (e : x.dat = some d) (h : k (.d (.bool (isNon d)))) : gIsN x (.d .none) k := ⟨rfl, d, e, h⟩
theorem g_notN {d : PyData} (e : x.dat = some d) (h : k (.d (.bool (!isNon d)))) : gNotN x (.d .none) k := ⟨rfl, d, e, h⟩
theorem g_neg {i : Int} (h : k (.d (.int (-i)))) : gNeg (.d (.int i)) k := ⟨i, rfl, h⟩
theorem g_ixT {i : Int} {w : PyData} (e : x.tup = some ds) (h : atI ds i = some w) (q : k (.d w)) : gIx x (.d (.int i)) k := ⟨i, rfl, ds, w, .inl e, h, q⟩
theorem g_ixL {i : Int} {w : PyData} (e : x.lst = some ds) (h : atI ds i = some w) (q : k (.d w)) : gIx x (.d (.int i)) k := ⟨i, rfl, ds, w, .inr e, h, q⟩
theorem g_slT {lo hi : Option Int} (e : x.tup = some ds) (q : k (.d (.tuple (cutD ds lo hi)))) : gSl lo hi x k := .inl ⟨ds, e, q⟩
theorem g_slL {lo hi : Option Int} (e : x.lst = some ds) (q : k (.l (cutD ds lo hi))) : gSl lo hi x k := .inr ⟨ds, e, q⟩
theorem g_lenT (e : x.tup = some ds) (q : k (.d (.int ds.length))) : gLen [x] k := ⟨x, ds, rfl, .inl e, q⟩
theorem g_lenL (e : x.lst = some ds) (q : k (.d (.int ds.length))) : gLen [x] k := ⟨x, ds, rfl, .inr e, q⟩
theorem g_abs {i : Int} (q : k (.d (.int (if i < 0 then -i else i)))) : gAbs [.d (.int i)] k := ⟨i, rfl, q⟩
theorem g_int {i : Int} (q : k (.d (.int i))) : gInt [.d (.int i)] k := .inl ⟨i, rfl, q⟩
theorem g_intB {b : Bool} (q : k (.d (.int (b2i b)))) : gInt [.d (.bool b)] k := .inr ⟨b, rfl, q⟩
theorem g_max2 {i j : Int} (q : k (.d (.int (if j > i then j else i)))) : gMax2 [.d (.int i), .d (.int j)] k := ⟨i, j, rfl, q⟩
theorem g_min2 {i j : Int} (q : k (.d (.int (if j < i then j else i)))) : gMin2 [.d (.int i), .d (.int j)] k := ⟨i, j, rfl, q⟩
theorem g_repr {d : PyData} (e : x.dat = some d) (h : Shw d) (q : k (.d (.str d.shown))) : gRepr [x] k := ⟨x, d, rfl, e, h, q⟩
theorem g_tupL (e : x.lst = some ds) (q : k (.d (.tuple ds))) : gTupOf [x] k := ⟨x, ds, rfl, .inr e, q⟩
theorem g_tupT (e : x.tup = some ds) (q : k (.d (.tuple ds))) : gTupOf [x] k := ⟨x, ds, rfl, .inl e, q⟩
theorem g_lstT (e : x.tup = some ds) (q : k (.l ds)) : gLstOf [x] k := ⟨x, ds, rfl, .inl e, q⟩
theorem g_lstL (e : x.lst = some ds) (q : k (.l ds)) : gLstOf [x] k := ⟨x, ds, rfl, .inr e, q⟩
theorem a_fz (h : α[i]? = some (.own ds)) (q : a A (α.set i (.d (.list ds)))) : aFz i a A α := ⟨ds, h, q⟩
theorem a_swap {ej : AEx} (h : e A.er α fun x => ∃ x', x.cl = some x' ∧ e' A.er α fun y => ∃ y', y.cl = some y' ∧ ∃ ds, α[i]? = some (.own ds) ∧ ei A.er α fun a => ∃ (p : Int) (n : Nat), a = .d (.int p) ∧ ixN ds.length p = some n ∧
  ∃ es, (α.set i (.own (ds.set n x')))[j]? = some (.own es) ∧ ej A.er (α.set i (.own (ds.set n x'))) fun b => ∃ (q : Int) (m : Nat), b = .d (.int q) ∧ ixN es.length q = some m ∧ A.nx ((α.set i (.own (ds.set n x'))).set j (.own (es.set m y')))) : aSwap i j e e' ei ej A α := h
theorem a_len {Q : Prop} (h : Nat.ble ds.length 1000 = true) (q : Q) : ds.length < 100000 ∧ Q := ⟨Nat.lt_of_le_of_lt (Nat.le_of_ble_eq_true h) (by decide), q⟩
theorem a_app (h : α[i]? = some (.own ds)) (q : e A.er α fun av => ∃ x, av.cl = some x ∧ ds.length < 100000 ∧ A.nx (α.set i (.own (ds ++ [x])))) : aApp i e A α := ⟨ds, h, q⟩
theorem a_ext (h : α[i]? = some (.own ds)) (q : e A.er α fun av => ∃ xs, av.lst = some xs ∧ ds.length + xs.length < 100000 ∧ A.nx (α.set i (.own (ds ++ xs)))) : aExt i e A α := ⟨ds, h, q⟩
theorem a_pop (h : α[i]? = some (.own ds)) (q : e A.er α fun av => ∃ (n : Nat) (x : PyData), av = .d (.int n) ∧ ds[n]? = some x ∧ n < 100000 ∧ A.nx ((α.set i (.own (ds.eraseIdx n))).set j (.d x))) : aPop i j e A α := ⟨ds, h, q⟩
theorem a_setI (q : e A.er α fun av => ∃ x, av.cl = some x ∧ ∃ ds, α[i]? = some (.own ds) ∧ ei A.er α fun ai => ∃ (j : Int) (n : Nat), ai = .d (.int j) ∧ ixN ds.length j = some n ∧ A.nx (α.set i (.own (ds.set n x)))) : aSetI i e ei A α := q
theorem a_owned {Q : List PyData → Prop} (h : α[i]? = some (.own ds)) (q : Q ds) : ∃ ds, α[i]? = some (.own ds) ∧ Q ds := ⟨ds, h, q⟩
theorem a_owned' {Q : List PyData → Prop} (q : Q ds) : ∃ es, some (Sot.own ds) = some (.own es) ∧ Q es := ⟨ds, rfl, q⟩
theorem a_for {w : AIt} {gt : ATg} (h : w A.er α fun xs fz => aLoop gt b A xs (aFrz α fz)) : aFor w gt b A α := h
theorem a_loop {gt : ATg} (Pv : Nat → Afr → Prop) (h0 : Pv 0 α) (hs : ∀ i x α, xs[i]? = some x → Pv i α → gt x α fun α1 => b { A with nx := Pv (i + 1), ct := Pv (i + 1), bk := A.nx } α1) (hd : ∀ α, Pv xs.length α → A.nx α) : aLoop gt b A xs α := ⟨Pv, h0, hs, hd⟩
theorem a_while {c : ATx} (I : Nat → Afr → Prop) (m : Nat) (h0 : I m α) (h : ∀ m α, I m α → c A.er α fun t => if t = true then b { A with nx := fun α' => ∃ m', m' < m ∧ I m' α', ct := fun α' => ∃ m', m' < m ∧ I m' α', bk := A.nx } α else A.nx α) : aWhile c b A α := ⟨I, ⟨m, h0⟩, h⟩
abbrev Kfz := List PyData → List Nat → Prop
variable {Kz : Kfz}
def WSeq (x : Avl) (α : Afr) (Kz : Kfz) : Prop := (∃ ds, x = .d (.tuple ds) ∧ Kz ds []) ∨ (∃ ds, x.cl = some (.list ds) ∧ Kz ds []) ∨ ∃ i ds, x = .b i ds ∧ α[i]? = some (.own ds) ∧ Kz ds [i]
theorem i_seq (h : e X α fun av => WSeq av α Kz) : aSeqI e X α Kz := h
theorem i_T (e : x = .d (.tuple ds)) (h : Kz ds []) : WSeq x α Kz := .inl ⟨ds, e, h⟩
theorem i_L (e : x.cl = some (.list ds)) (h : Kz ds []) : WSeq x α Kz := .inr (.inl ⟨ds, e, h⟩)
theorem i_B (e : α[i]? = some (.own ds)) (h : Kz ds [i]) : WSeq (.b i ds) α Kz := .inr (.inr ⟨i, ds, rfl, e, h⟩)
def WR1 (as : List Avl) (Kz : Kfz) : Prop := ∃ j : Int, as = [.d (.int j)] ∧ -1000000 ≤ j ∧ j ≤ 1000000 ∧ Kz ((iota j.toNat).map .int) []
def WR2 (as : List Avl) (Kz : Kfz) : Prop := ∃ i j : Int, as = [.d (.int i), .d (.int j)] ∧ -1000000 ≤ i ∧ i ≤ 1000000 ∧ -1000000 ≤ j ∧ j ≤ 1000000 ∧ Kz ((rgI i j).map .int) []
theorem i_rng1 {r : AAv} (h : r X α fun as => WR1 as Kz) : aRng1 r X α Kz := h
theorem i_rng2 {r : AAv} (h : r X α fun as => WR2 as Kz) : aRng2 r X α Kz := h
theorem i_r1 {j : Int} (h : -1000000 ≤ j ∧ j ≤ 1000000) (q : Kz ((iota j.toNat).map .int) []) : WR1 [.d (.int j)] Kz := ⟨j, rfl, h.1, h.2, q⟩
theorem i_r2 {i j : Int} (h : -1000000 ≤ i ∧ i ≤ 1000000 ∧ -1000000 ≤ j ∧ j ≤ 1000000) (q : Kz ((rgI i j).map .int) []) : WR2 [.d (.int i), .d (.int j)] Kz := ⟨i, j, rfl, h.1, h.2.1, h.2.2.1, h.2.2.2, q⟩
def WEn (as : List Avl) (α : Afr) (Kz : Kfz) : Prop := ∃ av, as = [av] ∧ ((∃ ds, av = .d (.tuple ds) ∧ Kz (enD ds) []) ∨ (∃ ds, av.cl = some (.list ds) ∧ Kz (enD ds) []) ∨ ∃ i ds, av = .b i ds ∧ α[i]? = some (.own ds) ∧ Kz (enD ds) [i])
theorem i_enum {r : AAv} (h : r X α fun as => WEn as α Kz) : aEnum r X α Kz := h
theorem i_one (h : WSeq x α fun ds fz => Kz (enD ds) fz) : WEn [x] α Kz := ⟨x, rfl, h⟩
def WZi (as : List Avl) (Kz : Kfz) : Prop := (∃ xs ys, as = [.d (.tuple xs), .d (.tuple ys)] ∧ Kz (ziD xs ys) []) ∨ (∃ x y xs ys, as = [x, y] ∧ x.cl = some (.list xs) ∧ y.cl = some (.list ys) ∧ Kz (ziD xs ys) [])
theorem i_zip {r : AAv} (h : r X α fun as => WZi as Kz) : aZip r X α Kz := h
theorem i_zT (e1 : x = .d (.tuple xs)) (e2 : y = .d (.tuple ys)) (h : Kz (ziD xs ys) []) : WZi [x, y] Kz := .inl ⟨xs, ys, by rw [e1, e2], h⟩
theorem i_zL (e1 : x.cl = some (.list xs)) (e2 : y.cl = some (.list ys)) (h : Kz (ziD xs ys) []) : WZi [x, y] Kz := .inr ⟨x, y, xs, ys, rfl, e1, e2, h⟩
theorem a_lc {w : AIt} {gt : ATg} {is : List Nat} (h : w X α fun xs _ => xs.length < 100000 ∧ aLcGo gt t e (awipe α is) k xs) : aLc w gt t e is X α k := h
theorem a_lcgo {gt : ATg} (Pv : Nat → List PyData → Prop) (h0 : Pv 0 []) (hs : ∀ i x acc, xs[i]? = some x → Pv i acc → gt x α fun α2 => t aX0 α2 fun b => if b = true then e aX0 α2 fun av => ∃ y, av.cl = some y ∧ Pv (i + 1) (acc ++ [y]) else Pv (i + 1) acc)
    (hd : ∀ acc, Pv xs.length acc → acc.length ≤ xs.length → k (.l acc)) : aLcGo gt t e α k xs := ⟨Pv, h0, hs, hd⟩
theorem a_raise {C : Addr} (h : A.er α C none) : aRaise C A α := h
theorem a_try {C : Addr} {s : Addr → ASt} (h : b { A with er := fun α' C' f => C' = C ∧ f = none ∧ ∀ a, s a { A with nx := fun α'' => A.nx (α''.set i .x), bk := fun α'' => A.bk (α''.set i .x), ct := fun α'' => A.ct (α''.set i .x) } (α'.set i (.err a)) } α) : aTry C i b s A α := h
/-- a conditional expression, either way -/
theorem a_ifj (M : Avl → Prop) (h : ∀ av, M av → k av) (q : ∀ k', (∀ av, M av → k' av) → aIf t e e' X α k') : aIf t e e' X α k := q k h
end
end UW
namespace UW
open PySem PySem.Spec PyProof.Rows L2
section
open AutoSeq1 (wpAny_loadPart')
end
section
variable {X : Cx}
end
section
variable {K : Fg} {E : WX}
def aM1 (p : Avl → Prop) (g : AO2) (a b : AEx) : AEx := fun X α k => a X α fun x => p x ∧ b X α fun y => g x y k
def isS (x : Avl) : Prop := ∃ a, x = .d (.str a)
end
section
variable {k : Avl → Prop} {X : AXr} {α : Afr} {a b : AEx}
theorem a_m1 {p : Avl → Prop} {g : AO2} (h : a X α fun x => p x ∧ b X α fun y => g x y k) : aM1 p g a b X α k := h
theorem a_isS {a : Str} {q : Prop} (h : q) : isS (.d (.str a)) ∧ q := ⟨⟨a, rfl⟩, h⟩
end
end UW
namespace UW
open PySem PySem.Spec PyProof.Rows L2
section
variable {κ : Type} [DecidableEq κ]
def findD (kvs : List (κ × PyData)) (k : κ) : Option PyData := (kvs.find? fun kv => decide (kv.1 = k)).map (·.2)
def putD (kvs : List (κ × PyData)) (k : κ) (x : PyData) : List (κ × PyData) :=
  if (kvs.any fun kv => decide (kv.1 = k)) = true then kvs.map (fun kv => if kv.1 = k then (kv.1, x) else kv) else kvs ++ [(k, x)]
def PrD (K : Fg) (S : Ads) (H : Hp) (a : κ × V) (b : κ × PyData) : Prop := a.1 = b.1 ∧ Od K S H a.2 b.2
variable {K : Fg} {S : Ads} {H : Hp}
theorem prs_find {k : κ} : ∀ {ls : List (κ × V)} {kvs : List (κ × PyData)}, Paired (PrD K S H) ls kvs → (findD kvs k = none → valV ls k = none) ∧ ∀ x, findD kvs k = some x → ∃ v, valV ls k = some v ∧ Od K S H v x
  | _, _, .nil => ⟨fun _ => rfl, fun x h => by cases h⟩
  | a :: ls, b :: kvs, .cons r t => by
    obtain ⟨h1, h2⟩ := prs_find (k := k) t
    by_cases e : b.1 = k
    · have eb : findD (b :: kvs) k = some b.2 := by simp [findD, List.find?_cons, e]
      have ea : valV (a :: ls) k = some a.2 := L2.valV_pos (r.1.trans e)
      rw [eb, ea]
      exact ⟨fun z => (by cases z), fun x z => (by cases z; exact ⟨_, rfl, r.2⟩)⟩
    · have eb : findD (b :: kvs) k = findD kvs k := by simp [findD, List.find?_cons, e]
      have ea : valV (a :: ls) k = valV ls k := L2.valV_neg (fun z => e (r.1.symm.trans z))
      rw [eb, ea]
      exact ⟨h1, h2⟩
theorem prs_any {k : κ} : ∀ {ls : List (κ × V)} {kvs : List (κ × PyData)}, Paired (PrD K S H) ls kvs → (ls.any fun kv => decide (kv.1 = k)) = (kvs.any fun kv => decide (kv.1 = k))
  | _, _, .nil => rfl
  | a :: ls, b :: kvs, .cons r t => by rw [List.any_cons, List.any_cons, prs_any t, r.1]
theorem prs_len : ∀ {ls : List (κ × V)} {kvs : List (κ × PyData)}, Paired (PrD K S H) ls kvs → ls.length = kvs.length
  | _, _, .nil => rfl
  | _ :: _, _ :: _, .cons _ t => by rw [List.length_cons, List.length_cons, prs_len t]
theorem prs_set {k : κ} {v : V} {x : PyData} (o : Od K S H v x) : ∀ {ls : List (κ × V)} {kvs : List (κ × PyData)}, Paired (PrD K S H) ls kvs → Paired (PrD K S H) (ls.map fun kv => if kv.1 = k then (kv.1, v) else kv) (kvs.map fun kv => if kv.1 = k then (kv.1, x) else kv)
  | _, _, .nil => .nil
  | a :: ls, b :: kvs, .cons r t => by
    refine .cons ?_ (prs_set o t)
    show PrD K S H (if a.1 = k then (a.1, v) else a) (if b.1 = k then (b.1, x) else b)
    by_cases e : b.1 = k
    · rw [if_pos e, if_pos (r.1.trans e)]
      exact ⟨r.1, o⟩
    · rw [if_neg e, if_neg (fun z => e (r.1.symm.trans z))]
      exact r
theorem prs_app : ∀ {ls ls' : List (κ × V)} {kvs kvs' : List (κ × PyData)}, Paired (PrD K S H) ls kvs → Paired (PrD K S H) ls' kvs' → Paired (PrD K S H) (ls ++ ls') (kvs ++ kvs')
  | _, _, _, _, .nil, h => h
  | _ :: _, _, _ :: _, _, .cons r t, h => .cons r (prs_app t h)
theorem prs_put {k : κ} {v : V} {x : PyData} (o : Od K S H v x) {ls : List (κ × V)} {kvs : List (κ × PyData)} (h : Paired (PrD K S H) ls kvs) : Paired (PrD K S H) (putK ls k v) (putD kvs k x) := by
  unfold putK putD
  rw [prs_any h]
  split
  · exact prs_set o h
  · exact prs_app h (.cons ⟨rfl, o⟩ .nil)
theorem prs_mp {S1 : Ads} {H1 : Hp} (f : ∀ {v d}, Od K S H v d → Od K S1 H1 v d) {ls : List (κ × V)} {kvs : List (κ × PyData)} (h : Paired (PrD K S H) ls kvs) : Paired (PrD K S1 H1) ls kvs := L2.Paired.mapP h fun _ _ z => ⟨z.1, f z.2⟩
end
/-- what stands under a key -/
def DGetA : Dic → Avl → Option PyData → Prop
  | .k kvs, x, r => ∃ k, x = .d (kD k) ∧ r = findD kvs k
  | .t kvs, x, r => ∃ ks : List L2.Key, x = .d (.tuple (ks.map kD)) ∧ r = findD kvs ks
def DPutA : Dic → Avl → PyData → Dic → Prop
  | .k kvs, x, y, c => ∃ k, x = .d (kD k) ∧ kvs.length < 100000 ∧ c = .k (putD kvs k y)
  | .t kvs, x, y, c => ∃ ks : List L2.Key, x = .d (.tuple (ks.map kD)) ∧ kvs.length < 100000 ∧ c = .t (putD kvs ks y)
section
variable {K : Fg} {W : Wel} {Hs : Hp} {O : Nat → Option Addr} {S : Ads} {H : Hp}
theorem key_inv {v : V} {k : L2.Key} (r : Od K S H v (kD k)) : v = kV k := by
  cases k with
  | inl i => cases r; rfl
  | inr s => cases r; rfl
theorem keys_inv : ∀ {ks : List L2.Key} {vs : List V}, Ods K S H vs (ks.map kD) → vs = ks.map kV
  | [], _, .nil => rfl
  | k :: ks, _, .cons a b => by rw [key_inv a, keys_inv b]; rfl
theorem dget_at {p : Addr} {c : Dic} {y : V} {ax : Avl} {r : Option PyData} (h : DcR K S H p c) (ry : Vrp K W Hs O S H y ax) (g : DGetA c ax r) : ∃ o, DGet H p y o ∧ (r = none → o = none) ∧ ∀ x, r = some x → ∃ v, o = some v ∧ Od K S H v x := by
  cases c with
  | k kvs =>
    obtain ⟨ls, a, b⟩ := h
    obtain ⟨k, rfl, rfl⟩ := g
    have ry' : Od K S H y (kD k) := ry
    rw [key_inv ry']
    exact ⟨_, L2.DGet.k a, prs_find (K := K) b⟩
  | t kvs =>
    obtain ⟨ls, a, b⟩ := h
    obtain ⟨ks, rfl, rfl⟩ := g
    obtain ⟨q, us, rfl, a1, o1⟩ := ry.tup (ds := ks.map kD) rfl
    rw [keys_inv o1] at a1
    exact ⟨_, L2.DGet.t a a1, prs_find (K := K) b⟩
theorem dput_at {p : Addr} {c c' : Dic} {y v : V} {ax : Avl} {x : PyData} (h : DcR K S H p c) (ry : Vrp K W Hs O S H y ax) (ov : Od K S H v x) (g : DPutA c ax x c') : ∃ o, DPut H p y v (upd H p o) ∧ ((∀ {v d}, Od K S H v d → Od K S (upd H p o) v d) → DcR K S (upd H p o) p c') := by
  cases c with
  | k kvs =>
    obtain ⟨ls, a, b⟩ := h
    obtain ⟨k, rfl, hl, rfl⟩ := g
    have ry' : Od K S H y (kD k) := ry
    rw [key_inv ry']
    have ll := prs_len (K := K) b
    exact ⟨_, L2.DPut.k a (Nat.lt_of_lt_of_le (by omega) (show 100000 ≤ sizeLine by decide)), fun f => ⟨_, upd_same, prs_mp f (prs_put ov b)⟩⟩
  | t kvs =>
    obtain ⟨ls, a, b⟩ := h
    obtain ⟨ks, rfl, hl, rfl⟩ := g
    obtain ⟨q, us, rfl, a1, o1⟩ := ry.tup (ds := ks.map kD) rfl
    rw [keys_inv o1] at a1
    have ll := prs_len (K := K) b
    exact ⟨_, L2.DPut.t a a1 (Nat.lt_of_lt_of_le (by omega) (show 100000 ≤ sizeLine by decide)), fun f => ⟨_, upd_same, prs_mp f (prs_put ov b)⟩⟩
end
section
variable {K : Fg} {E : WX} {te te2 : TE} {e e2 : AEx} {i : Nat}
theorem dic_at {W : Wel} {H0 : Hp} {S0 : Ads} {O : Nat → Option Addr} {S : Ads} {α : Afr} {σ : L2.St} {H : Hp} {c : Dic} (f : Frm K W H0 S0 O S α σ H) (h : α[i]? = some (.dic c)) : ∃ p, O i = some p ∧ σ[i]? = some (some (.ref p)) ∧ DcR K S H p c ∧ i < α.length ∧ ¬ W.has p := by
  obtain ⟨p, a, b, d⟩ := f.sl i _ h
  exact ⟨p, a, b, d, (List.getElem?_eq_some_iff.mp h).1, Wel.ne f.w0 (f.o i p a).1⟩
theorem dic_mv {W : Wel} {H0 : Hp} {S0 : Ads} {O : Nat → Option Addr} {S S1 : Ads} {α : Afr} {σ : L2.St} {H H1 : Hp} {c : Dic} {p : Addr} (f : Frm K W H0 S0 O S α σ H) (m : Mvh W S H S1 H1) (d : DcR K S H p c) (nw : ¬ W.has p) : DcR K S1 H1 p c :=
  d.mp (fun o q => m.k _ _ q nw) fun z => m.od f.k.w (fun b z => (f.k.t b z).2) z
/-- x[e], x a slot's dict -/
def aDGet (i : Nat) (e : AEx) : AEx := fun X α k => ∃ c, α[i]? = some (.dic c) ∧ e X α fun av => ∃ x, DGetA c av (some x) ∧ k (.d x)
/-- x.get(e, e2) -/
def aDGet2 (i : Nat) (e e2 : AEx) : AEx := fun X α k => ∃ c, α[i]? = some (.dic c) ∧ e X α fun av => e2 X α fun a2 => ∃ r z, DGetA c av r ∧ a2 = .d z ∧ k (.d (r.getD z))
/-- e in x -/
def aDIn (e : AEx) (i : Nat) : AEx := fun X α k => e X α fun av => ∃ c r, α[i]? = some (.dic c) ∧ DGetA c av r ∧ k (.d (.bool r.isSome))
def aDNi (e : AEx) (i : Nat) : AEx := fun X α k => e X α fun av => ∃ c r, α[i]? = some (.dic c) ∧ DGetA c av r ∧ k (.d (.bool (!r.isSome)))
theorem some_eq {K : Fg} {S : Ads} {H : Hp} {r : Option PyData} {o : Option V} (g2 : r = none → o = none) (g3 : ∀ x, r = some x → ∃ v, o = some v ∧ Od K S H v x) : o.isSome = r.isSome := by
  cases r with
  | none => rw [g2 rfl]; rfl
  | some x => obtain ⟨v, rfl, _⟩ := g3 x rfl; rfl
theorem re_dni (h1 : REx K E te e) : REx K E (tDNotIn te (tVar i)) (aDNi e i) := by
  intro W H0 S0 O S α σ H X k Q f h lk q
  refine h1 f h lk fun v av S1 H1 m r ⟨c, o, h0, g, hk⟩ => ?_
  have f1 := f.mv m
  obtain ⟨p, a, b, d, hi, nw⟩ := dic_at f1 h0
  obtain ⟨o', g1, g2, g3⟩ := dget_at d r g
  refine ⟨_, b, p, o', rfl, g1, ?_⟩
  rw [some_eq g2 g3]
  exact q _ (.d (.bool (!o.isSome))) S1 H1 m (Od.bl _) hk
/-- x[ek] = ev -/
def aDPut (i : Nat) (ek ev : AEx) : ASt := fun A α => ev A.er α fun av => ∃ x, av.cl = some x ∧ ∃ c, α[i]? = some (.dic c) ∧ ek A.er α fun ak => ∃ c', DPutA c ak x c' ∧ A.nx (α.set i (.dic c'))
theorem rs_dput (h1 : REx K E te e) (h2 : REx K E te2 e2) : RSt K E (sDPut (tVar i) te te2) (aDPut i e e2) := by
  intro W H0 S0 O S α σ H A D f h l
  refine h2 f h l.er fun v av S1 H1 m r ⟨x, hx, c, h0, h'⟩ => ?_
  obtain ⟨S2, m2, _, od⟩ := keepx f.k m r hx
  have f2 := f.mv m2
  obtain ⟨p, a, b, d, hi, nw⟩ := dic_at f2 h0
  refine ⟨_, b, ?_⟩
  refine h1 f2 h' (l.er.kee (m2.kee f.k)) fun u au S3 H3 m3 r3 ⟨c', g, hk⟩ => ?_
  have f3 := f2.mv m3
  have d3 := dic_mv f2 m3 d nw
  obtain ⟨o, g1, g2⟩ := dput_at d3 r3 (m3.od f2.k.w (fun b z => (f2.k.t b z).2) od) g
  obtain ⟨g4, ke⟩ := f3.chgD a b d3 g2 hi
  exact ⟨p, _, rfl, g1, l.nx O S3 _ σ _ (((m2.trans m3).kee f.k).trans ke) g4 hk⟩
/-- a dict of one pair -/
def aDOne (e e2 : AEx) : AEx := fun X α k => e X α fun x => e2 X α fun y => ∃ n z, x = .d (kD n) ∧ y = .d z ∧ k (.k (.k [(n, z)]))
/-- a dict of one pair, as data -/
def aDOneD (e e2 : AEx) : AEx := fun X α k => aDOne e e2 X α fun av => ∃ (n : Int) (z : PyData), av = .k (.k [(.inl n, z)]) ∧ k (.d (.dict [(.int n, z)]))
/-- a dict of a slot leaves -/
def aRetC (i : Nat) : ASt := fun A α => ∃ c, α[i]? = some (.dic c) ∧ A.rt (.k c)
theorem rs_retC : RSt K E (tRet (tVar i)) (aRetC i) := by
  intro W H0 S0 O S α σ H A D f ⟨c, h0, h⟩ l
  obtain ⟨p, a, b, d, hi, nw⟩ := dic_at f h0
  obtain ⟨a1, a2, a3, a4⟩ := f.o i p a
  exact ⟨_, b, l.rt _ (.k c) H ⟨S, f.k.w, f.k0, fun b h => ⟨f.n0 b h, f.k.t b h⟩, p, rfl, d, a3, a1, nw⟩ h⟩
/-- a list is kept as it is from here on, if it is one's own still -/
def aFzq (i : Nat) (a : ASt) : ASt := fun A α => a A (frz1 α i)
end
section
variable {k : Avl → Prop} {X : AXr} {α : Afr} {e e2 : AEx} {A : AEn} {i : Nat} {c : Dic}
theorem a_dget (h : α[i]? = some (.dic c)) (q : e X α fun av => ∃ x, DGetA c av (some x) ∧ k (.d x)) : aDGet i e X α k := ⟨c, h, q⟩
theorem a_dget2 (h : α[i]? = some (.dic c)) (q : e X α fun av => e2 X α fun a2 => ∃ r z, DGetA c av r ∧ a2 = .d z ∧ k (.d (r.getD z))) : aDGet2 i e e2 X α k := ⟨c, h, q⟩
theorem a_dput (q : e2 A.er α fun av => ∃ x, av.cl = some x ∧ ∃ c, α[i]? = some (.dic c) ∧ e A.er α fun ak => ∃ c', DPutA c ak x c' ∧ A.nx (α.set i (.dic c'))) : aDPut i e e2 A α := q
theorem a_done (h : e X α fun x => e2 X α fun y => ∃ n z, x = .d (kD n) ∧ y = .d z ∧ k (.k (.k [(n, z)]))) : aDOne e e2 X α k := h
theorem a_doned (h : aDOne e e2 X α fun av => ∃ (n : Int) (z : PyData), av = .k (.k [(.inl n, z)]) ∧ k (.d (.dict [(.int n, z)]))) : aDOneD e e2 X α k := h
theorem a_onedI {j : Int} {y : PyData} {q : Int → PyData → Prop} (h : q j y) : ∃ (n : Int) (z : PyData), Avl.k (.k [(.inl j, y)]) = .k (.k [(.inl n, z)]) ∧ q n z := ⟨j, y, rfl, h⟩
theorem a_oneI {j : Int} {y : PyData} {q : L2.Key → PyData → Prop} (h : q (.inl j) y) : ∃ n z, Avl.d (.int j) = .d (kD n) ∧ Avl.d y = .d z ∧ q n z := ⟨.inl j, y, rfl, rfl, h⟩
theorem a_retC (h : α[i]? = some (.dic c)) (q : A.rt (.k c)) : aRetC i A α := ⟨c, h, q⟩
theorem a_dcx {R : Dic → Prop} (q : R c) : ∃ d, some (Sot.dic c) = some (.dic d) ∧ R d := ⟨c, rfl, q⟩
theorem a_dcy {R : Dic → Prop} (h : α[i]? = some (.dic c)) (q : R c) : ∃ d, α[i]? = some (.dic d) ∧ R d := ⟨c, h, q⟩
theorem a_fzq {a : ASt} {β : Afr} (h : frz1 α i = β) (q : a A β) : aFzq i a A α := by show a A (frz1 α i); rw [h]; exact q
theorem a_din0 (h : e X α fun av => ∃ c r, α[i]? = some (.dic c) ∧ DGetA c av r ∧ k (.d (.bool r.isSome))) : aDIn e i X α k := h
theorem a_dni0 (h : e X α fun av => ∃ c r, α[i]? = some (.dic c) ∧ DGetA c av r ∧ k (.d (.bool (!r.isSome)))) : aDNi e i X α k := h
end
end UW
namespace UW
open PySem PySem.Spec PyProof.Rows L2
section
variable {K : Fg} {E : WX} {i n : Nat} {g : TG} {gs : TGs} {ag : ATg} {ags : ATgs} {is js : List Nat}
end
/-- a list that no slot knows changes -/
theorem Frm.but {K : Fg} {W : Wel} {H0 H H' : Hp} {S0 S : Ads} {O : Nat → Option Addr} {α : Afr} {σ : L2.St} {D : Addr} {us ws : List V} (f : Frm K W H0 S0 O S α σ H) (hD : H D = some (.lst us)) (nS : ¬ S D) (nO : ∀ i, O i ≠ some D) (nW : ¬ W.has D) (n0 : H0 D = none) (a : At D (.lst ws) H H') : Frm K W H0 S0 O S α σ H' := by
  have tm := a.tm hD
  have kk : ∀ b o, S b → H b = some o → H' b = some o := fun b o hb e => a.ne e fun y => nS (y ▸ hb)
  have od : ∀ {v : V} {d : PyData}, Od K S H v d → Od K S H' v d := fun h => h.mv tm fun b o hb e => ⟨hb, kk b o hb e⟩
  have ods : ∀ {v : List V} {d : List PyData}, Ods K S H v d → Ods K S H' v d := fun h => h.mv tm fun b o hb e => ⟨hb, kk b o hb e⟩
  refine ⟨⟨fun on => ?_, fun b hb => ⟨?_, (f.k.t b hb).2⟩⟩, fun b o h z => a.ne (f.k0 b o h z) (fun y => by rw [y, n0] at h; cases h), f.n0, f.w0, fun i p e => ?_, f.len, fun i z e => ?_⟩
  · exact (f.k.w.keep fun b o z e => a.ne e fun y => nW (y ▸ z)) on
  · rw [a.2 b fun y => nS (y ▸ hb)]
    exact (f.k.t b hb).1
  · obtain ⟨h1, h2, h3, h4⟩ := f.o i p e
    exact ⟨h1, by rw [a.2 p fun y => nO i (y ▸ e)]; exact h2, h3, h4⟩
  · have q := f.sl i z e
    cases z with
    | x => trivial
    | d x =>
      obtain ⟨v, h1, h2⟩ := q
      exact ⟨v, h1, od h2⟩
    | own ds =>
      obtain ⟨p, vs, h1, h2, h3, h4⟩ := q
      exact ⟨p, vs, h1, h2, a.ne h3 (fun y => nO i (y ▸ h1)), ods h4⟩
    | wl u => exact q
    | err b => exact q
    | erx b dx fs => exact ⟨q.1, q.2.mv' (fun _ h => h) kk od⟩
    | dic c =>
      obtain ⟨p, h1, h2, h3⟩ := q
      exact ⟨p, h1, h2, h3.mp (fun o e => a.ne e (fun y => nO i (y ▸ h1))) od⟩
def aLc2In (g : ATg) (t : ATx) (e : AEx) (α : Afr) (P : List PyData → Prop) (acc ys : List PyData) : Prop := ∃ Pw : Nat → List PyData → Prop, Pw 0 acc ∧
  (∀ j y bcc, ys[j]? = some y → Pw j bcc → g y α fun α3 => t aX0 α3 fun b => if b = true then e aX0 α3 fun av => ∃ z, av.cl = some z ∧ Pw (j + 1) (bcc ++ [z]) else Pw (j + 1) bcc) ∧ ∀ bcc, Pw ys.length bcc → P bcc
def aLc2Go (g : ATg) (t : ATx) (w1 : AIt) (g1 : ATg) (t1 : ATx) (e : AEx) (vs1 : List Nat) (α : Afr) (k : Avl → Prop) (xs : List PyData) : Prop := ∃ Pv : Nat → List PyData → Prop, Pv 0 [] ∧
  (∀ i x acc, xs[i]? = some x → Pv i acc → g x α fun α2 => t aX0 α2 fun b => if b = true then w1 aX0 α2 fun ys fz => fz = [] ∧ ys.length ≤ 300 ∧ aLc2In g1 t1 e (awipe α2 vs1) (Pv (i + 1)) acc ys else Pv (i + 1) acc) ∧ ∀ acc, Pv xs.length acc → k (.l acc)
def aLc2 (w : AIt) (g : ATg) (t : ATx) (w1 : AIt) (g1 : ATg) (t1 : ATx) (e : AEx) (vs vs1 : List Nat) : AEx := fun X α k => w X α fun xs _ => xs.length ≤ 300 ∧ aLc2Go g t w1 g1 t1 e vs1 (awipe α vs) k xs
section
variable {K : Fg} {E : WX} {g g1 : TG} {ag ag1 : ATg} {is is1 : List Nat}
end
section
variable {k : Avl → Prop} {X : AXr} {α : Afr} {w w1 : AIt} {g g1 : ATg} {t t1 : ATx} {e : AEx} {vs vs1 : List Nat} {P : List PyData → Prop} {acc ys xs : List PyData}
theorem a_lc2 (h : w X α fun xs _ => xs.length ≤ 300 ∧ aLc2Go g t w1 g1 t1 e vs1 (awipe α vs) k xs) : aLc2 w g t w1 g1 t1 e vs vs1 X α k := h
end
section
variable {X : Cx} {k : Nat} {f : Addr} {fd : FuncData} {ps : List Str} {sp : Sp} {x : Str} {p pos : Pos}
end
end UW
namespace UW
open PySem PySem.Spec PyProof.Rows L2
/-- a goal's step -/
class Wk (g : Prop) (h : outParam Prop) : Prop where imp : h → g
theorem wk {g h : Prop} [w : Wk g h] (q : h) : g := w.imp q
/-- a goal of a group of steps -/
class Rs (g : Prop) (t : Nat) : Prop where ok : True
theorem rs_go (t : Nat) {g : Prop} [w : Rs g t] (q : g) : g := q
class CAt (α : Afr) (i : Nat) (z : outParam Sot) : Prop where e : α[i]? = some z
class CSet (α : Afr) (i : Nat) (z : Sot) (β : outParam Afr) : Prop where e : α.set i z = β
class CAv (z : Sot) (i : Nat) (av : outParam Avl) : Prop where e : z.av i = some av
class CCl (x : Avl) (w : outParam PyData) : Prop where e : x.cl = some w
class CDat (x : Avl) (w : outParam PyData) : Prop where e : x.dat = some w
class CSot (x : Avl) (w : outParam Sot) : Prop where e : x.sot = some w
class CNb (as : List Avl) : Prop where e : anyB as = false
class CLen (ds : List PyData) (n : Nat) : Prop where e : ds.length = n
section
variable {α β : Afr} {i n : Nat} {z s : Sot} {ds : List PyData} {d : PyData} {u : Nat} {c : Dic} {x : Avl} {xs : List Avl}
instance : CAt (z :: α) 0 z := ⟨rfl⟩
instance [w : CAt α i z] : CAt (s :: α) (i + 1) z := ⟨w.e⟩
instance : CSet (s :: α) 0 z (z :: α) := ⟨rfl⟩
instance [w : CSet α i z β] : CSet (s :: α) (i + 1) z (s :: β) := ⟨by rw [← w.e]; rfl⟩
instance {j : Nat} {y : Sot} [w : CSet α i z β] [v : CAt β j y] : CAt (α.set i z) j y := ⟨by rw [w.e]; exact v.e⟩
instance {j : Nat} {y : Sot} {γ : Afr} [w : CSet α i z β] [v : CSet β j y γ] : CSet (α.set i z) j y γ := ⟨by rw [w.e]; exact v.e⟩
instance : CAv (.d d) i (.d d) := ⟨rfl⟩
instance : CAv (.own ds) i (.b i ds) := ⟨rfl⟩
instance : CAv (.wl u) i (.wl u) := ⟨rfl⟩
instance : CCl (.d d) d := ⟨rfl⟩
instance : CCl (.l ds) (.list ds) := ⟨rfl⟩
instance : CDat (.d d) d := ⟨rfl⟩
instance : CDat (.l ds) (.list ds) := ⟨rfl⟩
instance : CDat (.b i ds) (.list ds) := ⟨rfl⟩
instance : CSot (.d d) (.d d) := ⟨rfl⟩
instance : CSot (.l ds) (.own ds) := ⟨rfl⟩
instance : CSot (.wl u) (.wl u) := ⟨rfl⟩
instance : CSot (.k c) (.dic c) := ⟨rfl⟩
instance : CNb [] := ⟨rfl⟩
instance [w : CNb xs] : CNb (.d d :: xs) := ⟨by have := w.e; unfold anyB at this ⊢; simpa [Avl.isB] using this⟩
instance [w : CNb xs] : CNb (.l ds :: xs) := ⟨by have := w.e; unfold anyB at this ⊢; simpa [Avl.isB] using this⟩
instance [w : CNb xs] : CNb (.wl u :: xs) := ⟨by have := w.e; unfold anyB at this ⊢; simpa [Avl.isB] using this⟩
instance [w : CNb xs] : CNb (.k c :: xs) := ⟨by have := w.e; unfold anyB at this ⊢; simpa [Avl.isB] using this⟩
instance : CLen [] 0 := ⟨rfl⟩
instance [w : CLen ds n] : CLen (d :: ds) (n + 1) := ⟨by rw [List.length_cons, w.e]⟩
end
section
variable {X : AXr} {α : Afr} {k : Avl → Prop} {A : AEn} {a b : ASt} {e e' e2 ei : AEx} {i j n : Nat} {P : Avl → Prop} {d : PyData} {ds xs ys : List PyData} {t u : ATx} {R : Bool → Prop} {g g' : AO2} {x y z : Avl}
variable {Kz : Kfz} {c : Dic}
instance  : Wk (aSeq a b A α) (a { A with nx := b A } α) := ⟨fun h => a_seq h⟩
instance  : Wk (aNext A α) (A.nx α) := ⟨fun h => a_next h⟩
instance  : Wk (aBrk A α) (A.bk α) := ⟨fun h => a_brk h⟩
instance  : Wk (aCont A α) (A.ct α) := ⟨fun h => a_cont h⟩
instance  : Wk (aRet e A α) (e A.er α fun av => A.rt av.out) := ⟨fun h => a_ret h⟩
instance  : Wk (aRetN A α) (A.rt (.d .none)) := ⟨fun h => a_retN h⟩
instance  : Wk (aDrop e A α) (e A.er α fun _ => A.nx α) := ⟨fun h => a_drop h⟩
instance  : Wk (aIfS t a b A α) (t A.er α fun x => if x = true then a A α else b A α) := ⟨fun h => a_ifs h⟩
instance  : Wk (aSet i e A α) (e A.er α fun av => ∃ z, av.sot = some z ∧ A.nx (α.set i z)) := ⟨fun h => a_set h⟩
instance  : Wk (aSet2 i j e e' A α) (e A.er α fun x => e' A.er α fun y => ∃ z w, x.sot = some z ∧ y.sot = some w ∧ A.nx ((α.set i z).set j w)) := ⟨fun h => a_set2 h⟩
instance  : Wk (aSet3 i j n e e' e2 A α) (e A.er α fun x => e' A.er α fun y => e2 A.er α fun x2 => ∃ z w z2, x.sot = some z ∧ y.sot = some w ∧ x2.sot = some z2 ∧ A.nx (((α.set i z).set j w).set n z2)) := ⟨fun h => a_set3 h⟩
instance {r : AAd} : Wk (aParD i j r A α) (r A.er α fun xs => ∃ x y, xs = [x, y] ∧ A.nx ((α.set i (.d x)).set j (.d y))) := ⟨fun h => a_parD h⟩
instance {Q : PyData → PyData → Prop} {x y : PyData} : Wk (∃ x' y', [x, y] = [x', y'] ∧ Q x' y') (Q x y) := ⟨fun h => a_p2 h⟩
instance  : Wk (aC d X α k) (k (.d d)) := ⟨fun h => a_c h⟩
instance {r : AAd} : Wk (aTup r X α k) (r X α fun xs => k (.d (.tuple xs))) := ⟨fun h => a_tup h⟩
instance {r : AAd} : Wk (aLst r X α k) (r X α fun xs => k (.l xs)) := ⟨fun h => a_lst h⟩
instance {R : List PyData → Prop} : Wk (aNil X α R) (R []) := ⟨fun h => a_nil h⟩
instance {r : AAd} {R : List PyData → Prop} : Wk (aCons e r X α R) (e X α fun av => ∃ x, av.cl = some x ∧ r X α fun xs => R (x :: xs)) := ⟨fun h => a_cons h⟩
instance {R : List Avl → Prop} : Wk (bNil X α R) (R []) := ⟨fun h => b_nil h⟩
instance {r : AAv} {R : List Avl → Prop} : Wk (bCons e r X α R) (e X α fun x => r X α fun xs => R (x :: xs)) := ⟨fun h => b_cons h⟩
instance  : Wk (aB e X α R) (e X α fun av => ∃ b, av = .d (.bool b) ∧ R b) := ⟨fun h => a_b h⟩
instance {Q : Bool → Prop} {b : Bool} : Wk (∃ c, Avl.d (.bool b) = .d (.bool c) ∧ Q c) (Q b) := ⟨fun h => a_bl h⟩
instance {Q : Int → Prop} {i : Int} : Wk (∃ j, Avl.d (.int i) = .d (.int j) ∧ Q j) (Q i) := ⟨fun h => a_ii h⟩
instance  : Wk (aYes X α R) (R true) := ⟨fun h => a_yes h⟩
instance  : Wk (aAnd t u X α R) (t X α fun c => if c = true then u X α R else R false) := ⟨fun h => a_and h⟩
instance  : Wk (aOr t u X α R) (t X α fun c => if c = true then R true else u X α R) := ⟨fun h => a_or h⟩
instance  : Wk (aNot t X α R) (t X α fun c => R (!c)) := ⟨fun h => a_not h⟩
instance  : Wk (aAndV e e' X α k) (e X α fun x => ∃ c, x = .d (.bool c) ∧ if c = true then e' X α k else k (.d (.bool false))) := ⟨fun h => a_andV h⟩
instance  : Wk (aOrV e e' X α k) (e X α fun x => ∃ c, x = .d (.bool c) ∧ if c = true then k (.d (.bool true)) else e' X α k) := ⟨fun h => a_orV h⟩
instance  : Wk (aNotV e X α k) (e X α fun x => ∃ c, x = .d (.bool c) ∧ k (.d (.bool (!c)))) := ⟨fun h => a_notV h⟩
instance  : Wk (aOp g e e' X α k) (e X α fun x => e' X α fun y => g x y k) := ⟨fun h => a_op h⟩
instance  : Wk (aChain g g' e e' e2 X α k) (e X α fun x => e' X α fun y => g x y fun z => ∃ p, z = .d (.bool p) ∧ if p = true then e2 X α fun w => g' y w k else k (.d (.bool false))) := ⟨fun h => a_chain h⟩
instance {g : AO1} : Wk (aUn g e X α k) (e X α fun x => g x k) := ⟨fun h => a_un h⟩
instance {g : AOn} {r : AAv} : Wk (aCB g r X α k) (r X α fun xs => g xs k) := ⟨fun h => a_cb h⟩
instance {lo hi : AOp} : Wk (aSl e lo hi X α k) (e X α fun x => lo X α fun l => hi X α fun u => gSl l u x k) := ⟨fun h => a_sl h⟩
instance  : Wk (aRev e X α k) (e X α fun x => (∃ ds, x.tup = some ds ∧ k (.d (.tuple ds.reverse))) ∨ ∃ ds, x.lst = some ds ∧ k (.l ds.reverse)) := ⟨fun h => a_rev h⟩
instance {Q : Option Int → Prop} : Wk (aPart e X α Q) (e X α fun av => ∃ i, av = .d (.int i) ∧ Q (some i)) := ⟨fun h => a_part h⟩
instance {Q : Option Int → Prop} : Wk (aNoPart X α Q) (Q none) := ⟨fun h => a_nopart h⟩
instance {m : AFn} {r : AAv} : Wk (aCall m r X α k) (r X α fun as => m as (fun C f => X α C f ∧ (anyB as = true → f = none)) fun av => k av ∧ (anyB as = true → av.flat = true)) := ⟨fun h => a_call h⟩
instance {m : AFn} {r : AAv} : Wk (aCall0 m r X α k) (r X α fun as => m as (fun _ _ => False) fun av => k av ∧ (anyB as = true → av.flat = true)) := ⟨fun h => a_call0 h⟩
instance {gg : List Avl → List Avl} {r : AAv} {R : List Avl → Prop} : Wk (aKw n gg r X α R) (r X α fun as => R (gg as)) := ⟨fun h => a_kw h⟩
instance {gt : ATg} : Wk (aAsg e gt A α) (e A.er α fun av => ∃ x, av.cl = some x ∧ gt x α A.nx) := ⟨fun h => a_asg h⟩
instance {gt : ATg} {gs : ATgs} {Q : Afr → Prop} : Wk (agCons gt gs (d :: ds) α Q) (gt d α fun α1 => gs ds α1 Q) := ⟨fun h => a_gcons h⟩
instance {Q : Afr → Prop} : Wk (agNil [] α Q) (Q α) := ⟨fun h => a_gnil h⟩
instance {f : PyData → Bool} : Wk (aIsi f e X α k) (e X α fun av => ∃ d, av.dat = some d ∧ k (.d (.bool (f d)))) := ⟨fun h => a_isi h⟩
instance  : Wk (aLstRg e X α k) (e X α fun x => ∃ n : Int, x = .d (.int n) ∧ -1000000 ≤ n ∧ n ≤ 1000000 ∧ k (.l ((iota n.toNat).map .int))) := ⟨fun h => a_lstRg h⟩
instance  : Wk (aDict0 X α k) (k (.d (.dict []))) := ⟨fun h => a_dict0 h⟩
instance {i j : Int} : Wk (gAdd (.d (.int i)) (.d (.int j)) k) (k (.d (.int (i + j)))) := ⟨fun h => g_addI h⟩
instance {i j : Int} : Wk (gSub' (.d (.int i)) (.d (.int j)) k) (k (.d (.int (i - j)))) := ⟨fun h => g_sub h⟩
instance {i j : Int} : Wk (gEq (.d (.int i)) (.d (.int j)) k) (k (.d (.bool (decide (i = j))))) := ⟨fun h => g_eqI h⟩
instance {i j : Int} : Wk (gNe (.d (.int i)) (.d (.int j)) k) (k (.d (.bool (!decide (i = j))))) := ⟨fun h => g_neI h⟩
instance {i j : Str} : Wk (gEq (.d (.str i)) (.d (.str j)) k) (k (.d (.bool (decide (i = j))))) := ⟨fun h => g_eqS h⟩
instance {i j : Str} : Wk (gNe (.d (.str i)) (.d (.str j)) k) (k (.d (.bool (!decide (i = j))))) := ⟨fun h => g_neS h⟩
instance {i j : Int} : Wk (gLt (.d (.int i)) (.d (.int j)) k) (k (.d (.bool (decide (i < j))))) := ⟨fun h => g_ltI h⟩
instance {i j : Int} : Wk (gLe (.d (.int i)) (.d (.int j)) k) (k (.d (.bool (decide (i ≤ j))))) := ⟨fun h => g_le h⟩
instance {i j : Int} : Wk (gGt (.d (.int i)) (.d (.int j)) k) (k (.d (.bool (decide (j < i))))) := ⟨fun h => g_gt h⟩
instance {i j : Int} : Wk (gGe (.d (.int i)) (.d (.int j)) k) (k (.d (.bool (decide (j ≤ i))))) := ⟨fun h => g_ge h⟩
instance {i : Int} : Wk (gNeg (.d (.int i)) k) (k (.d (.int (-i)))) := ⟨fun h => g_neg h⟩
instance {i : Int} : Wk (gAbs [.d (.int i)] k) (k (.d (.int (if i < 0 then -i else i)))) := ⟨fun h => g_abs h⟩
instance {i : Int} : Wk (gInt [.d (.int i)] k) (k (.d (.int i))) := ⟨fun h => g_int h⟩
instance {b : Bool} : Wk (gInt [.d (.bool b)] k) (k (.d (.int (b2i b)))) := ⟨fun h => g_intB h⟩
instance {i j : Int} : Wk (gMax2 [.d (.int i), .d (.int j)] k) (k (.d (.int (if j > i then j else i)))) := ⟨fun h => g_max2 h⟩
instance {i j : Int} : Wk (gMin2 [.d (.int i), .d (.int j)] k) (k (.d (.int (if j < i then j else i)))) := ⟨fun h => g_min2 h⟩
instance {ej : AEx} : Wk (aSwap i j e e' ei ej A α) (e A.er α fun x => ∃ x', x.cl = some x' ∧ e' A.er α fun y => ∃ y', y.cl = some y' ∧ ∃ ds, α[i]? = some (.own ds) ∧ ei A.er α fun a => ∃ (p : Int) (n : Nat), a = .d (.int p) ∧ ixN ds.length p = some n ∧ ∃ es, (α.set i (.own (ds.set n x')))[j]? = some (.own es) ∧ ej A.er (α.set i (.own (ds.set n x'))) fun b => ∃ (q : Int) (m : Nat), b = .d (.int q) ∧ ixN es.length q = some m ∧ A.nx ((α.set i (.own (ds.set n x'))).set j (.own (es.set m y')))) := ⟨fun h => a_swap h⟩
instance  : Wk (aSetI i e ei A α) (e A.er α fun av => ∃ x, av.cl = some x ∧ ∃ ds, α[i]? = some (.own ds) ∧ ei A.er α fun ai => ∃ (j : Int) (n : Nat), ai = .d (.int j) ∧ ixN ds.length j = some n ∧ A.nx (α.set i (.own (ds.set n x)))) := ⟨fun h => a_setI h⟩
instance {Q : List PyData → Prop} : Wk (∃ es, some (Sot.own ds) = some (.own es) ∧ Q es) (Q ds) := ⟨fun h => a_owned' h⟩
instance {w : AIt} {gt : ATg} : Wk (aFor w gt b A α) (w A.er α fun xs fz => aLoop gt b A xs (aFrz α fz)) := ⟨fun h => a_for h⟩
instance  : Wk (aSeqI e X α Kz) (e X α fun av => WSeq av α Kz) := ⟨fun h => i_seq h⟩
instance {r : AAv} : Wk (aRng1 r X α Kz) (r X α fun as => WR1 as Kz) := ⟨fun h => i_rng1 h⟩
instance {r : AAv} : Wk (aRng2 r X α Kz) (r X α fun as => WR2 as Kz) := ⟨fun h => i_rng2 h⟩
instance {r : AAv} : Wk (aEnum r X α Kz) (r X α fun as => WEn as α Kz) := ⟨fun h => i_enum h⟩
instance  : Wk (WEn [x] α Kz) (WSeq x α fun ds fz => Kz (enD ds) fz) := ⟨fun h => i_one h⟩
instance {r : AAv} : Wk (aZip r X α Kz) (r X α fun as => WZi as Kz) := ⟨fun h => i_zip h⟩
instance {w : AIt} {gt : ATg} {is : List Nat} : Wk (aLc w gt t e is X α k) (w X α fun xs _ => xs.length < 100000 ∧ aLcGo gt t e (awipe α is) k xs) := ⟨fun h => a_lc h⟩
instance {C : Addr} : Wk (aRaise C A α) (A.er α C none) := ⟨fun h => a_raise h⟩
instance {C : Addr} {s : Addr → ASt} : Wk (aTry C i b s A α) (b { A with er := fun α' C' f => C' = C ∧ f = none ∧ ∀ a, s a { A with nx := fun α'' => A.nx (α''.set i .x), bk := fun α'' => A.bk (α''.set i .x), ct := fun α'' => A.ct (α''.set i .x) } (α'.set i (.err a)) } α) := ⟨fun h => a_try h⟩
instance  : Wk (aDPut i e e2 A α) (e2 A.er α fun av => ∃ x, av.cl = some x ∧ ∃ c, α[i]? = some (.dic c) ∧ e A.er α fun ak => ∃ c', DPutA c ak x c' ∧ A.nx (α.set i (.dic c'))) := ⟨fun h => a_dput h⟩
instance  : Wk (aDOne e e2 X α k) (e X α fun x => e2 X α fun y => ∃ n z, x = .d (kD n) ∧ y = .d z ∧ k (.k (.k [(n, z)]))) := ⟨fun h => a_done h⟩
instance  : Wk (aDOneD e e2 X α k) (aDOne e e2 X α fun av => ∃ (n : Int) (z : PyData), av = .k (.k [(.inl n, z)]) ∧ k (.d (.dict [(.int n, z)]))) := ⟨fun h => a_doned h⟩
instance {j : Int} {y : PyData} {q : Int → PyData → Prop} : Wk (∃ (n : Int) (z : PyData), Avl.k (.k [(.inl j, y)]) = .k (.k [(.inl n, z)]) ∧ q n z) (q j y) := ⟨fun h => a_onedI h⟩
instance {j : Int} {y : PyData} {q : L2.Key → PyData → Prop} : Wk (∃ n z, Avl.d (.int j) = .d (kD n) ∧ Avl.d y = .d z ∧ q n z) (q (.inl j) y) := ⟨fun h => a_oneI h⟩
instance {R : Dic → Prop} : Wk (∃ d, some (Sot.dic c) = some (.dic d) ∧ R d) (R c) := ⟨fun h => a_dcx h⟩
instance  : Wk (aDIn e i X α k) (e X α fun av => ∃ c r, α[i]? = some (.dic c) ∧ DGetA c av r ∧ k (.d (.bool r.isSome))) := ⟨fun h => a_din0 h⟩
instance  : Wk (aDNi e i X α k) (e X α fun av => ∃ c r, α[i]? = some (.dic c) ∧ DGetA c av r ∧ k (.d (.bool (!r.isSome)))) := ⟨fun h => a_dni0 h⟩
instance (priority := low) {Q : Afr → Prop} : Wk (agName i d α Q) (Q (α.set i (.d d))) := ⟨fun h => h⟩
instance {Q : Afr → Prop} {β : Afr} [w : CSet α i (.d d) β] : Wk (agName i d α Q) (Q β) := ⟨fun h => by show Q (α.set i (.d d)); rw [w.e]; exact h⟩
instance {zz : Sot} {av : Avl} [v : CAt α i zz] [w : CAv zz i av] : Wk (aVar i X α k) (k av) := ⟨fun h => a_var v.e w.e h⟩
instance {Q : PyData → Prop} {w : PyData} [v : CCl x w] : Wk (∃ x', x.cl = some x' ∧ Q x') (Q w) := ⟨fun h => a_cl v.e h⟩
instance {Q : PyData → Prop} {w : PyData} [v : CDat x w] : Wk (∃ x', x.dat = some x' ∧ Q x') (Q w) := ⟨fun h => a_dat v.e h⟩
instance {Q : Sot → Prop} {w : Sot} [v : CSot x w] : Wk (∃ x', x.sot = some x' ∧ Q x') (Q w) := ⟨fun h => a_s1 v.e h⟩
instance {P Q : Prop} {as : List Avl} [v : CNb as] : Wk (P ∧ (anyB as = true → Q)) P := ⟨fun h => a_nb v.e h⟩
instance {gs : ATgs} {Q : Afr → Prop} [v : CLen ds n] : Wk (agTup n gs (.tuple ds) α Q) (gs ds α Q) := ⟨fun h => a_gtup rfl v.e h⟩
instance {A B : Prop} : Wk (if true = true then A else B) A := ⟨fun h => by rw [if_pos rfl]; exact h⟩
instance {A B : Prop} : Wk (if false = true then A else B) B := ⟨fun h => by rw [if_neg (by decide)]; exact h⟩
instance [v : CDat x d] : Wk (gIsN x (.d .none) k) (k (.d (.bool (isNon d)))) := ⟨fun h => g_isN v.e h⟩
instance [v : CDat x d] : Wk (gNotN x (.d .none) k) (k (.d (.bool (!isNon d)))) := ⟨fun h => g_notN v.e h⟩
variable {gs : ATgs} {gt : ATg} {Q : Afr → Prop} {as : List Avl} {lo hi : Option Int} {σ : Type} {S : σ → Prop} {B C : Prop} {c2 : Bool} {aa : Addr}
instance : Rs (aVar i X α k) 1 := ⟨trivial⟩
instance : Rs (agTup n gs d α Q) 1 := ⟨trivial⟩
instance : Rs (agCons gt gs ds α Q) 1 := ⟨trivial⟩
instance : Rs (agNil ds α Q) 1 := ⟨trivial⟩
instance : Rs (gIx x y k) 2 := ⟨trivial⟩
instance : Rs (gLen as k) 3 := ⟨trivial⟩
instance : Rs (gTupOf as k) 3 := ⟨trivial⟩
instance : Rs (gLstOf as k) 3 := ⟨trivial⟩
instance : Rs (gSl lo hi x k) 4 := ⟨trivial⟩
instance : Rs (gAdd x y k) 4 := ⟨trivial⟩
instance : Rs (gMul x y k) 4 := ⟨trivial⟩
instance : Rs (gMod x y k) 4 := ⟨trivial⟩
instance : Rs (gDiv x y k) 4 := ⟨trivial⟩
instance : Rs (gIsN x y k) 4 := ⟨trivial⟩
instance : Rs (gNotN x y k) 4 := ⟨trivial⟩
instance : Rs (aDGet i e X α k) 5 := ⟨trivial⟩
instance : Rs (aDGet2 i e e' X α k) 5 := ⟨trivial⟩
instance : Rs (aFzq i a A α) 5 := ⟨trivial⟩
instance : Rs (aRetC i A α) 5 := ⟨trivial⟩
instance : Rs (aFz i a A α) 5 := ⟨trivial⟩
instance : Rs (aApp i e A α) 5 := ⟨trivial⟩
instance : Rs (aExt i e A α) 5 := ⟨trivial⟩
instance : Rs (aPop i j e A α) 5 := ⟨trivial⟩
instance : Rs (aIsX i aa X α k) 5 := ⟨trivial⟩
instance : Rs (∃ q : σ, S q) 6 := ⟨trivial⟩
instance : Rs (WSeq x α Kz) 7 := ⟨trivial⟩
instance : Rs (WEn as α Kz) 7 := ⟨trivial⟩
instance : Rs (B ∧ C) 8 := ⟨trivial⟩
instance : Rs (B ∨ C) 8 := ⟨trivial⟩
instance : Rs (if (!c2) = true then B else C) 9 := ⟨trivial⟩
instance : Rs (if isNon d = true then B else C) 9 := ⟨trivial⟩
end
section
variable {k : Avl → Prop} {X : AXr} {α : Afr} {a b : AEx}
instance {p : Avl → Prop} {g : AO2} : Wk (aM1 p g a b X α k) (a X α fun x => p x ∧ b X α fun y => g x y k) := ⟨fun h => a_m1 h⟩
instance {a : Str} {q : Prop} : Wk (isS (.d (.str a)) ∧ q) (q) := ⟨fun h => a_isS h⟩
end
section
variable {k : Avl → Prop} {X : AXr} {α : Afr} {w w1 : AIt} {g g1 : ATg} {t t1 : ATx} {e : AEx} {vs vs1 : List Nat} {P : List PyData → Prop} {acc ys xs : List PyData}
instance  : Wk (aLc2 w g t w1 g1 t1 e vs vs1 X α k) (w X α fun xs _ => xs.length ≤ 300 ∧ aLc2Go g t w1 g1 t1 e vs1 (awipe α vs) k xs) := ⟨fun h => a_lc2 h⟩
end
end UW
namespace UW
open PySem PySem.Spec PyProof.Rows L2
section
variable {K : Fg} {E : WX} {i : Nat} {C : Addr} {a : Addr}
end
end UW
namespace UW
open PySem PySem.Spec PyProof.Rows L2
/-- what is told of an own class C of errors that keeps f, under the class D -/
structure ExF (K : Fg) (C D : Addr) (f : Str) : Prop extends ExT K C D where
  nf : PySem.W.findIn K (.ref C) f = some none
/-- what __init__ of such does -/
def sp_arg (K : Fg) (f : Str) : Sp := fun vs H Q _ => ∃ (a D : Addr) (v : V), vs = [.ref a, v] ∧ OexC K D ∧ PySem.W.findIn K (.ref D) f = some none ∧ H a = some (exo a D none) ∧ ∀ dx, H dx = none → dx ≠ a → Q .non (upd (upd H dx (exd dx [(f, v)])) a (exo a D (some dx)))
theorem l_arg {K : Fg} {f : Str} : ∀ vs H Q E, sp_arg K f vs H Q E → vs.length = 2 := by
  rintro vs H Q E ⟨a, D, v, rfl, _⟩
  rfl
def t_arg (K : Fg) (z f : Str) : TS := tSeq (tDrop (tVeI K (tCons (tVar 0) (tCons (tC (.str z)) tNil)))) (tOst K f (tVar 0) (tVar 1))
theorem p_arg {K : Fg} {z f x : Str} {vs : List V} {H : Hp} {Q : VK} {E : XK} (h : sp_arg K f vs H Q E) : t_arg K z f { nx := fun _ H' => Q .non H', rt := Q } (start ["self", x] vs) H := by
  obtain ⟨a, D, v, rfl, T, nf, ha, q⟩ := h
  refine ⟨_, rfl, a, D, _, rfl, ?_, T, ha, ?_⟩
  · show 1 ≤ 1000
    decide
  · exact ⟨_, rfl, _, rfl, a, D, rfl, T, nf, .inl ⟨ha, fun dx n ne => q dx n ne⟩⟩
section
variable {K : Fg} {E : WX} {te : TE} {e : AEx} {i : Nat} {C D : Addr} {f : Str}
def aRaiseA (C : Addr) (f : Str) (e : AEx) : ASt := fun A α => e A.er α fun av => ∃ d, av.cl = some d ∧ A.er α C (some [(f, d)])
theorem rs_raiseA (T : ExF K C D f) (h1 : REx K E te e) : RSt K E (tRaise (tMkO C (sp_arg K f) [] (tCons te tNil)) E) (aRaiseA C f e) := by
  intro W H0 S0 O S α σ H A D' fr h l
  refine h1 fr h l.er fun v av S1 H1 m r ⟨d, hd, k⟩ => ?_
  obtain ⟨S2, m2, _, od⟩ := keepx fr.k m r hd
  refine ⟨by show 1 ≤ 1000; decide, fun a na => ⟨a, C, v, rfl, T.o, T.nf, upd_same, fun dx n ne => ⟨rfl, dx, [(f, v)], upd_same, by rw [upd_ne ne, upd_same], by rw [upd_ne ne] at n; exact n, ?_⟩⟩⟩
  have n' : H1 dx = none := by rw [upd_ne ne] at n; exact n
  have e' : upd (del (upd (upd (upd H1 a (exo a C none)) dx (exd dx [(f, v)])) a (exo a C (some dx))) a) dx (.xd [(f, v)]) = upd H1 dx (.xd [(f, v)]) := by
    funext b
    by_cases hb : b = dx
    · rw [hb, upd_same, upd_same]
    · rw [upd_ne hb, upd_ne hb]
      by_cases hc : b = a
      · rw [hc, del_same, na]
      · rw [del_ne hc, upd_ne hc, upd_ne hb, upd_ne hc]
  rw [e']
  have sm : Same H1 (upd H1 dx (.xd [(f, v)])) := Same.new n'
  have f2 := fr.mv m2
  have m3 : Mvh W S2 H1 (fun b => S2 b ∨ b = dx) (upd H1 dx (.xd [(f, v)])) := by
    have q := m2.oks.same sm
    refine ⟨q.k, q.w, fun b hb => .inl hb, fun b hb => hb.elim .inl fun z => .inr (z ▸ n'), fun b hb => ?_⟩
    rcases hb with hb | rfl
    · exact q.t b hb
    · exact ⟨(by rw [upd_same]; intro z; cases z), Wel.ne m2.w n'⟩
  have f3 := f2.mv m3
  have od3 := m3.od f2.k.w (fun b z => (f2.k.t b z).2) od
  exact l.er O _ α σ _ C (some dx) (some [(f, d)]) ((m2.kee fr.k).trans (m3.kee f2.k)) f3 ⟨dx, rfl, .inr rfl, _, upd_same, .cons ⟨rfl, od3⟩ .nil⟩ k
/-- try, where the error that is caught has data -/
def aTryA (C : Addr) (i : Nat) (b : ASt) (s : Addr → Addr → ASt) : ASt := fun A α =>
  b { A with er := fun α' C' f => C' = C ∧ ∃ fs, f = some fs ∧ ∀ a dx, s a dx { A with nx := fun α'' => A.nx (α''.set i .x), bk := fun α'' => A.bk (α''.set i .x), ct := fun α'' => A.ct (α''.set i .x) } (α'.set i (.erx a dx fs)) } α
/-- a field of the error -/
def aXf (i : Nat) (a dx : Addr) (f : Str) : AEx := fun _ α k => ∃ fs d, α[i]? = some (.erx a dx fs) ∧ fs.lookup f = some d ∧ k (.d d)
def aIsXA (i : Nat) (a dx : Addr) : AEx := fun _ α k => ∃ fs, α[i]? = some (.erx a dx fs) ∧ k (.d (.bool true))
end
section
variable {X : AXr} {A : AEn} {α : Afr} {k : Avl → Prop} {e : AEx} {i : Nat} {C : Addr} {f : Str} {a dx : Addr} {d : PyData} {fs : List (Str × PyData)} {b : ASt} {s : Addr → Addr → ASt}
instance : Wk (aRaiseA C f e A α) (e A.er α fun av => ∃ d, av.cl = some d ∧ A.er α C (some [(f, d)])) := ⟨fun h => h⟩
instance : Wk (aTryA C i b s A α) (b { A with er := fun α' C' f => C' = C ∧ ∃ fs, f = some fs ∧ ∀ a dx, s a dx { A with nx := fun α'' => A.nx (α''.set i .x), bk := fun α'' => A.bk (α''.set i .x), ct := fun α'' => A.ct (α''.set i .x) } (α'.set i (.erx a dx fs)) } α) := ⟨fun h => h⟩
instance [v : CAt α i (.erx a dx [(f, d)])] : Wk (aXf i a dx f X α k) (k (.d d)) := ⟨fun h => ⟨_, _, v.e, by simp, h⟩⟩
instance [v : CAt α i (.erx a dx fs)] : Wk (aIsXA i a dx X α k) (k (.d (.bool true))) := ⟨fun h => ⟨_, v.e, h⟩⟩
end
end UW
namespace UW
open PySem PySem.Spec PyProof.Rows L2
section
variable {K : Fg} {E : WX} {te ti : TE} {e ei : AEx} {i j : Nat}
end
end UW
namespace UW
open PySem PySem.Spec PyProof.Rows L2
section
variable {X : Cx} {a b c d : Expr} {ta tb tc td : TE} {pos : Pos}
end
section
variable {K : Fg} {E : WX}
def aChain3 (g g' g'' : AO2) (a b c d : AEx) : ATx := fun X α k => a X α fun x => b X α fun y => g x y fun z => ∃ p, z = .d (.bool p) ∧ if p = true then c X α fun w => g' y w fun z2 => ∃ p2, z2 = .d (.bool p2) ∧ if p2 = true then d X α fun u => g'' w u fun z3 => ∃ p3, z3 = .d (.bool p3) ∧ k p3 else k false else k false
theorem a_chain3 {g g' g'' : AO2} {a b c d : AEx} {X : AXr} {α : Afr} {k : Bool → Prop} (h : a X α fun x => b X α fun y => g x y fun z => ∃ p, z = .d (.bool p) ∧ if p = true then c X α fun w => g' y w fun z2 => ∃ p2, z2 = .d (.bool p2) ∧ if p2 = true then d X α fun u => g'' w u fun z3 => ∃ p3, z3 = .d (.bool p3) ∧ k p3 else k false else k false) : aChain3 g g' g'' a b c d X α k := h
end
section
variable {prog : Program} {w : World} {A : Around} {E : Value → Shared → Prop} {s : Shared}
end
section
variable {X : Cx}
end
/-- x[a], x[b] = v, w -/
def aDPut2 (i : Nat) (e e' ek ek' : AEx) : ASt := fun A α => e A.er α fun x => ∃ x', x.cl = some x' ∧ e' A.er α fun y => ∃ y', y.cl = some y' ∧ ∃ c, α[i]? = some (.dic c) ∧ ek A.er α fun ak => ∃ c', DPutA c ak x' c' ∧ ek' A.er (α.set i (.dic c')) fun ak' => ∃ c2, DPutA c' ak' y' c2 ∧ A.nx ((α.set i (.dic c')).set i (.dic c2))
section
variable {K : Fg} {E : WX} {i : Nat}
theorem a_dput2 {e e' ek ek' : AEx} {A : AEn} {α : Afr} (h : e A.er α fun x => ∃ x', x.cl = some x' ∧ e' A.er α fun y => ∃ y', y.cl = some y' ∧ ∃ c, α[i]? = some (.dic c) ∧ ek A.er α fun ak => ∃ c', DPutA c ak x' c' ∧ ek' A.er (α.set i (.dic c')) fun ak' => ∃ c2, DPutA c' ak' y' c2 ∧ A.nx ((α.set i (.dic c')).set i (.dic c2))) : aDPut2 i e e' ek ek' A α := h
end
/-- len of a slot's dict -/
def aLenDV (i : Nat) : AEx := fun _ α k => ∃ kvs, α[i]? = some (.dic (.k kvs)) ∧ k (.d (.int kvs.length))
theorem a_lenDV {i : Nat} {kvs : List (L2.Key × PyData)} {X : AXr} {α : Afr} {k : Avl → Prop} (e : α[i]? = some (.dic (.k kvs))) (h : k (.d (.int kvs.length))) : aLenDV i X α k := ⟨kvs, e, h⟩
instance {g g' g'' : AO2} {a b c d : AEx} {X : AXr} {α : Afr} {k : Bool → Prop} : Wk (aChain3 g g' g'' a b c d X α k) (a X α fun x => b X α fun y => g x y fun z => ∃ p, z = .d (.bool p) ∧ if p = true then c X α fun w => g' y w fun z2 => ∃ p2, z2 = .d (.bool p2) ∧ if p2 = true then d X α fun u => g'' w u fun z3 => ∃ p3, z3 = .d (.bool p3) ∧ k p3 else k false else k false) := ⟨fun h => a_chain3 h⟩
instance {e e' ek ek' : AEx} {A : AEn} {α : Afr} : Wk (aDPut2 i e e' ek ek' A α) (e A.er α fun x => ∃ x', x.cl = some x' ∧ e' A.er α fun y => ∃ y', y.cl = some y' ∧ ∃ c, α[i]? = some (.dic c) ∧ ek A.er α fun ak => ∃ c', DPutA c ak x' c' ∧ ek' A.er (α.set i (.dic c')) fun ak' => ∃ c2, DPutA c' ak' y' c2 ∧ A.nx ((α.set i (.dic c')).set i (.dic c2))) := ⟨fun h => a_dput2 h⟩
instance {i : Nat} {X : AXr} {α : Afr} {k : Avl → Prop} : Rs (aLenDV i X α k) 5 := ⟨trivial⟩
end UW
namespace UW
open PySem PySem.Spec PyProof.Rows L2
section
variable {X : Cx}
end
end UW
namespace UW
open PySem PySem.Spec PyProof.Rows L2
section
variable {K : Fg} {E : WX} {te ti te2 : TE} {e ei e2 : AEx} {i j : Nat}
def aAppPop (i j : Nat) (e : AEx) : ASt := fun A α => ∃ ds rest, α[i]? = some (.own ds) ∧ α[j]? = some (.own rest) ∧ i ≠ j ∧ e A.er α fun av => ∃ (n : Nat) (x : PyData), av = .d (.int n) ∧ rest[n]? = some x ∧ n < 100000 ∧ ds.length < 100000 ∧
  A.nx ((α.set j (.own (rest.eraseIdx n))).set i (.own (ds ++ [x])))
theorem rs_appPop (h1 : REx K E te e) : RSt K E (tDrop (tBM K "list" rAppend (tVar i) (tCons (tBM K "list" rPopAt (tVar j) (tCons te tNil)) tNil))) (aAppPop i j e) := by
  intro W H0 S0 O S α σ H A D f ⟨ds, rest, h0, h0', hij, h⟩ l
  obtain ⟨p, vs, a, b, c, d, hi, nw, ln⟩ := own_at f h0
  obtain ⟨p2, vs2, a2, b2, c2, d2, hi2, nw2, ln2⟩ := own_at f h0'
  have ne : p ≠ p2 := fun z => hij ((f.o j p2 a2).2.2.2 i (by rw [a, z]))
  refine ⟨_, b, o_tyL c ?_⟩
  refine ⟨_, b2, o_tyL c2 ?_⟩
  refine h1 f h l.er fun v av S1 H1 m r ⟨n, x, ev, hx, hl, hd, k⟩ => ?_
  subst ev
  cases r
  have c' := own_mv f m a c
  have c2' := own_mv f m a2 c2
  have f2 := f.mv m
  have od1 := m.ods f.k.w (fun b z => (f.k.t b z).2) d
  have od2 := m.ods f.k.w (fun b z => (f.k.t b z).2) d2
  obtain ⟨y, hy, oy⟩ := od2.nth hx
  obtain ⟨g, ke⟩ := f2.chg a2 b2 c2' (od2.erase n) hi2
  refine o_popAt c2' rfl hy hl fun H2 aa => ?_
  have e2 : H2 = upd H1 p2 (.lst (vs2.eraseIdx n)) := by
    funext q
    by_cases z : q = p2
    · rw [z, upd_same]; exact aa.1
    · rw [upd_ne z]; exact aa.2 q z
  rw [e2]
  have c'' : upd H1 p2 (.lst (vs2.eraseIdx n)) p = some (.lst vs) := by rw [upd_ne ne]; exact c'
  obtain ⟨g2, ke2⟩ := g.chg (i := i) a b c'' ((ke.ods od1).append (.cons (ke.od oy) .nil)) (by rw [List.length_set]; exact hi)
  exact ⟨p, vs, y, rfl, rfl, c'', Nat.lt_of_lt_of_le (by omega) (show 100000 ≤ sizeLine by decide), l.nx O S1 _ σ _ (((m.kee f.k).trans ke).trans ke2) g2 k⟩
def aSetIN (i j : Nat) (e e2 ei : AEx) : ASt := fun A α => e A.er α fun av => ∃ x, av.cl = some x ∧ e2 A.er α fun bv => ∃ y, bv.cl = some y ∧ ∃ ds, α[i]? = some (.own ds) ∧ ei A.er α fun ai => ∃ (z : Int) (n : Nat), ai = .d (.int z) ∧ ixN ds.length z = some n ∧
  A.nx ((α.set i (.own (ds.set n x))).set j (.d y))
end
def aTryM (C : Addr) (b s : ASt) : ASt := fun A α => b { A with er := fun α' C' f => C' = C ∧ f = none ∧ s A α' } α
section
variable {K : Fg} {E : WX} {C : Addr}
theorem a_tryM {b s : ASt} {A : AEn} {α : Afr} (h : b { A with er := fun α' C' f => C' = C ∧ f = none ∧ s A α' } α) : aTryM C b s A α := h
theorem a_appPop {i j : Nat} {e : AEx} {A : AEn} {α : Afr} (h : ∃ ds rest, α[i]? = some (.own ds) ∧ α[j]? = some (.own rest) ∧ i ≠ j ∧ e A.er α fun av => ∃ (n : Nat) (x : PyData), av = .d (.int n) ∧ rest[n]? = some x ∧ n < 100000 ∧ ds.length < 100000 ∧
  A.nx ((α.set j (.own (rest.eraseIdx n))).set i (.own (ds ++ [x])))) : aAppPop i j e A α := h
theorem a_setIN {i j : Nat} {e e2 ei : AEx} {A : AEn} {α : Afr} (h : e A.er α fun av => ∃ x, av.cl = some x ∧ e2 A.er α fun bv => ∃ y, bv.cl = some y ∧ ∃ ds, α[i]? = some (.own ds) ∧ ei A.er α fun ai => ∃ (z : Int) (n : Nat), ai = .d (.int z) ∧ ixN ds.length z = some n ∧
  A.nx ((α.set i (.own (ds.set n x))).set j (.d y))) : aSetIN i j e e2 ei A α := h
end
instance {b s : ASt} {A : AEn} {α : Afr} : Wk (aTryM C b s A α) (b { A with er := fun α' C' f => C' = C ∧ f = none ∧ s A α' } α) := ⟨fun h => a_tryM h⟩
instance {i j : Nat} {e e2 ei : AEx} {A : AEn} {α : Afr} : Wk (aSetIN i j e e2 ei A α) (e A.er α fun av => ∃ x, av.cl = some x ∧ e2 A.er α fun bv => ∃ y, bv.cl = some y ∧ ∃ ds, α[i]? = some (.own ds) ∧ ei A.er α fun ai => ∃ (z : Int) (n : Nat), ai = .d (.int z) ∧ ixN ds.length z = some n ∧ A.nx ((α.set i (.own (ds.set n x))).set j (.d y))) := ⟨fun h => a_setIN h⟩
end UW
namespace UW
open PySem PySem.Spec PyProof.Rows L2
def dT (p : (Int × Int) × Int) : PyData := .tuple [.int p.1.1, .int p.1.2, .int p.2]
def iT (p : (Int × Int) × Int) : List Int := [p.1.1, p.1.2, p.2]
/-- the order of threes -/
def leT (p q : (Int × Int) × Int) : Prop := p.1.1 < q.1.1 ∨ (p.1.1 = q.1.1 ∧ (p.1.2 < q.1.2 ∨ (p.1.2 = q.1.2 ∧ p.2 ≤ q.2)))
def inB (p : (Int × Int) × Int) : Prop := (0 ≤ p.1.1 ∧ p.1.1 < 64) ∧ (0 ≤ p.1.2 ∧ p.1.2 < 64) ∧ (0 ≤ p.2 ∧ p.2 < 64)
def gSortT : AOn := fun as k => ∃ (a : Avl) (rs : List ((Int × Int) × Int)), as = [a] ∧ a.lst = some (rs.map dT) ∧ rs.length < 64 ∧ (∀ r ∈ rs, inB r) ∧ ∀ qs : List ((Int × Int) × Int), qs.Perm rs → qs.Pairwise leT → k (.l (qs.map dT))
theorem flat_dTs : ∀ rs : List ((Int × Int) × Int), flatDs (rs.map dT) = true
  | [] => by simp [flatDs]
  | p :: rs => by simp [flatDs, flatD, dT, flat_dTs rs]
theorem tp_dT {K : Fg} {H : Hp} {v : V} {p : (Int × Int) × Int} (h : Tp K H v (dT p)) : TupI K H v (iT p) ∧ ∃ t, v = .ref t ∧ SqT K H t ((iT p).map V.int) := by
  obtain ⟨t, xs, rfl, h1, h2⟩ := Tp.tup_inv h
  have e : xs = (iT p).map V.int := Tps.ints (ns := iT p) h2
  subst e
  exact ⟨⟨t, rfl, h1.up⟩, t, rfl, h1⟩
theorem tps_perm {K : Fg} {H : Hp} {κ : Type} {f : κ → PyData} {ys xs : List V} (pm : ys.Perm xs) : ∀ {rs : List κ}, Tps K H xs (rs.map f) → ∃ qs : List κ, qs.Perm rs ∧ Tps K H ys (qs.map f) := by
  induction pm with
  | nil =>
    intro rs h
    cases rs with
    | nil => exact ⟨[], .refl _, .nil⟩
    | cons p rs => cases h
  | cons x _ ih =>
    intro rs h
    cases rs with
    | nil => cases h
    | cons p rs =>
      cases h with
      | cons h1 h2 =>
        obtain ⟨qs, h3, h4⟩ := ih h2
        exact ⟨p :: qs, h3.cons p, .cons h1 h4⟩
  | swap x y l =>
    intro rs h
    cases rs with
    | nil => cases h
    | cons p rs =>
      cases h with
      | cons h1 h2 =>
        cases rs with
        | nil => cases h2
        | cons q rs =>
          cases h2 with
          | cons h2 h3 => exact ⟨q :: p :: rs, .swap .., .cons h2 (.cons h1 h3)⟩
  | trans _ _ ih1 ih2 =>
    intro rs h
    obtain ⟨qs, a, b⟩ := ih2 h
    obtain ⟨ts, c, d⟩ := ih1 b
    exact ⟨ts, c.trans a, d⟩
theorem leT_of {p q : (Int × Int) × Int} (hp : inB p) (hq : inB q) (h : TS.code 64 (iT p) ≤ TS.code 64 (iT q)) : leT p q := by
  have e : ∀ r : (Int × Int) × Int, TS.code 64 (iT r) = r.1.1 * 4096 + (r.1.2 * 64 + r.2) := by
    intro r
    unfold iT
    simp only [TS.code, List.length_cons, List.length_nil]
    have : (64 : Int) ^ (0 + 1 + 1) = 4096 := by decide
    have h2 : (64 : Int) ^ (0 + 1) = 64 := by decide
    have h3 : (64 : Int) ^ 0 = 1 := by decide
    rw [this, h2, h3]
    omega
  rw [e, e] at h
  unfold leT
  unfold inB at hp hq
  omega
theorem tps_pw {K : Fg} {H : Hp} {R : (Int × Int) × Int → (Int × Int) × Int → Prop} {S : V → V → Prop} (hS : ∀ x y p q, Tp K H x (dT p) → Tp K H y (dT q) → inB p → inB q → S x y → R p q) : ∀ {ys : List V} {qs : List ((Int × Int) × Int)}, Tps K H ys (qs.map dT) → (∀ q ∈ qs, inB q) → ys.Pairwise S → qs.Pairwise R
  | _, [], _, _, _ => .nil
  | ys, q :: qs, h, b, pw => by
    obtain ⟨v, vs, rfl, h1, h2⟩ := Tps.cons_inv h
    obtain ⟨p1, p2⟩ := List.pairwise_cons.mp pw
    refine List.pairwise_cons.mpr ⟨fun r hr => ?_, tps_pw hS h2 (fun z hz => b z (List.mem_cons_of_mem _ hz)) p2⟩
    obtain ⟨i, hi, ei⟩ := List.mem_iff_getElem.mp hr
    obtain ⟨x, hx, tx⟩ := h2.at (i := i) (d := dT r) (by rw [List.getElem?_map, List.getElem?_eq_getElem hi, ei]; rfl)
    exact hS v x q r h1 tx (b q (List.mem_cons_self ..)) (b r (List.mem_cons_of_mem _ hr)) (p1 x (List.mem_of_getElem? hx))
theorem rb_sortT {K : Fg} : RCb K (rSortU K 3 64) gSortT := by
  intro W Hs O S H xs as k Q ok r ⟨a, rs, e, h, h64, hb, hk⟩ q
  subst e
  obtain ⟨v, rfl, r1⟩ := one_inv r
  obtain ⟨p, vs, rfl, a, o⟩ := r1.lst h
  have t := o.tps (flat_dTs rs)
  have lv := t.length
  rw [List.length_map] at lv
  refine ⟨p, vs, rfl, SqL.of a, by omega, fun x hx => ?_, fun ys d pm pw hd => ?_⟩
  · obtain ⟨i, hi, rfl⟩ := List.mem_iff_getElem.mp hx
    obtain ⟨d, hd, td⟩ := t.get (List.getElem?_eq_getElem hi)
    rw [List.getElem?_map] at hd
    cases e : rs[i]? with
    | none => rw [e] at hd; cases hd
    | some r =>
      rw [e] at hd
      obtain rfl : dT r = d := Option.some.inj hd
      have b := hb r (List.mem_of_getElem? e)
      refine ⟨iT r, (tp_dT td).1, rfl, fun m hm => ?_⟩
      unfold inB at b
      unfold iT at hm
      simp only [List.mem_cons, List.not_mem_nil, or_false] at hm
      rcases hm with rfl | rfl | rfl <;> omega
  · obtain ⟨qs, h1, h2⟩ := tps_perm pm t
    have hb' : ∀ r ∈ qs, inB r := fun r hr => hb r (h1.mem_iff.mp hr)
    refine Rst.new q ok h2.ods (hk qs h1 (tps_pw (fun x y m n hx hy bm bn hc => leT_of bm bn (hc _ _ (tp_dT hx).1 (tp_dT hy).1)) h2 hb' pw)) d hd
end UW
namespace UW
open PySem PySem.Spec PyProof.Rows L2
section
variable {X : Cx} {a : Expr} {ta : TE} {x : Str} {ns : List Int} {p1 p2 : Pos}
end
end UW
namespace UW
open PySem PySem.Spec PyProof.Rows L2
section
variable {K : Fg} {E : WX} {ta tb : TE} {a b : AEx}
def aIdx (a b : AEx) : AEx := fun X α k => a X α fun x => ∃ ns : List Int, x.lst = some (ns.map .int) ∧ b X α fun y => ∃ (i : Int) (j : Nat), y = .d (.int i) ∧ ns[j]? = some i ∧ (∀ m, m < j → ns[m]? ≠ some i) ∧ k (.d (.int (j : Int)))
theorem a_idx {X : AXr} {α : Afr} {k : Avl → Prop} (h : a X α fun x => ∃ ns : List Int, x.lst = some (ns.map .int) ∧ b X α fun y => ∃ (i : Int) (j : Nat), y = .d (.int i) ∧ ns[j]? = some i ∧ (∀ m, m < j → ns[m]? ≠ some i) ∧ k (.d (.int (j : Int)))) : aIdx a b X α k := h
end
instance {X : AXr} {α : Afr} {k : Avl → Prop} : Wk (aIdx a b X α k) (a X α fun x => ∃ ns : List Int, x.lst = some (ns.map .int) ∧ b X α fun y => ∃ (i : Int) (j : Nat), y = .d (.int i) ∧ ns[j]? = some i ∧ (∀ m, m < j → ns[m]? ≠ some i) ∧ k (.d (.int (j : Int)))) := ⟨fun h => a_idx h⟩
end UW
namespace UW
open PySem PySem.Spec PyProof.Rows L2
def agLst (n : Nat) (r : ATgs) : ATg := fun x α k => ∃ ds, x = .list ds ∧ ds.length = n ∧ r ds α k
section
variable {K : Fg} {n : Nat} {gs : TGs} {ags : ATgs} {is : List Nat}
theorem a_glst {d : PyData} {α : Afr} {ds : List PyData} {gs : ATgs} {Q : Afr → Prop} (e : d = .list ds) (h : ds.length = n) (q : gs ds α Q) : agLst n gs d α Q := ⟨ds, e, h, q⟩
theorem rs_set3 {n : Nat} {te' te2 : TE} {e' e2 : AEx} (h1 : REx K E te e) (h2 : REx K E te' e') (h3 : REx K E te2 e2) : RSt K E (tPar3 i j n (tCons te (tCons te' (tCons te2 tNil)))) (aSet3 i j n e e' e2) := by
  intro W H0 S0 O S α σ H A D f h l
  refine h1 f h l.er fun v av S1 H1 m r h' => ?_
  have f1 := f.mv m
  refine h2 f1 h' (l.er.kee (m.kee f.k)) fun u au S2 H2 m2 r2 h'' => ?_
  have f2 := f1.mv m2
  refine h3 f2 h'' (l.er.kee ((m.trans m2).kee f.k)) fun t at' S3 H3 m3 r3 ⟨z, w, z2, hz, hw, hz2, k⟩ => ?_
  have f4 := f2.mv m3
  obtain ⟨O1, g1, o1⟩ := store_av (i := i) f4 ((r.mv f1.k m2).mv f2.k m3) hz (fun b q => f.back q) fun j p e => (f.o j p e).2.1
  have old1 := own_old f1 r o1
  have r2' : Vrp K W H1 O1 S3 H3 u au := by
    have := r2.mv f2.k m3
    cases au with
    | b k ds => cases hw
    | d x => exact this
    | l ds => exact this
    | k c => exact this
    | wl u => exact this
  obtain ⟨O2, g2, o2⟩ := store_av (i := j) g1 r2' hw (fun b q => f1.back q) old1
  have old2 : ∀ j p, O2 j = some p → H2 p ≠ none := by
    intro j p e
    rcases o2 j p e with q | ⟨q, rfl⟩
    · exact fun y => old1 j p q (m2.back y)
    · cases au with
      | l ds =>
        obtain ⟨p', vs, e', a1, _⟩ := r2
        cases e'
        rw [a1]
        intro y
        cases y
      | k c =>
        obtain ⟨p', e', a1, _⟩ := r2
        cases e'
        exact a1.ne
      | d x => cases q
      | b i ds => cases q
      | wl u => cases q
  have r3' : Vrp K W H2 O2 S3 H3 t at' := by
    have := r3
    cases at' with
    | b k ds => cases hz2
    | d x => exact this
    | l ds => exact this
    | k c => exact this
    | wl u => exact this
  obtain ⟨O3, g3, _⟩ := store_av (i := n) g2 r3' hz2 (fun b q => f2.back q) old2
  exact ⟨v, u, t, rfl, l.nx O3 S3 _ _ _ (((m.trans m2).trans m3).kee f.k) g3 k⟩
/-- tuple(range(n)) -/
def aTupRg (e : AEx) : AEx := fun X α k => e X α fun x => ∃ n : Int, x = .d (.int n) ∧ -1000000 ≤ n ∧ n ≤ 1000000 ∧ k (.d (.tuple ((iota n.toNat).map .int)))
theorem a_tupRg {X : AXr} {α : Afr} {k : Avl → Prop} {e : AEx} (h : e X α fun x => ∃ n : Int, x = .d (.int n) ∧ -1000000 ≤ n ∧ n ≤ 1000000 ∧ k (.d (.tuple ((iota n.toNat).map .int)))) : aTupRg e X α k := h
end
instance {X : AXr} {α : Afr} {k : Avl → Prop} {e : AEx} : Wk (aTupRg e X α k) (e X α fun x => ∃ n : Int, x = .d (.int n) ∧ -1000000 ≤ n ∧ n ≤ 1000000 ∧ k (.d (.tuple ((iota n.toNat).map .int)))) := ⟨fun h => a_tupRg h⟩
instance {n : Nat} {ds : List PyData} {gs : ATgs} {α : Afr} {Q : Afr → Prop} [v : CLen ds n] : Wk (agLst n gs (.list ds) α Q) (gs ds α Q) := ⟨fun h => a_glst rfl v.e h⟩
instance {n : Nat} {d : PyData} {gs : ATgs} {α : Afr} {Q : Afr → Prop} : Rs (agLst n gs d α Q) 1 := ⟨trivial⟩
end UW
namespace UW
open PySem PySem.Spec PyProof.Rows L2
section
variable {X : Cx}
theorem tps_len {K : Fg} {H : Hp} : ∀ {xs : List V} {ds : List PyData}, Tps K H xs ds → xs.length = ds.length
  | _, _, .nil => rfl
  | _, _, .cons _ t => by rw [List.length_cons, List.length_cons, tps_len t]
end
end UW
namespace UW
open PySem PySem.Spec PyProof.Rows L2
/-- as many as differ -/
def Dif (ns : List Int) (c : Nat) : Prop := ∃ ks : List Int, ks.Nodup ∧ ks.length = c ∧ ∀ k, k ∈ ks ↔ k ∈ ns
section
variable {X : Cx}
end
def gIsT : AO2 := fun x y k => ∃ a b, x = .d (.bool a) ∧ y = .d (.bool b) ∧ k (.d (.bool (decide (a = b))))
def gNotT : AO2 := fun x y k => ∃ a b, x = .d (.bool a) ∧ y = .d (.bool b) ∧ k (.d (.bool (!decide (a = b))))
instance {a b : Bool} {k : Avl → Prop} : Wk (gIsT (.d (.bool a)) (.d (.bool b)) k) (k (.d (.bool (decide (a = b))))) := ⟨fun h => ⟨a, b, rfl, rfl, h⟩⟩
instance {a b : Bool} {k : Avl → Prop} : Wk (gNotT (.d (.bool a)) (.d (.bool b)) k) (k (.d (.bool (!decide (a = b))))) := ⟨fun h => ⟨a, b, rfl, rfl, h⟩⟩
section
variable {K : Fg} {E : WX} {te : TE} {e : AEx}
def aLenSetT (e : AEx) : AEx := fun X α k => e X α fun x => ∃ ns : List Int, x.tup = some (ns.map .int) ∧ ns.length ≤ 4000 ∧ ∀ c : Nat, Dif ns c → k (.d (.int (c : Nat)))
instance {X : AXr} {α : Afr} {k : Avl → Prop} : Wk (aLenSetT e X α k) (e X α fun x => ∃ ns : List Int, x.tup = some (ns.map .int) ∧ ns.length ≤ 4000 ∧ ∀ c : Nat, Dif ns c → k (.d (.int (c : Nat)))) := ⟨fun h => h⟩
end
end UW
namespace UW
open PySem PySem.Spec PyProof.Rows L2
structure SK (α : Type) where
  enc : α → PyData
  fl : α → List Int
  shp : ∀ a, ∃ x r, enc a = .tuple (x :: r)
  al : ∀ a b, PySem.W.alike (enc a) (enc b) = true
  lt : ∀ a b, PySem.W.dataLt (enc a) (enc b) = decide (fl a < fl b)
  dp : ∀ a, (enc a).depth ≤ 4
  tp : ∀ a, flatD (enc a) = true
section
variable {α : Type} (S : SK α)
def rSortK (K : Fg) : List V → Hp → VK → Prop := fun vs H Q => ∃ (a : Addr) (xs : List V) (rs : List α), vs = [V.ref a] ∧ SqL K H a xs ∧ Tps K H xs (rs.map S.enc) ∧
  ∀ (ys : List V) (qs : List α), qs.Perm rs → qs.Pairwise (fun p q => S.fl p ≤ S.fl q) → Tps K H ys (qs.map S.enc) → New Q H (.lst ys)
def enKk (b : V × α) : PyData := S.enc b.2
theorem dataLe_K : PySem.W.dataLe false (enKk S) = fun p q => decide (S.fl p.2 ≤ S.fl q.2) := by
  funext p q
  show (!PySem.W.dataLt (S.enc q.2) (S.enc p.2)) = _
  rw [S.lt]
  by_cases h : S.fl q.2 < S.fl p.2
  · rw [decide_eq_true h, decide_eq_false (fun z => (List.not_lt.mpr z) h)]; rfl
  · rw [decide_eq_false h, decide_eq_true (List.not_lt.mp h)]; rfl
theorem leK_pw (l : List (V × α)) : ((l.mergeSort fun p q => decide (S.fl p.2 ≤ S.fl q.2)).map (·.2)).Pairwise (fun p q => S.fl p ≤ S.fl q) := by
  rw [List.pairwise_map]
  have := List.pairwise_mergeSort (le := fun (p q : V × α) => decide (S.fl p.2 ≤ S.fl q.2)) (fun a b c h1 h2 => decide_eq_true (List.le_trans (of_decide_eq_true h1) (of_decide_eq_true h2))) (fun a b => by
    rw [← Bool.decide_or]
    exact decide_eq_true (List.le_total _ _)) l
  exact this.imp fun h => of_decide_eq_true h
theorem each_valsK : ∀ {xs : List V} {us : List Value} {rs : List α}, Vals xs us → xs.length = rs.length → PySem.W.EachIs (fun (v : Value) (b : V × α) => RelV b.1 v) us (xs.zip rs)
  | [], _, [], .nil, _ => .nil
  | x :: xs, _, r :: rs, .cons h t, hl => .cons h (each_valsK t (by simpa using hl))
theorem vals_eachK : ∀ {us : List Value} {bs : List (V × α)}, PySem.W.EachIs (fun (v : Value) (b : V × α) => RelV b.1 v) us bs → Vals (bs.map (·.1)) us
  | _, _, .nil => .nil
  | _, _, .cons h t => .cons h (vals_eachK t)
section
variable {X : Cx}
theorem each_readsK {pins : List (Addr × Obj)} {σ : L2.St} {H : Hp} {s : Shared} (I : Inv X pins σ H s) : ∀ {xs : List V} {us : List Value} {rs : List α}, Vals xs us → Tps X.K H xs (rs.map S.enc) → PySem.W.EachIs (fun (v : Value) (b : V × α) => ∃ as, Reads s.heap v (enKk S b) as) us (xs.zip rs)
  | _, _, [], .nil, _ => .nil
  | _, _, [], .cons h t, tx => by cases tx
  | _, _, r :: rs, .nil, tx => by cases tx
  | x :: xs, u :: us, r :: rs, .cons h t, tx => by
    obtain ⟨v, vs, e, t1, t2⟩ := Tps.cons_inv tx
    cases e
    exact .cons (Dp.reads I (S.enc r) _ _ t1.dp h) (each_readsK I t t2)
theorem tps_zipK {K : Fg} {H : Hp} : ∀ {xs : List V} {rs : List α}, Tps K H xs (rs.map S.enc) → ∀ b ∈ xs.zip rs, Tp K H b.1 (S.enc b.2)
  | _, [], tx, b, hb => by simp at hb
  | _, r :: rs, tx, b, hb => by
    obtain ⟨v, vs, e, t1, t2⟩ := Tps.cons_inv tx
    cases e
    rw [List.zip_cons_cons] at hb
    rcases List.mem_cons.mp hb with rfl | hb
    · exact t1
    · exact tps_zipK t2 b hb
theorem tps_allK {K : Fg} {H : Hp} : ∀ {bs : List (V × α)}, (∀ b ∈ bs, Tp K H b.1 (S.enc b.2)) → Tps K H (bs.map (·.1)) ((bs.map (·.2)).map S.enc)
  | [], _ => .nil
  | b :: bs, h => .cons (h b (List.mem_cons_self ..)) (tps_allK fun c hc => h c (List.mem_cons_of_mem _ hc))
theorem cr_sortK (hu : X.A.units + 65 < cLine) : CallR X (.builtin "sorted") (rSortK S X.K) := by
  intro pins s σ H vs us Q I r h
  obtain ⟨a, xs, rs, rfl, hs, tx, q⟩ := h
  obtain ⟨its, rv, hl, hz⟩ := I.list hs
  obtain ⟨u, rfl, ru⟩ := vals1 r
  obtain rfl : u = Value.ref a := ru
  have lx : xs.length = rs.length := by rw [tps_len tx, List.length_map]
  have lz : (xs.zip rs).length = xs.length := by rw [List.length_zip, lx, Nat.min_self]
  refine PySem.W.sorted_data (enc := enKk S) hl.isList (each_valsK rv lx) (each_readsK S I rv tx) (PySem.W.AllAlike.of fun b b' => S.al _ _) (PySem.W.Sortable.tuples fun b => S.shp _) (by rw [lz]; exact hz) (fun b _ => ?_) fun out ho eo => ?_
  · have : (enKk S b).depth ≤ 4 := S.dp _
    omega
  · rw [dataLe_K] at eo
    have pm : ((xs.zip rs).mergeSort fun p q => decide (S.fl p.2 ≤ S.fl q.2)).Perm (xs.zip rs) := List.mergeSort_perm _ _
    obtain ⟨c, hc⟩ := PyProof.Rows.sortedAll_at s.heap its out.toArray
    have ro := vals_eachK eo
    refine ⟨.ref (s.heap.objs.size + 1), upd H (s.heap.objs.size + 1) (.lst (((xs.zip rs).mergeSort fun p q => decide (S.fl p.2 ≤ S.fl q.2)).map (·.1))), I.laid (t' := s.toks) (fun b o e => PyProof.Rows.sortedAll_old e) (Nat.le_succ _) ⟨?_, out, c, ro, ?_⟩, rfl,
      q _ (((xs.zip rs).mergeSort fun p q => decide (S.fl p.2 ≤ S.fl q.2)).map (·.2)) ?_ (leK_pw S _) (tps_allK S fun b hb => tps_zipK S tx b (pm.mem_iff.mp hb)) _ (I.hok.fresh (Nat.le_succ _))⟩
    · rw [List.length_map, pm.length_eq, lz]; exact hz
    · exact hc
    · have := pm.map (·.2)
      rw [List.map_snd_zip (by omega)] at this
      exact this
end
def gSortK : AOn := fun as k => ∃ (a : Avl) (rs : List α), as = [a] ∧ a.lst = some (rs.map S.enc) ∧ ∀ qs : List α, qs.Perm rs → qs.Pairwise (fun p q => S.fl p ≤ S.fl q) → k (.l (qs.map S.enc))
theorem flat_dKs : ∀ rs : List α, flatDs (rs.map S.enc) = true
  | [] => by simp [flatDs]
  | p :: rs => by simp [flatDs, S.tp, flat_dKs rs]
theorem rb_sortK {K : Fg} : RCb K (rSortK S K) (gSortK S) := by
  intro W Hs O S' H xs as k Q ok r ⟨a, rs, e, h, hk⟩ q
  subst e
  obtain ⟨v, rfl, r1⟩ := one_inv r
  obtain ⟨p, vs, rfl, a, o⟩ := r1.lst h
  exact ⟨p, vs, rs, rfl, SqL.of a, o.tps (flat_dKs S rs), fun ys qs h1 h2 t => Rst.new q ok t.ods (hk qs h1 h2)⟩
end
theorem cons_lt_int (a b : Int) (as bs : List Int) : decide (a :: as < b :: bs) = if decide (a = b) = true then decide (as < bs) else decide (a < b) := by
  by_cases h : a = b
  · subst h
    rw [if_pos (decide_eq_true rfl)]
    exact decide_eq_decide.mpr (by rw [List.cons_lt_cons_iff]; constructor
                                   · rintro (h | ⟨_, h⟩)
                                     · omega
                                     · exact h
                                   · exact fun h => .inr ⟨rfl, h⟩)
  · rw [if_neg (by rw [decide_eq_false h]; simp)]
    exact decide_eq_decide.mpr (by rw [List.cons_lt_cons_iff]; constructor
                                   · rintro (h' | ⟨h', _⟩)
                                     · exact h'
                                     · exact absurd h' h
                                   · exact fun h => .inl h)
theorem dataLt_i (x y : Int) (xs ys : List PyData) : PySem.W.rowLt (.int x :: xs) (.int y :: ys) = if decide (x = y) = true then PySem.W.rowLt xs ys else decide (x < y) := by
  have e3 : PyData.eqv (.int x) (.int y) = decide (x = y) := by simp only [PyData.eqv]; first | rfl | exact beq_eq_decide _ _
  have := PySem.W.dataLt_cons (x := .int x) (y := .int y) (by simp [PySem.W.alike]) xs ys
  rw [e3, PySem.W.dataLt_int] at this
  exact this
theorem rowLt_nil : PySem.W.rowLt [] [] = false := by decide +kernel
theorem dataLt_tup (xs ys : List PyData) : PySem.W.dataLt (.tuple xs) (.tuple ys) = PySem.W.rowLt xs ys := by
  first
    | exact PySem.W.dataLt_tuple _ _
    | rw [PySem.W.dataLt_tuple]; rfl
end UW
namespace UW
open PySem PySem.Spec PyProof.Rows L2
def tDisp1T (tk tv : TE) : TE := fun σ H Q => ∀ p, H p = none → tPairs [(tk, tv)] σ (upd H p (.dT [])) fun ps H2 => H2 p = some (.dT []) ∧ ∃ (n : List L2.Key) (b : Addr) (v : V), ps = [(.ref b, v)] ∧ H2 b = some (.tup (n.map kV)) ∧ Q (.ref p) (upd H2 p (.dT [(n, v)]))
theorem pe_disp1T {X : Cx} {pos : Pos} {ek ev : Expr} {tk tv : TE} (hu : X.A.units + 1 < cLine) (h1 : PE X ek tk) (h2 : PE X ev tv) : PE X (.Dict [some ek] [ev] pos) (tDisp1T tk tv) := by
  refine ⟨fun pins s σ H Q I q => ?_⟩
  have na : H s.heap.objs.size = none := I.hok.fresh (Nat.le_refl s.heap.objs.size)
  have J := I.laid (a := s.heap.objs.size) (o := .dT []) (h' := s.heap.push { cls := .type "dict", data := .dict #[] }) (t' := s.toks) (fun _ _ z => Heap.get?_push_of_some _ z) (Nat.le_refl _) (dt_empty s.heap I.big)
  have R := (pps_cons (pos := pos) h1 h2 pps_nil).run pins { s with heap := s.heap.push { cls := .type "dict", data := .dict #[] }, toks := s.toks } σ _ _ J (q _ na)
  rw [arm_eval_Dict, zip_pairTrees [some ek] [ev] X.env pos rfl rfl, dictDisplay_pairs (pairTrees [some ek] [ev] X.env pos) (by intro z; cases z) (by show 1 < 17; decide)]
  refine wpAny_bind (wpAny_standAt (wpAny_bind (wpAny_subDictH (knd := tupleKind (mixKind X.prog X.w)) (Q := fun d s' => wpAny (model X.prog X.w) X.A (pure (Value.ref d)) (EP X pins σ Q) X.xe s') (show X.A.units < cLine by omega) (by show 1 ≤ 15; decide) ?_)))
  refine thn R fun us s2 g => ?_
  obtain ⟨ps, H2, I2, rel, e, n, b, v, rfl, hb, q2⟩ := g
  obtain ⟨z, hd, xs, kt, dd⟩ := dt_of I2.hok e
  cases kt
  rcases rel with _ | ⟨r1, r2⟩
  rcases r2
  rename_i u
  obtain ⟨uk, uv⟩ := u
  obtain ⟨ra, rb⟩ := r1
  cases (show uk = Value.ref b from ra)
  refine ⟨[(n, b, uv)], ⟨rfl, rfl, key_of I2.hok hb, trivial⟩, dd, fun h' tk' d2 sb => wpAny_pure ⟨.ref s.heap.objs.size, _, ?_, rfl, q2⟩⟩
  obtain ⟨o, es, ep, g1, g2, g3, g4, _, g6⟩ := d2
  refine d_write I2 (by rw [e]; exact True.intro) sb ⟨o, g1⟩ ⟨by show 1 ≤ sizeLine; decide, hd, [(n, b, uv)], .cons ⟨rfl, ?_, rb⟩ .nil, o, es, ep, g1, g2, g3, g4, g6⟩
  rw [upd_ne (ne_of hb e (fun z => nomatch z))]
  exact hb
section
variable {K : Fg} {E : WX} {te te2 : TE} {e e2 : AEx} {i j : Nat}
def aDOneT (e e2 : AEx) : AEx := fun X α k => e X α fun x => e2 X α fun y => ∃ (n : List L2.Key) (z : PyData), x = .d (.tuple (n.map kD)) ∧ y = .d z ∧ k (.k (.t [(n, z)]))
theorem re_doneT (h1 : REx K E te e) (h2 : REx K E te2 e2) : REx K E (tDisp1T te te2) (aDOneT e e2) := by
  intro W H0 S0 O S α σ H X k Q f h lk q p np
  have m0 := f.k.same (Same.new (o := .dT []) np)
  have f0 := f.mv m0
  refine h1 f0 h (lk.kee (m0.kee f.k)) fun v av S1 H1 m1 r1 h' => ?_
  have f1 := f0.mv m1
  have m01 := m0.trans m1
  refine h2 f1 h' (lk.kee (m01.kee f.k)) fun u au S2 H2 m2 r2 ⟨n, z, ex, ey, hk⟩ => ?_
  subst ex
  subst ey
  have m12 := m1.trans m2
  have m02 := m0.trans m12
  have nwp : ¬ W.has p := Wel.ne f.k.w np
  have hp : H2 p = some (.dT []) := m12.k _ _ upd_same nwp
  have nS : ¬ S2 p := fun y => by
    rcases m12.n p y with y | y
    · exact (f.k.t p y).1 np
    · rw [upd_same] at y; cases y
  have r1' := r1.mv f1.k m2
  obtain ⟨b, us, rfl, a1, o1⟩ := r1'.tup (ds := n.map kD) rfl
  rw [keys_inv o1] at a1
  have r2' : Od K S2 H2 u z := r2
  refine ⟨hp, n, b, u, rfl, a1, ?_⟩
  have tm : Tm H2 (upd H2 p (.dT [(n, u)])) := fun a xs y => by
    by_cases e : a = p
    · rw [e, hp] at y; cases y
    · rw [upd_ne e]; exact y
  have fin : Mvh W S H S2 (upd H2 p (.dT [(n, u)])) := by
    refine ⟨fun b o y w => ?_, fun on => ?_, m02.s, m02.n, fun b y => ?_⟩
    · rw [upd_ne fun e => by rw [e, np] at y; cases y]
      exact m02.k b o y w
    · exact m02.w.put nwp on
    · rw [upd_ne fun e => nS (by rw [← e]; exact y)]
      exact m02.t b y
  have ou : Od K S2 (upd H2 p (.dT [(n, u)])) u z := r2'.mv tm fun a o ga y => ⟨ga, by rw [upd_ne fun e => nS (by rw [← e]; exact ga)]; exact y⟩
  exact q _ (.k (.t [(n, z)])) S2 _ fin ⟨p, rfl, ⟨[(n, u)], upd_same, .cons ⟨rfl, ou⟩ .nil⟩, nS, np, nwp⟩ hk
def dicD : Dic → PyData
  | .k kvs => .dict (kvs.map fun q => (kD q.1, q.2))
  | .t kvs => .dict (kvs.map fun q => (.tuple (q.1.map kD), q.2))
def Dic.ne : Dic → Prop
  | .k kvs => kvs ≠ []
  | .t kvs => kvs ≠ []
theorem kD_inj {a b : L2.Key} (h : kD a = kD b) : a = b := by
  cases a <;> cases b <;> simp [kD] at h <;> rw [h]
theorem kDs_inj : ∀ {a b : List L2.Key}, a.map kD = b.map kD → a = b
  | [], [], _ => rfl
  | [], _ :: _, h => by cases h
  | _ :: _, [], h => by cases h
  | x :: a, y :: b, h => by
    obtain ⟨h1, h2⟩ := List.cons.inj h
    rw [kD_inj h1, kDs_inj h2]
variable {S : Ads} {H : Hp}
theorem odk_of : ∀ {ls : List (L2.Key × V)} {kvs : List (L2.Key × PyData)}, Paired (PrD K S H) ls kvs → Odk K S H ls (kvs.map fun q => (kD q.1, q.2))
  | _, _, .nil => .nil
  | _, _, .cons (a := a) (b := b) r t => by
    obtain ⟨k, v⟩ := a
    obtain ⟨k', d⟩ := b
    obtain ⟨e, o⟩ := r
    have e' : k = k' := e
    subst e'
    exact .cons o (odk_of t)
theorem odt_of : ∀ {ls : List (List L2.Key × V)} {kvs : List (List L2.Key × PyData)}, Paired (PrD K S H) ls kvs → Odt K S H ls (kvs.map fun q => (.tuple (q.1.map kD), q.2))
  | _, _, .nil => .nil
  | _, _, .cons (a := a) (b := b) r t => by
    obtain ⟨k, v⟩ := a
    obtain ⟨k', d⟩ := b
    obtain ⟨e, o⟩ := r
    have e' : k = k' := e
    subst e'
    exact .cons o (odt_of t)
theorem odk_inv : ∀ {ls : List (L2.Key × V)} {kvs : List (L2.Key × PyData)} {D : List (PyData × PyData)}, Odk K S H ls D → D = (kvs.map fun q => (kD q.1, q.2)) → Paired (PrD K S H) ls kvs
  | _, [], _, .nil, _ => .nil
  | _, _ :: _, _, .nil, h => by cases h
  | _, [], _, .cons _ _, h => by cases h
  | _, q :: kvs, _, .cons o t, h => by
    obtain ⟨h1, h2⟩ := List.cons.inj h
    have e1 := kD_inj (Prod.mk.inj h1).1
    have e2 := (Prod.mk.inj h1).2
    subst e2
    exact .cons ⟨e1, o⟩ (odk_inv t h2)
theorem odt_inv : ∀ {ls : List (List L2.Key × V)} {kvs : List (List L2.Key × PyData)} {D : List (PyData × PyData)}, Odt K S H ls D → D = (kvs.map fun q => (.tuple (q.1.map kD), q.2)) → Paired (PrD K S H) ls kvs
  | _, [], _, .nil, _ => .nil
  | _, _ :: _, _, .nil, h => by cases h
  | _, [], _, .cons _ _, h => by cases h
  | _, q :: kvs, _, .cons o t, h => by
    obtain ⟨h1, h2⟩ := List.cons.inj h
    have e1 := kDs_inj (PyData.tuple.inj (Prod.mk.inj h1).1)
    have e2 := (Prod.mk.inj h1).2
    subst e2
    exact .cons ⟨e1, o⟩ (odt_inv t h2)
theorem DcR.od {p : Addr} {c : Dic} (h : DcR K S H p c) (g : S p) : Od K S H (.ref p) (dicD c) := by
  cases c with
  | k kvs => obtain ⟨ls, a, b⟩ := h; exact .dk g a (odk_of b)
  | t kvs => obtain ⟨ls, a, b⟩ := h; exact .dt g a (odt_of b)
theorem od_dic {v : V} {c : Dic} (h : Od K S H v (dicD c)) (ne : c.ne) : ∃ p, v = .ref p ∧ S p ∧ DcR K S H p c := by
  cases c with
  | k kvs =>
    obtain ⟨D, hD⟩ : ∃ D, (kvs.map fun q => (kD q.1, q.2)) = D := ⟨_, rfl⟩
    have h' : Od K S H v (.dict D) := by rw [← hD]; exact h
    cases h' with
    | dic g a => exact absurd (List.map_eq_nil_iff.mp hD) ne
    | @dic1 a j v d g a1 ho =>
      exact ⟨_, rfl, g, _, a1, odk_inv (ls := [(.inl j, v)]) (.cons (k := .inl j) ho .nil) hD.symm⟩
    | dk g a hs => exact ⟨_, rfl, g, _, a, odk_inv hs hD.symm⟩
    | dt g a hs =>
      cases hs with
      | nil => exact absurd (List.map_eq_nil_iff.mp hD) ne
      | cons o t =>
        cases kvs with
        | nil => cases hD
        | cons q kvs =>
          have := (Prod.mk.inj (List.cons.inj hD).1).1
          obtain ⟨k, d⟩ := q
          cases k <;> cases this
  | t kvs =>
    obtain ⟨D, hD⟩ : ∃ D, (kvs.map fun q => (PyData.tuple (q.1.map kD), q.2)) = D := ⟨_, rfl⟩
    have h' : Od K S H v (.dict D) := by rw [← hD]; exact h
    cases h' with
    | dic g a => exact absurd (List.map_eq_nil_iff.mp hD) ne
    | @dic1 a j v d g a1 ho =>
      cases kvs with
      | nil => cases hD
      | cons q kvs =>
        have := (Prod.mk.inj (List.cons.inj hD).1).1
        cases this
    | dk g a hs =>
      cases hs with
      | nil => exact absurd (List.map_eq_nil_iff.mp hD) ne
      | @cons k _ _ _ _ o t =>
        cases kvs with
        | nil => cases hD
        | cons q kvs =>
          have := (Prod.mk.inj (List.cons.inj hD).1).1
          cases k <;> cases this
    | dt g a hs => exact ⟨_, rfl, g, _, a, odt_inv hs hD.symm⟩
/-- whether a value is a dict that may be asked -/
def Avl.isDc : Avl → Dic → Prop
  | .k c', c => c' = c
  | .d y, c => y = dicD c ∧ c.ne
  | _, _ => False
theorem Vrp.dc {W : Wel} {Hs : Hp} {O : Nat → Option Addr} {v : V} {av : Avl} {c : Dic} (r : Vrp K W Hs O S H v av) (h : av.isDc c) : ∃ p, v = .ref p ∧ DcR K S H p c := by
  cases av with
  | d x =>
    obtain ⟨rfl, ne⟩ := h
    obtain ⟨p, e, _, d⟩ := od_dic (show Od K S H v (dicD c) from r) ne
    exact ⟨p, e, d⟩
  | k c' => cases h; obtain ⟨p, e, d, _⟩ := r; exact ⟨p, e, d⟩
  | l _ => cases h
  | b _ _ => cases h
  | wl _ => cases h
/-- d[e] -/
def aEGet (ed ek : AEx) : AEx := fun X α k => ed X α fun x => ∃ c, x.isDc c ∧ ek X α fun av => ∃ y, DGetA c av (some y) ∧ k (.d y)
theorem re_eget (h1 : REx K E te e) (h2 : REx K E te2 e2) : REx K E (tDGet te te2) (aEGet e e2) := by
  intro W H0 S0 O S α σ H X k Q f h lk q
  refine h1 f h lk fun v av S1 H1 m r h' => ?_
  obtain ⟨c, hc, h'⟩ := h'
  have f1 := f.mv m
  refine h2 f1 h' (lk.kee (m.kee f.k)) fun u au S2 H2 m2 r2 g => ?_
  obtain ⟨y, g, hk⟩ := g
  obtain ⟨p, rfl, d⟩ := (r.mv f1.k m2).dc hc
  obtain ⟨o, g1, _, g3⟩ := dget_at d r2 g
  obtain ⟨w, rfl, ow⟩ := g3 y rfl
  exact ⟨p, w, rfl, g1, q w (.d y) S2 H2 (m.trans m2) ow hk⟩
/-- e in d, e not in d -/
def aEIn (ek ed : AEx) : AEx := fun X α k => ek X α fun av => ed X α fun x => ∃ c r, x.isDc c ∧ DGetA c av r ∧ k (.d (.bool r.isSome))
def aENi (ek ed : AEx) : AEx := fun X α k => ek X α fun av => ed X α fun x => ∃ c r, x.isDc c ∧ DGetA c av r ∧ k (.d (.bool (!r.isSome)))
theorem re_ein (h1 : REx K E te e) (h2 : REx K E te2 e2) : REx K E (tDIn te te2) (aEIn e e2) := by
  intro W H0 S0 O S α σ H X k Q f h lk q
  refine h1 f h lk fun v av S1 H1 m r h' => ?_
  have f1 := f.mv m
  refine h2 f1 h' (lk.kee (m.kee f.k)) fun u au S2 H2 m2 r2 g => ?_
  obtain ⟨c, o, hc, g, hk⟩ := g
  obtain ⟨p, rfl, d⟩ := r2.dc hc
  obtain ⟨o', g1, g2, g3⟩ := dget_at d (r.mv f1.k m2) g
  refine ⟨p, o', rfl, g1, ?_⟩
  rw [some_eq g2 g3]
  exact q _ (.d (.bool o.isSome)) S2 H2 (m.trans m2) (Od.bl _) hk
/-- d.get(e, e2) -/
def aEGet2 (ed ek ex : AEx) : AEx := fun X α k => ed X α fun x => ∃ c, x.isDc c ∧ ek X α fun av => ex X α fun a2 => ∃ r z, DGetA c av r ∧ a2 = .d z ∧ k (.d (r.getD z))
/-- list(d), its keys tuples -/
def rLstDT : List V → Hp → VK → Prop := fun xs H Q => ∃ d kvs, xs = [V.ref d] ∧ Rd H d (.dT kvs) ∧ ∀ p bs, H p = none → IsKeys H kvs bs → Q (.ref p) (upd H p (.lst (bs.map V.ref)))
theorem cr_lstDT {X : Cx} (hc : X.calm = true) : CallR X (.type "list") rLstDT := call_list_dT hc
def aELst (ed : AEx) : AEx := fun X α k => ed X α fun x => ∃ kvs : List (List L2.Key × PyData), x.isDc (.t kvs) ∧ k (.l (kvs.map fun q => .tuple (q.1.map kD)))
theorem keys_ods : ∀ {ks : List L2.Key}, Ods K S H (ks.map kV) (ks.map kD)
  | [] => .nil
  | .inl i :: ks => .cons (Od.int i) keys_ods
  | .inr x :: ks => .cons (Od.str x) keys_ods
theorem isk_ods : ∀ {ls : List (List L2.Key × V)} {kvs : List (List L2.Key × PyData)} {bs : List Addr}, Paired (PrD K S H) ls kvs → IsKeys H ls bs → Ods K S H (bs.map V.ref) (kvs.map fun q => .tuple (q.1.map kD))
  | _, _, _, .nil, .nil => .nil
  | _, _, _, .cons (a := a) (b := b) r t, .cons h u => by
    refine .cons ?_ (isk_ods t u)
    show Od K S H _ (.tuple (b.1.map kD))
    rw [← r.1]
    exact .tup h keys_ods
/-- list(x), x a slot's own dict -/
def aLstD (i : Nat) : AEx := fun _ α k => ∃ kvs : List (List L2.Key × PyData), α[i]? = some (.dic (.t kvs)) ∧ k (.l (kvs.map fun q => .tuple (q.1.map kD)))
theorem re_lstD : REx K E (tCB rLstDT (tCons (tVar i) tNil)) (aLstD i) := by
  intro W H0 S0 O S α σ H X k Q f ⟨kvs, h0, hk⟩ lk q
  obtain ⟨p, a1, b1, ⟨ls, a, b⟩, hi, nw⟩ := dic_at f h0
  refine ⟨_, b1, p, ls, rfl, .inl a, fun p' bs n ik => ?_⟩
  have sm : Same H (upd H p' (.lst (bs.map V.ref))) := Same.new n
  have ods : Ods K S H (bs.map V.ref) (kvs.map fun q => .tuple (q.1.map kD)) := isk_ods b ik
  exact q _ (.l _) S _ (f.k.same sm) ⟨p', _, rfl, upd_same, ods.same sm, fun z => (f.k.t _ z).1 n, n, Wel.ne f.k.w n⟩ hk
/-- len(x), x a slot's own dict, its keys tuples -/
def aLenDT (i : Nat) : AEx := fun _ α k => ∃ kvs : List (List L2.Key × PyData), α[i]? = some (.dic (.t kvs)) ∧ k (.d (.int kvs.length))
theorem re_lenDT : REx K E (tCB rLenT (tCons (tVar i) tNil)) (aLenDT i) := by
  intro W H0 S0 O S α σ H X k Q f ⟨kvs, h0, hk⟩ lk q
  obtain ⟨p, a1, b1, ⟨ls, a, b⟩, hi, nw⟩ := dic_at f h0
  refine ⟨_, b1, p, ls, rfl, a, ?_⟩
  rw [prs_len (K := K) b]
  exact q _ (.d (.int _)) S H f.k.refl (Od.int _) hk
/-- a slot's dict is kept as data from here on -/
def aFzD (i : Nat) (a : ASt) : ASt := fun A α => ∃ c, α[i]? = some (.dic c) ∧ a A (α.set i (.d (dicD c)))
theorem Frm.frzD {W : Wel} {H0 : Hp} {S0 : Ads} {O : Nat → Option Addr} {α : Afr} {σ : L2.St} {p : Addr} {c : Dic} (f : Frm K W H0 S0 O S α σ H) (e0 : α[i]? = some (.dic c)) (ho : O i = some p) : Frm K W H0 S0 (odel O i) (fun b => S b ∨ b = p) (α.set i (.d (dicD c))) σ H ∧ Kee S H (fun b => S b ∨ b = p) H := by
  obtain ⟨q, h1, h2, h3⟩ := f.sl i _ e0
  rw [ho] at h1
  cases h1
  obtain ⟨p0, p1, p2, p3⟩ := f.o i p ho
  refine ⟨⟨⟨f.k.w, fun b h => ?_⟩, f.k0, fun b h => ?_, f.w0, fun j q e => ?_, by rw [List.length_set]; exact f.len, fun j y e => ?_⟩, ⟨fun _ h => .inl h, Tm.refl _, fun _ _ _ h => h⟩⟩
  · rcases h with h | rfl
    · exact f.k.t b h
    · exact ⟨p1, Wel.ne f.w0 p0⟩
  · rcases h with h | rfl
    · exact f.n0 b h
    · exact .inr p0
  · unfold odel at e
    by_cases z : j = i
    · rw [if_pos z] at e; cases e
    · rw [if_neg z] at e
      obtain ⟨a, b, c, d⟩ := f.o j q e
      refine ⟨a, b, fun y => y.elim c fun y => z ?_, fun j' e' => ?_⟩
      · subst y
        exact p3 j e
      · by_cases q' : j' = i
        · unfold odel at e'; rw [if_pos q'] at e'; cases e'
        · unfold odel at e'; rw [if_neg q'] at e'; exact d j' e'
  · rcases set_get e with ⟨rfl, rfl, _⟩ | ⟨n, e⟩
    · exact ⟨_, h2, (h3.mp (fun o z => z) fun z => z.gr fun _ h => .inl h).od (.inr rfl)⟩
    · have := f.sl j y e
      cases y with
      | dic c => obtain ⟨q, a, b, c⟩ := this; exact ⟨q, (if_neg n).trans a, b, c.mp (fun o e => e) fun z => z.gr fun _ h => .inl h⟩
      | x => trivial
      | d x => obtain ⟨v, a, b⟩ := this; exact ⟨v, a, b.gr fun _ h => .inl h⟩
      | own es => obtain ⟨q, ws, a, b, c, d⟩ := this; exact ⟨q, ws, (if_neg n).trans a, b, c, d.gr fun _ h => .inl h⟩
      | wl u => exact this
      | err a => exact this
      | erx a dx fs => exact ⟨this.1, this.2.mv' (fun _ h => .inl h) (fun _ _ _ h => h) fun z => z.gr fun _ h => .inl h⟩
theorem rs_fzD {t : TS} {a : ASt} (h1 : RSt K E t a) : RSt K E t (aFzD i a) := by
  intro W H0 S0 O S α σ H A D f ⟨c, h0, h⟩ l
  obtain ⟨p, a1, _, _, _, _⟩ := dic_at f h0
  obtain ⟨f2, ke⟩ := f.frzD h0 a1
  exact h1 f2 h (l.kee ke)
/-- x.pop() -/
def aPopL (j : Nat) (g : ATg) : ASt := fun A α => ∃ ds x, α[j]? = some (.own (ds ++ [x])) ∧ g x (α.set j (.own ds)) A.nx
theorem Ods.dropLast : ∀ {vs : List V} {ds : List PyData} {x : PyData}, Ods K S H vs (ds ++ [x]) → ∃ us v, vs = us ++ [v] ∧ Ods K S H us ds ∧ Od K S H v x
  | _, [], x, .cons a .nil => ⟨[], _, rfl, .nil, a⟩
  | _, d :: ds, x, .cons a b => by
    obtain ⟨us, v, e, h1, h2⟩ := Ods.dropLast b
    exact ⟨_ :: us, v, by rw [e]; rfl, .cons a h1, h2⟩
theorem rs_popL {g : TG} {ag : ATg} {is : List Nat} (h2 : RTg K g ag is) : RSt K E (tAsg (tBM0 K "list" rPop (tVar j)) g) (aPopL j ag) := by
  intro W H0 S0 O S α σ H A D f ⟨ds, x, h0, h⟩ l
  obtain ⟨p, vs, a, b, c, d, hi, nw, ln⟩ := own_at f h0
  obtain ⟨us, v, rfl, o1, o2⟩ := d.dropLast
  refine ⟨_, b, o_tyL c ⟨p, us ++ [v], v, rfl, rfl, c, by simp, ?_⟩⟩
  rw [List.dropLast_concat]
  obtain ⟨g, ke⟩ := f.chg a b c o1 hi
  exact h2 g (ke.od o2) h fun O' α' σ' f' _ _ k' => l.nx O' S α' σ' _ ke f' k'
end
theorem rowLt_ints : ∀ (as bs : List Int), PySem.W.rowLt (as.map .int) (bs.map .int) = decide (as < bs)
  | [], [] => by rw [show ([] : List Int).map PyData.int = [] from rfl, rowLt_nil]; rfl
  | [], b :: bs => by
    first
      | rfl
      | (unfold PySem.W.rowLt; simp [PyProof.Rows.lexLt, PySem.W.keyToksAll])
  | a :: as, [] => by
    first
      | rfl
      | (unfold PySem.W.rowLt; simp [PyProof.Rows.lexLt, PySem.W.keyToksAll])
  | a :: as, b :: bs => by
    rw [List.map_cons, List.map_cons, dataLt_i, rowLt_ints as bs, cons_lt_int]
theorem alike_ints : ∀ (as bs : List Int), PySem.W.alikeAll (as.map .int) (bs.map .int) = true
  | [], _ => by simp [PySem.W.alikeAll]
  | _ :: _, [] => by simp [PySem.W.alikeAll]
  | a :: as, b :: bs => by
    have := alike_ints as bs
    simp [PySem.W.alikeAll, PySem.W.alike, this]
theorem depth_rows : ∀ as : List Int, PyData.depthAll (as.map .int) ≤ 1
  | [] => by simp [PyData.depthAll]
  | a :: as => by
    have := depth_rows as
    simp [PyData.depthAll, PyData.depth] at this ⊢
    omega
theorem flat_ints' : ∀ as : List Int, flatDs (as.map PyData.int) = true
  | [] => by simp [flatDs]
  | a :: as => by simp [flatDs, flatD, flat_ints' as]
def skR : SK (Int × List Int) where
  enc a := .tuple ((a.1 :: a.2).map .int)
  fl a := a.1 :: a.2
  shp a := ⟨_, _, rfl⟩
  al a b := by
    show PySem.W.alike (.tuple _) (.tuple _) = true
    have := alike_ints (a.1 :: a.2) (b.1 :: b.2)
    simpa [PySem.W.alike] using this
  lt a b := by rw [dataLt_tup, rowLt_ints]
  dp a := by
    have := depth_rows (a.1 :: a.2)
    simp only [PyData.depth]
    omega
  tp a := by
    have := flat_ints' (a.1 :: a.2)
    simpa [flatD] using this
def rSortR (K : Fg) := rSortK skR K
/-- sorted of rows of ints, none empty -/
def gSortR : AOn := fun as k => ∃ (a : Avl) (rs : List (List Int)), as = [a] ∧ a.lst = some (rs.map dIs) ∧ (∀ r ∈ rs, r ≠ []) ∧ ∀ qs : List (List Int), qs.Perm rs → qs.Pairwise (fun p q => p ≤ q) → k (.l (qs.map dIs))
theorem rb_sortR {K : Fg} : RCb K (rSortR K) gSortR := by
  intro W Hs O S' H xs as k Q ok r ⟨a, rs, e, h, ne, hk⟩ q
  refine rb_sortK skR ok r ⟨a, rs.map fun r => (r.headD 0, r.tail), e, ?_, fun qs pm pw => ?_⟩ q
  · rw [h, List.map_map]
    congr 1
    refine List.map_congr_left fun r hr => ?_
    show dIs r = PyData.tuple (List.map PyData.int (r.headD 0 :: r.tail))
    cases r with
    | nil => exact absurd rfl (ne _ hr)
    | cons x r => rfl
  · have e2 : qs.map skR.enc = (qs.map fun q => q.1 :: q.2).map dIs := by rw [List.map_map]; rfl
    rw [e2]
    refine hk _ ?_ ?_
    · have := pm.map fun q : Int × List Int => q.1 :: q.2
      rw [List.map_map] at this
      refine this.trans (List.Perm.of_eq ?_)
      conv => rhs; rw [← List.map_id rs]
      refine List.map_congr_left fun r hr => ?_
      cases r with
      | nil => exact absurd rfl (ne _ hr)
      | cons x r => rfl
    · rw [List.pairwise_map]
      exact pw
section
variable {X : AXr} {A : AEn} {α : Afr} {k : Avl → Prop} {e e2 e3 : AEx} {i : Nat} {c : Dic} {g : ATg} {a : ASt}
instance : Wk (aDOneT e e2 X α k) (e X α fun x => e2 X α fun y => ∃ (n : List L2.Key) (z : PyData), x = .d (.tuple (n.map kD)) ∧ y = .d z ∧ k (.k (.t [(n, z)]))) := ⟨fun h => h⟩
instance : Wk (aEGet e e2 X α k) (e X α fun x => ∃ c, x.isDc c ∧ e2 X α fun av => ∃ y, DGetA c av (some y) ∧ k (.d y)) := ⟨fun h => h⟩
instance : Wk (aEIn e e2 X α k) (e X α fun av => e2 X α fun x => ∃ c r, x.isDc c ∧ DGetA c av r ∧ k (.d (.bool r.isSome))) := ⟨fun h => h⟩
instance : Wk (aENi e e2 X α k) (e X α fun av => e2 X α fun x => ∃ c r, x.isDc c ∧ DGetA c av r ∧ k (.d (.bool (!r.isSome)))) := ⟨fun h => h⟩
instance : Wk (aEGet2 e e2 e3 X α k) (e X α fun x => ∃ c, x.isDc c ∧ e2 X α fun av => e3 X α fun a2 => ∃ r z, DGetA c av r ∧ a2 = .d z ∧ k (.d (r.getD z))) := ⟨fun h => h⟩
instance : Wk (aELst e X α k) (e X α fun x => ∃ kvs : List (List L2.Key × PyData), x.isDc (.t kvs) ∧ k (.l (kvs.map fun q => .tuple (q.1.map kD)))) := ⟨fun h => h⟩
instance {kvs : List (List L2.Key × PyData)} [v : CAt α i (.dic (.t kvs))] : Wk (aLstD i X α k) (k (.l (kvs.map fun q => .tuple (q.1.map kD)))) := ⟨fun h => ⟨kvs, v.e, h⟩⟩
instance {kvs : List (List L2.Key × PyData)} [v : CAt α i (.dic (.t kvs))] : Wk (aLenDT i X α k) (k (.d (.int kvs.length))) := ⟨fun h => ⟨kvs, v.e, h⟩⟩
instance {β : Afr} [v : CAt α i (.dic c)] [w : CSet α i (.d (dicD c)) β] : Wk (aFzD i a A α) (a A β) := ⟨fun h => ⟨c, v.e, by rw [w.e]; exact h⟩⟩
end
end UW
namespace UW
open PySem PySem.Spec PyProof.Rows L2
def rInsert : V → List V → Hp → VK → Prop := fun x vs H Q => ∃ (l : Addr) (xs : List V) (i : Int) (y : V), x = .ref l ∧ vs = [.int i, y] ∧ H l = some (.lst xs) ∧ xs.length < sizeLine ∧ 0 ≤ i ∧ i < 2 ^ 63 ∧ Q .non (upd H l (.lst (xs.take i.toNat ++ [y] ++ xs.drop i.toNat)))
theorem o_ins0 {H : Hp} {Q : VK} {p : Addr} {xs : List V} {y : V} (h : H p = some (.lst xs)) (hl : xs.length < 100000) (k : ∀ H2, At p (.lst (y :: xs)) H H2 → Q .non H2) : rInsert (.ref p) [.int 0, y] H Q :=
  ⟨p, xs, 0, y, rfl, rfl, h, Nat.lt_of_lt_of_le hl (by decide), by decide, by decide, k _ (At.upd _ _ _)⟩
end UW
namespace UW.Ja
open PySem PySem.Spec PyProof.Rows L2 UW
/-- one step -/
local macro_rules | `(tactic| walk_at "s1") => `(tactic| first
  | with_reducible refine s_seq ?_
  | with_reducible refine s_for ?_
  | with_reducible refine s_lc ?_
  | with_reducible refine w_seq ?_
  | with_reducible refine w_rng1 ?_
  | with_reducible refine w_rng2 ?_
  | with_reducible refine w_zip ?_
  | with_reducible refine s_asg ?_
  | with_reducible refine s_gname ?_
  | with_reducible refine s_ret ?_
  | with_reducible refine s_drop ?_
  | with_reducible refine s_next ?_
  | with_reducible refine s_ifs ?_
  | with_reducible refine s_var (by with_unfolding_all rfl) ?_
  | with_reducible refine s_c ?_
  | with_reducible refine s_op ?_
  | with_reducible refine s_un ?_
  | with_reducible refine s_neg ?_
  | with_reducible refine s_test ?_
  | with_reducible refine s_yes ?_
  | with_reducible refine s_tB ?_
  | with_reducible refine s_bl ?_
  | with_reducible refine s_not ?_
  | with_reducible refine s_and ?_
  | with_reducible refine s_or ?_
  | with_reducible refine s_andV ?_
  | with_reducible refine s_orV ?_
  | with_reducible refine s_notV ?_
  | with_reducible refine s_chain ?_
  | with_reducible refine s_nil ?_
  | with_reducible refine s_cons ?_
  | with_reducible refine s_tup ?_
  | with_reducible refine s_lst ?_
  | with_reducible refine s_call ?_
  | with_reducible refine s_cb ?_
  | with_reducible refine s_part ?_
  | with_reducible refine s_nopart ?_
  | with_reducible refine s_ii ?_
  | with_reducible refine s_sl ?_
  | with_reducible refine s_par ?_
  | with_reducible refine s_par2 ?_
  | with_reducible refine s_bm ?_
  | with_reducible refine s_gsub ?_
  | with_reducible refine s_gcons ?_
  | with_reducible refine s_gnil ?_
  | with_reducible refine o_addI ?_
  | with_reducible refine o_sub ?_
  | with_reducible refine o_eqI ?_
  | with_reducible refine o_neI ?_
  | with_reducible refine o_ltI ?_
  | with_reducible refine o_le ?_
  | with_reducible refine o_gt ?_
  | with_reducible refine o_ge ?_
  | with_reducible refine o_int ?_
  | with_reducible refine o_intB ?_
  | with_reducible refine o_abs ?_
  | with_reducible refine o_max2 ?_
  | with_reducible refine o_min2 ?_
  | with_reducible refine o_isN ?_
  | with_reducible refine o_notN ?_
  | with_reducible refine o_mulI (by first | exact Or.inl ⟨by decide, by decide⟩ | exact Or.inr ⟨by decide, by decide⟩ | (first | (refine Or.inl ⟨?_, ?_⟩ <;> omega) | (refine Or.inr ⟨?_, ?_⟩ <;> omega))) ?_
  | with_reducible refine o_mod (by first | decide | omega) ?_
  | with_reducible refine o_div (by first | decide | omega) (by first | decide | omega) ?_
  | with_reducible refine s_blx ?_
  | with_reducible refine o_ixL (SqL.of (by assumption)) (by first | with_unfolding_all rfl | with_unfolding_all exact at_zero _ _) ?_
  | with_reducible refine o_ixT (by assumption) (by first | with_unfolding_all rfl | with_unfolding_all exact at_zero _ _) ?_
  | with_reducible refine o_tyL (by assumption) ?_
  | with_reducible refine iteT ?_
  | with_reducible refine iteF ?_)
local macro_rules | `(tactic| walk_at "sx") => `(tactic| repeat (walk_at "s1"))
theorem _root_.UW.Jar.ne {H : Hp} {a l m : Addr} (w : Jar H a l m) : a ≠ l ∧ a ≠ m := by
  obtain ⟨cs, ds, s, c, h1, h2, _, h3, _⟩ := w
  exact ⟨ne_of h1 h2 (fun z => by cases z), ne_of h1 h3 (fun z => by cases z)⟩
/-- what is tracked and is not the jar stays -/
def Kp3 (a l m : Addr) (H H' : Hp) : Prop := ∀ b o, H b = some o → b ≠ a → b ≠ l → b ≠ m → H' b = some o
theorem Kp3.same {a l m : Addr} {H H' : Hp} (e : Same H H') : Kp3 a l m H H' := fun b o h _ _ _ => e b o h
theorem Kp3.trans {a l m : Addr} {H H1 H2 : Hp} (x : Kp3 a l m H H1) (y : Kp3 a l m H1 H2) : Kp3 a l m H H2 := fun b o h n1 n2 n3 => y b o (x b o h n1 n2 n3) n1 n2 n3
def sp__law_draw (K : Fg) : Sp := fun vs H Q _ => ∃ (a l m : Addr) (n : Int), vs = [.ref a, .int n] ∧ Jar H a l m ∧ 0 < n ∧ n < 1073741824 ∧ ∀ (r : Int) (H' : Hp), 0 ≤ r → r < n → Jar H' a l m → Kp3 a l m H H' → Q (.int r) H'
theorem l__law_draw {K : Fg} : ∀ vs H Q E, sp__law_draw K vs H Q E → vs.length = 2 := by
  rintro vs H Q E ⟨a, l, m, n, rfl, _⟩
  rfl
/-- the jar at a, with what it holds -/
def JarD (H : Hp) (a l m : Addr) (cs ds : List Int) (s c : Int) : Prop := H a = some (.dK [(.inr "far", .ref l), (.inr "cells", .ref m), (.inr "seal", .int s), (.inr "count", .int c)]) ∧ H l = some (.lst (cs.map V.int)) ∧ cs.length ≤ 64 ∧ H m = some (.lst (ds.map V.int)) ∧ ds.length ≤ 64 ∧ ds ≠ [] ∧ l ≠ m
section
variable {K : Fg} {H : Hp} {Q : VK} {a l m : Addr} {cs ds : List Int} {s c : Int} {σ : L2.St} {td : TE}
theorem g_far {i : Nat} (hi : σ[i]? = some (some (.ref a))) (b : JarD H a l m cs ds s c) (q : Q (.ref l) H) : tDGet (tVar i) (tC (.str "far")) σ H Q :=
  ⟨.ref a, hi, a, .ref l, rfl, DGet.k (k := .inr "far") b.1, q⟩
theorem g_cells {i : Nat} (hi : σ[i]? = some (some (.ref a))) (b : JarD H a l m cs ds s c) (q : Q (.ref m) H) : tDGet (tVar i) (tC (.str "cells")) σ H Q :=
  ⟨.ref a, hi, a, .ref m, rfl, DGet.k (k := .inr "cells") b.1, q⟩
theorem g_seal {i : Nat} (hi : σ[i]? = some (some (.ref a))) (b : JarD H a l m cs ds s c) (q : Q (.int s) H) : tDGet (tVar i) (tC (.str "seal")) σ H Q :=
  ⟨.ref a, hi, a, .int s, rfl, DGet.k (k := .inr "seal") b.1, q⟩
theorem g_count {i : Nat} (hi : σ[i]? = some (some (.ref a))) (b : JarD H a l m cs ds s c) (q : Q (.int c) H) : tDGet (tVar i) (tC (.str "count")) σ H Q :=
  ⟨.ref a, hi, a, .int c, rfl, DGet.k (k := .inr "count") b.1, q⟩
theorem JarD.ne (b : JarD H a l m cs ds s c) : a ≠ l := ne_of b.1 b.2.1 fun z => by cases z
theorem JarD.ne2 (b : JarD H a l m cs ds s c) : a ≠ m := ne_of b.1 b.2.2.2.1 fun z => by cases z
theorem JarD.same {H' : Hp} (b : JarD H a l m cs ds s c) (e : Same H H') : JarD H' a l m cs ds s c := ⟨e _ _ b.1, e _ _ b.2.1, b.2.2.1, e _ _ b.2.2.2.1, b.2.2.2.2⟩
theorem JarD.jar (b : JarD H a l m cs ds s c) : Jar H a l m := ⟨cs, ds, s, c, b⟩
theorem JarD.at {H' : Hp} {es : List Int} (b : JarD H a l m cs ds s c) (e : At l (.lst (es.map V.int)) H H') (hd : es.length ≤ 64) : JarD H' a l m es ds s c := ⟨e.ne b.1 b.ne, e.1, hd, e.ne b.2.2.2.1 (Ne.symm b.2.2.2.2.2.2), b.2.2.2.2⟩
end
def t__law_draw_0 (K : Fg) : TS :=
  (tRet (tOp rModI (tCB rInt (tCons (tOp rDivI (tVar 6) (tC (.int 1024))) tNil)) (tVar 1)))
def t__law_draw_1 (K : Fg) : TS :=
  (tSeq (tFor (iRng1 (tCons (tC (.int 2)) tNil)) (gName 7) (tAsg (tOp rModI (tCB rInt (tCons (tOp (rAddU K) (tOp (rAddU K) (tOp (rMulU K) (tVar 6) (tVar 6)) (tDGet (tVar 0) (tC (.str "seal"))))
    (tOp (rMulU K) (tVar 4) (tOp (rAddU K) (tC (.int 17)) (tVar 7)))) tNil)) (tC (.int 4294967231))) (gName 6))) (t__law_draw_0 K))
def t__law_draw_2 (K : Fg) : TS :=
  (tSeq (tAsg (tOp rModI (tCB rInt (tCons (tOp (rAddU K) (tOp (rAddU K) (tOp (rMulU K) (tOp (rIx K) (tVar 5) (tOp rModI (tCB rInt (tCons (tOp (rMulU K) (tVar 4) (tC (.int 5))) tNil)) (tCB (rLenU
    K) (tCons (tVar 5) tNil)))) (tC (.int 2654435761))) (tOp (rMulU K) (tDGet (tVar 0) (tC (.str "seal"))) (tC (.int 3)))) (tOp (rMulU K) (tVar 4) (tC (.int 40503)))) tNil)) (tC (.int 4294967291))) (gName 6)) (t__law_draw_1 K))
def t__law_draw_3 (K : Fg) : TS :=
  (tSeq (tPar 4 5 (tCons (tDGet (tVar 0) (tC (.str "count"))) (tCons (tDGet (tVar 0) (tC (.str "cells"))) tNil))) (t__law_draw_2 K))
def t__law_draw_4 (K : Fg) : TS :=
  (Evl.tCut (tIfS (tTest (tOp rGeI (tVar 3) (tVar 1))) (tDrop (tBM K "list" rInsert (tVar 2) (tCons (tC (.int 0)) (tCons (tOp rDivI (tVar 3) (tVar 1)) tNil)))) tNext) (tRet (tOp rModI (tCB rInt
    (tCons (tVar 3) tNil)) (tVar 1))))
def t__law_draw_5 (K : Fg) : TS :=
  (tSeq (sDPut (tVar 0) (tC (.str "count")) (tOp (rAddU K) (tDGet (tVar 0) (tC (.str "count"))) (tC (.int 1)))) (t__law_draw_3 K))
def t__law_draw_6 (K : Fg) : TS :=
  (tSeq (tIfS (tAnd (tTest (tOp (rNeU K) (tVar 2) (tLst tNil))) (tTest (tOp rGtI (tVar 1) (tC (.int 1))))) (tSeq (tAsg (tBM K "list" rPopAt (tVar 2) (tCons (tC (.int 0)) tNil)) (gName 3))
    (t__law_draw_4 K)) tNext) (t__law_draw_5 K))
/-- _law_draw, slots jar, many, far, own, count, cells, mixed, turn -/
def t__law_draw (K : Fg) : TS :=
  (tSeq (tAsg (tDGet (tVar 0) (tC (.str "far"))) (gName 2)) (t__law_draw_6 K))
theorem p__law_draw {K : Fg} {vs : List V} {H : Hp} {Q : VK} {E : XK} (h : sp__law_draw K vs H Q E) : t__law_draw K { nx := fun _ H' => Q .non H', rt := Q } (start ["jar", "many", "far", "own", "count", "cells", "mixed", "turn"] vs) H := by
  obtain ⟨a, l, m, n, rfl, w, m0, m1, k⟩ := h
  obtain ⟨cs, ds, s, c, B⟩ := w
  have B : JarD H a l m cs ds s c := B
  show t__law_draw K _ [some (.ref a), some (.int n), none, none, none, none, none, none] H
  unfold t__law_draw
  refine s_seq (s_asg (g_far rfl B ?_))
  refine s_gname ?_
  show t__law_draw_6 K _ [some (.ref a), some (.int n), some (.ref l), none, none, none, none, none] H
  have fin : ∀ {H1 : Hp}, JarD H1 a l m cs ds s c → Kp3 a l m H H1 → t__law_draw_5 K { nx := fun _ H' => Q .non H', rt := Q } [some (.ref a), some (.int n), some (.ref l), none, none, none, none, none] H1 := by
    intro H1 B kp
    unfold t__law_draw_5 t__law_draw_3 t__law_draw_2 t__law_draw_1 t__law_draw_0
    walk_at "sx"
    refine g_count rfl B ?_
    walk_at "sx"
    refine ⟨a, _, rfl, DPut.k (k := .inr "count") B.1 (by show 4 < sizeLine; decide), ?_⟩
    have kp4 := kp.trans (fun b o h n1 n2 n3 => by rw [upd_ne n1]; exact h : Kp3 a l m H1 (upd H1 a (.dK (putK [(.inr "far", .ref l), (.inr "cells", .ref m), (.inr "seal", .int s), (.inr "count", .int c)] (.inr "count") (.int (c + 1))))))
    have B4 : JarD (upd H1 a (.dK (putK [(.inr "far", .ref l), (.inr "cells", .ref m), (.inr "seal", .int s), (.inr "count", .int c)] (.inr "count") (.int (c + 1))))) a l m cs ds s (c + 1) := ⟨upd_same, by rw [upd_ne (Ne.symm B.ne)]; exact B.2.1, B.2.2.1, by rw [upd_ne (Ne.symm B.ne2)]; exact B.2.2.2.1, B.2.2.2.2⟩
    generalize upd H1 a (.dK (putK [(.inr "far", .ref l), (.inr "cells", .ref m), (.inr "seal", .int s), (.inr "count", .int c)] (.inr "count") (.int (c + 1)))) = H4 at B4 kp4 ⊢
    walk_at "sx"
    refine g_count rfl B4 ?_
    refine s_cons (g_cells rfl B4 (s_nil ?_))
    refine ⟨_, _, rfl, ?_⟩
    walk_at "sx"
    have hlen : 0 < ds.length := List.length_pos_iff.mpr B4.2.2.2.2.2.1
    have lE : (ds.map V.int).length = ds.length := List.length_map ..
    refine o_lenL (SqL.of B4.2.2.2.1) ?_
    rw [lE]
    walk_at "sx"
    have i0 := Int.emod_nonneg ((c + 1) * 5) (b := (ds.length : Int)) (by omega)
    have i1 := Int.emod_lt_of_pos ((c + 1) * 5) (b := (ds.length : Int)) (by omega)
    obtain ⟨j, hj⟩ : ∃ j : Nat, (c + 1) * 5 % (ds.length : Int) = (j : Int) := ⟨_, (Int.toNat_of_nonneg i0).symm⟩
    have hj2 : j < ds.length := by omega
    rw [hj]
    refine o_ixL (v := .int ds[j]) (SqL.of B4.2.2.2.1) (atI_nat (by rw [List.getElem?_map, List.getElem?_eq_getElem hj2]; rfl)) ?_
    walk_at "sx"
    refine g_seal rfl B4 ?_
    walk_at "sx"
    refine w_rng (by decide) ?_
    have q0 := Int.emod_nonneg (ds[j] * 2654435761 + s * 3 + (c + 1) * 40503) (b := 4294967291) (by decide)
    have q1 := Int.emod_lt_of_pos (ds[j] * 2654435761 + s * 3 + (c + 1) * 40503) (b := 4294967291) (by decide)
    refine f_go (walk_r0 (n := 2)) (fun i σ H' => H' = H4 ∧ ∃ (f : Int) (z : Option V), (0 ≤ f ∧ f < 4294967296) ∧ σ = [some (.ref a), some (.int n), some (.ref l), none, some (.int (c + 1)), some (.ref m), some (.int f), z]) ⟨rfl, _, _, ⟨q0, by omega⟩, rfl⟩ (fun i σ H' _ p => trivial) ?_ ?_
    · rintro i x σ H3 H5 hi ⟨rfl, f, z, ⟨f0, f1⟩, rfl⟩ ⟨rfl, rfl⟩
      walk_at "sx"
      refine g_seal rfl B4 ?_
      walk_at "sx"
      have q0 := Int.emod_nonneg (f * f + s + (c + 1) * (17 + (i : Int))) (b := 4294967231) (by decide)
      have q1 := Int.emod_lt_of_pos (f * f + s + (c + 1) * (17 + (i : Int))) (b := 4294967231) (by decide)
      exact ⟨rfl, _, _, ⟨q0, by omega⟩, rfl⟩
    · rintro σ H3 ⟨rfl, f, z, -, rfl⟩
      walk_at "sx"
      exact k _ _ (Int.emod_nonneg _ (by omega)) (Int.emod_lt_of_pos _ m0) B4.jar kp4
  unfold t__law_draw_6
  refine s_seq (s_ifs (s_and (s_test (s_op (s_var rfl (s_lst (s_nil (n_of rfl fun p H1 np e1 hp _ => ?_))))))))
  have B1 := B.same e1
  have kp1 : Kp3 a l m H H1 := Kp3.same e1
  refine o_neD (.lst (SqL.of B1.2.1) (Tps.of_ints cs).dp) (.lst (SqL.of hp) .nil) (shaped_ints cs) rfl ?_
  walk_at "sx"
  refine s_i1 _ (fun hc1 => ?_) (fun hc1 => ?_)
  · have hne : cs ≠ [] := by rintro rfl; cases hc1
    obtain ⟨x, es, rfl⟩ : ∃ x es, cs = x :: es := by
      cases cs with
      | nil => exact absurd rfl hne
      | cons x es => exact ⟨x, es, rfl⟩
    walk_at "sx"
    refine s_dec (fun _ => ?_) (fun _ => ?_)
    · walk_at "sx"
      refine o_tyL B1.2.1 ?_
      walk_at "sx"
      refine o_popAt (n := 0) B1.2.1 rfl rfl (by decide) fun H2 l2 => ?_
      have l2' : At l (.lst (es.map V.int)) H1 H2 := l2
      have hes : es.length < 64 := by have := B1.2.2.1; simp at this; omega
      have B2 := B1.at l2' (by omega)
      have kp2 : Kp3 a l m H H2 := kp1.trans fun b o h n1 n2 n3 => l2.ne h n2
      refine s_gname ?_
      show t__law_draw_4 K _ [some (.ref a), some (.int n), some (.ref l), some (.int x), none, none, none, none] H2
      unfold t__law_draw_4
      refine s_cut (fun σ' H' => σ' = [some (.ref a), some (.int n), some (.ref l), some (.int x), none, none, none, none] ∧ Jar H' a l m ∧ Kp3 a l m H H') ?_ ?_
      · walk_at "sx"
        refine s_dec (fun _ => ?_) (fun _ => ?_)
        · walk_at "sx"
          refine o_tyL B2.2.1 ?_
          walk_at "sx"
          refine o_ins0 B2.2.1 (by rw [List.length_map]; omega) fun H3 l3 => ?_
          have l3' : At l (.lst ((x / n :: es).map V.int)) H2 H3 := l3
          exact ⟨rfl, (B2.at l3' (by simp; omega)).jar, kp2.trans fun b o h n1 n2 n3 => l3.ne h n2⟩
        · walk_at "sx"
          exact ⟨rfl, B2.jar, kp2⟩
      · rintro σ' H' ⟨rfl, w', kp⟩
        walk_at "sx"
        exact k _ _ (Int.emod_nonneg _ (by omega)) (Int.emod_lt_of_pos _ m0) w' kp
    · walk_at "sx"
      exact fin B1 kp1
  · walk_at "sx"
    exact fin B1 kp1
def sp__law_jar (K : Fg) : Sp := fun vs H Q _ => ∃ (a : Addr) (ns : List Int), vs = [.ref a] ∧ SqL K H a (ns.map V.int) ∧ ns.length ≤ 63 ∧ ∀ (p l m : Addr) (H' : Hp), H p = none → H l = none → H m = none → Same H H' → Jar H' p l m → Q (.ref p) H'
theorem l__law_jar {K : Fg} : ∀ vs H Q E, sp__law_jar K vs H Q E → vs.length = 1 := by
  rintro vs H Q E ⟨a, ns, rfl, _⟩
  rfl
def cutK (ns : List Int) : List Int := (ns.drop (HT.sIx ns.length 0 none)).take (HT.sIx ns.length ns.length (some 63) - HT.sIx ns.length 0 none)
theorem cut_intsK (ns : List Int) : cutV (ns.map V.int) none (some 63) = (cutK ns).map V.int := by
  unfold cutV cutK
  rw [List.length_map, List.map_take, List.map_drop]
theorem cut_lenK (ns : List Int) : (cutK ns).length ≤ 63 := by
  unfold cutK
  rw [List.length_take]
  have : HT.sIx ns.length ns.length (some 63) ≤ 63 := by
    have e := HT.sIx_nat ns.length ns.length 63
    have e2 : HT.sIx ns.length ns.length (some 63) = min 63 ns.length := e
    rw [e2]
    exact Nat.min_le_left _ _
  omega
def t__law_jar_0 (K : Fg) : TS :=
  (tRet (tDisp [((tC (.str "far")), (tVar 4)), ((tC (.str "cells")), (tOp (rAddU K) (tVar 3) (tLst (tCons (tOp (rAddU K) (tOp (rMulU K) (tC (.int 5)) (tCB (rLenU K) (tCons (tVar 3) tNil))) (tC
    (.int 3))) tNil)))), ((tC (.str "seal")), (tVar 1)), ((tC (.str "count")), (tC (.int 0)))]))
def t__law_jar_1 (K : Fg) : TS :=
  (tSeq (tAsg (tLc (iSeq K (tVar 3)) (gName 2) (tTest (tOp rGeI (tVar 2) (tOp rPowI (tC (.int 10)) (tC (.int 18))))) (tVar 2) [2]) (gName 4)) (t__law_jar_0 K))
def t__law_jar_2 (K : Fg) : TS :=
  (tSeq (tFor (iSeq K (tVar 3)) (gName 2) (tAsg (tOp rModI (tCB rInt (tCons (tOp (rAddU K) (tOp (rAddU K) (tOp (rMulU K) (tVar 1) (tC (.int 16807))) (tOp (rMulU K) (tVar 2) (tC (.int 3)))) (tC
    (.int 5))) tNil)) (tC (.int 4294967279))) (gName 1))) (t__law_jar_1 K))
/-- _law_jar, slots script, seal, own, cells, far -/
def t__law_jar (K : Fg) : TS :=
  (tSeq (tPar 3 1 (tCons (tLc (iSeq K (tSl (rSlU K) (tVar 0) tNoPart (tPart (tC (.int 63))))) (gName 2) tYes (tIf (tTest (tOp rGeI (tVar 2) (tC
    (.int 0)))) (tOp (rMulU K) (tC (.int 2)) (tVar 2)) (tOp rSubI (tOp (rMulU K) (tUn (rU fun i => .int (-i)) (tC (.int 2))) (tVar 2)) (tC (.int 1)))) [2]) (tCons (tOp (rAddU K) (tOp (rMulU K) (tC (.int 3)) (tCB (rLenU K) (tCons
    (tVar 0) tNil))) (tC (.int 11))) tNil))) (t__law_jar_2 K))
theorem p__law_jar {K : Fg} {vs : List V} {H : Hp} {Q : VK} {E : XK} (h : sp__law_jar K vs H Q E) : t__law_jar K { nx := fun _ H' => Q .non H', rt := Q } (start ["script", "seal", "own", "cells", "far"] vs) H := by
  obtain ⟨a, ns, rfl, hs, hn, k⟩ := h
  show t__law_jar K _ [some (.ref a), none, none, none, none] H
  unfold t__law_jar
  walk_at "sx"
  refine o_slL hs ?_
  refine n_new fun c H1 nc e1 hc _ => ?_
  rw [cut_intsK ns] at hc
  refine w_seqL (SqL.of hc) ?_
  refine lc_inv walk_list (fun D i ys H' => Same H1 H' ∧ ∃ zs : List Int, ys = zs.map V.int ∧ zs.length ≤ i) (by rw [List.length_map]; have := cut_lenK ns; omega) (fun D H' hD e _ => ⟨e, [], rfl, Nat.le_refl _⟩) (fun D i ys H' _ p => SqL.of (p.1 _ _ hc)) ?_ ?_
  · rintro D i ys x H2 H3 hD hi ⟨e2, zs, rfl, hz⟩ hy ⟨rfl, hx⟩ Yes No hyes hno
    obtain ⟨z, rfl⟩ := map_at hx
    walk_at "sx"
    refine ⟨rfl, ?_⟩
    walk_at "sx"
    refine s_ifj (fun v H' => H' = H3 ∧ ∃ q : Int, v = .int q) ?_ ?_
    · rintro v H' ⟨rfl, q, rfl⟩
      exact hyes _ _ hy fun H6 a6 => ⟨a6.same e2 hD, zs ++ [_], by rw [List.map_append]; rfl, by rw [List.length_append, List.length_singleton]; omega⟩
    · intro hk
      walk_at "sx"
      refine s_dec (fun _ => ?_) (fun _ => ?_)
      · walk_at "sx"
        exact hk _ _ ⟨rfl, _, rfl⟩
      · walk_at "sx"
        exact hk _ _ ⟨rfl, _, rfl⟩
  · rintro cl ys H2 nl ⟨e2, zs, rfl, hz⟩ hy -
    rw [List.length_map] at hz
    have hz2 := Nat.le_trans hz (cut_lenK ns)
    walk_at "sx"
    refine o_lenL ((Same.trans e1 e2).seq hs) ?_
    walk_at "sx"
    show t__law_jar_2 K { nx := fun _ H' => Q .non H', rt := Q } [some (.ref a), some (.int (3 * (List.map V.int ns).length + 11)), none, some (.ref cl), none] H2
    unfold t__law_jar_2
    walk_at "sx"
    refine w_seqL (SqL.of hy) ?_
    refine f_go walk_list (fun i σ H' => H' = H2 ∧ ∃ (s : Int) (z : Option V), σ = [some (.ref a), some (.int s), z, some (.ref cl), none]) ⟨rfl, _, _, rfl⟩ (fun i σ H' _ p => by rw [p.1]; exact SqL.of hy) ?_ ?_
    · rintro i x σ H3 H4 hi ⟨rfl, s, z, rfl⟩ ⟨rfl, hx⟩
      obtain ⟨n, rfl⟩ := map_at hx
      walk_at "sx"
      exact ⟨rfl, _, _, rfl⟩
    · rintro σ H3 ⟨rfl, s, z, rfl⟩
      show t__law_jar_1 K { nx := fun _ H' => Q .non H', rt := Q } [some (.ref a), some (.int s), z, some (.ref cl), none] H3
      unfold t__law_jar_1
      walk_at "sx"
      refine w_seqL (SqL.of hy) ?_
      refine lc_inv walk_list (fun D i ys H' => Same H3 H' ∧ ∃ zs : List Int, ys = zs.map V.int ∧ zs.length ≤ i) (by rw [List.length_map]; omega) (fun D H' hD e _ => ⟨e, [], rfl, Nat.le_refl _⟩) (fun D i ys H' _ p => SqL.of (p.1 _ _ hy)) ?_ ?_
      · rintro D i ys x H4 H5 hD hi ⟨e4, ws, rfl, hw⟩ hy4 ⟨rfl, hx⟩ Yes No hyes hno
        obtain ⟨n, rfl⟩ := map_at hx
        walk_at "sx"
        refine ⟨rfl, ?_⟩
        walk_at "sx"
        refine ⟨_, _, rfl, rfl, ⟨by decide, by decide, by decide⟩, ?_⟩
        walk_at "sx"
        refine s_dec (fun _ => ?_) (fun _ => ?_)
        · walk_at "sx"
          exact hyes _ _ hy4 fun H6 a6 => ⟨a6.same e4 hD, ws ++ [_], by rw [List.map_append]; rfl, by rw [List.length_append, List.length_singleton]; omega⟩
        · exact hno _ hy4 ⟨e4, ws, rfl, by omega⟩
      · rintro l us H4 nl2 ⟨e4, us, rfl, hu⟩ hl4 -
        rw [List.length_map] at hu
        show t__law_jar_0 K { nx := fun _ H' => Q .non H', rt := Q } [some (.ref a), some (.int s), z, some (.ref cl), some (.ref l)] H4
        unfold t__law_jar_0
        refine s_ret ?_
        intro p hp
        have ep : upd H4 p (.dK []) p = some (.dK []) := upd_same
        refine s_c (s_var rfl (s_c ?_))
        have e0 : Same H4 (upd H4 p (.dK [])) := Same.new hp
        generalize upd H4 p (.dK []) = H5 at ep e0 ⊢
        walk_at "sx"
        have hy5 := e0 _ _ (e4 _ _ hy)
        refine o_lenL (SqL.of hy5) ?_
        walk_at "sx"
        refine n_of rfl fun g H6 ng e6 hg _ => ?_
        refine o_cat (e6 _ _ hy5) hg (by rw [List.length_map]; show _ + 1 ≤ _; omega) (n_new fun r H7 nr e7 hr _ => ?_)
        rw [show List.map V.int zs ++ [V.int (5 * ((List.map V.int zs).length : Int) + 3)] = (zs ++ [5 * (zs.length : Int) + 3]).map V.int from by rw [List.map_append, List.length_map]; rfl] at hr
        refine s_c (s_var rfl (s_c (s_c ?_)))
        have ep7 := e7 _ _ (e6 _ _ ep)
        refine ⟨ep7, [(.inr "far", .ref l), (.inr "cells", .ref r), (.inr "seal", .int s), (.inr "count", .int 0)], rfl, by show 4 ≤ 15; decide, ?_⟩
        have e47 : Same H4 H7 := (e0.trans e6).trans e7
        have e04 : Same H H4 := ((e1.trans e2).trans e4)
        have pl : p ≠ l := fun z => by rw [z, hl4] at hp; cases hp
        have pr : p ≠ r := fun z => by rw [← z, e6 _ _ ep] at nr; cases nr
        have lr : l ≠ r := fun z => by rw [← z, e6 _ _ (e0 _ _ hl4)] at nr; cases nr
        have hp0 : H p = none := e04.free hp
        refine k p l r _ hp0 ((e1.trans e2).free nl2) ((e04.trans (e0.trans e6)).free nr) (fun b o q => ?_) ⟨us, zs ++ [5 * (zs.length : Int) + 3], s, 0, upd_same, ?_, by omega, ?_, by simp; omega, by simp, lr⟩
        · rw [upd_ne fun z => by rw [z, hp0] at q; cases q]
          exact e47 _ _ (e04 _ _ q)
        · rw [upd_ne (Ne.symm pl)]
          exact e47 _ _ hl4
        · rw [upd_ne (Ne.symm pr)]
          exact hr
end UW.Ja
namespace UW.Ja
open PySem PySem.Spec PyProof.Rows L2 UW
section
variable {K : Fg} {W : Wel} {Hs H H' : Hp} {O : Nat → Option Addr} {S S0 : Ads} {v : V} {av : Avl}
theorem rtn_jar (ok : Oks W S H) (on : W.is 3) (w : Jar H' W.a W.l W.m) (e : Kp3 W.a W.l W.m H H') (hs : ∀ b, S b → S0 b) (r : Vrp K W H (fun _ => none) S H' v av) : Rtn K W H S0 v av H' := by
  refine ⟨S, fun _ => by rw [on.2]; exact w, fun b o h z => e b o h (fun y => z ⟨on.1, .inl y⟩) (fun y => z ⟨on.1, .inr (.inl y)⟩) (fun y => z ⟨on.1, .inr (.inr y)⟩), fun b hb => ⟨.inl (hs b hb), ?_, (ok.t b hb).2⟩, r⟩
  cases q : H b with
  | none => exact absurd q (ok.t b hb).1
  | some o =>
    rw [e b o q (fun y => (ok.t b hb).2 ⟨on.1, .inl y⟩) (fun y => (ok.t b hb).2 ⟨on.1, .inr (.inl y)⟩) (fun y => (ok.t b hb).2 ⟨on.1, .inr (.inr y)⟩)]
    intro y
    cases y
def m__law_draw : AFn := fun as _ k => ∃ m : Int, as = [.wl 3, .d (.int m)] ∧ 0 < m ∧ m < 1073741824 ∧ ∀ r : Int, 0 ≤ r → r < m → k (.d (.int r))
theorem br__law_draw : ∀ vs H Q E, SpA K 2 m__law_draw vs H Q E → sp__law_draw K vs H Q E := by
  rintro vs H Q E ⟨W, Hs, O, S, as, x, k, _, ok, _, pr, ⟨m, rfl, m0, m1, h⟩, hq, _⟩
  obtain ⟨v, u, rfl, r1, r2⟩ := two_inv pr
  obtain ⟨on, rfl⟩ := r1
  obtain rfl := int_inv r2
  exact ⟨W.a, W.l, W.m, m, rfl, ok.w.of on, m0, m1, fun r H' r0 r1 w' k' => hq _ (.d (.int r)) _ (rtn_jar ok on w' k' argS_S (Od.int r)) (h r r0 r1)⟩
end
section
variable {K : Fg}
theorem p_lawJ {t : TS} {a : ASt} {N : List Str} {x : Nat} {vs : List V} {H : Hp} {Q : VK} {E : XK} (hr : RSt K (fun c d _ H => E c d H) t a) (hN : N.length = x + 2)
    (hm : a { nx := fun _ => False, rt := fun av => av = .d (.bool true) } (.x :: .wl 3 :: List.replicate x .x)) (h : sp_law K vs H Q E) : (tSeq (tAsg (tG (sp__law_jar K) E00 (tCons (tVar 0) tNil)) (gName 1)) t) { nx := fun _ H' => Q .non H', rt := Q } (L2.start N vs) H := by
  obtain ⟨p, ns, rfl, hs, hl, k⟩ := h
  match N, hN with
  | n0 :: n1 :: N, hN =>
    have lN : N.length = x := by simpa using hN
    have es : L2.start (n0 :: n1 :: N) [.ref p] = some (.ref p) :: none :: List.replicate x none := by
      unfold L2.start
      simp only [List.map_cons, List.map_nil, List.length_cons, List.length_nil]
      rw [show N.length + 1 + 1 - (0 + 1) = N.length + 1 from by omega, List.replicate_succ, lN]
      rfl
    rw [es]
    refine s_seq (s_asg (s_call (s_cons (s_var rfl (s_nil ⟨p, ns, rfl, hs, hl, fun w l m H1 nw nl nm e1 wl => ?_⟩)))))
    refine s_gname ?_
    show t { nx := fun _ H' => Q .non H', rt := Q } (some (.ref p) :: some (.ref w) :: List.replicate x none) H1
    have f0 : Frm K ⟨w, l, m, 3, true⟩ H1 (fun _ => False) (fun _ => none) (fun _ => False) (.x :: .wl 3 :: List.replicate x .x) (some (.ref p) :: some (.ref w) :: List.replicate x none) H1 := by
      refine ⟨⟨fun _ => wl, fun b z => z.elim⟩, fun b o h _ => h, fun b h => .inl h, fun _ => wl, (fun i p z => by cases z), by simp, fun i z ez => ?_⟩
      match i, ez with
      | 0, ez => cases ez; trivial
      | 1, ez => cases ez; exact ⟨⟨rfl, rfl⟩, rfl⟩
      | i + 2, ez =>
        have ez' : (List.replicate x Sot.x)[i]? = some z := ez
        rw [List.getElem?_replicate] at ez'
        split at ez'
        · cases ez'; trivial
        · cases ez'
    refine hr (D := { nx := fun _ H' => Q .non H', rt := Q }) f0 hm ⟨fun O' S' α' σ' H' ke f' z => z.elim, fun O' S' α' σ' H' ke f' z => z.elim, fun O' S' α' σ' H' ke f' z => z.elim, fun v av H' rt e => ?_, fun O' S' α' σ' H' C d fs ke f' xr z => z.elim⟩
    subst e
    obtain ⟨S', _, _, _, r⟩ := rt
    cases r
    exact k H'
end
end UW.Ja
namespace UW.Bg
open PySem PySem.Spec PyProof.Rows L2 UW
/-- one step -/
local macro_rules | `(tactic| walk_at "s1") => `(tactic| first
  | with_reducible refine s_seq ?_
  | with_reducible refine s_for ?_
  | with_reducible refine s_lc ?_
  | with_reducible refine w_seq ?_
  | with_reducible refine w_rng1 ?_
  | with_reducible refine w_rng2 ?_
  | with_reducible refine w_zip ?_
  | with_reducible refine s_asg ?_
  | with_reducible refine s_gname ?_
  | with_reducible refine s_ret ?_
  | with_reducible refine s_drop ?_
  | with_reducible refine s_next ?_
  | with_reducible refine s_ifs ?_
  | with_reducible refine s_var (by with_unfolding_all rfl) ?_
  | with_reducible refine s_c ?_
  | with_reducible refine s_op ?_
  | with_reducible refine s_un ?_
  | with_reducible refine s_neg ?_
  | with_reducible refine s_test ?_
  | with_reducible refine s_yes ?_
  | with_reducible refine s_tB ?_
  | with_reducible refine s_bl ?_
  | with_reducible refine s_not ?_
  | with_reducible refine s_and ?_
  | with_reducible refine s_or ?_
  | with_reducible refine s_andV ?_
  | with_reducible refine s_orV ?_
  | with_reducible refine s_notV ?_
  | with_reducible refine s_chain ?_
  | with_reducible refine s_nil ?_
  | with_reducible refine s_cons ?_
  | with_reducible refine s_tup ?_
  | with_reducible refine s_lst ?_
  | with_reducible refine s_call ?_
  | with_reducible refine s_cb ?_
  | with_reducible refine s_part ?_
  | with_reducible refine s_nopart ?_
  | with_reducible refine s_ii ?_
  | with_reducible refine s_sl ?_
  | with_reducible refine s_par ?_
  | with_reducible refine s_par2 ?_
  | with_reducible refine s_bm ?_
  | with_reducible refine s_gsub ?_
  | with_reducible refine s_gcons ?_
  | with_reducible refine s_gnil ?_
  | with_reducible refine o_addI ?_
  | with_reducible refine o_sub ?_
  | with_reducible refine o_eqI ?_
  | with_reducible refine o_neI ?_
  | with_reducible refine o_ltI ?_
  | with_reducible refine o_le ?_
  | with_reducible refine o_gt ?_
  | with_reducible refine o_ge ?_
  | with_reducible refine o_int ?_
  | with_reducible refine o_intB ?_
  | with_reducible refine o_abs ?_
  | with_reducible refine o_max2 ?_
  | with_reducible refine o_min2 ?_
  | with_reducible refine o_isN ?_
  | with_reducible refine o_notN ?_
  | with_reducible refine o_mulI (by first | exact Or.inl ⟨by decide, by decide⟩ | exact Or.inr ⟨by decide, by decide⟩ | (first | (refine Or.inl ⟨?_, ?_⟩ <;> omega) | (refine Or.inr ⟨?_, ?_⟩ <;> omega))) ?_
  | with_reducible refine o_mod (by first | decide | omega) ?_
  | with_reducible refine o_div (by first | decide | omega) (by first | decide | omega) ?_
  | with_reducible refine s_blx ?_
  | with_reducible refine o_ixL (SqL.of (by assumption)) (by first | with_unfolding_all rfl | with_unfolding_all exact at_zero _ _) ?_
  | with_reducible refine o_ixT (by assumption) (by first | with_unfolding_all rfl | with_unfolding_all exact at_zero _ _) ?_
  | with_reducible refine o_tyL (by assumption) ?_
  | with_reducible refine iteT ?_
  | with_reducible refine iteF ?_)
local macro_rules | `(tactic| walk_at "sx") => `(tactic| repeat (walk_at "s1"))
theorem _root_.UW.Bag.ne {H : Hp} {a l : Addr} (w : Bag H a l) : a ≠ l := by
  obtain ⟨cs, s, c, h1, h2, _⟩ := w
  exact ne_of h1 h2 fun z => by cases z
def sp__law_draw (K : Fg) : Sp := fun vs H Q _ => ∃ (a l : Addr) (m : Int), vs = [.ref a, .int m] ∧ Bag H a l ∧ 0 < m ∧ m < 1073741824 ∧ ∀ (r : Int) (H' : Hp), 0 ≤ r → r < m → Bag H' a l → Kp a l H H' → Q (.int r) H'
theorem l__law_draw {K : Fg} : ∀ vs H Q E, sp__law_draw K vs H Q E → vs.length = 2 := by
  rintro vs H Q E ⟨a, l, m, rfl, _⟩
  rfl
/-- the bag at a, with what it holds -/
def BagD (H : Hp) (a l : Addr) (cs : List Int) (s c : Int) : Prop := H a = some (.dK [(.inr "great", .ref l), (.inr "mixed", .int s), (.inr "turn", .int c)]) ∧ H l = some (.lst (cs.map V.int)) ∧ cs.length ≤ 64
section
variable {K : Fg} {H : Hp} {Q : VK} {a l : Addr} {cs : List Int} {s c : Int} {σ : L2.St} {td : TE}
theorem g_great {i : Nat} (hi : σ[i]? = some (some (.ref a))) (b : BagD H a l cs s c) (q : Q (.ref l) H) : tDGet (tVar i) (tC (.str "great")) σ H Q :=
  ⟨.ref a, hi, a, .ref l, rfl, DGet.k (k := .inr "great") b.1, q⟩
theorem g_mixed {i : Nat} (hi : σ[i]? = some (some (.ref a))) (b : BagD H a l cs s c) (q : Q (.int s) H) : tDGet (tVar i) (tC (.str "mixed")) σ H Q :=
  ⟨.ref a, hi, a, .int s, rfl, DGet.k (k := .inr "mixed") b.1, q⟩
theorem g_turn {i : Nat} (hi : σ[i]? = some (some (.ref a))) (b : BagD H a l cs s c) (q : Q (.int c) H) : tDGet (tVar i) (tC (.str "turn")) σ H Q :=
  ⟨.ref a, hi, a, .int c, rfl, DGet.k (k := .inr "turn") b.1, q⟩
theorem BagD.ne (b : BagD H a l cs s c) : a ≠ l := ne_of b.1 b.2.1 fun z => by cases z
theorem BagD.same {H' : Hp} (b : BagD H a l cs s c) (e : Same H H') : BagD H' a l cs s c := ⟨e _ _ b.1, e _ _ b.2.1, b.2.2⟩
theorem BagD.bag (b : BagD H a l cs s c) : Bag H a l := ⟨cs, s, c, b.1, b.2.1, b.2.2⟩
theorem BagD.lst (b : BagD H a l cs s c) : SqL K H l (cs.map V.int) := SqL.of b.2.1
theorem BagD.at {H' : Hp} {ds : List Int} (b : BagD H a l cs s c) (e : At l (.lst (ds.map V.int)) H H') (hd : ds.length ≤ 64) : BagD H' a l ds s c := ⟨e.ne b.1 b.ne, e.1, hd⟩
theorem atm1 {x : Int} (h : cs.getLast? = some x) : atI (cs.map V.int) (-1) = some (.int x) := by
  refine at_last ?_
  rw [List.length_map, List.getElem?_map, ← List.getLast?_eq_getElem?, h]
  rfl
end
def t__law_draw_0 (K : Fg) : TS :=
  (tRet (tOp rModI (tCB rInt (tCons (tOp rDivI (tVar 3) (tC (.int 64))) tNil)) (tVar 1)))
def t__law_draw_1 (K : Fg) : TS :=
  (tSeq (tAsg (tOp rModI (tCB rInt (tCons (tOp (rAddU K) (tOp (rMulU K) (tVar 3) (tVar 3)) (tDGet (tVar 0) (tC (.str "mixed")))) tNil)) (tC (.int 2147483629))) (gName 3)) (t__law_draw_0 K))
def t__law_draw_2 (K : Fg) : TS :=
  (tSeq (tAsg (tOp rModI (tCB rInt (tCons (tOp (rAddU K) (tOp (rAddU K) (tOp (rMulU K) (tVar 3) (tVar 3)) (tOp (rMulU K) (tDGet (tVar 0) (tC (.str "turn"))) (tC (.int 69621)))) (tC (.int 5)))
    tNil)) (tC (.int 2147483647))) (gName 3)) (t__law_draw_1 K))
def t__law_draw_3 (K : Fg) : TS :=
  (tSeq (tAsg (tOp rModI (tCB rInt (tCons (tOp (rAddU K) (tDGet (tVar 0) (tC (.str "mixed"))) (tOp (rMulU K) (tDGet (tVar 0) (tC (.str "turn"))) (tC (.int 40692)))) tNil)) (tC (.int 2147483399)))
    (gName 3)) (t__law_draw_2 K))
def t__law_draw_4 (K : Fg) : TS :=
  (tSeq (tAsg (tOp rDivI (tOp (rIx K) (tDGet (tVar 0) (tC (.str "great"))) (tUn (rU fun i => .int (-i)) (tC (.int 1)))) (tVar 1)) (gSub (tDGet (tVar 0) (tC (.str "great"))) (tUn (rU fun i => .int
    (-i)) (tC (.int 1))) rSetL)) (tRet (tCB rInt (tCons (tVar 2) tNil))))
def t__law_draw_5 (K : Fg) : TS :=
  (tSeq (sDPut (tVar 0) (tC (.str "turn")) (tOp (rAddU K) (tDGet (tVar 0) (tC (.str "turn"))) (tC (.int 1)))) (t__law_draw_3 K))
def t__law_draw_6 (K : Fg) : TS :=
  (tSeq (tIfS (tTest (tOp (rNeU K) (tDGet (tVar 0) (tC (.str "great"))) (tLst tNil))) (tSeq (tAsg (tOp rModI (tOp (rIx K) (tDGet (tVar 0) (tC (.str "great"))) (tUn (rU fun i => .int (-i)) (tC
    (.int 1)))) (tVar 1)) (gName 2)) (t__law_draw_4 K)) tNext) (t__law_draw_5 K))
/-- _law_draw, slots bag, many, digit, found -/
def t__law_draw (K : Fg) : TS :=
  (tSeq (tWhile (tAnd (tTest (tOp (rNeU K) (tDGet (tVar 0) (tC (.str "great"))) (tLst tNil))) (tTest (tOp (rEqU K) (tOp (rIx K) (tDGet (tVar 0) (tC
    (.str "great"))) (tUn (rU fun i => .int (-i)) (tC (.int 1)))) (tC (.int 0))))) (tDrop (tBM0 K "list" rPop (tDGet (tVar 0) (tC (.str "great")))))) (t__law_draw_6 K))
theorem p__law_draw {K : Fg} {vs : List V} {H : Hp} {Q : VK} {E : XK} (h : sp__law_draw K vs H Q E) : t__law_draw K { nx := fun _ H' => Q .non H', rt := Q } (start ["bag", "many", "digit", "found"] vs) H := by
  obtain ⟨a, l, m, rfl, w, m0, m1, k⟩ := h
  obtain ⟨cs, s, c, ha, hl, hc⟩ := w
  have B : BagD H a l cs s c := ⟨ha, hl, hc⟩
  clear ha hl hc
  show t__law_draw K _ [some (.ref a), some (.int m), none, none] H
  unfold t__law_draw
  refine s_seq ?_
  refine ⟨fun n σ' H' => σ' = [some (.ref a), some (.int m), none, none] ∧ ∃ ds : List Int, ds.length = n ∧ BagD H' a l ds s c ∧ Kp a l H H', ⟨_, rfl, cs, rfl, B, Kp.refl H⟩, ?_⟩
  rintro n σ' H' ⟨rfl, ds, rfl, B, kp⟩
  -- behind the loop
  have fin : ∀ {H1 : Hp}, BagD H1 a l ds s c → Kp a l H H1 → t__law_draw_6 K { nx := fun _ H' => Q .non H', rt := Q } [some (V.ref a), some (V.int m), none, none] H1 := by
    intro H1 B kp
    unfold t__law_draw_6 t__law_draw_5 t__law_draw_4 t__law_draw_3 t__law_draw_2 t__law_draw_1 t__law_draw_0
    refine s_seq (s_ifs (s_test (s_op (g_great rfl B (s_lst (s_nil (n_of rfl fun p H2 np e2 hp _ => ?_)))))))
    have B := B.same e2
    have kp := kp.trans (Kp.same e2)
    refine o_neD (.lst B.lst (Tps.of_ints ds).dp) (.lst (SqL.of hp) .nil) (shaped_ints ds) rfl ?_
    walk_at "sx"
    refine s_i1 _ (fun hc1 => ?_) (fun hc1 => ?_)
    · have hne : ds ≠ [] := by rintro rfl; cases hc1
      obtain ⟨x, hx⟩ : ∃ x, ds.getLast? = some x := ⟨_, List.getLast?_eq_some_getLast hne⟩
      refine s_seq (s_asg (s_op (s_op (g_great rfl B ?_))))
      walk_at "sx"
      refine o_ixL B.lst (atm1 hx) ?_
      walk_at "sx"
      refine g_great rfl B ?_
      walk_at "sx"
      refine o_ixL B.lst (atm1 hx) ?_
      walk_at "sx"
      refine g_great rfl B ?_
      walk_at "sx"
      have hlen : 0 < ds.length := List.length_pos_iff.mpr hne
      refine o_setL (n := ds.length - 1) B.2.1 ?_ fun H3 l3 => ?_
      · unfold ixN
        rw [if_neg (by decide), if_pos (by rw [List.length_map]; omega)]
        rw [List.length_map]
        congr 1
        omega
      have B3 : BagD H3 a l (ds.set (ds.length - 1) (x / m)) s c := B.at (by rw [List.map_set]; exact l3) (by rw [List.length_set]; exact B.2.2)
      have kp3 : Kp a l H H3 := kp.trans fun b o h n1 n2 => l3.ne h n2
      walk_at "sx"
      exact k _ _ (Int.emod_nonneg _ (by omega)) (Int.emod_lt_of_pos _ m0) B3.bag kp3
    · walk_at "sx"
      refine g_turn rfl B ?_
      walk_at "sx"
      refine ⟨a, _, rfl, DPut.k (k := .inr "turn") B.1 (by show 3 < sizeLine; decide), ?_⟩
      have B4 : BagD (upd H2 a (.dK (putK [(.inr "great", .ref l), (.inr "mixed", .int s), (.inr "turn", .int c)] (.inr "turn") (.int (c + 1))))) a l ds s (c + 1) := ⟨upd_same, by rw [upd_ne (Ne.symm B.ne)]; exact B.2.1, B.2.2⟩
      have kp4 := kp.trans (fun b o h n1 n2 => by rw [upd_ne n1]; exact h : Kp a l H2 (upd H2 a (.dK (putK [(.inr "great", .ref l), (.inr "mixed", .int s), (.inr "turn", .int c)] (.inr "turn") (.int (c + 1))))))
      generalize upd H2 a (.dK (putK [(.inr "great", .ref l), (.inr "mixed", .int s), (.inr "turn", .int c)] (.inr "turn") (.int (c + 1)))) = H4 at B4 kp4 ⊢
      walk_at "sx"
      refine g_mixed rfl B4 ?_
      walk_at "sx"
      refine g_turn rfl B4 ?_
      walk_at "sx"
      have r1 := Int.emod_nonneg (s + (c + 1) * 40692) (b := 2147483399) (by decide)
      have r2 := Int.emod_lt_of_pos (s + (c + 1) * 40692) (b := 2147483399) (by decide)
      generalize (s + (c + 1) * 40692) % 2147483399 = f1 at r1 r2 ⊢
      refine g_turn rfl B4 ?_
      walk_at "sx"
      have r3 := Int.emod_nonneg (f1 * f1 + (c + 1) * 69621 + 5) (b := 2147483647) (by decide)
      have r4 := Int.emod_lt_of_pos (f1 * f1 + (c + 1) * 69621 + 5) (b := 2147483647) (by decide)
      generalize (f1 * f1 + (c + 1) * 69621 + 5) % 2147483647 = f2 at r3 r4 ⊢
      refine g_mixed rfl B4 ?_
      walk_at "sx"
      exact k _ _ (Int.emod_nonneg _ (by omega)) (Int.emod_lt_of_pos _ m0) B4.bag kp4
  refine s_and (s_test (s_op (g_great rfl B (s_lst (s_nil (n_of rfl fun p H1 np e1 hp _ => ?_))))))
  have B1 := B.same e1
  have kp1 := kp.trans (Kp.same e1)
  refine o_neD (.lst B1.lst (Tps.of_ints ds).dp) (.lst (SqL.of hp) .nil) (shaped_ints ds) rfl ?_
  walk_at "sx"
  refine s_i1 _ (fun hc1 => ?_) (fun hc1 => ?_)
  · have hne : ds ≠ [] := by rintro rfl; cases hc1
    obtain ⟨x, hx⟩ : ∃ x, ds.getLast? = some x := ⟨_, List.getLast?_eq_some_getLast hne⟩
    refine s_test (s_op (s_op (g_great rfl B1 ?_)))
    walk_at "sx"
    refine o_ixL B1.lst (atm1 hx) ?_
    walk_at "sx"
    refine s_dec (fun hx0 => ?_) (fun hx0 => ?_)
    · have hlen : 0 < ds.length := List.length_pos_iff.mpr hne
      refine ⟨fun σ' H' => σ' = [some (.ref a), some (.int m), none, none] ∧ BagD H' a l ds.dropLast s c ∧ Kp a l H H', ?_, ?_⟩
      · rintro σ' H' ⟨rfl, B2, kp2⟩
        exact ⟨ds.dropLast.length, by rw [List.length_dropLast]; omega, rfl, _, rfl, B2, kp2⟩
      · refine s_drop (g_great rfl B1 ⟨.inl ⟨rfl, _, B1.lst⟩, l, ds.map V.int, .int x, rfl, rfl, B1.2.1, ?_, ?_⟩)
        · rw [List.length_map, List.getElem?_map, ← List.getLast?_eq_getElem?, hx]
          rfl
        · refine ⟨rfl, ?_, kp1.trans fun b o h n1 n2 => by rw [upd_ne n2]; exact h⟩
          rw [← List.map_dropLast]
          exact B1.at (At.upd _ _ _) (by rw [List.length_dropLast]; have := B1.2.2; omega)
    · exact fin B1 kp1
  · refine iteF ?_
    exact fin B1 kp1
end UW.Bg
namespace UW.Bg
open PySem PySem.Spec PyProof.Rows L2 UW
section
variable {K : Fg} {W : Wel} {Hs H H' : Hp} {O : Nat → Option Addr} {S S0 : Ads} {v : V} {av : Avl}
theorem rtn_bag (ok : Oks W S H) (on : W.is 2) (w : Bag H' W.a W.l) (e : Kp W.a W.l H H') (hs : ∀ b, S b → S0 b) (r : Vrp K W H (fun _ => none) S H' v av) : Rtn K W H S0 v av H' := by
  refine ⟨S, fun _ => by rw [on.2]; exact ⟨w, (ok.w.of on).2⟩, fun b o h z => e b o h (fun y => z ⟨on.1, .inl y⟩) (fun y => z ⟨on.1, .inr (.inl y)⟩), fun b hb => ⟨.inl (hs b hb), ?_, (ok.t b hb).2⟩, r⟩
  cases q : H b with
  | none => exact absurd q (ok.t b hb).1
  | some o =>
    rw [e b o q (fun y => (ok.t b hb).2 ⟨on.1, .inl y⟩) (fun y => (ok.t b hb).2 ⟨on.1, .inr (.inl y)⟩)]
    intro y
    cases y
def m__law_draw : AFn := fun as _ k => ∃ m : Int, as = [.wl 2, .d (.int m)] ∧ 0 < m ∧ m < 1073741824 ∧ ∀ r : Int, 0 ≤ r → r < m → k (.d (.int r))
theorem br__law_draw : ∀ vs H Q E, SpA K 2 m__law_draw vs H Q E → sp__law_draw K vs H Q E := by
  rintro vs H Q E ⟨W, Hs, O, S, as, x, k, _, ok, _, pr, ⟨m, rfl, m0, m1, h⟩, hq, _⟩
  obtain ⟨v, u, rfl, r1, r2⟩ := two_inv pr
  obtain ⟨on, rfl⟩ := r1
  obtain rfl := int_inv r2
  exact ⟨W.a, W.l, m, rfl, (ok.w.of on).1, m0, m1, fun r H' r0 r1 w' k' => hq _ (.d (.int r)) _ (rtn_bag ok on w' k' argS_S (Od.int r)) (h r r0 r1)⟩
end
section
variable {K : Fg}
end
end UW.Bg
namespace UW.Bg
open PySem PySem.Spec PyProof.Rows L2 UW
/-- one step -/
local macro_rules | `(tactic| walk_at "s1") => `(tactic| first
  | with_reducible refine s_seq ?_
  | with_reducible refine s_for ?_
  | with_reducible refine s_lc ?_
  | with_reducible refine w_seq ?_
  | with_reducible refine w_rng1 ?_
  | with_reducible refine w_rng2 ?_
  | with_reducible refine w_zip ?_
  | with_reducible refine s_asg ?_
  | with_reducible refine s_gname ?_
  | with_reducible refine s_ret ?_
  | with_reducible refine s_drop ?_
  | with_reducible refine s_next ?_
  | with_reducible refine s_ifs ?_
  | with_reducible refine s_var (by with_unfolding_all rfl) ?_
  | with_reducible refine s_c ?_
  | with_reducible refine s_op ?_
  | with_reducible refine s_un ?_
  | with_reducible refine s_neg ?_
  | with_reducible refine s_test ?_
  | with_reducible refine s_yes ?_
  | with_reducible refine s_tB ?_
  | with_reducible refine s_bl ?_
  | with_reducible refine s_not ?_
  | with_reducible refine s_and ?_
  | with_reducible refine s_or ?_
  | with_reducible refine s_andV ?_
  | with_reducible refine s_orV ?_
  | with_reducible refine s_notV ?_
  | with_reducible refine s_chain ?_
  | with_reducible refine s_nil ?_
  | with_reducible refine s_cons ?_
  | with_reducible refine s_tup ?_
  | with_reducible refine s_lst ?_
  | with_reducible refine s_call ?_
  | with_reducible refine s_cb ?_
  | with_reducible refine s_part ?_
  | with_reducible refine s_nopart ?_
  | with_reducible refine s_ii ?_
  | with_reducible refine s_sl ?_
  | with_reducible refine s_par ?_
  | with_reducible refine s_par2 ?_
  | with_reducible refine s_bm ?_
  | with_reducible refine s_gsub ?_
  | with_reducible refine s_gcons ?_
  | with_reducible refine s_gnil ?_
  | with_reducible refine o_addI ?_
  | with_reducible refine o_sub ?_
  | with_reducible refine o_eqI ?_
  | with_reducible refine o_neI ?_
  | with_reducible refine o_ltI ?_
  | with_reducible refine o_le ?_
  | with_reducible refine o_gt ?_
  | with_reducible refine o_ge ?_
  | with_reducible refine o_int ?_
  | with_reducible refine o_intB ?_
  | with_reducible refine o_abs ?_
  | with_reducible refine o_max2 ?_
  | with_reducible refine o_min2 ?_
  | with_reducible refine o_isN ?_
  | with_reducible refine o_notN ?_
  | with_reducible refine o_mulI (by first | exact Or.inl ⟨by decide, by decide⟩ | exact Or.inr ⟨by decide, by decide⟩ | (first | (refine Or.inl ⟨?_, ?_⟩ <;> omega) | (refine Or.inr ⟨?_, ?_⟩ <;> omega))) ?_
  | with_reducible refine o_mod (by first | decide | omega) ?_
  | with_reducible refine o_div (by first | decide | omega) (by first | decide | omega) ?_
  | with_reducible refine s_blx ?_
  | with_reducible refine o_ixL (SqL.of (by assumption)) (by first | with_unfolding_all rfl | with_unfolding_all exact at_zero _ _) ?_
  | with_reducible refine o_ixT (by assumption) (by first | with_unfolding_all rfl | with_unfolding_all exact at_zero _ _) ?_
  | with_reducible refine o_tyL (by assumption) ?_
  | with_reducible refine iteT ?_
  | with_reducible refine iteF ?_)
local macro_rules | `(tactic| walk_at "sx") => `(tactic| repeat (walk_at "s1"))
/-- the lists at qs, under p -/
structure Nst (K : Fg) (H H' : Hp) (p : Addr) (qs : List Addr) (F : Nat → List (Int × Int)) : Prop where
  s : Same H H'
  np : H p = none
  p' : H' p = some (.lst (qs.map V.ref))
  nd : qs.Nodup
  pq : p ∉ qs
  nq : ∀ q ∈ qs, H q = none
  at' : ∀ j q, qs[j]? = some q → ∃ vs, H' q = some (.lst vs) ∧ Tps K H' vs ((F j).map dP)
section
variable {K : Fg} {H H1 H2 H3 : Hp} {p q : Addr} {qs : List Addr} {F G : Nat → List (Int × Int)} {j : Nat} {vs : List V}
theorem Nst.same (N : Nst K H H1 p qs F) (e : Same H1 H2) : Nst K H H2 p qs F :=
  ⟨N.s.trans e, N.np, e _ _ N.p', N.nd, N.pq, N.nq, fun j q h => (N.at' j q h).elim fun vs z => ⟨vs, e _ _ z.1, z.2.same e⟩⟩
theorem Nst.app (N : Nst K H H1 p qs F) (hj : qs[j]? = some q) (hv : H1 q = some (.lst vs)) (tv : Tps K H1 vs ((F j).map dP)) {u : V} {d : Int × Int} (tu : Tp K H1 u (dP d)) (a : At q (.lst (vs ++ [u])) H1 H2) (hG : ∀ i, i < qs.length → G i = if i = j then F j ++ [d] else F i) : Nst K H H2 p qs G := by
  have hm := List.mem_of_getElem? hj
  have tm := a.tm hv
  refine ⟨fun b o h => a.ne (N.s b o h) (ne_of_none h (N.nq q hm)), N.np, a.ne N.p' (fun z => N.pq (z ▸ hm)), N.nd, N.pq, N.nq, fun i r hr => ?_⟩
  have hi := (List.getElem?_eq_some_iff.mp hr).1
  by_cases e : i = j
  · subst e
    rw [hj] at hr
    cases hr
    refine ⟨_, a.1, ?_⟩
    rw [hG i hi, if_pos rfl, List.map_append]
    exact (tv.tm tm).append (.cons (tu.tm tm) .nil)
  · obtain ⟨ws, h1, h2⟩ := N.at' i r hr
    refine ⟨ws, a.ne h1 fun z => e ?_, ?_⟩
    · subst z
      have hjl := (List.getElem?_eq_some_iff.mp hj).1
      exact (List.getElem?_inj hi N.nd).mp (hr.trans hj.symm)
    · rw [hG i hi, if_neg e]
      exact h2.tm tm
end
theorem ods_of {K : Fg} {G : Ads} {H : Hp} : ∀ {vs : List V} {ds : List PyData}, vs.length = ds.length → (∀ (i : Nat) (v : V) (d : PyData), vs[i]? = some v → ds[i]? = some d → Od K G H v d) → Ods K G H vs ds
  | [], [], _, _ => .nil
  | v :: vs, d :: ds, h, k => .cons (k 0 v d rfl rfl) (ods_of (by simpa using h) fun i v d a b => k (i + 1) v d a b)
  | [], _ :: _, h, _ => by cases h
  | _ :: _, [], h, _ => by cases h
end UW.Bg
namespace UW
open PySem PySem.Spec PyProof.Rows L2
/-- one step -/
local macro_rules | `(tactic| walk_at "a1") => `(tactic| first
  | with_reducible refine wk ?_
  | (with_reducible refine rs_go 1 ?_
     first
     | with_reducible refine a_var (by with_unfolding_all rfl) (by with_unfolding_all rfl) ?_
     | with_reducible refine a_gtup (by with_unfolding_all rfl) (by with_unfolding_all rfl) ?_
     | with_reducible refine a_glst (by with_unfolding_all rfl) (by with_unfolding_all rfl) ?_)
  | (with_reducible refine rs_go 2 ?_
     first
     | with_reducible refine g_ixT (by with_unfolding_all rfl) (by first | with_unfolding_all rfl | with_unfolding_all exact at_zero _ _) ?_
     | with_reducible refine g_ixL (by with_unfolding_all rfl) (by first | with_unfolding_all rfl | with_unfolding_all exact at_zero _ _) ?_)
  | (with_reducible refine rs_go 3 ?_
     first
     | with_reducible refine g_lenT (by with_unfolding_all rfl) ?_
     | with_reducible refine g_lenL (by with_unfolding_all rfl) ?_
     | with_reducible refine g_tupL (by with_unfolding_all rfl) ?_
     | with_reducible refine g_tupT (by with_unfolding_all rfl) ?_
     | with_reducible refine g_lstT (by with_unfolding_all rfl) ?_
     | with_reducible refine g_lstL (by with_unfolding_all rfl) ?_)
  | (with_reducible refine rs_go 4 ?_
     first
     | with_reducible refine g_addL (by with_unfolding_all rfl) (by with_unfolding_all rfl) (Nat.le_of_ble_eq_true (by with_unfolding_all rfl)) ?_
     | with_reducible refine g_mulI (by first | exact Or.inl ⟨by decide, by decide⟩ | exact Or.inr ⟨by decide, by decide⟩ | (first | (refine Or.inl ⟨?_, ?_⟩ <;> omega) | (refine Or.inr ⟨?_, ?_⟩ <;> omega))) ?_
     | with_reducible refine g_mod (by first | decide | omega) ?_
     | with_reducible refine g_div (by first | decide | omega) (by first | decide | omega) ?_
     | with_reducible refine g_slT (by with_unfolding_all rfl) ?_
     | with_reducible refine g_slL (by with_unfolding_all rfl) ?_
     | with_reducible refine g_isN (by with_unfolding_all rfl) ?_
     | with_reducible refine g_notN (by with_unfolding_all rfl) ?_)
  | (with_reducible refine rs_go 5 ?_
     first
     | with_reducible refine a_dget (by with_unfolding_all rfl) ?_
     | with_reducible refine a_dget2 (by with_unfolding_all rfl) ?_
     | with_reducible refine a_fzq (by with_unfolding_all rfl) ?_
     | with_reducible refine a_retC (by with_unfolding_all rfl) ?_
     | with_reducible refine a_isX (by with_unfolding_all rfl) ?_
     | with_reducible refine a_app (by with_unfolding_all rfl) ?_
     | with_reducible refine a_ext (by with_unfolding_all rfl) ?_
     | with_reducible refine a_pop (by with_unfolding_all rfl) ?_
     | with_reducible refine a_fz (by with_unfolding_all rfl) ?_
     | with_reducible refine a_lenDV (by with_unfolding_all rfl) ?_)
  | (with_reducible refine rs_go 6 ?_
     first
     | with_reducible refine a_cl (by with_unfolding_all rfl) ?_
     | with_reducible refine a_dat (by with_unfolding_all rfl) ?_
     | with_reducible refine a_s1 (by with_unfolding_all rfl) ?_
     | with_reducible refine a_dcy (by with_unfolding_all rfl) ?_
     | with_reducible refine a_s2 (by with_unfolding_all rfl) (by with_unfolding_all rfl) ?_
     | with_reducible refine a_s3 (by with_unfolding_all rfl) (by with_unfolding_all rfl) (by with_unfolding_all rfl) ?_
     | with_reducible refine a_owned (by with_unfolding_all rfl) ?_)
  | (with_reducible refine rs_go 7 ?_
     first
     | with_reducible refine i_B (by with_unfolding_all rfl) ?_
     | with_reducible refine i_T (by with_unfolding_all rfl) ?_
     | with_reducible refine i_L (by with_unfolding_all rfl) ?_)
  | (with_reducible refine rs_go 8 ?_
     first
     | with_reducible refine a_nb (by with_unfolding_all rfl) ?_
     | with_reducible refine a_len (by with_unfolding_all rfl) ?_
     | with_reducible refine a_revT (by with_unfolding_all rfl) ?_
     | with_reducible refine a_revL (by with_unfolding_all rfl) ?_)
  | (with_reducible refine rs_go 9 ?_
     first
     | with_reducible refine iteNT (by with_unfolding_all rfl) ?_
     | with_reducible refine iteNF (by with_unfolding_all rfl) ?_
     | with_reducible refine iteIT (by with_unfolding_all rfl) ?_
     | with_reducible refine iteIF (by with_unfolding_all rfl) ?_))
local macro_rules | `(tactic| walk_at "ax") => `(tactic| (repeat (first | walk_at "a1" | with_reducible refine a_if ?_); try dsimp only [List.set_cons_zero, List.set_cons_succ, awipe, aFrz, List.getElem?_cons_zero, List.getElem?_cons_succ]))
local macro_rules | `(tactic| walk_at "ay") => `(tactic| (repeat (walk_at "a1"); try dsimp only [List.set_cons_zero, List.set_cons_succ, awipe, aFrz, List.getElem?_cons_zero, List.getElem?_cons_succ]))
theorem Laid.to {n : Int} {rs : List (Int × Int)} {ms ls ls' : List Int} (L : Laid n rs ms ls) (h : ls'.length = ls.length) : Laid n rs ms ls' := ⟨L.ok, L.lm, by rw [h]; exact L.ll, L.n0, L.n1, L.r1⟩
theorem enD_at {ds : List PyData} {i : Nat} {x : PyData} (h : (enD ds)[i]? = some x) : ∃ d, ds[i]? = some d ∧ x = .tuple [.int (i : Int), d] := by
  have hi := (List.getElem?_eq_some_iff.mp h).1
  rw [enD_len] at hi
  have e := List.getElem?_eq_getElem hi
  rw [enD_get e] at h
  exact ⟨_, e, (Option.some.inj h).symm⟩
theorem snoc_of {α : Type} {l : List α} (h : l ≠ []) : ∃ V p, l = V ++ [p] := ⟨l.dropLast, l.getLast h, (List.dropLast_concat_getLast h).symm⟩
section
variable {n : Int} {rs : List (Int × Int)} {ms ls : List Int} {x : AXc} {k : Avl → Prop} {C : Cl}
end
end UW
namespace UW
open PySem PySem.Spec PyProof.Rows L2
section
variable {k : Avl → Prop}
theorem shw {d : PyData} {k n : Nat} (h : Okx d k n) (hk : k ≤ 60 := by decide) (hn : n ≤ 10000000 := by decide) : Shw d := ⟨h.sh, Nat.le_trans h.dp hk, Nat.le_trans h.ln hn⟩
def Itm (d : PyData) : Prop := Okx d 3 2000
def Its' (ds : List PyData) : Prop := ∀ d ∈ ds, Itm d
theorem Its'.app {ds es : List PyData} (h : Its' ds) (g : Its' es) : Its' (ds ++ es) := fun d hd => (List.mem_append.mp hd).elim (h d) (g d)
theorem Its'.one {d : PyData} (h : Itm d) : Its' [d] := fun e he => by rw [List.mem_singleton.mp he]; exact h
theorem Its'.sub {ds es : List PyData} (h : Its' ds) (s : ∀ d ∈ es, d ∈ ds) : Its' es := fun d hd => h d (s d hd)
theorem Its'.cut {ds : List PyData} (h : Its' ds) (lo hi : Option Int) : Its' (cutD ds lo hi) := h.sub fun d hd => List.mem_of_mem_drop (List.mem_of_mem_take hd)
theorem okx_t0 : Okx (.tuple []) 1 2 := Okx.tup (k := 0) (n := 0) (m := 0) (fun d hd => by cases hd) (Nat.le_refl _)
end
end UW
namespace UW
open PySem PySem.Spec PyProof.Rows L2
section
end
end UW
namespace UW
open PySem PySem.Spec PyProof.Rows L2
def Adj (rs : List (Int × Int)) (x y : Int) : Prop := (x, y) ∈ rs ∨ (y, x) ∈ rs
theorem Adj.symm {rs : List (Int × Int)} {x y : Int} (h : Adj rs x y) : Adj rs y x := h.elim .inr .inl
/-- y may be come to from x in k steps -/
inductive Rch (rs : List (Int × Int)) : Int → Nat → Int → Prop
  | z (p : Int) : Rch rs p 0 p
  | s {p : Int} {k : Nat} {x y : Int} : Rch rs p k x → Adj rs x y → Rch rs p (k + 1) y
section
variable {rs : List (Int × Int)} {p x y : Int} {j k : Nat}
theorem Rch.trans (a : Rch rs p j x) (b : Rch rs x k y) : Rch rs p (j + k) y := by
  induction b with
  | z => exact a
  | s _ h ih => exact .s ih h
theorem Rch.rev (a : Rch rs p k x) : Rch rs x k p := by
  induction a with
  | z => exact .z _
  | @s k x y _ h ih =>
    have := Rch.trans (.s (.z y) h.symm) ih
    rwa [show 0 + 1 + k = k + 1 from by omega] at this
/-- the fewest steps -/
def Dst (rs : List (Int × Int)) (p x : Int) (k : Nat) : Prop := Rch rs p k x ∧ ∀ e, e < k → ¬ Rch rs p e x
theorem Dst.uniq (a : Dst rs p x k) (b : Dst rs p x j) : k = j := by
  rcases Nat.lt_trichotomy k j with h | h | h
  · exact absurd a.1 (b.2 k h)
  · exact h
  · exact absurd b.1 (a.2 j h)
theorem Dst.ex (h : Rch rs p k x) : ∃ j, j ≤ k ∧ Dst rs p x j := by
  induction k using Nat.strongRecOn with
  | ind k ih =>
    by_cases q : ∃ e, e < k ∧ Rch rs p e x
    · obtain ⟨e, he, r⟩ := q
      obtain ⟨j, hj, d⟩ := ih e he r
      exact ⟨j, by omega, d⟩
    · exact ⟨k, Nat.le_refl _, h, fun e he r => q ⟨e, he, r⟩⟩
theorem Dst.zero : Dst rs p p 0 := ⟨.z p, fun e h => absurd h (by omega)⟩
theorem Dst.nil (h : Dst rs p x 0) : x = p := by cases h.1; rfl
theorem Dst.pred (h : Dst rs p y (k + 1)) : ∃ x, Dst rs p x k ∧ Adj rs x y := by
  obtain ⟨r, m⟩ := h
  cases r with
  | s r a => exact ⟨_, ⟨r, fun e he q => m (e + 1) (by omega) (.s q a)⟩, a⟩
theorem Dst.next (h : Dst rs p x k) (a : Adj rs x y) : ∃ j, j ≤ k + 1 ∧ Dst rs p y j := Dst.ex (.s h.1 a)
theorem Dst.tri {i : Nat} (a : Dst rs p x k) (b : Dst rs x y j) (c : Dst rs p y i) : i ≤ k + j := by
  by_cases h : i ≤ k + j
  · exact h
  · exact absurd (a.1.trans b.1) (c.2 _ (by omega))
theorem nodup_len : ∀ {l r : List Int}, l.Nodup → (∀ x ∈ l, x ∈ r) → l.length ≤ r.length
  | [], _, _, _ => Nat.zero_le _
  | x :: l, r, nd, h => by
    obtain ⟨n1, n2⟩ := List.nodup_cons.mp nd
    have hx := h x List.mem_cons_self
    have := nodup_len (l := l) (r := r.erase x) n2 fun y hy => by
      have : y ≠ x := fun e => n1 (e ▸ hy)
      exact (List.mem_erase_of_ne this).mpr (h y (List.mem_cons_of_mem _ hy))
    rw [List.length_erase_of_mem hx] at this
    have := List.length_pos_of_mem hx
    rw [List.length_cons]
    omega
def lk (m : List (Int × Nat)) (x : Int) : Option Nat := (m.find? fun q => decide (q.1 = x)).map (·.2)
theorem lk_none {m : List (Int × Nat)} {x : Int} (h : lk m x = none) : ∀ q ∈ m, q.1 ≠ x := by
  intro q hq e
  unfold lk at h
  rw [Option.map_eq_none_iff, List.find?_eq_none] at h
  exact h q hq (decide_eq_true e)
theorem lk_mem {m : List (Int × Nat)} {x : Int} {k : Nat} (h : lk m x = some k) : (x, k) ∈ m := by
  unfold lk at h
  cases q : m.find? fun q => decide (q.1 = x) with
  | none => rw [q] at h; cases h
  | some z =>
    rw [q] at h
    have h2 := List.find?_some q
    have h3 := List.mem_of_find?_eq_some q
    have e1 : z.1 = x := of_decide_eq_true h2
    have e2 : z.2 = k := Option.some.inj h
    rw [← e1, ← e2]
    exact h3
theorem lk_snoc {m : List (Int × Nat)} {x : Int} {k : Nat} (h : lk m x = none) (y : Int) : lk (m ++ [(x, k)]) y = if y = x then some k else lk m y := by
  unfold lk at h ⊢
  rw [List.find?_append]
  by_cases e : y = x
  · subst e
    rw [if_pos rfl]
    have : (m.find? fun q => decide (q.1 = y)) = none := by simpa using h
    rw [this]
    simp
  · rw [if_neg e]
    cases q : m.find? fun q => decide (q.1 = y) with
    | some z => rfl
    | none => simp [Ne.symm e]
/-- keys are apart, and places -/
def Kys (n : Int) (m : List (Int × Nat)) : Prop := (m.map (·.1)).Nodup ∧ ∀ q ∈ m, 0 ≤ q.1 ∧ q.1 < n
theorem Kys.len {n : Int} {m : List (Int × Nat)} (h : Kys n m) : m.length ≤ n.toNat := by
  have := nodup_len (l := m.map (·.1)) (r := iota n.toNat) h.1 fun x hx => by
    obtain ⟨q, hq, rfl⟩ := List.mem_map.mp hx
    have := h.2 q hq
    unfold iota
    exact List.mem_map.mpr ⟨q.1.toNat, List.mem_range.mpr (by omega), by omega⟩
  rwa [List.length_map, iota_len] at this
theorem Kys.snoc {n : Int} {m : List (Int × Nat)} (h : Kys n m) (h1 : lk m x = none) (h0 : 0 ≤ x) (h2 : x < n) : Kys n (m ++ [(x, k)]) := by
  refine ⟨?_, fun q hq => ?_⟩
  · rw [List.map_append, List.nodup_append]
    refine ⟨h.1, by simp, fun a ha b hb => ?_⟩
    obtain ⟨q, hq, rfl⟩ := List.mem_map.mp ha
    simp at hb
    rw [hb]
    exact lk_none h1 q hq
  · rcases List.mem_append.mp hq with hq | hq
    · exact h.2 q hq
    · rw [List.mem_singleton.mp hq]
      exact ⟨h0, h2⟩
theorem Kys.one {n : Int} (h0 : 0 ≤ p) (h1 : p < n) : Kys n [(p, 0)] := ⟨by simp, fun q hq => by rw [List.mem_singleton.mp hq]; exact ⟨h0, h1⟩⟩
structure Bf (rs : List (Int × Int)) (p : Int) (d : Nat) (A B : List Int) (m : List (Int × Nat)) (U : Int → Prop) : Prop where
  i1 : ∀ x k, lk m x = some k → Dst rs p x k
  ia : ∀ a ∈ A, lk m a = some d
  ib : ∀ b ∈ B, lk m b = some (d + 1)
  i4 : ∀ x, lk m x ≠ none → x ∉ A → x ∉ B → ¬ U x → ∀ y, Adj rs x y → lk m y ≠ none
  i5 : ∀ y e, Dst rs p y e → e ≤ d → lk m y ≠ none
theorem some_of {o : Option Nat} (h : o ≠ none) : ∃ k, o = some k := by cases o with | none => exact absurd rfl h | some k => exact ⟨k, rfl⟩
variable {d : Nat} {A B : List Int} {m : List (Int × Nat)} {U : Int → Prop} {u : Int}
theorem Bf.start : Bf rs p 0 [p] [] [(p, 0)] fun _ => False := by
  have l1 : lk [(p, 0)] p = some 0 := by simp [lk]
  have l2 : ∀ x k, lk [(p, 0)] x = some k → x = p ∧ k = 0 := fun x k h => by
    have := lk_mem h
    simp at this
    exact this
  refine ⟨fun x k h => ?_, fun a ha => ?_, fun b hb => (by cases hb), fun x hx ha => ?_, fun y e h he => ?_⟩
  · obtain ⟨rfl, rfl⟩ := l2 x k h
    exact .zero
  · rw [List.mem_singleton.mp ha]; exact l1
  · obtain ⟨k, e⟩ := some_of hx
    obtain ⟨rfl, rfl⟩ := l2 x k e
    exact absurd List.mem_cons_self ha
  · obtain rfl : e = 0 := by omega
    rw [h.nil, l1]
    intro z
    cases z
theorem Bf.pop (h : Bf rs p d (u :: A) B m fun _ => False) : Bf rs p d A B m fun x => x = u :=
  ⟨h.i1, fun a ha => h.ia a (List.mem_cons_of_mem _ ha), h.ib, fun x hx ha hb hu => h.i4 x hx (fun z => (List.mem_cons.mp z).elim hu ha) hb id, h.i5⟩
theorem Bf.add (h : Bf rs p d A B m fun x => x = u) (hu : lk m u = some d) (ha : Adj rs u y) (hy : lk m y = none) : Bf rs p d A (B ++ [y]) (m ++ [(y, d + 1)]) fun x => x = u := by
  have ls := lk_snoc (k := d + 1) hy
  have ne : ∀ x, lk m x ≠ none → x ≠ y := fun x hx e => hx (e ▸ hy)
  have mono : ∀ x, lk m x ≠ none → lk (m ++ [(y, d + 1)]) x ≠ none := fun x hx => by rw [ls, if_neg (ne x hx)]; exact hx
  refine ⟨fun x k e => ?_, fun a q => ?_, fun b q => ?_, fun x hx h1 h2 h3 z hz => ?_, fun z e q he => mono z (h.i5 z e q he)⟩
  · rw [ls] at e
    by_cases q : x = y
    · rw [if_pos q] at e
      cases e
      rw [q]
      obtain ⟨j, hj, dj⟩ := (h.i1 u d hu).next ha
      by_cases z : j ≤ d
      · exact absurd hy (h.i5 y j dj z)
      · obtain rfl : j = d + 1 := by omega
        exact dj
    · rw [if_neg q] at e
      exact h.i1 x k e
  · have := h.ia a q
    rw [ls, if_neg (ne a (by rw [this]; intro z; cases z))]
    exact this
  · rcases List.mem_append.mp q with q | q
    · have := h.ib b q
      rw [ls, if_neg (ne b (by rw [this]; intro z; cases z))]
      exact this
    · rw [ls, if_pos (List.mem_singleton.mp q)]
  · rw [ls] at hx
    have nx : x ≠ y := fun q => h2 (List.mem_append.mpr (.inr (List.mem_singleton.mpr q)))
    rw [if_neg nx] at hx
    exact mono z (h.i4 x hx h1 (fun q => h2 (List.mem_append.mpr (.inl q))) h3 z hz)
theorem Bf.done (h : Bf rs p d [] [] m fun _ => False) : ∀ x k, Dst rs p x k → lk m x = some k := by
  have vis : ∀ k x, Rch rs p k x → lk m x ≠ none := by
    intro k x r
    induction r with
    | z => exact h.i5 _ 0 .zero (Nat.zero_le _)
    | s _ a ih => exact h.i4 _ ih (fun z => by cases z) (fun z => by cases z) id _ a
  intro x k q
  obtain ⟨j, e⟩ := some_of (vis k x q.1)
  rw [e, (h.i1 x j e).uniq q]
end
theorem eqv_ii (a b : Int) : PyData.eqv (.int a) (.int b) = decide (a = b) := by simp only [PyData.eqv]; first | rfl | exact beq_eq_decide a b
theorem any_ints (ws : List Int) (a : Int) : ((ws.map PyData.int).any fun z => PyData.eqv z (.int a)) = decide (a ∈ ws) := by
  induction ws with
  | nil => rfl
  | cons w ws ih =>
    rw [List.map_cons, List.any_cons, ih, eqv_ii]
    by_cases h : w = a
    · rw [decide_eq_true h, Bool.true_or, decide_eq_true (List.mem_cons.mpr (.inl h.symm))]
    · rw [decide_eq_false h, Bool.false_or]
      by_cases g : a ∈ ws
      · rw [decide_eq_true g, decide_eq_true (List.mem_cons_of_mem _ g)]
      · rw [decide_eq_false g, decide_eq_false (fun z => (List.mem_cons.mp z).elim (fun e => h e.symm) g)]
structure Lv (rs : List (Int × Int)) (p : Int) (c : Nat) (m : List (Int × Nat)) (near : List Int) : Prop where
  v1 : ∀ x k, lk m x = some k → Dst rs p x k ∧ k ≤ c
  v2 : ∀ x k, Dst rs p x k → k ≤ c → lk m x = some k
  v3 : ∀ x, x ∈ near ↔ Dst rs p x c
section
variable {rs : List (Int × Int)} {p : Int} {c : Nat} {m m' : List (Int × Nat)} {near F : List Int}
theorem Lv.start : Lv rs p 0 [(p, 0)] [p] := by
  have l1 : lk [(p, 0)] p = some 0 := by simp [lk]
  refine ⟨fun x k h => ?_, fun x k h hk => ?_, fun x => ?_⟩
  · have := lk_mem h
    simp at this
    obtain ⟨rfl, rfl⟩ := this
    exact ⟨.zero, Nat.le_refl _⟩
  · obtain rfl : k = 0 := by omega
    rw [h.nil]; exact l1
  · rw [List.mem_singleton]
    exact ⟨fun e => e ▸ .zero, fun h => h.nil⟩
/-- what an edge from a near place to one not found tells -/
theorem Lv.new {x y : Int} (h : Lv rs p c m near) (hx : x ∈ near) (hy : lk m y = none) (a : Adj rs x y) : Dst rs p y (c + 1) := by
  obtain ⟨j, hj, d⟩ := ((h.v3 x).mp hx).next a
  by_cases z : j ≤ c
  · rw [h.v2 y j d z] at hy; cases hy
  · obtain rfl : j = c + 1 := by omega
    exact d
theorem Lv.next (h : Lv rs p c m near) (hF : ∀ y ∈ F, Dst rs p y (c + 1)) (hG : ∀ x y, x ∈ near → Adj rs x y → lk m y = none → y ∈ F) (hm : ∀ y, lk m' y = if y ∈ F then some (c + 1) else lk m y) : Lv rs p (c + 1) m' F := by
  have no : ∀ y, Dst rs p y (c + 1) → lk m y = none := fun y d => by
    cases q : lk m y with
    | none => rfl
    | some k =>
      obtain ⟨d2, hk⟩ := h.v1 y k q
      have := d.uniq d2
      omega
  have full : ∀ y, Dst rs p y (c + 1) → y ∈ F := fun y d => by
    obtain ⟨x, dx, a⟩ := d.pred
    exact hG x y ((h.v3 x).mpr dx) a (no y d)
  refine ⟨fun x k e => ?_, fun x k d hk => ?_, fun x => ⟨hF x, full x⟩⟩
  · rw [hm] at e
    split at e
    · rename_i c1
      cases e
      exact ⟨hF x c1, Nat.le_refl _⟩
    · obtain ⟨d, hk⟩ := h.v1 x k e
      exact ⟨d, by omega⟩
  · rw [hm]
    by_cases z : k ≤ c
    · have e := h.v2 x k d z
      rw [if_neg (fun q => by rw [no x (hF x q)] at e; cases e)]
      exact e
    · obtain rfl : k = c + 1 := by omega
      rw [if_pos (full x d)]
theorem dst_down {x : Int} : ∀ {k : Nat}, Dst rs p x k → c ≤ k → ∃ y, Dst rs p y c := by
  intro k
  induction k generalizing x with
  | zero => intro d h; obtain rfl : c = 0 := (by omega); exact ⟨x, d⟩
  | succ k ih =>
    intro d h
    by_cases z : c = k + 1
    · subst z; exact ⟨x, d⟩
    · obtain ⟨w, dw, _⟩ := d.pred
      exact ih dw (by omega)
theorem Lv.done (h : Lv rs p c m []) : ∀ x k, Dst rs p x k → lk m x = some k := fun x k d => by
  by_cases z : c ≤ k
  · obtain ⟨y, dy⟩ := dst_down d z
    exact absurd ((h.v3 y).mpr dy) (by simp)
  · exact h.v2 x k d (by omega)
/-- all steps from a place -/
def DsL (n : Int) (rs : List (Int × Int)) (p : Int) (ds : List Int) : Prop := ds.length = n.toNat ∧ ∀ i : Nat, i < n.toNat → ∃ d : Nat, ds[i]? = some (d : Int) ∧ Dst rs p (i : Int) d
theorem DsL.uniq {n : Int} {ds es : List Int} (h : DsL n rs p ds) (g : DsL n rs p es) : ds = es := by
  refine List.ext_getElem? fun i => ?_
  by_cases hi : i < n.toNat
  · obtain ⟨d, e1, d1⟩ := h.2 i hi
    obtain ⟨e, e2, d2⟩ := g.2 i hi
    rw [e1, e2, d1.uniq d2]
  · rw [List.getElem?_eq_none (by rw [h.1]; omega), List.getElem?_eq_none (by rw [g.1]; omega)]
end
theorem DsL.at {n : Int} {rs : List (Int × Int)} {p q : Int} {ds : List Int} (h : DsL n rs p ds) (h0 : 0 ≤ q) (h1 : q < n) : ∃ d : Nat, atI (ds.map PyData.int) q = some (.int (d : Int)) ∧ Dst rs p q d := by
  obtain ⟨d, e, dd⟩ := h.2 q.toNat (by omega)
  rw [show ((q.toNat : Nat) : Int) = q from by omega] at dd
  refine ⟨d, ?_, dd⟩
  have := atI_nat (xs := ds.map PyData.int) (j := q.toNat) (v := .int (d : Int)) (by rw [List.getElem?_map, e]; rfl)
  rwa [show ((q.toNat : Nat) : Int) = q from by omega] at this
end UW
namespace UW.Bg
open PySem PySem.Spec PyProof.Rows L2 UW
/-- one step -/
local macro_rules | `(tactic| walk_at "a1") => `(tactic| first
  | with_reducible refine wk ?_
  | (with_reducible refine rs_go 1 ?_
     first
     | with_reducible refine a_var (by with_unfolding_all rfl) (by with_unfolding_all rfl) ?_
     | with_reducible refine a_gtup (by with_unfolding_all rfl) (by with_unfolding_all rfl) ?_
     | with_reducible refine a_glst (by with_unfolding_all rfl) (by with_unfolding_all rfl) ?_)
  | (with_reducible refine rs_go 2 ?_
     first
     | with_reducible refine g_ixT (by with_unfolding_all rfl) (by first | with_unfolding_all rfl | with_unfolding_all exact at_zero _ _) ?_
     | with_reducible refine g_ixL (by with_unfolding_all rfl) (by first | with_unfolding_all rfl | with_unfolding_all exact at_zero _ _) ?_)
  | (with_reducible refine rs_go 3 ?_
     first
     | with_reducible refine g_lenT (by with_unfolding_all rfl) ?_
     | with_reducible refine g_lenL (by with_unfolding_all rfl) ?_
     | with_reducible refine g_tupL (by with_unfolding_all rfl) ?_
     | with_reducible refine g_tupT (by with_unfolding_all rfl) ?_
     | with_reducible refine g_lstT (by with_unfolding_all rfl) ?_
     | with_reducible refine g_lstL (by with_unfolding_all rfl) ?_)
  | (with_reducible refine rs_go 4 ?_
     first
     | with_reducible refine g_addL (by with_unfolding_all rfl) (by with_unfolding_all rfl) (Nat.le_of_ble_eq_true (by with_unfolding_all rfl)) ?_
     | with_reducible refine g_mulI (by first | exact Or.inl ⟨by decide, by decide⟩ | exact Or.inr ⟨by decide, by decide⟩ | (first | (refine Or.inl ⟨?_, ?_⟩ <;> omega) | (refine Or.inr ⟨?_, ?_⟩ <;> omega))) ?_
     | with_reducible refine g_mod (by first | decide | omega) ?_
     | with_reducible refine g_div (by first | decide | omega) (by first | decide | omega) ?_
     | with_reducible refine g_slT (by with_unfolding_all rfl) ?_
     | with_reducible refine g_slL (by with_unfolding_all rfl) ?_
     | with_reducible refine g_isN (by with_unfolding_all rfl) ?_
     | with_reducible refine g_notN (by with_unfolding_all rfl) ?_)
  | (with_reducible refine rs_go 5 ?_
     first
     | with_reducible refine a_dget (by with_unfolding_all rfl) ?_
     | with_reducible refine a_dget2 (by with_unfolding_all rfl) ?_
     | with_reducible refine a_fzq (by with_unfolding_all rfl) ?_
     | with_reducible refine a_retC (by with_unfolding_all rfl) ?_
     | with_reducible refine a_isX (by with_unfolding_all rfl) ?_
     | with_reducible refine a_app (by with_unfolding_all rfl) ?_
     | with_reducible refine a_ext (by with_unfolding_all rfl) ?_
     | with_reducible refine a_pop (by with_unfolding_all rfl) ?_
     | with_reducible refine a_fz (by with_unfolding_all rfl) ?_
     | with_reducible refine a_lenDV (by with_unfolding_all rfl) ?_)
  | (with_reducible refine rs_go 6 ?_
     first
     | with_reducible refine a_cl (by with_unfolding_all rfl) ?_
     | with_reducible refine a_dat (by with_unfolding_all rfl) ?_
     | with_reducible refine a_s1 (by with_unfolding_all rfl) ?_
     | with_reducible refine a_dcy (by with_unfolding_all rfl) ?_
     | with_reducible refine a_s2 (by with_unfolding_all rfl) (by with_unfolding_all rfl) ?_
     | with_reducible refine a_s3 (by with_unfolding_all rfl) (by with_unfolding_all rfl) (by with_unfolding_all rfl) ?_
     | with_reducible refine a_owned (by with_unfolding_all rfl) ?_)
  | (with_reducible refine rs_go 7 ?_
     first
     | with_reducible refine i_B (by with_unfolding_all rfl) ?_
     | with_reducible refine i_T (by with_unfolding_all rfl) ?_
     | with_reducible refine i_L (by with_unfolding_all rfl) ?_)
  | (with_reducible refine rs_go 8 ?_
     first
     | with_reducible refine a_nb (by with_unfolding_all rfl) ?_
     | with_reducible refine a_len (by with_unfolding_all rfl) ?_
     | with_reducible refine a_revT (by with_unfolding_all rfl) ?_
     | with_reducible refine a_revL (by with_unfolding_all rfl) ?_)
  | (with_reducible refine rs_go 9 ?_
     first
     | with_reducible refine iteNT (by with_unfolding_all rfl) ?_
     | with_reducible refine iteNF (by with_unfolding_all rfl) ?_
     | with_reducible refine iteIT (by with_unfolding_all rfl) ?_
     | with_reducible refine iteIF (by with_unfolding_all rfl) ?_))
local macro_rules | `(tactic| walk_at "ax") => `(tactic| (repeat (first | walk_at "a1" | with_reducible refine a_if ?_); try dsimp only [List.set_cons_zero, List.set_cons_succ, awipe, aFrz, List.getElem?_cons_zero, List.getElem?_cons_succ]))
local macro_rules | `(tactic| walk_at "ay") => `(tactic| (repeat (walk_at "a1"); try dsimp only [List.set_cons_zero, List.set_cons_succ, awipe, aFrz, List.getElem?_cons_zero, List.getElem?_cons_succ]))
/-- _law_pick, slots bag, items -/
def t__law_pick (K : Fg) : TS :=
  (tRet (tOp (rIx K) (tVar 1) (tG (sp__law_draw K) E00 (tCons (tVar 0) (tCons (tCB (rLenU K) (tCons (tVar 1) tNil)) tNil)))))
abbrev a__law_pick : ASt :=
  (aRet (aOp gIx (aVar 1) (aCall0 m__law_draw (bCons (aVar 0) (bCons (aCB gLen (bCons (aVar 1) bNil)) bNil)))))
theorem f__law_pick {K : Fg} {E : WX} : RSt K E (t__law_pick K) a__law_pick :=
  (rs_ret (re_op ro_ix re_var (re_call0 br__law_draw (rv_cons re_var (rv_cons (re_cb rb_len (rv_cons re_var rv_nil)) rv_nil)))))
def m__law_pick : AFn := mOf 0 a__law_pick
def sp__law_pick (K : Fg) : Sp := SpA K 2 m__law_pick
theorem br__law_pick {K : Fg} : ∀ vs H Q E, SpA K 2 m__law_pick vs H Q E → sp__law_pick K vs H Q E := fun _ _ _ _ h => h
theorem l__law_pick {K : Fg} : ∀ vs H Q E, sp__law_pick K vs H Q E → vs.length = 2 := l_spa
theorem p__law_pick {K : Fg} {vs : List V} {H : Hp} {Q : VK} {E : XK} (h : sp__law_pick K vs H Q E) : t__law_pick K { nx := fun _ H' => Q .non H', rt := Q } (L2.start ["bag", "items"] vs) H :=
  p_spa (f__law_pick) h rfl
/-- _law_mixed, slots bag, items, rest, found -/
def t__law_mixed (K : Fg) : TS :=
  (tSeq (tPar 2 3 (tCons (tCB (rLstOf K) (tCons (tVar 1) tNil)) (tCons (tLst tNil) tNil))) (tSeq (tWhile (tTest (tOp (rNeU K) (tVar 2) (tLst tNil)))
    (tDrop (tBM K "list" rAppend (tVar 3) (tCons (tBM K "list" rPopAt (tVar 2) (tCons (tG (sp__law_draw K) E00 (tCons (tVar 0) (tCons (tCB (rLenU K) (tCons (tVar 2) tNil)) tNil))) tNil)) tNil)))) (tRet (tVar 3))))
abbrev a__law_mixed_0 : ASt :=
  (aSeq (aWhile (aB (aOp gNe (aVar 2) (aLst aNil))) (aAppPop 3 2 (aCall0 m__law_draw (bCons (aVar 0) (bCons (aCB gLen (bCons (aVar 2) bNil)) bNil))))) (aRet (aVar 3)))
abbrev a__law_mixed : ASt :=
  (aSeq (aSet2 2 3 (aCB gLstOf (bCons (aVar 1) bNil)) (aLst aNil)) a__law_mixed_0)
theorem f__law_mixed {K : Fg} {E : WX} : RSt K E (t__law_mixed K) a__law_mixed :=
  (rs_seq (rs_set2 (re_cb rb_lstOf (rv_cons re_var rv_nil)) (re_lst ra_nil)) (rs_seq (rs_while (rt_test (re_op ro_ne re_var (re_lst ra_nil)))
    (rs_appPop (re_call0 br__law_draw (rv_cons re_var (rv_cons (re_cb rb_len (rv_cons re_var rv_nil)) rv_nil))))) (rs_ret re_var)))
def m__law_mixed : AFn := mOf 2 a__law_mixed
def sp__law_mixed (K : Fg) : Sp := SpA K 2 m__law_mixed
theorem br__law_mixed {K : Fg} : ∀ vs H Q E, SpA K 2 m__law_mixed vs H Q E → sp__law_mixed K vs H Q E := fun _ _ _ _ h => h
theorem l__law_mixed {K : Fg} : ∀ vs H Q E, sp__law_mixed K vs H Q E → vs.length = 2 := l_spa
theorem p__law_mixed {K : Fg} {vs : List V} {H : Hp} {Q : VK} {E : XK} (h : sp__law_mixed K vs H Q E) : t__law_mixed K { nx := fun _ H' => Q .non H', rt := Q } (L2.start ["bag", "items", "rest", "found"] vs) H :=
  p_spa (f__law_mixed) h rfl
abbrev a__law_roads_0 : ASt :=
  (aIfS (aAnd (aB (aOp gNe (aVar 8) (aVar 6))) (aB (aOp (gIn true) (aTup (aCons (aCB gMin2 (bCons (aVar 8) (bCons (aVar 6) bNil))) (aCons (aCB gMax2 (bCons (aVar 8) (bCons (aVar 6) bNil))) aNil)))
    (aVar 3)))) (aApp 3 (aTup (aCons (aCB gMin2 (bCons (aVar 8) (bCons (aVar 6) bNil))) (aCons (aCB gMax2 (bCons (aVar 8) (bCons (aVar 6) bNil))) aNil)))) aNext)
abbrev a__law_roads_1 : ASt :=
  (aSeq (aFor (aRng1 (bCons (aIf (aB (aOp gEq (aVar 1) (aC (.str "round")))) (aOp gAdd (aC (.int 1)) (aCall0 m__law_draw (bCons (aVar 0) (bCons (aC (.int 2)) bNil)))) (aC (.int 0))) bNil)) (agName 7)
    (aSeq (aAsg (aTup (aCons (aCall0 m__law_draw (bCons (aVar 0) (bCons (aVar 2) bNil))) (aCons (aCall0 m__law_draw (bCons (aVar 0) (bCons (aVar 2) bNil))) aNil))) (agTup 2 (agCons (agName 8) (agCons (agName 6) agNil))))
    a__law_roads_0)) (aRet (aVar 3)))
abbrev a__law_roads_2 : ASt :=
  (aSeq (aFor (aRng2 (bCons (aC (.int 1)) (bCons (aVar 4) bNil))) (agName 5) (aSet 3 (aOp gAdd (aVar 3) (aLst (aCons (aTup (aCons (aCall0 m__law_draw (bCons (aVar 0) (bCons (aVar 5) bNil))) (aCons
    (aOp gSub' (aOp gAdd (aVar 4) (aVar 5)) (aC (.int 1))) aNil))) (aCons (aTup (aCons (aVar 5) (aCons (aOp gSub' (aOp gAdd (aVar 4) (aVar 5)) (aC (.int 1))) aNil))) aNil)))))) (aRet (aVar 3)))
abbrev a__law_roads_3 : ASt :=
  (aSeq (aFor (aRng2 (bCons (aC (.int 1)) (bCons (aVar 2) bNil))) (agName 6) (aApp 3 (aTup (aCons (aOp gSub' (aOp gSub' (aVar 6) (aC (.int 1))) (aCall0 m__law_draw (bCons (aVar 0) (bCons (aCB gMin2
    (bCons (aVar 6) (bCons (aC (.int 3)) bNil))) bNil)))) (aCons (aVar 6) aNil))))) a__law_roads_1)
abbrev a__law_roads_4 : ASt :=
  (aSeq (aIfS (aB (aOp gEq (aVar 1) (aC (.str "parted")))) (aSeq (aAsg (aOp gDiv (aOp gAdd (aVar 2) (aC (.int 1))) (aC (.int 2))) (agName 4)) a__law_roads_2) aNext) a__law_roads_3)
abbrev a__law_roads_5 : ASt :=
  (aSeq (aSet 3 (aLst aNil)) a__law_roads_4)
abbrev a__law_roads_6 : ASt :=
  (aSeq (aFor (aRng1 (bCons (aVar 2) bNil)) (agName 6) (aSet 3 (aOp gAdd (aVar 3) (aLc (aRng1 (bCons (aVar 6) bNil)) (agName 8) aYes (aTup (aCons (aVar 8) (aCons (aVar 6) aNil))) [8])))) (aRet (aVar
    3)))
abbrev a__law_roads_7 : ASt :=
  (aSeq (aIfS (aB (aOp (gIn false) (aVar 1) (aTup (aCons (aC (.str "path")) (aCons (aC (.str "ring")) aNil))))) (aRet (aOp gAdd (aLc (aRng1 (bCons (aOp gSub' (aVar 2) (aC (.int 1))) bNil)) (agName 8)
    aYes (aTup (aCons (aVar 8) (aCons (aOp gAdd (aVar 8) (aC (.int 1))) aNil))) [8]) (aIf (aB (aOp gEq (aVar 1) (aC (.str "ring")))) (aLst (aCons (aTup (aCons (aC (.int 0)) (aCons (aOp gSub' (aVar 2) (aC (.int 1))) aNil))) aNil))
    (aLst aNil)))) aNext) a__law_roads_5)
abbrev a__law_roads : ASt :=
  (aSeq (aIfS (aB (aOp gEq (aVar 1) (aC (.str "full")))) (aSeq (aSet 3 (aLst aNil)) a__law_roads_6) aNext) a__law_roads_7)
def m__law_roads : AFn := mOf 6 a__law_roads
def sp__law_roads (K : Fg) : Sp := SpA K 3 m__law_roads
theorem br__law_roads {K : Fg} : ∀ vs H Q E, SpA K 3 m__law_roads vs H Q E → sp__law_roads K vs H Q E := fun _ _ _ _ h => h
/-- _law_web, slots bag, kind, n, wide, roads, most, names, rows, a, b, bound, row -/
def t__law_web (K : Fg) : TS :=
  (tSeq (tAsg (tG (sp__law_roads K) E00 (tCons (tVar 0) (tCons (tVar 1) (tCons (tVar 2) tNil)))) (gName 4)) (tSeq
    (tAsg (tIf (tTest (tOp (rEqU K) (tVar 1) (tC (.str "parted")))) (tOp rSubI (tOp (rMulU K) (tC (.int 2)) (tOp rDivI (tOp (rAddU K) (tVar 2) (tC (.int 1))) (tC (.int 2)))) (tC (.int 1))) (tVar 2)) (gName 2)) (tSeq (tPar 5 6
    (tCons (tOp (rMulU K) (tLst (tCons (tC (.int 1)) tNil)) (tCB (rLenU K) (tCons (tVar 4) tNil))) (tCons (tG (sp__law_mixed K) E00 (tCons (tVar 0) (tCons (tLstRg (tRg1 (tVar 2))) tNil))) tNil))) (Evl.tCut (tIfS (tTest (tOp (rEqU
    K) (tVar 3) (tC (.int 1)))) (tAsg (tC (.int 2)) (gSub (tVar 5) (tG (sp__law_draw K) E00 (tCons (tVar 0) (tCons (tCB (rLenU K) (tCons (tVar 5) tNil)) tNil))) rSetL)) tNext) (Evl.tCut (tIfS (tTest (tOp (rEqU K) (tVar 3) (tC (.int
    2)))) (tAsg (tLc (iSeq K (tVar 5)) (gName 10) tYes (tOp (rAddU K) (tC (.int 1)) (tG (sp__law_draw K) E00 (tCons (tVar 0) (tCons (tC (.int 3)) tNil)))) [10]) (gName 5)) tNext) (tSeq (tAsg (tLst tNil) (gName 7)) (tSeq (tFor
    (RZ.iZipA K (tCons (tVar 4) (tCons (tVar 5) tNil))) (gTup K 2 (gCons (gTup K 2 (gCons (gName 8) (gCons (gName 9) gNil))) (gCons (gName 10) gNil))) (tDrop (tBM K "list" rAppend (tVar 7) (tCons (tTup (tCons (tCB rMin2 (tCons (tOp
    (rIx K) (tVar 6) (tVar 8)) (tCons (tOp (rIx K) (tVar 6) (tVar 9)) tNil))) (tCons (tCB rMax2 (tCons (tOp (rIx K) (tVar 6) (tVar 8)) (tCons (tOp (rIx K) (tVar 6) (tVar 9)) tNil))) (tCons (tVar 10) tNil)))) tNil)))) (tSeq (tAsg
    (tCB (rSortU K 3 64) (tCons (tVar 7) tNil)) (gName 7)) (tRet (tTup (tCons (tVar 2) (tCons (tCB (rTupOf K) (tCons (tLc (iSeq K (tVar 7)) (gName 11) tYes (tSl (rSlU K) (tVar 11) tNoPart (tPart (tC (.int 2)))) [11]) tNil)) (tCons
    (tCB (rTupOf K) (tCons (tLc (iSeq K (tVar 7)) (gName 11) tYes (tOp (rIx K) (tVar 11) (tC (.int 2))) [11]) tNil)) tNil)))))))))))))
abbrev a__law_web_0 : ASt :=
  (aRet (aTup (aCons (aVar 2) (aCons (aCB gTupOf (bCons (aLc (aSeqI (aVar 7)) (agName 11) aYes (aSl (aVar 11) aNoPart (aPart (aC (.int 2)))) [11]) bNil)) (aCons (aCB gTupOf (bCons (aLc (aSeqI (aVar 7))
    (agName 11) aYes (aOp gIx (aVar 11) (aC (.int 2))) [11]) bNil)) aNil)))))
abbrev a__law_web_1 : ASt :=
  (aSeq (aSet 7 (aCB gSortT (bCons (aVar 7) bNil))) a__law_web_0)
abbrev a__law_web_2 : ASt :=
  (aSeq (aFz 5 (aFor (aZip (bCons (aVar 4) (bCons (aVar 5) bNil))) (agTup 2 (agCons (agTup 2 (agCons (agName 8) (agCons (agName 9) agNil))) (agCons (agName 10) agNil))) (aApp 7 (aTup (aCons (aCB gMin2
    (bCons (aOp gIx (aVar 6) (aVar 8)) (bCons (aOp gIx (aVar 6) (aVar 9)) bNil))) (aCons (aCB gMax2 (bCons (aOp gIx (aVar 6) (aVar 8)) (bCons (aOp gIx (aVar 6) (aVar 9)) bNil))) (aCons (aVar 10) aNil))))))) a__law_web_1)
abbrev a__law_web_3 : ASt :=
  (aCut (aIfS (aB (aOp gEq (aVar 3) (aC (.int 2)))) (aSet 5 (aLc (aSeqI (aVar 5)) (agName 10) aYes (aOp gAdd (aC (.int 1)) (aCall0 m__law_draw (bCons (aVar 0) (bCons (aC (.int 3)) bNil)))) [10])) aNext)
    (aSeq (aSet 7 (aLst aNil)) a__law_web_2))
abbrev a__law_web_4 : ASt :=
  (aCut (aIfS (aB (aOp gEq (aVar 3) (aC (.int 1)))) (aSetI 5 (aC (.int 2)) (aCall0 m__law_draw (bCons (aVar 0) (bCons (aCB gLen (bCons (aVar 5) bNil)) bNil)))) aNext) a__law_web_3)
abbrev a__law_web_5 : ASt :=
  (aSeq (aSet2 5 6 (aOp gMul (aLst (aCons (aC (.int 1)) aNil)) (aCB gLen (bCons (aVar 4) bNil))) (aCall0 m__law_mixed (bCons (aVar 0) (bCons (aLstRg (aVar 2)) bNil)))) a__law_web_4)
abbrev a__law_web_6 : ASt :=
  (aSeq (aAsg (aIf (aB (aOp gEq (aVar 1) (aC (.str "parted")))) (aOp gSub' (aOp gMul (aC (.int 2)) (aOp gDiv (aOp gAdd (aVar 2) (aC (.int 1))) (aC (.int 2)))) (aC (.int 1))) (aVar 2)) (agName 2))
    a__law_web_5)
abbrev a__law_web : ASt :=
  (aSeq (aAsg (aCall0 m__law_roads (bCons (aVar 0) (bCons (aVar 1) (bCons (aVar 2) bNil)))) (agName 4)) a__law_web_6)
theorem f__law_web {K : Fg} {E : WX} : RSt K E (t__law_web K) a__law_web :=
  (rs_seq (rs_asg (re_call0 br__law_roads (rv_cons re_var (rv_cons re_var (rv_cons re_var rv_nil)))) rg_name) (rs_seq (rs_asg (re_if (rt_test (re_op ro_eq
    re_var re_str)) (re_op ro_sub (re_op ro_mul re_int (re_op ro_div (re_op ro_add re_var re_int) re_int)) re_int) re_var) rg_name) (rs_seq (rs_set2 (re_op ro_mul (re_lst (ra_cons re_int ra_nil)) (re_cb rb_len (rv_cons re_var
    rv_nil))) (re_call0 br__law_mixed (rv_cons re_var (rv_cons (re_lstRg re_var) rv_nil)))) (rs_cut (rs_ifs (rt_test (re_op ro_eq re_var re_int)) (rs_setI re_int (re_call0 br__law_draw (rv_cons re_var (rv_cons (re_cb rb_len
    (rv_cons re_var rv_nil)) rv_nil)))) rs_next) (rs_cut (rs_ifs (rt_test (re_op ro_eq re_var re_int)) (rs_set (re_lc (ri_seq re_var) rg_name rt_yes (re_op ro_add re_int (re_call0 br__law_draw (rv_cons re_var (rv_cons re_int
    rv_nil)))) (by rfl))) rs_next) (rs_seq (rs_set (re_lst ra_nil)) (rs_seq (rs_fz (rs_for (ri_zip (rv_cons re_var (rv_cons re_var rv_nil))) (rg_tup (rgs_cons (rg_tup (rgs_cons rg_name (rgs_cons rg_name rgs_nil))) (rgs_cons rg_name
    rgs_nil))) (rs_app (re_tup (ra_cons (re_cb rb_min2 (rv_cons (re_op ro_ix re_var re_var) (rv_cons (re_op ro_ix re_var re_var) rv_nil))) (ra_cons (re_cb rb_max2 (rv_cons (re_op ro_ix re_var re_var) (rv_cons (re_op ro_ix re_var
    re_var) rv_nil))) (ra_cons re_var ra_nil))))))) (rs_seq (rs_set (re_cb rb_sortT (rv_cons re_var rv_nil))) (rs_ret (re_tup (ra_cons re_var (ra_cons (re_cb rb_tupOf (rv_cons (re_lc (ri_seq re_var) rg_name rt_yes (re_sl re_var
    ro_none (ro_some re_int)) (by rfl)) rv_nil)) (ra_cons (re_cb rb_tupOf (rv_cons (re_lc (ri_seq re_var) rg_name rt_yes (re_op ro_ix re_var re_int) (by rfl)) rv_nil)) ra_nil)))))))))))))
def m__law_web : AFn := mOf 8 a__law_web
def sp__law_web (K : Fg) : Sp := SpA K 4 m__law_web
theorem br__law_web {K : Fg} : ∀ vs H Q E, SpA K 4 m__law_web vs H Q E → sp__law_web K vs H Q E := fun _ _ _ _ h => h
theorem l__law_web {K : Fg} : ∀ vs H Q E, sp__law_web K vs H Q E → vs.length = 4 := l_spa
theorem p__law_web {K : Fg} {vs : List V} {H : Hp} {Q : VK} {E : XK} (h : sp__law_web K vs H Q E) : t__law_web K { nx := fun _ H' => Q .non H', rt := Q } (L2.start ["bag", "kind", "n", "wide", "roads", "most", "names", "rows", "a", "b", "bound", "row"] vs) H :=
  p_spa (f__law_web) h rfl
/-- _law_sums, slots web, standing, found, a, b, load -/
def t__law_sums (K : Fg) : TS :=
  (tSeq (tAsg (tOp (rMulU K) (tLst (tCons (tC (.int 0)) tNil)) (tOp (rIx K) (tVar 0) (tC (.int 0)))) (gName 2)) (tSeq (tFor (RZ.iZipA K
    (tCons (tOp (rIx K) (tVar 0) (tC (.int 1))) (tCons (tVar 1) tNil))) (gTup K 2 (gCons (gTup K 2 (gCons (gName 3) (gCons (gName 4) gNil))) (gCons (gName 5) gNil))) (tAsg (tTup (tCons (tOp (rAddU K) (tOp (rIx K) (tVar 2) (tVar 3))
    (tVar 5)) (tCons (tOp (rAddU K) (tOp (rIx K) (tVar 2) (tVar 4)) (tVar 5)) tNil))) (gTup K 2 (gCons (gSub (tVar 2) (tVar 3) rSetL) (gCons (gSub (tVar 2) (tVar 4) rSetL) gNil))))) (tRet (tVar 2))))
abbrev a__law_sums_0 : ASt :=
  (aSeq (aFor (aZip (bCons (aOp gIx (aVar 0) (aC (.int 1))) (bCons (aVar 1) bNil))) (agTup 2 (agCons (agTup 2 (agCons (agName 3) (agCons (agName 4) agNil))) (agCons (agName 5) agNil))) (aSwap 2 2 (aOp
    gAdd (aOp gIx (aVar 2) (aVar 3)) (aVar 5)) (aOp gAdd (aOp gIx (aVar 2) (aVar 4)) (aVar 5)) (aVar 3) (aVar 4))) (aRet (aVar 2)))
abbrev a__law_sums : ASt :=
  (aSeq (aSet 2 (aOp gMul (aLst (aCons (aC (.int 0)) aNil)) (aOp gIx (aVar 0) (aC (.int 0))))) a__law_sums_0)
theorem f__law_sums {K : Fg} {E : WX} : RSt K E (t__law_sums K) a__law_sums :=
  (rs_seq (rs_set (re_op ro_mul (re_lst (ra_cons re_int ra_nil)) (re_op ro_ix re_var re_int))) (rs_seq (rs_for (ri_zip (rv_cons (re_op ro_ix re_var
    re_int) (rv_cons re_var rv_nil))) (rg_tup (rgs_cons (rg_tup (rgs_cons rg_name (rgs_cons rg_name rgs_nil))) (rgs_cons rg_name rgs_nil))) (rs_swap (re_op ro_add (re_op ro_ix re_var re_var) re_var) (re_op ro_add (re_op ro_ix
    re_var re_var) re_var) re_var re_var)) (rs_ret re_var)))
def m__law_sums : AFn := mOf 4 a__law_sums
def sp__law_sums (K : Fg) : Sp := SpA K 2 m__law_sums
theorem br__law_sums {K : Fg} : ∀ vs H Q E, SpA K 2 m__law_sums vs H Q E → sp__law_sums K vs H Q E := fun _ _ _ _ h => h
theorem l__law_sums {K : Fg} : ∀ vs H Q E, sp__law_sums K vs H Q E → vs.length = 2 := l_spa
theorem p__law_sums {K : Fg} {vs : List V} {H : Hp} {Q : VK} {E : XK} (h : sp__law_sums K vs H Q E) : t__law_sums K { nx := fun _ H' => Q .non H', rt := Q } (L2.start ["web", "standing", "found", "a", "b", "load"] vs) H :=
  p_spa (f__law_sums) h rfl
/-- _law_standing, slots bag, web, bound -/
def t__law_standing (K : Fg) : TS :=
  (tRet (tCB (rTupOf K) (tCons (tLc (iSeq K (tOp (rIx K) (tVar 1) (tC (.int 2)))) (gName 2) tYes (tG (sp__law_draw K) E00 (tCons (tVar 0) (tCons (tOp
    (rAddU K) (tVar 2) (tC (.int 1))) tNil))) [2]) tNil)))
abbrev a__law_standing : ASt :=
  (aRet (aCB gTupOf (bCons (aLc (aSeqI (aOp gIx (aVar 1) (aC (.int 2)))) (agName 2) aYes (aCall0 m__law_draw (bCons (aVar 0) (bCons (aOp gAdd (aVar 2) (aC (.int 1))) bNil))) [2]) bNil)))
theorem f__law_standing {K : Fg} {E : WX} : RSt K E (t__law_standing K) a__law_standing :=
  (rs_ret (re_cb rb_tupOf (rv_cons (re_lc (ri_seq (re_op ro_ix re_var re_int)) rg_name rt_yes (re_call0 br__law_draw (rv_cons re_var
    (rv_cons (re_op ro_add re_var re_int) rv_nil))) (by rfl)) rv_nil)))
def m__law_standing : AFn := mOf 1 a__law_standing
def sp__law_standing (K : Fg) : Sp := SpA K 2 m__law_standing
theorem br__law_standing {K : Fg} : ∀ vs H Q E, SpA K 2 m__law_standing vs H Q E → sp__law_standing K vs H Q E := fun _ _ _ _ h => h
theorem l__law_standing {K : Fg} : ∀ vs H Q E, sp__law_standing K vs H Q E → vs.length = 2 := l_spa
theorem p__law_standing {K : Fg} {vs : List V} {H : Hp} {Q : VK} {E : XK} (h : sp__law_standing K vs H Q E) : t__law_standing K { nx := fun _ H' => Q .non H', rt := Q } (L2.start ["bag", "web", "bound"] vs) H :=
  p_spa (f__law_standing) h rfl
section
variable {x : AXc} {k : Avl → Prop}
theorem atI_toNat {α : Type} {xs : List α} {r : Int} {y : α} (h0 : 0 ≤ r) (h : xs[r.toNat]? = some y) : atI xs r = some y := by
  obtain ⟨n, rfl⟩ : ∃ n : Nat, r = n := ⟨r.toNat, by omega⟩
  exact atI_nat h
theorem erase_perm {α : Type} : ∀ {l : List α} {i : Nat} (h : i < l.length), (l[i] :: l.eraseIdx i).Perm l
  | x :: l, 0, _ => .refl _
  | x :: l, i + 1, h => by
    rw [List.getElem_cons_succ, List.eraseIdx_cons_succ]
    exact (List.Perm.swap ..).trans ((erase_perm (by simpa using h)).cons x)
theorem s__law_pick {ds : List PyData} (hd : ds ≠ []) (hl : ds.length ≤ 1000) (h : ∀ d ∈ ds, k (.d d)) : m__law_pick [.wl 2, .l ds] x k := by
  show a__law_pick _ [.wl 2, .d (.list ds)]
  have := List.length_pos_iff.mpr hd
  walk_at "ax"
  refine ⟨_, rfl, by omega, by omega, fun r r0 r1 => ?_⟩
  walk_at "ax"
  have hr : r.toNat < ds.length := by omega
  refine g_ixL rfl (atI_toNat r0 (List.getElem?_eq_getElem hr)) ?_
  exact h _ (List.getElem_mem _)
theorem eqv_list_nil (ds : List PyData) : PyData.eqv (.list ds) (.list []) = decide (ds = []) := by
  cases ds with
  | nil => simp [PyData.eqv, PyData.eqvAll]
  | cons d ds => simp [PyData.eqv, PyData.eqvAll]
/-- plain enough to be compared -/
def Pln (d : PyData) : Prop := d.canLay0 = true ∧ d.depth ≤ 5
theorem shaped_list : ∀ {ds : List PyData}, (∀ d ∈ ds, Pln d) → SeqAt.shaped (.list ds) = true := by
  intro ds h
  have a : PyData.canLayAll0 ds = true ∧ PyData.depthAll ds ≤ 5 := by
    induction ds with
    | nil => exact ⟨by simp [PyData.canLayAll0], by simp [PyData.depthAll]⟩
    | cons d ds ih =>
      obtain ⟨h1, h2⟩ := ih fun e he => h e (List.mem_cons_of_mem _ he)
      obtain ⟨h3, h4⟩ := h d (List.mem_cons_self ..)
      refine ⟨by simp [PyData.canLayAll0, h1, h3], ?_⟩
      simp only [PyData.depthAll]
      omega
  exact shaped_of (by simp only [PyData.canLay0]; exact a.1) (by simp only [PyData.depth]; omega)
theorem s__law_mixed {a : Avl} {ds : List PyData} (ha : a.inn = .d (.list ds)) (hl : ds.length ≤ 60000) (hp : ∀ d ∈ ds, Pln d) (h : ∀ es : List PyData, es.Perm ds → k (.l es)) : m__law_mixed [.wl 2, a] x k := by
  show a__law_mixed _ [.wl 2, a.inn, .x, .x]
  rw [ha]
  walk_at "ax"
  refine a_while (fun m α => ∃ rest found : List PyData, α = [.wl 2, .d (.list ds), .own rest, .own found] ∧ (found ++ rest).Perm ds ∧ rest.length = m) ds.length ⟨ds, [], rfl, .refl _, rfl⟩ ?_
  rintro m α ⟨rest, found, rfl, pm, rfl⟩
  have pl := pm.length_eq
  rw [List.length_append] at pl
  walk_at "ax"
  refine g_neD rfl rfl (shaped_list fun d hd => hp d (pm.mem_iff.mp (List.mem_append.mpr (.inr hd)))) rfl ?_
  rw [eqv_list_nil]
  walk_at "ax"
  refine s_ndec (fun hne => ?_) (fun hne => ?_)
  · have := List.length_pos_iff.mpr hne
    refine a_appPop ⟨found, rest, rfl, rfl, by decide, ?_⟩
    walk_at "ax"
    refine ⟨_, rfl, by omega, by omega, fun r r0 r1 => ?_⟩
    walk_at "ax"
    have hr : r.toNat < rest.length := by omega
    refine ⟨r.toNat, rest[r.toNat], by rw [show ((r.toNat : Nat) : Int) = r by omega], List.getElem?_eq_getElem hr, by omega, by omega, ?_⟩
    refine ⟨_, ?_, _, _, rfl, ?_, rfl⟩
    · rw [List.length_eraseIdx, if_pos hr]
      omega
    · refine List.Perm.trans ?_ pm
      rw [List.append_assoc]
      refine List.Perm.append_left _ ?_
      exact erase_perm hr
  · subst hne
    walk_at "ax"
    rw [List.append_nil] at pm
    exact h _ pm
structure Rds (n : Int) (rs : List (Int × Int)) : Prop where
  ok : ∀ p ∈ rs, 0 ≤ p.1 ∧ p.1 < p.2 ∧ p.2 < n
  nd : rs.Nodup
theorem Rds.snoc {n : Int} {rs : List (Int × Int)} {p : Int × Int} (r : Rds n rs) (h : 0 ≤ p.1 ∧ p.1 < p.2 ∧ p.2 < n) (hn : p ∉ rs) : Rds n (rs ++ [p]) := by
  refine ⟨fun q hq => ?_, ?_⟩
  · rcases List.mem_append.mp hq with hq | hq
    · exact r.ok q hq
    · rw [List.mem_singleton.mp hq]; exact h
  · rw [List.nodup_append]
    exact ⟨r.nd, by simp, fun a ha b hb e => hn (by rw [List.mem_singleton.mp hb] at e; rw [← e]; exact ha)⟩
theorem Rds.nil {n : Int} : Rds n [] := ⟨fun p h => (by cases h), List.nodup_nil⟩
theorem iota_at' {n i : Nat} {d : PyData} (h : ((iota n).map PyData.int)[i]? = some d) : d = .int i ∧ i < n := by
  unfold iota at h
  rw [List.map_map, List.getElem?_map] at h
  cases e : (List.range n)[i]? with
  | none => rw [e] at h; cases h
  | some j =>
    rw [e] at h
    have hi := (List.getElem?_eq_some_iff.mp e).1
    rw [List.length_range] at hi
    rw [List.getElem?_range hi] at e
    cases e
    exact ⟨(Option.some.inj h).symm, hi⟩
theorem rgI_at {a b : Int} {i : Nat} {d : PyData} (h : ((rgI a b).map PyData.int)[i]? = some d) : d = .int (a + i) ∧ a + i < b := by
  unfold rgI at h
  rw [List.map_map, List.getElem?_map] at h
  cases e : (List.range (b - a).toNat)[i]? with
  | none => rw [e] at h; cases h
  | some j =>
    rw [e] at h
    have hi := (List.getElem?_eq_some_iff.mp e).1
    rw [List.length_range] at hi
    rw [List.getElem?_range hi] at e
    cases e
    exact ⟨(Option.some.inj h).symm, by omega⟩
abbrev sPath : Str := "path"
abbrev sRing : Str := "ring"
abbrev sTree : Str := "tree"
abbrev sRound : Str := "round"
abbrev sParted : Str := "parted"
abbrev sFull : Str := "full"
def nOf (kind : Str) (n : Int) : Int := if kind = sParted then 2 * ((n + 1) / 2) - 1 else n
theorem g_inS2 {a b c : Str} {k : Avl → Prop} (ha : PyData.strOk a = true) (hb : PyData.strOk b = true) (hc : PyData.strOk c = true) (h : k (.d (.bool (decide (a = c ∨ b = c))))) : gIn false (.d (.str c)) (.d (.tuple [.str a, .str b])) k := by
  refine ⟨_, _, rfl, .inl rfl, shaped_of (by simp [PyData.canLay0, hc]) (by simp [PyData.depth]), shaped_of (by simp [PyData.canLay0, PyData.canLayAll0, ha, hb]) (by simp [PyData.depth, PyData.depthAll]), ?_⟩
  have es : ∀ u v : Str, PyData.eqv (.str u) (.str v) = decide (u = v) := fun u v => by simp only [PyData.eqv]; first | rfl | exact beq_eq_decide u v
  have e : (([.str a, .str b] : List PyData).any fun z => PyData.eqv z (.str c)) = decide (a = c ∨ b = c) := by
    rw [List.any_cons, List.any_cons, List.any_nil, Bool.or_false, es, es, Bool.decide_or]
  show k (.d (.bool (([.str a, .str b] : List PyData).any fun z => PyData.eqv z (.str c))))
  rw [e]
  exact h
theorem eqv_dP (p q : Int × Int) : PyData.eqv (dP p) (dP q) = decide (p = q) := by
  unfold dP
  simp only [PyData.eqv, PyData.eqvAll]
  rw [Bool.eq_iff_iff]
  simp [Prod.ext_iff]
theorem any_dP (rs : List (Int × Int)) (p : Int × Int) : ((rs.map dP).any fun z => PyData.eqv z (dP p)) = decide (p ∈ rs) := by
  induction rs with
  | nil => rfl
  | cons w ws ih =>
    rw [List.map_cons, List.any_cons, ih, eqv_dP]
    by_cases h : w = p
    · rw [decide_eq_true h, Bool.true_or, decide_eq_true (List.mem_cons.mpr (.inl h.symm))]
    · rw [decide_eq_false h, Bool.false_or]
      by_cases g : p ∈ ws
      · rw [decide_eq_true g, decide_eq_true (List.mem_cons_of_mem _ g)]
      · rw [decide_eq_false g, decide_eq_false (fun z => (List.mem_cons.mp z).elim (fun e => h e.symm) g)]
theorem pln_dP (p : Int × Int) : Pln (dP p) := ⟨by unfold dP; simp [PyData.canLay0, PyData.canLayAll0], by unfold dP; simp [PyData.depth, PyData.depthAll]⟩
theorem pln_int (i : Int) : Pln (.int i) := ⟨by simp [PyData.canLay0], by simp [PyData.depth]⟩
theorem pln_map {κ : Type} {f : κ → PyData} (h : ∀ c, Pln (f c)) {l : List κ} : ∀ d ∈ l.map f, Pln d := fun d hd => by
  obtain ⟨c, _, rfl⟩ := List.mem_map.mp hd
  exact h c
theorem shaped_tupl {ds : List PyData} (h : ∀ d ∈ ds, Pln d) : SeqAt.shaped (.tuple ds) = true := by
  have h' : ((PyData.list ds).canLay0 && decide ((PyData.list ds).depth ≤ 64)) = true := shaped_list h
  show ((PyData.tuple ds).canLay0 && decide ((PyData.tuple ds).depth ≤ 64)) = true
  simp only [PyData.canLay0, PyData.depth] at h' ⊢
  exact h'
theorem g_niP {y : Avl} {rs : List (Int × Int)} {a b : Int} {k : Avl → Prop} (e : y.lst = some (rs.map dP)) (h : k (.d (.bool (!decide ((a, b) ∈ rs))))) : gIn true (.d (.tuple [.int a, .int b])) y k := by
  refine ⟨_, _, rfl, .inr e, rfl, shaped_tupl (pln_map pln_dP), ?_⟩
  show k (.d (.bool (!((rs.map dP).any fun z => PyData.eqv z (dP (a, b))))))
  rw [any_dP]
  exact h
theorem pathR_rds {n : Int} : Rds n (pathR n) := by
  refine ⟨fun p hp => ?_, ?_⟩
  · have := mem_pathR.mp hp
    omega
  · unfold pathR
    exact nodup_map_range _ _ fun i j _ _ e => by have := (Prod.mk.inj e).1; omega
theorem pathR_len (n : Int) : (pathR n).length = (n - 1).toNat := by unfold pathR; rw [List.length_map, List.length_range]
theorem row_rds {m : Nat} : ((List.range m).map fun (a : Nat) => ((a : Int), (m : Int))).Nodup := by
  exact nodup_map_range _ _ fun i j _ _ e => by have := (Prod.mk.inj e).1; omega
def tri : Nat → Nat
  | 0 => 0
  | i + 1 => tri i + i
theorem tri_le : ∀ i, i ≤ 9 → tri i ≤ 36 := by decide
theorem roads_path {n : Int} (n0 : 3 ≤ n) (n1 : n ≤ 30) (h : ∀ rs, Rds n rs → rs ≠ [] → rs.length ≤ 40 → k (.l (rs.map dP))) : m__law_roads [.wl 2, .d (.str sPath), .d (.int n)] x k := by
  show a__law_roads _ [.wl 2, .d (.str sPath), .d (.int n), .x, .x, .x, .x, .x, .x]
  walk_at "ax"
  refine iteF' (by decide) ?_
  walk_at "ax"
  refine g_inS2 (by decide +kernel) (by decide +kernel) (by decide +kernel) ?_
  walk_at "ax"
  refine iteT' (by decide) ?_
  walk_at "ax"
  refine i_r1 (by omega) ⟨by rw [List.length_map, iota_len]; omega, ?_⟩
  refine a_lcgo (fun i acc => acc = (List.range i).map fun (j : Nat) => dP ((j : Int), (j : Int) + 1)) rfl (fun i y acc hy he => ?_) (fun acc he _ => ?_)
  · obtain ⟨rfl, hi⟩ := iota_at' hy
    subst he
    walk_at "ax"
    rw [List.range_succ, List.map_append]
    rfl
  · rw [List.length_map, iota_len] at he
    subst he
    walk_at "ax"
    refine iteF' (by decide) ?_
    walk_at "ax"
    refine g_addL rfl rfl (by rw [List.length_map, List.length_range]; simp; omega) ?_
    have e := h (pathR n) pathR_rds (fun z => by have := pathR_len n; rw [z] at this; simp at this; omega) (by rw [pathR_len]; omega)
    unfold pathR at e
    rw [List.map_map] at e
    rw [List.append_nil]
    exact e
theorem roads_ring {n : Int} (n0 : 3 ≤ n) (n1 : n ≤ 30) (h : ∀ rs, Rds n rs → rs ≠ [] → rs.length ≤ 40 → k (.l (rs.map dP))) : m__law_roads [.wl 2, .d (.str sRing), .d (.int n)] x k := by
  show a__law_roads _ [.wl 2, .d (.str sRing), .d (.int n), .x, .x, .x, .x, .x, .x]
  walk_at "ax"
  refine iteF' (by decide) ?_
  walk_at "ax"
  refine g_inS2 (by decide +kernel) (by decide +kernel) (by decide +kernel) ?_
  walk_at "ax"
  refine iteT' (by decide) ?_
  walk_at "ax"
  refine i_r1 (by omega) ⟨by rw [List.length_map, iota_len]; omega, ?_⟩
  refine a_lcgo (fun i acc => acc = (List.range i).map fun (j : Nat) => dP ((j : Int), (j : Int) + 1)) rfl (fun i y acc hy he => ?_) (fun acc he _ => ?_)
  · obtain ⟨rfl, hi⟩ := iota_at' hy
    subst he
    walk_at "ax"
    rw [List.range_succ, List.map_append]
    rfl
  · rw [List.length_map, iota_len] at he
    subst he
    walk_at "ax"
    refine iteT' (by decide) ?_
    walk_at "ax"
    refine g_addL rfl rfl (by rw [List.length_map, List.length_range]; simp; omega) ?_
    have e := h (pathR n ++ [(0, n - 1)]) (pathR_rds.snoc (by omega) fun z => by have := (mem_pathR.mp z).2.1; simp at this; omega) (by simp) (by rw [List.length_append, pathR_len]; simp; omega)
    unfold pathR at e
    rw [List.map_append, List.map_map] at e
    exact e
theorem roads_full {n : Int} (n0 : 2 ≤ n) (n1 : n ≤ 9) (h : ∀ rs, Rds n rs → rs ≠ [] → rs.length ≤ 40 → k (.l (rs.map dP))) : m__law_roads [.wl 2, .d (.str sFull), .d (.int n)] x k := by
  show a__law_roads _ [.wl 2, .d (.str sFull), .d (.int n), .x, .x, .x, .x, .x, .x]
  walk_at "ax"
  refine iteT' (by decide) ?_
  walk_at "ax"
  refine i_r1 (by omega) ?_
  refine a_loop (fun i α => ∃ (rs : List (Int × Int)) (x6 x8 : Sot), α = [.wl 2, .d (.str sFull), .d (.int n), .own (rs.map dP), .x, .x, x6, .x, x8] ∧ Rds i rs ∧ rs.length = tri i) ?_ ?_ ?_
  · exact ⟨[], _, _, rfl, Rds.nil, rfl⟩
  · rintro i y α hy ⟨rs, x6, x8, rfl, r, hl⟩
    obtain ⟨rfl, hi⟩ := iota_at' hy
    have := tri_le i (by omega)
    walk_at "ax"
    refine i_r1 (by omega) ⟨by rw [List.length_map, iota_len]; omega, ?_⟩
    refine a_lcgo (fun j acc => acc = ((List.range j).map fun (a : Nat) => ((a : Int), (i : Int))).map dP) rfl (fun j y acc hy he => ?_) (fun acc he _ => ?_)
    · obtain ⟨rfl, hj⟩ := iota_at' hy
      subst he
      walk_at "ax"
      rw [List.range_succ, List.map_append, List.map_append]
      rfl
    · rw [List.length_map, iota_len] at he
      subst he
      walk_at "ax"
      refine g_addL rfl rfl (by simp; omega) ?_
      walk_at "ax"
      refine ⟨rs ++ (List.range i).map fun (a : Nat) => ((a : Int), (i : Int)), _, _, by rw [List.map_append, show (i : Int).toNat = i by omega], ⟨fun p hp => ?_, ?_⟩, ?_⟩
      · rcases List.mem_append.mp hp with hp | hp
        · have := r.ok p hp
          omega
        · obtain ⟨a, ha, rfl⟩ := List.mem_map.mp hp
          have := List.mem_range.mp ha
          simp
          omega
      · rw [List.nodup_append]
        refine ⟨r.nd, row_rds, fun a ha b hb e => ?_⟩
        subst e
        obtain ⟨c, _, rfl⟩ := List.mem_map.mp hb
        have := r.ok _ ha
        simp at this
      · rw [List.length_append, List.length_map, List.length_range, hl]
        rfl
  · rintro α ⟨rs, x6, x8, rfl, r, hl⟩
    rw [List.length_map, iota_len] at r hl
    have := tri_le n.toNat (by omega)
    walk_at "ax"
    refine h rs (by rw [show ((n.toNat : Nat) : Int) = n by omega] at r; exact r) (fun z => ?_) (by omega)
    rw [z] at hl
    obtain ⟨m, hm⟩ : ∃ m, n.toNat = m + 2 := ⟨n.toNat - 2, by omega⟩
    rw [hm] at hl
    simp [tri] at hl
theorem roads_parted {n : Int} (n0 : 3 ≤ n) (n1 : n ≤ 30) (h : ∀ rs, Rds (nOf sParted n) rs → rs ≠ [] → rs.length ≤ 40 → k (.l (rs.map dP))) : m__law_roads [.wl 2, .d (.str sParted), .d (.int n)] x k := by
  show a__law_roads _ [.wl 2, .d (.str sParted), .d (.int n), .x, .x, .x, .x, .x, .x]
  walk_at "ax"
  refine iteF' (by decide) ?_
  walk_at "ax"
  refine g_inS2 (by decide +kernel) (by decide +kernel) (by decide +kernel) ?_
  walk_at "ax"
  refine iteF' (by decide) ?_
  walk_at "ax"
  refine iteT' (by decide) ?_
  walk_at "ax"
  have eN : nOf sParted n = 2 * ((n + 1) / 2) - 1 := if_pos rfl
  rw [eN] at h
  generalize hm : (n + 1) / 2 = m at h ⊢
  have m0 : 2 ≤ m := by omega
  have m1 : m ≤ 15 := by omega
  refine i_r2 (by omega) ?_
  refine a_loop (fun i α => ∃ (rs : List (Int × Int)) (x5 : Sot), α = [.wl 2, .d (.str sParted), .d (.int n), .own (rs.map dP), .d (.int m), x5, .x, .x, .x] ∧ Rds (m + i) rs ∧ rs.length = 2 * i) ?_ ?_ ?_
  · exact ⟨[], _, rfl, Rds.nil, rfl⟩
  · rintro i y α hy ⟨rs, x5, rfl, r, hl⟩
    obtain ⟨rfl, hi⟩ := rgI_at hy
    walk_at "ax"
    refine ⟨_, rfl, by omega, by omega, fun q q0 q1 => ⟨?_, fun z => by cases z⟩⟩
    walk_at "ax"
    refine g_addL rfl rfl (by simp; omega) ?_
    walk_at "ax"
    refine ⟨(rs ++ [(q, m + (1 + (i : Int)) - 1)]) ++ [(1 + (i : Int), m + (1 + (i : Int)) - 1)], _, by rw [List.append_assoc, List.map_append]; rfl, Rds.snoc (Rds.snoc (n := m + (i + 1 : Nat)) ⟨fun p hp => ?_, r.nd⟩ ?_ ?_) ?_ ?_, by simp; omega⟩
    · have := r.ok p hp
      omega
    · simp
      omega
    · intro z
      have := r.ok _ z
      simp at this
      omega
    · simp
      omega
    · intro z
      rcases List.mem_append.mp z with z | z
      · have := r.ok _ z
        simp at this
        omega
      · have := (Prod.mk.inj (List.mem_singleton.mp z)).1
        omega
  · rintro α ⟨rs, x5, rfl, r, hl⟩
    have hL : ((rgI 1 m).map PyData.int).length = (m - 1).toNat := by unfold rgI; simp
    rw [hL] at r hl
    walk_at "ax"
    refine h rs (by rw [show m + (((m - 1).toNat : Nat) : Int) = 2 * m - 1 by omega] at r; exact r) (fun z => ?_) (by omega)
    rw [z] at hl
    simp at hl
    omega
theorem roads_tree {kind : Str} {n : Int} (hk : kind = sTree ∨ kind = sRound) (n0 : 3 ≤ n) (n1 : n ≤ 30) (h : ∀ rs, Rds n rs → rs ≠ [] → rs.length ≤ 40 → k (.l (rs.map dP))) : m__law_roads [.wl 2, .d (.str kind), .d (.int n)] x k := by
  show a__law_roads _ [.wl 2, .d (.str kind), .d (.int n), .x, .x, .x, .x, .x, .x]
  have hF : decide (kind = "full") = false := by rcases hk with rfl | rfl <;> decide
  have hQ : decide (("path" : Str) = kind ∨ ("ring" : Str) = kind) = false := by rcases hk with rfl | rfl <;> decide
  have hP : decide (kind = "parted") = false := by rcases hk with rfl | rfl <;> decide
  have hS : PyData.strOk kind = true := by rcases hk with rfl | rfl <;> decide +kernel
  walk_at "ax"
  refine iteF' hF ?_
  walk_at "ax"
  refine g_inS2 (by decide +kernel) (by decide +kernel) hS ?_
  walk_at "ax"
  refine iteF' hQ ?_
  walk_at "ax"
  refine iteF' hP ?_
  walk_at "ax"
  refine i_r2 (by omega) ?_
  refine a_loop (fun i α => ∃ (rs : List (Int × Int)) (x6 : Sot), α = [.wl 2, .d (.str kind), .d (.int n), .own (rs.map dP), .x, .x, x6, .x, .x] ∧ Rds (1 + i) rs ∧ rs.length = i) ?_ ?_ ?_
  · exact ⟨[], _, rfl, Rds.nil, rfl⟩
  · rintro i y α hy ⟨rs, x6, rfl, r, hl⟩
    obtain ⟨rfl, hi⟩ := rgI_at hy
    walk_at "ax"
    refine ⟨_, rfl, by split <;> omega, by split <;> omega, fun q q0 q1 => ⟨?_, fun z => by cases z⟩⟩
    have q2 : q ≤ i := by split at q1 <;> omega
    walk_at "ax"
    refine ⟨by rw [List.length_map]; omega, rs ++ [(1 + (i : Int) - 1 - q, 1 + (i : Int))], _, by rw [List.map_append]; rfl, Rds.snoc (n := 1 + (i + 1 : Nat)) ⟨fun p hp => ?_, r.nd⟩ ?_ ?_, by simp; omega⟩
    · have := r.ok p hp
      omega
    · simp
      omega
    · intro z
      have := r.ok _ z
      simp at this
  · rintro α ⟨rs, x6, rfl, r, hl⟩
    have hL : ((rgI 1 n).map PyData.int).length = (n - 1).toNat := by unfold rgI; simp
    rw [hL] at r hl
    have r : Rds n rs := by rw [show 1 + (((n - 1).toNat : Nat) : Int) = n by omega] at r; exact r
    have hne : rs ≠ [] := by
      rintro rfl
      simp at hl
      omega
    walk_at "ax"
    have fin : ∀ (t : Int), 0 ≤ t → t ≤ 2 → WR1 [.d (.int t)] fun xs fz => aLoop (agName 7) (aSeq (aAsg (aTup (aCons (aCall0 m__law_draw (bCons (aVar 0) (bCons (aVar 2) bNil))) (aCons (aCall0 m__law_draw (bCons (aVar 0) (bCons (aVar 2) bNil))) aNil))) (agTup 2 (agCons (agName 8) (agCons (agName 6) agNil)))) a__law_roads_0) { nx := aRet (aVar 3) { nx := fun _ => k (.d .none), rt := k, er := fun _ => x }, rt := k, er := fun _ => x } xs (aFrz [.wl 2, .d (.str kind), .d (.int n), .own (rs.map dP), .x, .x, x6, .x, .x] fz) := by
      intro t t0 t1
      refine i_r1 (by omega) ?_
      refine a_loop (fun i α => ∃ (qs : List (Int × Int)) (x6 x7 x8 : Sot), α = [.wl 2, .d (.str kind), .d (.int n), .own (qs.map dP), .x, .x, x6, x7, x8] ∧ Rds n qs ∧ qs ≠ [] ∧ qs.length ≤ rs.length + i) ?_ ?_ ?_
      · exact ⟨rs, _, _, _, rfl, r, hne, Nat.le_refl _⟩
      · rintro i y α hy ⟨qs, y6, y7, y8, rfl, r, hne, hl2⟩
        obtain ⟨rfl, hi⟩ := iota_at' hy
        walk_at "ax"
        refine ⟨_, rfl, by omega, by omega, fun a a0 a1 => ⟨?_, fun z => by cases z⟩⟩
        walk_at "ax"
        refine ⟨_, rfl, by omega, by omega, fun b b0 b1 => ⟨?_, fun z => by cases z⟩⟩
        walk_at "ax"
        refine s_ndec (fun c1 => ?_) (fun c1 => ?_)
        · walk_at "ax"
          refine g_niP rfl ?_
          walk_at "ax"
          refine s_ndec (fun c2 => ?_) (fun c2 => ?_)
          · walk_at "ax"
            refine ⟨by rw [List.length_map]; omega, qs ++ [_], _, _, _, by rw [List.map_append]; rfl, r.snoc ?_ c2, by simp, by simp; omega⟩
            simp only
            split <;> split <;> omega
          · walk_at "ax"
            exact ⟨qs, _, _, _, rfl, r, hne, by omega⟩
        · walk_at "ax"
          exact ⟨qs, _, _, _, rfl, r, hne, by omega⟩
      · rintro α ⟨qs, y6, y7, y8, rfl, r, hne, hl2⟩
        rw [List.length_map, iota_len] at hl2
        walk_at "ax"
        exact h qs r hne (by omega)
    refine s_dec (fun c => ?_) (fun c => ?_)
    · walk_at "ax"
      refine ⟨_, rfl, by omega, by omega, fun q q0 q1 => ⟨?_, fun z => by cases z⟩⟩
      walk_at "ax"
      exact fin _ (by omega) (by omega)
    · walk_at "ax"
      exact fin _ (by omega) (by omega)
def Knd (kind : Str) (n : Int) : Prop := (kind = sPath ∧ 3 ≤ n ∧ n ≤ 30) ∨ (kind = sRing ∧ 3 ≤ n ∧ n ≤ 30) ∨ (kind = sTree ∧ 3 ≤ n ∧ n ≤ 30) ∨ (kind = sRound ∧ 3 ≤ n ∧ n ≤ 30) ∨ (kind = sParted ∧ 3 ≤ n ∧ n ≤ 30) ∨ (kind = sFull ∧ 2 ≤ n ∧ n ≤ 9)
theorem s__law_roads {kind : Str} {n : Int} (hk : Knd kind n) (h : ∀ rs, Rds (nOf kind n) rs → rs ≠ [] → rs.length ≤ 40 → k (.l (rs.map dP))) : m__law_roads [.wl 2, .d (.str kind), .d (.int n)] x k := by
  have e : ∀ {z : Str}, z ≠ sParted → nOf z n = n := fun hz => if_neg hz
  rcases hk with ⟨rfl, a, b⟩ | ⟨rfl, a, b⟩ | ⟨rfl, a, b⟩ | ⟨rfl, a, b⟩ | ⟨rfl, a, b⟩ | ⟨rfl, a, b⟩
  · rw [e (by decide)] at h
    exact roads_path a b h
  · rw [e (by decide)] at h
    exact roads_ring a b h
  · rw [e (by decide)] at h
    exact roads_tree (.inl rfl) a b h
  · rw [e (by decide)] at h
    exact roads_tree (.inr rfl) a b h
  · exact roads_parted a b h
  · rw [e (by decide)] at h
    exact roads_full a b h
theorem Knd.rng {kind : Str} {n : Int} (h : Knd kind n) : 2 ≤ nOf kind n ∧ nOf kind n ≤ 30 := by
  have e : ∀ {z : Str}, z ≠ sParted → nOf z n = n := fun hz => if_neg hz
  have eP : nOf sParted n = 2 * ((n + 1) / 2) - 1 := if_pos rfl
  rcases h with ⟨rfl, a, b⟩ | ⟨rfl, a, b⟩ | ⟨rfl, a, b⟩ | ⟨rfl, a, b⟩ | ⟨rfl, a, b⟩ | ⟨rfl, a, b⟩
  · rw [e (by decide)]; omega
  · rw [e (by decide)]; omega
  · rw [e (by decide)]; omega
  · rw [e (by decide)]; omega
  · rw [eP]; omega
  · rw [e (by decide)]; omega
/-- the webs that are drawn -/
structure WebB (n : Int) (rs : List (Int × Int)) (ms : List Int) : Prop where
  r : Rds n rs
  lm : ms.length = rs.length
  m : ∀ m ∈ ms, 1 ≤ m ∧ m ≤ 3
  ne : rs ≠ []
  l : rs.length ≤ 40
  n0 : 2 ≤ n
  n1 : n ≤ 30
theorem WebB.laid {n : Int} {rs : List (Int × Int)} {ms ls : List Int} (w : WebB n rs ms) (h : ls.length = rs.length) : Laid n rs ms ls :=
  ⟨w.r.ok, w.lm, h, by have := w.n0; omega, by have := w.n1; omega, by have := w.l; omega⟩
end
end UW.Bg
namespace UW.Bg
open PySem PySem.Spec PyProof.Rows L2 UW
/-- one step -/
local macro_rules | `(tactic| walk_at "a1") => `(tactic| first
  | with_reducible refine wk ?_
  | (with_reducible refine rs_go 1 ?_
     first
     | with_reducible refine a_var (by with_unfolding_all rfl) (by with_unfolding_all rfl) ?_
     | with_reducible refine a_gtup (by with_unfolding_all rfl) (by with_unfolding_all rfl) ?_
     | with_reducible refine a_glst (by with_unfolding_all rfl) (by with_unfolding_all rfl) ?_)
  | (with_reducible refine rs_go 2 ?_
     first
     | with_reducible refine g_ixT (by with_unfolding_all rfl) (by first | with_unfolding_all rfl | with_unfolding_all exact at_zero _ _) ?_
     | with_reducible refine g_ixL (by with_unfolding_all rfl) (by first | with_unfolding_all rfl | with_unfolding_all exact at_zero _ _) ?_)
  | (with_reducible refine rs_go 3 ?_
     first
     | with_reducible refine g_lenT (by with_unfolding_all rfl) ?_
     | with_reducible refine g_lenL (by with_unfolding_all rfl) ?_
     | with_reducible refine g_tupL (by with_unfolding_all rfl) ?_
     | with_reducible refine g_tupT (by with_unfolding_all rfl) ?_
     | with_reducible refine g_lstT (by with_unfolding_all rfl) ?_
     | with_reducible refine g_lstL (by with_unfolding_all rfl) ?_)
  | (with_reducible refine rs_go 4 ?_
     first
     | with_reducible refine g_addL (by with_unfolding_all rfl) (by with_unfolding_all rfl) (Nat.le_of_ble_eq_true (by with_unfolding_all rfl)) ?_
     | with_reducible refine g_mulI (by first | exact Or.inl ⟨by decide, by decide⟩ | exact Or.inr ⟨by decide, by decide⟩ | (first | (refine Or.inl ⟨?_, ?_⟩ <;> omega) | (refine Or.inr ⟨?_, ?_⟩ <;> omega))) ?_
     | with_reducible refine g_mod (by first | decide | omega) ?_
     | with_reducible refine g_div (by first | decide | omega) (by first | decide | omega) ?_
     | with_reducible refine g_slT (by with_unfolding_all rfl) ?_
     | with_reducible refine g_slL (by with_unfolding_all rfl) ?_
     | with_reducible refine g_isN (by with_unfolding_all rfl) ?_
     | with_reducible refine g_notN (by with_unfolding_all rfl) ?_)
  | (with_reducible refine rs_go 5 ?_
     first
     | with_reducible refine a_dget (by with_unfolding_all rfl) ?_
     | with_reducible refine a_dget2 (by with_unfolding_all rfl) ?_
     | with_reducible refine a_fzq (by with_unfolding_all rfl) ?_
     | with_reducible refine a_retC (by with_unfolding_all rfl) ?_
     | with_reducible refine a_isX (by with_unfolding_all rfl) ?_
     | with_reducible refine a_app (by with_unfolding_all rfl) ?_
     | with_reducible refine a_ext (by with_unfolding_all rfl) ?_
     | with_reducible refine a_pop (by with_unfolding_all rfl) ?_
     | with_reducible refine a_fz (by with_unfolding_all rfl) ?_
     | with_reducible refine a_lenDV (by with_unfolding_all rfl) ?_)
  | (with_reducible refine rs_go 6 ?_
     first
     | with_reducible refine a_cl (by with_unfolding_all rfl) ?_
     | with_reducible refine a_dat (by with_unfolding_all rfl) ?_
     | with_reducible refine a_s1 (by with_unfolding_all rfl) ?_
     | with_reducible refine a_dcy (by with_unfolding_all rfl) ?_
     | with_reducible refine a_s2 (by with_unfolding_all rfl) (by with_unfolding_all rfl) ?_
     | with_reducible refine a_s3 (by with_unfolding_all rfl) (by with_unfolding_all rfl) (by with_unfolding_all rfl) ?_
     | with_reducible refine a_owned (by with_unfolding_all rfl) ?_)
  | (with_reducible refine rs_go 7 ?_
     first
     | with_reducible refine i_B (by with_unfolding_all rfl) ?_
     | with_reducible refine i_T (by with_unfolding_all rfl) ?_
     | with_reducible refine i_L (by with_unfolding_all rfl) ?_)
  | (with_reducible refine rs_go 8 ?_
     first
     | with_reducible refine a_nb (by with_unfolding_all rfl) ?_
     | with_reducible refine a_len (by with_unfolding_all rfl) ?_
     | with_reducible refine a_revT (by with_unfolding_all rfl) ?_
     | with_reducible refine a_revL (by with_unfolding_all rfl) ?_)
  | (with_reducible refine rs_go 9 ?_
     first
     | with_reducible refine iteNT (by with_unfolding_all rfl) ?_
     | with_reducible refine iteNF (by with_unfolding_all rfl) ?_
     | with_reducible refine iteIT (by with_unfolding_all rfl) ?_
     | with_reducible refine iteIF (by with_unfolding_all rfl) ?_))
local macro_rules | `(tactic| walk_at "ax") => `(tactic| (repeat (first | walk_at "a1" | with_reducible refine a_if ?_); try dsimp only [List.set_cons_zero, List.set_cons_succ, awipe, aFrz, List.getElem?_cons_zero, List.getElem?_cons_succ]))
local macro_rules | `(tactic| walk_at "ay") => `(tactic| (repeat (walk_at "a1"); try dsimp only [List.set_cons_zero, List.set_cons_succ, awipe, aFrz, List.getElem?_cons_zero, List.getElem?_cons_succ]))
section
variable {x : AXc} {k : Avl → Prop}
theorem pair_inj {ns : List Int} (nd : ns.Nodup) {a b c d : Nat} {p q r s : Int} (ha : ns[a]? = some p) (hb : ns[b]? = some q) (hc : ns[c]? = some r) (hd : ns[d]? = some s) (hab : a < b) (hcd : c < d)
    (e1 : min p q = min r s) (e2 : max p q = max r s) : a = c ∧ b = d := by
  have inj : ∀ {i j : Nat} {z w : Int}, ns[i]? = some z → ns[j]? = some w → z = w → i = j := by
    intro i j z w h1 h2 e
    subst e
    exact (List.getElem?_inj (List.getElem?_eq_some_iff.mp h1).1 nd).mp (h1.trans h2.symm)
  have npq : p ≠ q := fun e => by have := inj ha hb e; omega
  have nrs : r ≠ s := fun e => by have := inj hc hd e; omega
  have : (p = r ∧ q = s) ∨ (p = s ∧ q = r) := by omega
  rcases this with ⟨h1, h2⟩ | ⟨h1, h2⟩
  · exact ⟨inj ha hc h1, inj hb hd h2⟩
  · have := inj ha hd h1
    have := inj hb hc h2
    omega
/-- the roads under names -/
def ren (ns : List Int) (p : Int × Int) : Int × Int := (min (ns.getD p.1.toNat 0) (ns.getD p.2.toNat 0), max (ns.getD p.1.toNat 0) (ns.getD p.2.toNat 0))
theorem ren_rds {n : Int} {rs : List (Int × Int)} {ns : List Int} (r : Rds n rs) (pm : ns.Perm (iota n.toNat)) : Rds n (rs.map (ren ns)) := by
  have nd : ns.Nodup := pm.nodup_iff.mpr (by unfold iota; exact nodup_map_range _ _ fun i j _ _ e => by omega)
  have ln : ns.length = n.toNat := by rw [pm.length_eq, iota_len]
  have rg : ∀ {z : Int}, z ∈ ns → 0 ≤ z ∧ z < n := by
    intro z hz
    have := pm.mem_iff.mp hz
    unfold iota at this
    obtain ⟨i, hi, rfl⟩ := List.mem_map.mp this
    have := List.mem_range.mp hi
    omega
  have at' : ∀ {i : Int}, 0 ≤ i → i < n → ns[i.toNat]? = some (ns.getD i.toNat 0) := by
    intro i h0 h1
    rw [List.getD_eq_getElem?_getD, List.getElem?_eq_getElem (by omega)]
    rfl
  have inj : ∀ p ∈ rs, ∀ q ∈ rs, ren ns p = ren ns q → p = q := by
    intro p hp q hq e
    have h1 := r.ok p hp
    have h2 := r.ok q hq
    have e' := Prod.mk.inj e
    have := pair_inj nd (at' (i := p.1) (by omega) (by omega)) (at' (i := p.2) (by omega) (by omega)) (at' (i := q.1) (by omega) (by omega)) (at' (i := q.2) (by omega) (by omega)) (by omega) (by omega) e'.1 e'.2
    exact Prod.ext (by omega) (by omega)
  refine ⟨fun z hz => ?_, ?_⟩
  · obtain ⟨p, hp, rfl⟩ := List.mem_map.mp hz
    have h1 := r.ok p hp
    have a1 := at' (i := p.1) (by omega) (by omega)
    have a2 := at' (i := p.2) (by omega) (by omega)
    have b1 := rg (List.mem_of_getElem? a1)
    have b2 := rg (List.mem_of_getElem? a2)
    have ne : ns.getD p.1.toNat 0 ≠ ns.getD p.2.toNat 0 := fun e => by
      rw [← e] at a2
      have := (List.getElem?_inj (by omega) nd).mp (a1.trans a2.symm)
      omega
    unfold ren
    simp only
    omega
  · have : ∀ {l : List (Int × Int)}, l.Nodup → (∀ p ∈ l, p ∈ rs) → (l.map (ren ns)).Nodup := by
      intro l
      induction l with
      | nil => intro _ _; exact List.nodup_nil
      | cons p l ih =>
        intro nd' hs
        obtain ⟨n1, n2⟩ := List.nodup_cons.mp nd'
        rw [List.map_cons]
        refine List.nodup_cons.mpr ⟨fun h => ?_, ih n2 fun q hq => hs q (List.mem_cons_of_mem _ hq)⟩
        obtain ⟨q, hq, e⟩ := List.mem_map.mp h
        exact n1 (by rw [← inj q (hs q (List.mem_cons_of_mem _ hq)) p (hs p (List.mem_cons_self ..)) e]; exact hq)
    exact this r.nd fun _ h => h
theorem perm_unmap {κ β : Type} {f : κ → β} {es ds : List β} (pm : es.Perm ds) : ∀ {l : List κ}, ds = l.map f → ∃ ns : List κ, ns.Perm l ∧ es = ns.map f := by
  induction pm with
  | nil =>
    intro l e
    cases l with
    | nil => exact ⟨[], .refl _, rfl⟩
    | cons p l => cases e
  | cons x _ ih =>
    intro l e
    cases l with
    | nil => cases e
    | cons p l =>
      obtain ⟨rfl, e2⟩ := List.cons.inj e
      obtain ⟨ns, a, rfl⟩ := ih e2
      exact ⟨p :: ns, a.cons p, rfl⟩
  | swap x y r =>
    intro l e
    cases l with
    | nil => cases e
    | cons p l =>
      cases l with
      | nil => cases (List.cons.inj e).2
      | cons q l =>
        obtain ⟨rfl, e2⟩ := List.cons.inj e
        obtain ⟨rfl, rfl⟩ := List.cons.inj e2
        exact ⟨q :: p :: l, .swap .., rfl⟩
  | trans _ _ ih1 ih2 =>
    intro l e
    obtain ⟨ns, a, rfl⟩ := ih2 e
    obtain ⟨ts, b, rfl⟩ := ih1 rfl
    exact ⟨ts, b.trans a, rfl⟩
theorem rep_one (m : Nat) (i : Int) : (List.replicate m [PyData.int i]).flatten = (List.replicate m i).map .int := by
  induction m with
  | zero => rfl
  | succ m ih => rw [List.replicate_succ, List.flatten_cons, ih]; rfl
theorem ziD_at : ∀ {xs ys : List PyData} {i : Nat} {z : PyData}, (ziD xs ys)[i]? = some z → ∃ a b, xs[i]? = some a ∧ ys[i]? = some b ∧ z = .tuple [a, b]
  | x :: xs, y :: ys, 0, z, h => by
    have h' : some (PyData.tuple [x, y]) = some z := h
    cases h'
    exact ⟨x, y, rfl, rfl, rfl⟩
  | x :: xs, y :: ys, i + 1, z, h => ziD_at (xs := xs) (ys := ys) (i := i) h
  | [], _, i, z, h => by simp [ziD] at h
  | _ :: _, [], i, z, h => by simp [ziD] at h
theorem map_at' {κ β : Type} {f : κ → β} {l : List κ} {i : Nat} {d : β} (h : (l.map f)[i]? = some d) : ∃ c, l[i]? = some c ∧ d = f c := by
  rw [List.getElem?_map] at h
  cases e : l[i]? with
  | none => rw [e] at h; cases h
  | some c => rw [e] at h; exact ⟨c, rfl, (Option.some.inj h).symm⟩
theorem set_ints (ms : List Int) (j : Nat) (v : Int) : (ms.map PyData.int).set j (.int v) = (ms.set j v).map .int := by rw [List.map_set]
theorem s__law_web {kind : Str} {n wide : Int} (hk : Knd kind n) (h : ∀ rs ms, WebB (nOf kind n) rs ms → k (.d (dWeb (nOf kind n) rs ms))) : m__law_web [.wl 2, .d (.str kind), .d (.int n), .d (.int wide)] x k := by
  show a__law_web _ [.wl 2, .d (.str kind), .d (.int n), .d (.int wide), .x, .x, .x, .x, .x, .x, .x, .x]
  walk_at "ax"
  refine s__law_roads hk fun rs r hne hl => ⟨?_, fun z => by cases z⟩
  have rg := hk.rng
  have hl0 := List.length_pos_iff.mpr hne
  have nb : 2 ≤ n ∧ n ≤ 30 := by
    rcases hk with ⟨_, a, b⟩ | ⟨_, a, b⟩ | ⟨_, a, b⟩ | ⟨_, a, b⟩ | ⟨_, a, b⟩ | ⟨_, a, b⟩ <;> omega
  walk_at "ay"
  refine a_ifj (fun av => av = .d (.int (nOf kind n))) ?_ ?_
  · rintro _ rfl
    generalize hN : nOf kind n = N at r rg h
    walk_at "ax"
    refine .inr ⟨_, _, rfl, rfl, by omega, by rw [List.length_map]; omega, by simp; omega, ?_⟩
    rw [rep_one]
    walk_at "ax"
    refine ⟨by omega, by omega, ?_⟩
    walk_at "ax"
    refine s__law_mixed rfl (by rw [List.length_map, iota_len]; omega) (pln_map pln_int) fun es pm => ⟨?_, fun z => by cases z⟩
    obtain ⟨ns, pn, rfl⟩ := perm_unmap pm rfl
    have ln : ns.length = N.toNat := by rw [pn.length_eq, iota_len]
    walk_at "ax"
    refine a_cut (fun α => ∃ ms : List Int, α = [.wl 2, .d (.str kind), .d (.int N), .d (.int wide), .d (.list (rs.map dP)), .own (ms.map .int), .own (ns.map .int), .x, .x, .x, .x, .x] ∧ ms.length = rs.length ∧ ∀ m ∈ ms, 1 ≤ m ∧ m ≤ 3) ?_ ?_
    · walk_at "ax"
      have b0 : ∀ m ∈ List.replicate (rs.map dP).length (1 : Int), 1 ≤ m ∧ m ≤ 3 := fun m hm => by rw [(List.mem_replicate.mp hm).2]; omega
      have l0 : (List.replicate (rs.map dP).length (1 : Int)).length = rs.length := by rw [List.length_replicate, List.length_map]
      rw [show ((rs.map dP).length : Int).toNat = (rs.map dP).length by omega]
      generalize List.replicate (rs.map dP).length (1 : Int) = ms at b0 l0 ⊢
      refine s_dec (fun c => ?_) (fun c => ?_)
      · walk_at "ax"
        refine ⟨_, rfl, by rw [List.length_map]; omega, by rw [List.length_map]; omega, fun q q0 q1 => ⟨?_, fun z => by cases z⟩⟩
        rw [List.length_map] at q1
        refine ⟨q, q.toNat, rfl, by rw [List.length_map]; exact ix_int q0 (by omega), ?_⟩
        walk_at "ax"
        rw [set_ints]
        refine ⟨_, rfl, by rw [List.length_set]; exact l0, fun m hm => ?_⟩
        rcases List.mem_or_eq_of_mem_set hm with hm | rfl
        · exact b0 m hm
        · omega
      · walk_at "ax"
        exact ⟨ms, rfl, l0, b0⟩
    · rintro α ⟨ms, rfl, l0, b0⟩
      refine a_cut (fun α => ∃ (ms : List Int) (x10 : Sot), α = [.wl 2, .d (.str kind), .d (.int N), .d (.int wide), .d (.list (rs.map dP)), .own (ms.map .int), .own (ns.map .int), .x, .x, .x, x10, .x] ∧ ms.length = rs.length ∧ ∀ m ∈ ms, 1 ≤ m ∧ m ≤ 3) ?_ ?_
      · walk_at "ax"
        refine s_dec (fun c => ?_) (fun c => ?_)
        · walk_at "ax"
          refine ⟨by rw [List.length_map]; omega, ?_⟩
          refine a_lcgo (fun i acc => ∃ qs : List Int, acc = qs.map .int ∧ qs.length = i ∧ ∀ m ∈ qs, 1 ≤ m ∧ m ≤ 3) ⟨[], rfl, rfl, fun m hm => by cases hm⟩ ?_ ?_
          · rintro i y acc hy ⟨qs, rfl, hq, bq⟩
            obtain ⟨z, hz, rfl⟩ := map_at' hy
            walk_at "ax"
            refine ⟨_, rfl, by omega, by omega, fun q q0 q1 => ⟨?_, fun z => by cases z⟩⟩
            walk_at "ax"
            refine ⟨qs ++ [1 + q], by rw [List.map_append]; rfl, by rw [List.length_append, hq]; rfl, fun m hm => ?_⟩
            rcases List.mem_append.mp hm with hm | hm
            · exact bq m hm
            · rw [List.mem_singleton.mp hm]; omega
          · rintro acc ⟨qs, rfl, hq, bq⟩ -
            rw [List.length_map] at hq
            walk_at "ax"
            exact ⟨qs, _, rfl, by omega, bq⟩
        · walk_at "ax"
          exact ⟨ms, _, rfl, l0, b0⟩
      · rintro α ⟨ms, x10, rfl, l0, b0⟩
        walk_at "ax"
        have R := ren_rds r pn
        generalize eZ : (rs.map (ren ns)).zip ms = Z
        have lZ : Z.length = rs.length := by rw [← eZ, List.length_zip, List.length_map, l0, Nat.min_self]
        refine i_zL rfl rfl ?_
        refine a_loop (fun i α => ∃ (x8 x9 x10 : Sot), α = [.wl 2, .d (.str kind), .d (.int N), .d (.int wide), .d (.list (rs.map dP)), .d (.list (ms.map .int)), .own (ns.map .int), .own ((Z.take i).map dT), x8, x9, x10, .x]) ⟨_, _, _, rfl⟩ ?_ ?_
        · rintro i y α hy ⟨x8, x9, x10, rfl⟩
          obtain ⟨u, v, hu, hv, rfl⟩ := ziD_at hy
          obtain ⟨p, hp, rfl⟩ := map_at' hu
          obtain ⟨m, hm, rfl⟩ := map_at' hv
          have hi := (List.getElem?_eq_some_iff.mp hp).1
          have ok := r.ok p (List.mem_of_getElem? hp)
          have n1 : ∃ z, ns[p.1.toNat]? = some z := ⟨_, List.getElem?_eq_getElem (by omega)⟩
          have n2 : ∃ z, ns[p.2.toNat]? = some z := ⟨_, List.getElem?_eq_getElem (by omega)⟩
          obtain ⟨z1, n1⟩ := n1
          obtain ⟨z2, n2⟩ := n2
          have a1 : atI (ns.map PyData.int) p.1 = some (.int z1) := atI_toNat (by omega) (by rw [List.getElem?_map, n1]; rfl)
          have a2 : atI (ns.map PyData.int) p.2 = some (.int z2) := atI_toNat (by omega) (by rw [List.getElem?_map, n2]; rfl)
          have er : ren ns p = (min z1 z2, max z1 z2) := by
            unfold ren
            rw [List.getD_eq_getElem?_getD, List.getD_eq_getElem?_getD, n1, n2]
            rfl
          have hZ : Z[i]? = some (ren ns p, m) := by
            rw [← eZ, List.getElem?_zip_eq_some, List.getElem?_map, hp]
            exact ⟨rfl, hm⟩
          walk_at "ax"
          refine g_ixL rfl a1 ?_
          walk_at "ax"
          refine g_ixL rfl a2 ?_
          walk_at "ax"
          refine g_ixL rfl a1 ?_
          walk_at "ax"
          refine g_ixL rfl a2 ?_
          walk_at "ax"
          have eT : (Z.take (i + 1)).map dT = (Z.take i).map dT ++ [.tuple [.int (if z2 < z1 then z2 else z1), .int (if z2 > z1 then z2 else z1), .int m]] := by
            rw [List.take_add_one, hZ, List.map_append, er]
            have e1 : (if z2 < z1 then z2 else z1) = min z1 z2 := by omega
            have e2 : (if z2 > z1 then z2 else z1) = max z1 z2 := by omega
            rw [e1, e2]
            rfl
          rw [← eT]
          exact ⟨by rw [List.length_map, List.length_take]; omega, _, _, _, rfl⟩
        · rintro α ⟨x8, x9, x10, rfl⟩
          rw [ziD_len, List.length_map, List.length_map, l0, Nat.min_self, ← lZ, List.take_length]
          have hZm : ∀ z ∈ Z, z.1 ∈ rs.map (ren ns) ∧ z.2 ∈ ms := by
            intro z hz
            rw [← eZ] at hz
            exact ⟨(List.of_mem_zip (show (z.1, z.2) ∈ _ from hz)).1, (List.of_mem_zip (show (z.1, z.2) ∈ _ from hz)).2⟩
          walk_at "ax"
          refine ⟨_, Z, rfl, rfl, by omega, fun z hz => ?_, fun qs pq _ => ?_⟩
          · have h1 := R.ok _ (hZm z hz).1
            have h2 := b0 _ (hZm z hz).2
            unfold inB
            omega
          have lq : qs.length = rs.length := by rw [pq.length_eq, lZ]
          walk_at "ax"
          refine ⟨by rw [List.length_map]; omega, ?_⟩
          refine a_lcgo (fun i acc => acc = ((qs.take i).map (·.1)).map dP) rfl ?_ ?_
          · rintro i y acc hy rfl
            obtain ⟨z, hz, rfl⟩ := map_at' hy
            walk_at "ax"
            rw [List.take_add_one, hz, List.map_append, List.map_append]
            rfl
          rintro acc rfl -
          rw [List.length_map, List.take_length]
          walk_at "ax"
          refine ⟨by rw [List.length_map]; omega, ?_⟩
          refine a_lcgo (fun i acc => acc = ((qs.take i).map (·.2)).map PyData.int) rfl ?_ ?_
          · rintro i y acc hy rfl
            obtain ⟨z, hz, rfl⟩ := map_at' hy
            walk_at "ax"
            rw [List.take_add_one, hz, List.map_append, List.map_append]
            rfl
          rintro acc rfl -
          rw [List.length_map, List.take_length]
          walk_at "ax"
          have p1 : (qs.map (·.1)).Perm (rs.map (ren ns)) := by
            have := pq.map (·.1)
            rw [← eZ, List.map_fst_zip (by rw [List.length_map]; omega)] at this
            exact this
          refine h (qs.map (·.1)) (qs.map (·.2)) ⟨⟨fun p hp => R.ok p (p1.mem_iff.mp hp), p1.nodup_iff.mpr R.nd⟩, by rw [List.length_map, List.length_map], fun m hm => ?_, ?_, by rw [List.length_map]; omega, rg.1, rg.2⟩
          · obtain ⟨z, hz, rfl⟩ := List.mem_map.mp hm
            exact b0 _ (hZm z (pq.mem_iff.mp hz)).2
          · rintro z
            rw [List.map_eq_nil_iff] at z
            rw [z] at lq
            simp at lq
            omega
  · intro k' hk'
    walk_at "ax"
    by_cases c : kind = sParted
    · refine iteT' (decide_eq_true c) ?_
      walk_at "ax"
      have eN : nOf kind n = 2 * ((n + 1) / 2) - 1 := if_pos c
      generalize hm : (n + 1) / 2 = m at eN ⊢
      have mb : 1 ≤ m ∧ m ≤ 15 := by omega
      refine g_mulI (.inl ⟨by decide, by decide⟩) ?_
      walk_at "ax"
      exact hk' _ (by rw [eN])
    · refine iteF' (decide_eq_false c) ?_
      walk_at "ax"
      exact hk' _ (by rw [show nOf kind n = n from if_neg c])
end
end UW.Bg
namespace UW.Ja
open PySem PySem.Spec PyProof.Rows L2 UW UW.Bg
/-- one step -/
local macro_rules | `(tactic| walk_at "a1") => `(tactic| first
  | with_reducible refine wk ?_
  | (with_reducible refine rs_go 1 ?_
     first
     | with_reducible refine a_var (by with_unfolding_all rfl) (by with_unfolding_all rfl) ?_
     | with_reducible refine a_gtup (by with_unfolding_all rfl) (by with_unfolding_all rfl) ?_
     | with_reducible refine a_glst (by with_unfolding_all rfl) (by with_unfolding_all rfl) ?_)
  | (with_reducible refine rs_go 2 ?_
     first
     | with_reducible refine g_ixT (by with_unfolding_all rfl) (by first | with_unfolding_all rfl | with_unfolding_all exact at_zero _ _) ?_
     | with_reducible refine g_ixL (by with_unfolding_all rfl) (by first | with_unfolding_all rfl | with_unfolding_all exact at_zero _ _) ?_)
  | (with_reducible refine rs_go 3 ?_
     first
     | with_reducible refine g_lenT (by with_unfolding_all rfl) ?_
     | with_reducible refine g_lenL (by with_unfolding_all rfl) ?_
     | with_reducible refine g_tupL (by with_unfolding_all rfl) ?_
     | with_reducible refine g_tupT (by with_unfolding_all rfl) ?_
     | with_reducible refine g_lstT (by with_unfolding_all rfl) ?_
     | with_reducible refine g_lstL (by with_unfolding_all rfl) ?_)
  | (with_reducible refine rs_go 4 ?_
     first
     | with_reducible refine g_addL (by with_unfolding_all rfl) (by with_unfolding_all rfl) (Nat.le_of_ble_eq_true (by with_unfolding_all rfl)) ?_
     | with_reducible refine g_mulI (by first | exact Or.inl ⟨by decide, by decide⟩ | exact Or.inr ⟨by decide, by decide⟩ | (first | (refine Or.inl ⟨?_, ?_⟩ <;> omega) | (refine Or.inr ⟨?_, ?_⟩ <;> omega))) ?_
     | with_reducible refine g_mod (by first | decide | omega) ?_
     | with_reducible refine g_div (by first | decide | omega) (by first | decide | omega) ?_
     | with_reducible refine g_slT (by with_unfolding_all rfl) ?_
     | with_reducible refine g_slL (by with_unfolding_all rfl) ?_
     | with_reducible refine g_isN (by with_unfolding_all rfl) ?_
     | with_reducible refine g_notN (by with_unfolding_all rfl) ?_)
  | (with_reducible refine rs_go 5 ?_
     first
     | with_reducible refine a_dget (by with_unfolding_all rfl) ?_
     | with_reducible refine a_dget2 (by with_unfolding_all rfl) ?_
     | with_reducible refine a_fzq (by with_unfolding_all rfl) ?_
     | with_reducible refine a_retC (by with_unfolding_all rfl) ?_
     | with_reducible refine a_isX (by with_unfolding_all rfl) ?_
     | with_reducible refine a_app (by with_unfolding_all rfl) ?_
     | with_reducible refine a_ext (by with_unfolding_all rfl) ?_
     | with_reducible refine a_pop (by with_unfolding_all rfl) ?_
     | with_reducible refine a_fz (by with_unfolding_all rfl) ?_
     | with_reducible refine a_lenDV (by with_unfolding_all rfl) ?_)
  | (with_reducible refine rs_go 6 ?_
     first
     | with_reducible refine a_cl (by with_unfolding_all rfl) ?_
     | with_reducible refine a_dat (by with_unfolding_all rfl) ?_
     | with_reducible refine a_s1 (by with_unfolding_all rfl) ?_
     | with_reducible refine a_dcy (by with_unfolding_all rfl) ?_
     | with_reducible refine a_s2 (by with_unfolding_all rfl) (by with_unfolding_all rfl) ?_
     | with_reducible refine a_s3 (by with_unfolding_all rfl) (by with_unfolding_all rfl) (by with_unfolding_all rfl) ?_
     | with_reducible refine a_owned (by with_unfolding_all rfl) ?_)
  | (with_reducible refine rs_go 7 ?_
     first
     | with_reducible refine i_B (by with_unfolding_all rfl) ?_
     | with_reducible refine i_T (by with_unfolding_all rfl) ?_
     | with_reducible refine i_L (by with_unfolding_all rfl) ?_)
  | (with_reducible refine rs_go 8 ?_
     first
     | with_reducible refine a_nb (by with_unfolding_all rfl) ?_
     | with_reducible refine a_len (by with_unfolding_all rfl) ?_
     | with_reducible refine a_revT (by with_unfolding_all rfl) ?_
     | with_reducible refine a_revL (by with_unfolding_all rfl) ?_)
  | (with_reducible refine rs_go 9 ?_
     first
     | with_reducible refine iteNT (by with_unfolding_all rfl) ?_
     | with_reducible refine iteNF (by with_unfolding_all rfl) ?_
     | with_reducible refine iteIT (by with_unfolding_all rfl) ?_
     | with_reducible refine iteIF (by with_unfolding_all rfl) ?_))
local macro_rules | `(tactic| walk_at "ax") => `(tactic| (repeat (first | walk_at "a1" | with_reducible refine a_if ?_); try dsimp only [List.set_cons_zero, List.set_cons_succ, awipe, aFrz, List.getElem?_cons_zero, List.getElem?_cons_succ]))
local macro_rules | `(tactic| walk_at "ay") => `(tactic| (repeat (walk_at "a1"); try dsimp only [List.set_cons_zero, List.set_cons_succ, awipe, aFrz, List.getElem?_cons_zero, List.getElem?_cons_succ]))
/-- _law_pick, slots jar, row -/
def t__law_pick (K : Fg) : TS :=
  (tRet (tOp (rIx K) (tVar 1) (tG (sp__law_draw K) E00 (tCons (tVar 0) (tCons (tCB (rLenU K) (tCons (tVar 1) tNil)) tNil)))))
abbrev a__law_pick : ASt :=
  (aRet (aOp gIx (aVar 1) (aCall0 m__law_draw (bCons (aVar 0) (bCons (aCB gLen (bCons (aVar 1) bNil)) bNil)))))
theorem f__law_pick {K : Fg} {E : WX} : RSt K E (t__law_pick K) a__law_pick :=
  (rs_ret (re_op ro_ix re_var (re_call0 br__law_draw (rv_cons re_var (rv_cons (re_cb rb_len (rv_cons re_var rv_nil)) rv_nil)))))
def m__law_pick : AFn := mOf 0 a__law_pick
def sp__law_pick (K : Fg) : Sp := SpA K 2 m__law_pick
theorem br__law_pick {K : Fg} : ∀ vs H Q E, SpA K 2 m__law_pick vs H Q E → sp__law_pick K vs H Q E := fun _ _ _ _ h => h
theorem l__law_pick {K : Fg} : ∀ vs H Q E, sp__law_pick K vs H Q E → vs.length = 2 := l_spa
theorem p__law_pick {K : Fg} {vs : List V} {H : Hp} {Q : VK} {E : XK} (h : sp__law_pick K vs H Q E) : t__law_pick K { nx := fun _ H' => Q .non H', rt := Q } (L2.start ["jar", "row"] vs) H :=
  p_spa (f__law_pick) h rfl
/-- _law_mixed, slots jar, row, rest, turn, found -/
def t__law_mixed (K : Fg) : TS :=
  (tSeq (tPar 2 4 (tCons (tCB (rLstOf K) (tCons (tVar 1) tNil)) (tCons (tLst tNil) tNil))) (tSeq (tFor (iRng1 (tCons (tCB (rLenU K) (tCons (tVar
    2) tNil)) tNil)) (gName 3) (tDrop (tBM K "list" rAppend (tVar 4) (tCons (tBM K "list" rPopAt (tVar 2) (tCons (tG (sp__law_draw K) E00 (tCons (tVar 0) (tCons (tCB (rLenU K) (tCons (tVar 2) tNil)) tNil))) tNil)) tNil)))) (tRet
    (tVar 4))))
abbrev a__law_mixed_0 : ASt :=
  (aSeq (aFor (aRng1 (bCons (aCB gLen (bCons (aVar 2) bNil)) bNil)) (agName 3) (aAppPop 4 2 (aCall0 m__law_draw (bCons (aVar 0) (bCons (aCB gLen (bCons (aVar 2) bNil)) bNil))))) (aRet (aVar 4)))
abbrev a__law_mixed : ASt :=
  (aSeq (aSet2 2 4 (aCB gLstOf (bCons (aVar 1) bNil)) (aLst aNil)) a__law_mixed_0)
theorem f__law_mixed {K : Fg} {E : WX} : RSt K E (t__law_mixed K) a__law_mixed :=
  (rs_seq (rs_set2 (re_cb rb_lstOf (rv_cons re_var rv_nil)) (re_lst ra_nil)) (rs_seq (rs_for (ri_rng1 (rv_cons (re_cb rb_len (rv_cons re_var rv_nil))
    rv_nil)) rg_name (rs_appPop (re_call0 br__law_draw (rv_cons re_var (rv_cons (re_cb rb_len (rv_cons re_var rv_nil)) rv_nil))))) (rs_ret re_var)))
def m__law_mixed : AFn := mOf 3 a__law_mixed
def sp__law_mixed (K : Fg) : Sp := SpA K 2 m__law_mixed
theorem br__law_mixed {K : Fg} : ∀ vs H Q E, SpA K 2 m__law_mixed vs H Q E → sp__law_mixed K vs H Q E := fun _ _ _ _ h => h
theorem l__law_mixed {K : Fg} : ∀ vs H Q E, sp__law_mixed K vs H Q E → vs.length = 2 := l_spa
theorem p__law_mixed {K : Fg} {vs : List V} {H : Hp} {Q : VK} {E : XK} (h : sp__law_mixed K vs H Q E) : t__law_mixed K { nx := fun _ H' => Q .non H', rt := Q } (L2.start ["jar", "row", "rest", "turn", "found"] vs) H :=
  p_spa (f__law_mixed) h rfl
/-- _law_made, slots jar, n, pairs, loads, names, a, b, load, found -/
def t__law_made (K : Fg) : TS :=
  (tSeq (tPar 4 8 (tCons (tG (sp__law_mixed K) E00 (tCons (tVar 0) (tCons (tLstRg (tRg1 (tVar 1))) tNil))) (tCons (tLst tNil)
    tNil))) (tSeq (tFor (RZ.iZipA K (tCons (tVar 2) (tCons (tVar 3) tNil))) (gTup K 2 (gCons (gTup K 2 (gCons (gName 5) (gCons (gName 6) gNil))) (gCons (gName 7) gNil))) (tDrop (tBM K "list" rAppend (tVar 8) (tCons (tTup (tCons
    (tCB rMin2 (tCons (tOp (rIx K) (tVar 4) (tVar 5)) (tCons (tOp (rIx K) (tVar 4) (tVar 6)) tNil))) (tCons (tCB rMax2 (tCons (tOp (rIx K) (tVar 4) (tVar 5)) (tCons (tOp (rIx K) (tVar 4) (tVar 6)) tNil))) (tCons (tVar 7) tNil))))
    tNil)))) (tSeq (tAsg (tCB (rSortU K 3 64) (tCons (tVar 8) tNil)) (gName 8)) (tRet (tTup (tCons (tVar 1) (tCons (tCB (rTupOf K) (tCons (tLc (iSeq K (tVar 8)) (gTup K 3 (gCons (gName 5) (gCons (gName 6) (gCons (gName 7) gNil))))
    tYes (tTup (tCons (tVar 5) (tCons (tVar 6) tNil))) [5, 6, 7]) tNil)) (tCons (tCB (rTupOf K) (tCons (tLc (iSeq K (tVar 8)) (gTup K 3 (gCons (gName 5) (gCons (gName 6) (gCons (gName 7) gNil)))) tYes (tVar 7) [5, 6, 7]) tNil))
    tNil))))))))
abbrev a__law_made_0 : ASt :=
  (aRet (aTup (aCons (aVar 1) (aCons (aCB gTupOf (bCons (aLc (aSeqI (aVar 8)) (agTup 3 (agCons (agName 5) (agCons (agName 6) (agCons (agName 7) agNil)))) aYes (aTup (aCons (aVar 5) (aCons (aVar 6)
    aNil))) [5, 6, 7]) bNil)) (aCons (aCB gTupOf (bCons (aLc (aSeqI (aVar 8)) (agTup 3 (agCons (agName 5) (agCons (agName 6) (agCons (agName 7) agNil)))) aYes (aVar 7) [5, 6, 7]) bNil)) aNil)))))
abbrev a__law_made_1 : ASt :=
  (aSeq (aSet 8 (aCB gSortT (bCons (aVar 8) bNil))) a__law_made_0)
abbrev a__law_made_2 : ASt :=
  (aSeq (aFor (aZip (bCons (aVar 2) (bCons (aVar 3) bNil))) (agTup 2 (agCons (agTup 2 (agCons (agName 5) (agCons (agName 6) agNil))) (agCons (agName 7) agNil))) (aApp 8 (aTup (aCons (aCB gMin2 (bCons
    (aOp gIx (aVar 4) (aVar 5)) (bCons (aOp gIx (aVar 4) (aVar 6)) bNil))) (aCons (aCB gMax2 (bCons (aOp gIx (aVar 4) (aVar 5)) (bCons (aOp gIx (aVar 4) (aVar 6)) bNil))) (aCons (aVar 7) aNil)))))) a__law_made_1)
abbrev a__law_made : ASt :=
  (aSeq (aSet2 4 8 (aCall0 m__law_mixed (bCons (aVar 0) (bCons (aLstRg (aVar 1)) bNil))) (aLst aNil)) a__law_made_2)
theorem f__law_made {K : Fg} {E : WX} : RSt K E (t__law_made K) a__law_made :=
  (rs_seq (rs_set2 (re_call0 br__law_mixed (rv_cons re_var (rv_cons (re_lstRg re_var) rv_nil))) (re_lst ra_nil)) (rs_seq (rs_for (ri_zip (rv_cons re_var
    (rv_cons re_var rv_nil))) (rg_tup (rgs_cons (rg_tup (rgs_cons rg_name (rgs_cons rg_name rgs_nil))) (rgs_cons rg_name rgs_nil))) (rs_app (re_tup (ra_cons (re_cb rb_min2 (rv_cons (re_op ro_ix re_var re_var) (rv_cons (re_op ro_ix
    re_var re_var) rv_nil))) (ra_cons (re_cb rb_max2 (rv_cons (re_op ro_ix re_var re_var) (rv_cons (re_op ro_ix re_var re_var) rv_nil))) (ra_cons re_var ra_nil)))))) (rs_seq (rs_set (re_cb rb_sortT (rv_cons re_var rv_nil))) (rs_ret
    (re_tup (ra_cons re_var (ra_cons (re_cb rb_tupOf (rv_cons (re_lc (ri_seq re_var) (rg_tup (rgs_cons rg_name (rgs_cons rg_name (rgs_cons rg_name rgs_nil)))) rt_yes (re_tup (ra_cons re_var (ra_cons re_var ra_nil))) (by rfl))
    rv_nil)) (ra_cons (re_cb rb_tupOf (rv_cons (re_lc (ri_seq re_var) (rg_tup (rgs_cons rg_name (rgs_cons rg_name (rgs_cons rg_name rgs_nil)))) rt_yes re_var (by rfl)) rv_nil)) ra_nil))))))))
def m__law_made : AFn := mOf 5 a__law_made
def sp__law_made (K : Fg) : Sp := SpA K 4 m__law_made
theorem br__law_made {K : Fg} : ∀ vs H Q E, SpA K 4 m__law_made vs H Q E → sp__law_made K vs H Q E := fun _ _ _ _ h => h
theorem l__law_made {K : Fg} : ∀ vs H Q E, sp__law_made K vs H Q E → vs.length = 4 := l_spa
theorem p__law_made {K : Fg} {vs : List V} {H : Hp} {Q : VK} {E : XK} (h : sp__law_made K vs H Q E) : t__law_made K { nx := fun _ H' => Q .non H', rt := Q } (L2.start ["jar", "n", "pairs", "loads", "names", "a", "b", "load", "found"] vs) H :=
  p_spa (f__law_made) h rfl
/-- _law_tree, slots jar, n, place -/
def t__law_tree (K : Fg) : TS :=
  (tRet (tLc (iRng2 (tCons (tC (.int 1)) (tCons (tVar 1) tNil))) (gName 2) tYes (tTup (tCons (tG (sp__law_draw K) E00 (tCons (tVar 0) (tCons (tVar 2) tNil)))
    (tCons (tVar 2) tNil))) [2]))
abbrev a__law_tree : ASt :=
  (aRet (aLc (aRng2 (bCons (aC (.int 1)) (bCons (aVar 1) bNil))) (agName 2) aYes (aTup (aCons (aCall0 m__law_draw (bCons (aVar 0) (bCons (aVar 2) bNil))) (aCons (aVar 2) aNil))) [2]))
theorem f__law_tree {K : Fg} {E : WX} : RSt K E (t__law_tree K) a__law_tree :=
  (rs_ret (re_lc (ri_rng2 (rv_cons re_int (rv_cons re_var rv_nil))) rg_name rt_yes (re_tup (ra_cons (re_call0 br__law_draw (rv_cons re_var (rv_cons
    re_var rv_nil))) (ra_cons re_var ra_nil))) (by rfl)))
def m__law_tree : AFn := mOf 1 a__law_tree
def sp__law_tree (K : Fg) : Sp := SpA K 2 m__law_tree
theorem br__law_tree {K : Fg} : ∀ vs H Q E, SpA K 2 m__law_tree vs H Q E → sp__law_tree K vs H Q E := fun _ _ _ _ h => h
theorem l__law_tree {K : Fg} : ∀ vs H Q E, sp__law_tree K vs H Q E → vs.length = 2 := l_spa
theorem p__law_tree {K : Fg} {vs : List V} {H : Hp} {Q : VK} {E : XK} (h : sp__law_tree K vs H Q E) : t__law_tree K { nx := fun _ H' => Q .non H', rt := Q } (L2.start ["jar", "n", "place"] vs) H :=
  p_spa (f__law_tree) h rfl
/-- _law_more, slots jar, n, pairs, many, rest, a, b -/
def t__law_more (K : Fg) : TS :=
  (tSeq (tAsg (tLst tNil) (gName 4)) (tSeq (tFor (iRng1 (tCons (tVar 1) tNil)) (gName 5) (tAsg (tOp (rAddU K) (tVar 4) (tLc (iRng2 (tCons (tOp
    (rAddU K) (tVar 5) (tC (.int 1))) (tCons (tVar 1) tNil))) (gName 6) (tTest (tOp (rNiU K) (tTup (tCons (tVar 5) (tCons (tVar 6) tNil))) (tVar 2))) (tTup (tCons (tVar 5) (tCons (tVar 6) tNil))) [6])) (gName 4))) (tRet (tOp (rAddU
    K) (tVar 2) (tSl (rSlU K) (tG (sp__law_mixed K) E00 (tCons (tVar 0) (tCons (tVar 4) tNil))) tNoPart (tPart (tVar 3)))))))
abbrev a__law_more_0 : ASt :=
  (aRet (aOp gAdd (aVar 2) (aSl (aCall0 m__law_mixed (bCons (aVar 0) (bCons (aVar 4) bNil))) aNoPart (aPart (aVar 3)))))
abbrev a__law_more_1 : ASt :=
  (aSeq (aFor (aRng1 (bCons (aVar 1) bNil)) (agName 5) (aAsg (aOp gAdd (aVar 4) (aLc (aRng2 (bCons (aOp gAdd (aVar 5) (aC (.int 1))) (bCons (aVar 1) bNil))) (agName 6) (aB (aOp (gIn true) (aTup (aCons
    (aVar 5) (aCons (aVar 6) aNil))) (aVar 2))) (aTup (aCons (aVar 5) (aCons (aVar 6) aNil))) [6])) (agName 4))) a__law_more_0)
abbrev a__law_more : ASt :=
  (aSeq (aAsg (aLst aNil) (agName 4)) a__law_more_1)
theorem f__law_more {K : Fg} {E : WX} : RSt K E (t__law_more K) a__law_more :=
  (rs_seq (rs_asg (re_lst ra_nil) rg_name) (rs_seq (rs_for (ri_rng1 (rv_cons re_var rv_nil)) rg_name (rs_asg (re_op ro_add re_var (re_lc (ri_rng2
    (rv_cons (re_op ro_add re_var re_int) (rv_cons re_var rv_nil))) rg_name (rt_test (re_op ro_ni (re_tup (ra_cons re_var (ra_cons re_var ra_nil))) re_var)) (re_tup (ra_cons re_var (ra_cons re_var ra_nil))) (by rfl))) rg_name))
    (rs_ret (re_op ro_add re_var (re_sl (re_call0 br__law_mixed (rv_cons re_var (rv_cons re_var rv_nil))) ro_none (ro_some re_var))))))
def m__law_more : AFn := mOf 3 a__law_more
def sp__law_more (K : Fg) : Sp := SpA K 4 m__law_more
theorem br__law_more {K : Fg} : ∀ vs H Q E, SpA K 4 m__law_more vs H Q E → sp__law_more K vs H Q E := fun _ _ _ _ h => h
theorem l__law_more {K : Fg} : ∀ vs H Q E, sp__law_more K vs H Q E → vs.length = 4 := l_spa
theorem p__law_more {K : Fg} {vs : List V} {H : Hp} {Q : VK} {E : XK} (h : sp__law_more K vs H Q E) : t__law_more K { nx := fun _ H' => Q .non H', rt := Q } (L2.start ["jar", "n", "pairs", "many", "rest", "a", "b"] vs) H :=
  p_spa (f__law_more) h rfl
/-- _law_web, slots jar, way, far, pairs, n, k, elder, a, b, most, pair -/
def t__law_web (K : Fg) : TS :=
  (tSeq (tPar 1 2 (tCons (tG (sp__law_draw K) E00 (tCons (tVar 0) (tCons (tC (.int 8)) tNil))) (tCons (tOp (rAddU K) (tC
    (.int 5)) (tG (sp__law_draw K) E00 (tCons (tVar 0) (tCons (tC (.int 3)) tNil)))) tNil))) (tSeq (tPar 3 4 (tCons (tLc (iRng1 (tCons (tOp rSubI (tVar 2) (tC (.int 1))) tNil)) (gName 5) tYes (tTup (tCons (tVar 5) (tCons (tOp
    (rAddU K) (tVar 5) (tC (.int 1))) tNil))) [5]) (tCons (tVar 2) tNil))) (Evl.tCut (tIfS (tTest (tOp (rEqU K) (tVar 1) (tC (.int 1)))) (tAsg (tOp (rAddU K) (tVar 3) (tLst (tCons (tTup (tCons (tC (.int 0)) (tCons (tOp rSubI (tVar
    2) (tC (.int 1))) tNil))) tNil))) (gName 3)) (tIfS (tTest (tOp (rEqU K) (tVar 1) (tC (.int 2)))) (tSeq (tAsg (tOp (rAddU K) (tC (.int 3)) (tG (sp__law_draw K) E00 (tCons (tVar 0) (tCons (tC (.int 6)) tNil)))) (gName 4)) (tAsg
    (tG (sp__law_tree K) E00 (tCons (tVar 0) (tCons (tVar 4) tNil))) (gName 3))) (tIfS (tTest (tOp (rEqU K) (tVar 1) (tC (.int 3)))) (tSeq (tAsg (tOp (rAddU K) (tC (.int 4)) (tG (sp__law_draw K) E00 (tCons (tVar 0) (tCons (tC (.int
    3)) tNil)))) (gName 4)) (tAsg (tG (sp__law_more K) E00 (tCons (tVar 0) (tCons (tVar 4) (tCons (tG (sp__law_tree K) E00 (tCons (tVar 0) (tCons (tVar 4) tNil))) (tCons (tOp (rAddU K) (tC (.int 1)) (tG (sp__law_draw K) E00 (tCons
    (tVar 0) (tCons (tC (.int 2)) tNil)))) tNil))))) (gName 3))) (tIfS (tTest (tOp (rEqU K) (tVar 1) (tC (.int 4)))) (tSeq (tAsg (tG (sp__law_pick K) E00 (tCons (tVar 0) (tCons (tLst (tCons (tLst (tCons (tTup (tCons (tC (.int 0))
    (tCons (tC (.int 1)) tNil))) (tCons (tTup (tCons (tC (.int 0)) (tCons (tC (.int 2)) tNil))) (tCons (tTup (tCons (tC (.int 0)) (tCons (tC (.int 3)) tNil))) tNil)))) (tCons (tLst (tCons (tTup (tCons (tC (.int 0)) (tCons (tC (.int
    1)) tNil))) (tCons (tTup (tCons (tC (.int 0)) (tCons (tC (.int 2)) tNil))) (tCons (tTup (tCons (tC (.int 0)) (tCons (tC (.int 3)) tNil))) tNil)))) (tCons (tLst (tCons (tTup (tCons (tC (.int 0)) (tCons (tC (.int 1)) tNil)))
    (tCons (tTup (tCons (tC (.int 1)) (tCons (tC (.int 2)) tNil))) tNil))) tNil)))) tNil))) (gName 6)) (tSeq (tPar 4 3 (tCons (tOp (rAddU K) (tOp (rMulU K) (tC (.int 2)) (tCB (rLenU K) (tCons (tVar 6) tNil))) (tC (.int 1))) (tCons
    (tLst tNil) tNil))) (tFor (iEnumV K (tCons (tVar 6) tNil)) (gTup K 2 (gCons (gName 5) (gCons (gTup K 2 (gCons (gName 7) (gCons (gName 8) gNil))) gNil))) (tAsg (tOp (rAddU K) (tVar 3) (tLst (tCons (tTup (tCons (tVar 7) (tCons
    (tOp (rAddU K) (tOp (rAddU K) (tCB (rLenU K) (tCons (tVar 6) tNil)) (tC (.int 1))) (tVar 5)) tNil))) (tCons (tTup (tCons (tVar 8) (tCons (tOp (rAddU K) (tOp (rAddU K) (tCB (rLenU K) (tCons (tVar 6) tNil)) (tC (.int 1))) (tVar
    5)) tNil))) tNil)))) (gName 3))))) (tIfS (tTest (tOp (rEqU K) (tVar 1) (tC (.int 5)))) (tSeq (tAsg (tG (sp__law_pick K) E00 (tCons (tVar 0) (tCons (tLst (tCons (tC (.int 2)) (tCons (tC (.int 3)) (tCons (tC (.int 3)) (tCons (tC
    (.int 4)) (tCons (tC (.int 4)) (tCons (tC (.int 4)) tNil))))))) tNil))) (gName 4)) (tAsg (tG (sp__law_more K) E00 (tCons (tVar 0) (tCons (tVar 4) (tCons (tG (sp__law_tree K) E00 (tCons (tVar 0) (tCons (tVar 4) tNil))) (tCons
    (tG (sp__law_draw K) E00 (tCons (tVar 0) (tCons (tC (.int 3)) tNil))) tNil))))) (gName 3))) (tIfS (tTest (tOp (rEqU K) (tVar 1) (tC (.int 6)))) (tSeq (tAsg (tOp (rAddU K) (tC (.int 3)) (tG (sp__law_draw K) E00 (tCons (tVar 0)
    (tCons (tC (.int 2)) tNil)))) (gName 4)) (tAsg (tG (sp__law_more K) E00 (tCons (tVar 0) (tCons (tVar 4) (tCons (tG (sp__law_tree K) E00 (tCons (tVar 0) (tCons (tVar 4) tNil))) (tCons (tG (sp__law_draw K) E00 (tCons (tVar 0)
    (tCons (tC (.int 2)) tNil))) tNil))))) (gName 3))) (tIfS (tTest (tOp (rEqU K) (tVar 1) (tC (.int 7)))) (tSeq (tAsg (tOp (rAddU K) (tC (.int 4)) (tG (sp__law_draw K) E00 (tCons (tVar 0) (tCons (tC (.int 2)) tNil)))) (gName 4))
    (tAsg (tOp (rAddU K) (tLst (tCons (tTup (tCons (tC (.int 0)) (tCons (tC (.int 2)) tNil))) (tCons (tTup (tCons (tC (.int 0)) (tCons (tC (.int 3)) tNil))) (tCons (tTup (tCons (tC (.int 1)) (tCons (tC (.int 2)) tNil))) (tCons
    (tTup (tCons (tC (.int 1)) (tCons (tC (.int 3)) tNil))) tNil))))) (tIf (tTest (tOp (rEqU K) (tVar 4) (tC (.int 4)))) (tLst (tCons (tTup (tCons (tC (.int 0)) (tCons (tC (.int 1)) tNil))) (tCons (tTup (tCons (tC (.int 2)) (tCons
    (tC (.int 3)) tNil))) tNil))) (tLst (tCons (tTup (tCons (tC (.int 0)) (tCons (tC (.int 4)) tNil))) (tCons (tTup (tCons (tC (.int 1)) (tCons (tC (.int 4)) tNil))) tNil))))) (gName 3))) tNext))))))) (tSeq (tAsg (tOp (rAddU K)
    (tOp (rAddU K) (tC (.int 1)) (tCB rInt (tCons (tOp (rEqU K) (tVar 1) (tC (.int 6))) tNil))) (tCB rInt (tCons (tAndV (tOp (rEqU K) (tVar 1) (tC (.int 6))) (tOp (rLtU K) (tCB (rLenU K) (tCons (tVar 3) tNil)) (tC (.int 4))))
    tNil))) (gName 9)) (tRet (tG (sp__law_made K) E00 (tCons (tVar 0) (tCons (tVar 4) (tCons (tVar 3) (tCons (tLc (iSeq K (tVar 3)) (gName 10) tYes (tOp (rAddU K) (tC (.int 1)) (tG (sp__law_draw K) E00 (tCons (tVar 0) (tCons (tVar
    9) tNil)))) [10]) tNil))))))))))
abbrev a__law_web_0 : ASt :=
  (aRet (aCall0 m__law_made (bCons (aVar 0) (bCons (aVar 4) (bCons (aVar 3) (bCons (aLc (aSeqI (aVar 3)) (agName 10) aYes (aOp gAdd (aC (.int 1)) (aCall0 m__law_draw (bCons (aVar 0) (bCons (aVar 9)
    bNil)))) [10]) bNil))))))
abbrev a__law_web_1 : ASt :=
  (aAsg (aCall0 m__law_tree (bCons (aVar 0) (bCons (aVar 4) bNil))) (agName 3))
abbrev a__law_web_2 : ASt :=
  (aAsg (aCall0 m__law_more (bCons (aVar 0) (bCons (aVar 4) (bCons (aCall0 m__law_tree (bCons (aVar 0) (bCons (aVar 4) bNil))) (bCons (aOp gAdd (aC (.int 1)) (aCall0 m__law_draw (bCons (aVar 0) (bCons
    (aC (.int 2)) bNil)))) bNil))))) (agName 3))
abbrev a__law_web_3 : ASt :=
  (aFor (aEnum (bCons (aVar 6) bNil)) (agTup 2 (agCons (agName 5) (agCons (agTup 2 (agCons (agName 7) (agCons (agName 8) agNil))) agNil))) (aAsg (aOp gAdd (aVar 3) (aLst (aCons (aTup (aCons (aVar 7)
    (aCons (aOp gAdd (aOp gAdd (aCB gLen (bCons (aVar 6) bNil)) (aC (.int 1))) (aVar 5)) aNil))) (aCons (aTup (aCons (aVar 8) (aCons (aOp gAdd (aOp gAdd (aCB gLen (bCons (aVar 6) bNil)) (aC (.int 1))) (aVar 5)) aNil))) aNil))))
    (agName 3)))
abbrev a__law_web_4 : ASt :=
  (aSeq (aParD 4 3 (aCons (aOp gAdd (aOp gMul (aC (.int 2)) (aCB gLen (bCons (aVar 6) bNil))) (aC (.int 1))) (aCons (aLst aNil) aNil))) a__law_web_3)
abbrev a__law_web_5 : ASt :=
  (aAsg (aCall0 m__law_more (bCons (aVar 0) (bCons (aVar 4) (bCons (aCall0 m__law_tree (bCons (aVar 0) (bCons (aVar 4) bNil))) (bCons (aCall0 m__law_draw (bCons (aVar 0) (bCons (aC (.int 3)) bNil)))
    bNil))))) (agName 3))
abbrev a__law_web_6 : ASt :=
  (aAsg (aCall0 m__law_more (bCons (aVar 0) (bCons (aVar 4) (bCons (aCall0 m__law_tree (bCons (aVar 0) (bCons (aVar 4) bNil))) (bCons (aCall0 m__law_draw (bCons (aVar 0) (bCons (aC (.int 2)) bNil)))
    bNil))))) (agName 3))
abbrev a__law_web_7 : ASt :=
  (aAsg (aOp gAdd (aLst (aCons (aTup (aCons (aC (.int 0)) (aCons (aC (.int 2)) aNil))) (aCons (aTup (aCons (aC (.int 0)) (aCons (aC (.int 3)) aNil))) (aCons (aTup (aCons (aC (.int 1)) (aCons (aC (.int
    2)) aNil))) (aCons (aTup (aCons (aC (.int 1)) (aCons (aC (.int 3)) aNil))) aNil))))) (aIf (aB (aOp gEq (aVar 4) (aC (.int 4)))) (aLst (aCons (aTup (aCons (aC (.int 0)) (aCons (aC (.int 1)) aNil))) (aCons (aTup (aCons (aC (.int
    2)) (aCons (aC (.int 3)) aNil))) aNil))) (aLst (aCons (aTup (aCons (aC (.int 0)) (aCons (aC (.int 4)) aNil))) (aCons (aTup (aCons (aC (.int 1)) (aCons (aC (.int 4)) aNil))) aNil))))) (agName 3))
abbrev a__law_web_8 : ASt :=
  (aSeq (aAsg (aOp gAdd (aOp gAdd (aC (.int 1)) (aCB gInt (bCons (aOp gEq (aVar 1) (aC (.int 6))) bNil))) (aCB gInt (bCons (aAndV (aOp gEq (aVar 1) (aC (.int 6))) (aOp gLt (aCB gLen (bCons (aVar 3)
    bNil)) (aC (.int 4)))) bNil))) (agName 9)) a__law_web_0)
abbrev a__law_web_9 : ASt :=
  (aCut (aIfS (aB (aOp gEq (aVar 1) (aC (.int 1)))) (aAsg (aOp gAdd (aVar 3) (aLst (aCons (aTup (aCons (aC (.int 0)) (aCons (aOp gSub' (aVar 2) (aC (.int 1))) aNil))) aNil))) (agName 3)) (aIfS (aB (aOp
    gEq (aVar 1) (aC (.int 2)))) (aSeq (aAsg (aOp gAdd (aC (.int 3)) (aCall0 m__law_draw (bCons (aVar 0) (bCons (aC (.int 6)) bNil)))) (agName 4)) a__law_web_1) (aIfS (aB (aOp gEq (aVar 1) (aC (.int 3)))) (aSeq (aAsg (aOp gAdd (aC
    (.int 4)) (aCall0 m__law_draw (bCons (aVar 0) (bCons (aC (.int 3)) bNil)))) (agName 4)) a__law_web_2) (aIfS (aB (aOp gEq (aVar 1) (aC (.int 4)))) (aSeq (aAsg (aCall0 m__law_pick (bCons (aVar 0) (bCons (aLst (aCons (aLst (aCons
    (aTup (aCons (aC (.int 0)) (aCons (aC (.int 1)) aNil))) (aCons (aTup (aCons (aC (.int 0)) (aCons (aC (.int 2)) aNil))) (aCons (aTup (aCons (aC (.int 0)) (aCons (aC (.int 3)) aNil))) aNil)))) (aCons (aLst (aCons (aTup (aCons (aC
    (.int 0)) (aCons (aC (.int 1)) aNil))) (aCons (aTup (aCons (aC (.int 0)) (aCons (aC (.int 2)) aNil))) (aCons (aTup (aCons (aC (.int 0)) (aCons (aC (.int 3)) aNil))) aNil)))) (aCons (aLst (aCons (aTup (aCons (aC (.int 0)) (aCons
    (aC (.int 1)) aNil))) (aCons (aTup (aCons (aC (.int 1)) (aCons (aC (.int 2)) aNil))) aNil))) aNil)))) bNil))) (agName 6)) a__law_web_4) (aIfS (aB (aOp gEq (aVar 1) (aC (.int 5)))) (aSeq (aAsg (aCall0 m__law_pick (bCons (aVar 0)
    (bCons (aLst (aCons (aC (.int 2)) (aCons (aC (.int 3)) (aCons (aC (.int 3)) (aCons (aC (.int 4)) (aCons (aC (.int 4)) (aCons (aC (.int 4)) aNil))))))) bNil))) (agName 4)) a__law_web_5) (aIfS (aB (aOp gEq (aVar 1) (aC (.int
    6)))) (aSeq (aAsg (aOp gAdd (aC (.int 3)) (aCall0 m__law_draw (bCons (aVar 0) (bCons (aC (.int 2)) bNil)))) (agName 4)) a__law_web_6) (aIfS (aB (aOp gEq (aVar 1) (aC (.int 7)))) (aSeq (aAsg (aOp gAdd (aC (.int 4)) (aCall0
    m__law_draw (bCons (aVar 0) (bCons (aC (.int 2)) bNil)))) (agName 4)) a__law_web_7) aNext))))))) a__law_web_8)
abbrev a__law_web_10 : ASt :=
  (aSeq (aParD 3 4 (aCons (aLc (aRng1 (bCons (aOp gSub' (aVar 2) (aC (.int 1))) bNil)) (agName 5) aYes (aTup (aCons (aVar 5) (aCons (aOp gAdd (aVar 5) (aC (.int 1))) aNil))) [5]) (aCons (aVar 2)
    aNil))) a__law_web_9)
abbrev a__law_web : ASt :=
  (aSeq (aParD 1 2 (aCons (aCall0 m__law_draw (bCons (aVar 0) (bCons (aC (.int 8)) bNil))) (aCons (aOp gAdd (aC (.int 5)) (aCall0 m__law_draw (bCons (aVar 0) (bCons (aC (.int 3)) bNil)))) aNil)))
    a__law_web_10)
theorem f__law_web {K : Fg} {E : WX} : RSt K E (t__law_web K) a__law_web :=
  (rs_seq (rs_parD (ra_cons (re_call0 br__law_draw (rv_cons re_var (rv_cons re_int rv_nil))) (ra_cons (re_op ro_add re_int (re_call0 br__law_draw (rv_cons
    re_var (rv_cons re_int rv_nil)))) ra_nil))) (rs_seq (rs_parD (ra_cons (re_lc (ri_rng1 (rv_cons (re_op ro_sub re_var re_int) rv_nil)) rg_name rt_yes (re_tup (ra_cons re_var (ra_cons (re_op ro_add re_var re_int) ra_nil))) (by
    rfl)) (ra_cons re_var ra_nil))) (rs_cut (rs_ifs (rt_test (re_op ro_eq re_var re_int)) (rs_asg (re_op ro_add re_var (re_lst (ra_cons (re_tup (ra_cons re_int (ra_cons (re_op ro_sub re_var re_int) ra_nil))) ra_nil))) rg_name)
    (rs_ifs (rt_test (re_op ro_eq re_var re_int)) (rs_seq (rs_asg (re_op ro_add re_int (re_call0 br__law_draw (rv_cons re_var (rv_cons re_int rv_nil)))) rg_name) (rs_asg (re_call0 br__law_tree (rv_cons re_var (rv_cons re_var
    rv_nil))) rg_name)) (rs_ifs (rt_test (re_op ro_eq re_var re_int)) (rs_seq (rs_asg (re_op ro_add re_int (re_call0 br__law_draw (rv_cons re_var (rv_cons re_int rv_nil)))) rg_name) (rs_asg (re_call0 br__law_more (rv_cons re_var
    (rv_cons re_var (rv_cons (re_call0 br__law_tree (rv_cons re_var (rv_cons re_var rv_nil))) (rv_cons (re_op ro_add re_int (re_call0 br__law_draw (rv_cons re_var (rv_cons re_int rv_nil)))) rv_nil))))) rg_name)) (rs_ifs (rt_test
    (re_op ro_eq re_var re_int)) (rs_seq (rs_asg (re_call0 br__law_pick (rv_cons re_var (rv_cons (re_lst (ra_cons (re_lst (ra_cons (re_tup (ra_cons re_int (ra_cons re_int ra_nil))) (ra_cons (re_tup (ra_cons re_int (ra_cons re_int
    ra_nil))) (ra_cons (re_tup (ra_cons re_int (ra_cons re_int ra_nil))) ra_nil)))) (ra_cons (re_lst (ra_cons (re_tup (ra_cons re_int (ra_cons re_int ra_nil))) (ra_cons (re_tup (ra_cons re_int (ra_cons re_int ra_nil))) (ra_cons
    (re_tup (ra_cons re_int (ra_cons re_int ra_nil))) ra_nil)))) (ra_cons (re_lst (ra_cons (re_tup (ra_cons re_int (ra_cons re_int ra_nil))) (ra_cons (re_tup (ra_cons re_int (ra_cons re_int ra_nil))) ra_nil))) ra_nil)))) rv_nil)))
    rg_name) (rs_seq (rs_parD (ra_cons (re_op ro_add (re_op ro_mul re_int (re_cb rb_len (rv_cons re_var rv_nil))) re_int) (ra_cons (re_lst ra_nil) ra_nil))) (rs_for (ri_enum (rv_cons re_var rv_nil)) (rg_tup (rgs_cons rg_name
    (rgs_cons (rg_tup (rgs_cons rg_name (rgs_cons rg_name rgs_nil))) rgs_nil))) (rs_asg (re_op ro_add re_var (re_lst (ra_cons (re_tup (ra_cons re_var (ra_cons (re_op ro_add (re_op ro_add (re_cb rb_len (rv_cons re_var rv_nil))
    re_int) re_var) ra_nil))) (ra_cons (re_tup (ra_cons re_var (ra_cons (re_op ro_add (re_op ro_add (re_cb rb_len (rv_cons re_var rv_nil)) re_int) re_var) ra_nil))) ra_nil)))) rg_name)))) (rs_ifs (rt_test (re_op ro_eq re_var
    re_int)) (rs_seq (rs_asg (re_call0 br__law_pick (rv_cons re_var (rv_cons (re_lst (ra_cons re_int (ra_cons re_int (ra_cons re_int (ra_cons re_int (ra_cons re_int (ra_cons re_int ra_nil))))))) rv_nil))) rg_name) (rs_asg (re_call0
    br__law_more (rv_cons re_var (rv_cons re_var (rv_cons (re_call0 br__law_tree (rv_cons re_var (rv_cons re_var rv_nil))) (rv_cons (re_call0 br__law_draw (rv_cons re_var (rv_cons re_int rv_nil))) rv_nil))))) rg_name)) (rs_ifs
    (rt_test (re_op ro_eq re_var re_int)) (rs_seq (rs_asg (re_op ro_add re_int (re_call0 br__law_draw (rv_cons re_var (rv_cons re_int rv_nil)))) rg_name) (rs_asg (re_call0 br__law_more (rv_cons re_var (rv_cons re_var (rv_cons
    (re_call0 br__law_tree (rv_cons re_var (rv_cons re_var rv_nil))) (rv_cons (re_call0 br__law_draw (rv_cons re_var (rv_cons re_int rv_nil))) rv_nil))))) rg_name)) (rs_ifs (rt_test (re_op ro_eq re_var re_int)) (rs_seq (rs_asg
    (re_op ro_add re_int (re_call0 br__law_draw (rv_cons re_var (rv_cons re_int rv_nil)))) rg_name) (rs_asg (re_op ro_add (re_lst (ra_cons (re_tup (ra_cons re_int (ra_cons re_int ra_nil))) (ra_cons (re_tup (ra_cons re_int (ra_cons
    re_int ra_nil))) (ra_cons (re_tup (ra_cons re_int (ra_cons re_int ra_nil))) (ra_cons (re_tup (ra_cons re_int (ra_cons re_int ra_nil))) ra_nil))))) (re_if (rt_test (re_op ro_eq re_var re_int)) (re_lst (ra_cons (re_tup (ra_cons
    re_int (ra_cons re_int ra_nil))) (ra_cons (re_tup (ra_cons re_int (ra_cons re_int ra_nil))) ra_nil))) (re_lst (ra_cons (re_tup (ra_cons re_int (ra_cons re_int ra_nil))) (ra_cons (re_tup (ra_cons re_int (ra_cons re_int ra_nil)))
    ra_nil))))) rg_name)) rs_next))))))) (rs_seq (rs_asg (re_op ro_add (re_op ro_add re_int (re_cb rb_int (rv_cons (re_op ro_eq re_var re_int) rv_nil))) (re_cb rb_int (rv_cons (re_andV (re_op ro_eq re_var re_int) (re_op ro_lt
    (re_cb rb_len (rv_cons re_var rv_nil)) re_int)) rv_nil))) rg_name) (rs_ret (re_call0 br__law_made (rv_cons re_var (rv_cons re_var (rv_cons re_var (rv_cons (re_lc (ri_seq re_var) rg_name rt_yes (re_op ro_add re_int (re_call0
    br__law_draw (rv_cons re_var (rv_cons re_var rv_nil)))) (by rfl)) rv_nil))))))))))
def m__law_web : AFn := mOf 10 a__law_web
def sp__law_web (K : Fg) : Sp := SpA K 1 m__law_web
theorem br__law_web {K : Fg} : ∀ vs H Q E, SpA K 1 m__law_web vs H Q E → sp__law_web K vs H Q E := fun _ _ _ _ h => h
theorem l__law_web {K : Fg} : ∀ vs H Q E, sp__law_web K vs H Q E → vs.length = 1 := l_spa
theorem p__law_web {K : Fg} {vs : List V} {H : Hp} {Q : VK} {E : XK} (h : sp__law_web K vs H Q E) : t__law_web K { nx := fun _ H' => Q .non H', rt := Q } (L2.start ["jar", "way", "far", "pairs", "n", "k", "elder", "a", "b", "most", "pair"] vs) H :=
  p_spa (f__law_web) h rfl
section
variable {x : AXc} {k : Avl → Prop}
theorem s__law_pick {a : Avl} {ds : List PyData} (ha : a.inn = .d (.list ds)) (hd : ds ≠ []) (hl : ds.length ≤ 1000) (h : ∀ d ∈ ds, k (.d d)) : m__law_pick [.wl 3, a] x k := by
  show a__law_pick _ [.wl 3, a.inn]
  rw [ha]
  have := List.length_pos_iff.mpr hd
  walk_at "ax"
  refine ⟨_, rfl, by omega, by omega, fun r r0 r1 => ?_⟩
  walk_at "ax"
  have hr : r.toNat < ds.length := by omega
  refine g_ixL rfl (atI_toNat r0 (List.getElem?_eq_getElem hr)) ?_
  exact h _ (List.getElem_mem _)
theorem s__law_mixed {a : Avl} {ds : List PyData} (ha : a.inn = .d (.list ds)) (hl : ds.length ≤ 60000) (h : ∀ es : List PyData, es.Perm ds → k (.l es)) : m__law_mixed [.wl 3, a] x k := by
  show a__law_mixed _ [.wl 3, a.inn, .x, .x, .x]
  rw [ha]
  walk_at "ax"
  refine i_r1 (by omega) ?_
  refine a_loop (fun i α => ∃ (rest found : List PyData) (x3 : Sot), α = [.wl 3, .d (.list ds), .own rest, x3, .own found] ∧ (found ++ rest).Perm ds ∧ rest.length + i = ds.length) ⟨ds, [], _, rfl, .refl _, rfl⟩ ?_ ?_
  · rintro i y α hy ⟨rest, found, x3, rfl, pm, hr0⟩
    obtain ⟨rfl, hi⟩ := iota_at' hy
    have pl := pm.length_eq
    rw [List.length_append] at pl
    walk_at "ax"
    refine a_appPop ⟨found, rest, rfl, rfl, by decide, ?_⟩
    walk_at "ax"
    refine ⟨_, rfl, by omega, by omega, fun r r0 r1 => ?_⟩
    walk_at "ax"
    have hr : r.toNat < rest.length := by omega
    refine ⟨r.toNat, rest[r.toNat], by rw [show ((r.toNat : Nat) : Int) = r by omega], List.getElem?_eq_getElem hr, by omega, by omega, ?_⟩
    refine ⟨_, _, _, rfl, ?_, ?_⟩
    · refine List.Perm.trans ?_ pm
      rw [List.append_assoc]
      refine List.Perm.append_left _ ?_
      exact erase_perm hr
    · rw [List.length_eraseIdx, if_pos hr]
      omega
  · rintro α ⟨rest, found, x3, rfl, pm, hr0⟩
    rw [List.length_map, iota_len] at hr0
    obtain rfl : rest = [] := List.length_eq_zero_iff.mp (by omega)
    walk_at "ax"
    rw [List.append_nil] at pm
    exact h _ pm
def ltP (p q : Int × Int) : Prop := p.1 < q.1 ∨ (p.1 = q.1 ∧ p.2 < q.2)
/-- a web drawn from a jar -/
structure WebJ (n : Int) (rs : List (Int × Int)) (ms : List Int) : Prop where
  r : Rds n rs
  lm : ms.length = rs.length
  m : ∀ m ∈ ms, 1 ≤ m ∧ m ≤ 9
  ne : rs ≠ []
  l : rs.length ≤ 40
  n0 : 2 ≤ n
  n1 : n ≤ 24
  up : rs.Pairwise ltP
theorem up_of : ∀ {qs : List ((Int × Int) × Int)}, qs.Pairwise leT → (qs.map (·.1)).Nodup → (qs.map (·.1)).Pairwise ltP
  | [], _, _ => .nil
  | q :: qs, h, nd => by
    obtain ⟨h1, h2⟩ := List.pairwise_cons.mp h
    rw [List.map_cons] at nd ⊢
    obtain ⟨n1, n2⟩ := List.nodup_cons.mp nd
    refine List.pairwise_cons.mpr ⟨fun p hp => ?_, up_of h2 n2⟩
    obtain ⟨z, hz, rfl⟩ := List.mem_map.mp hp
    have := h1 z hz
    have ne : q.1 ≠ z.1 := fun e => n1 (e ▸ hp)
    unfold leT at this
    unfold ltP
    by_cases e1 : q.1.1 = z.1.1
    · by_cases e2 : q.1.2 = z.1.2
      · exact absurd (Prod.ext e1 e2) ne
      · omega
    · omega
theorem s__law_made {a b : Avl} {n : Int} {ps : List (Int × Int)} {ls : List Int} (ha : a.inn = .d (.list (ps.map dP))) (hb : b.inn = .d (.list (ls.map .int))) (r : Rds n ps) (n0 : 2 ≤ n) (n1 : n ≤ 24) (ne : ps ≠ []) (pl : ps.length ≤ 40) (l0 : ls.length = ps.length)
    (b0 : ∀ m ∈ ls, 1 ≤ m ∧ m ≤ 9) (h : ∀ rs ms, WebJ n rs ms → ms.Perm ls → k (.d (dWeb n rs ms))) : m__law_made [.wl 3, .d (.int n), a, b] x k := by
  show a__law_made _ [.wl 3, .d (.int n), a.inn, b.inn, .x, .x, .x, .x, .x]
  rw [ha, hb]
  have p0 := List.length_pos_iff.mpr ne
  walk_at "ax"
  refine ⟨by omega, by omega, ?_⟩
  walk_at "ax"
  refine s__law_mixed rfl (by rw [List.length_map, iota_len]; omega) fun es pm => ⟨?_, fun z => by cases z⟩
  obtain ⟨ns, pn, rfl⟩ := perm_unmap pm rfl
  have ln : ns.length = n.toNat := by rw [pn.length_eq, iota_len]
  walk_at "ax"
  have R := ren_rds r pn
  generalize eZ : (ps.map (ren ns)).zip ls = Z
  have lZ : Z.length = ps.length := by rw [← eZ, List.length_zip, List.length_map, l0, Nat.min_self]
  refine i_zL rfl rfl ?_
  refine a_loop (fun i α => ∃ (x5 x6 x7 : Sot), α = [.wl 3, .d (.int n), .d (.list (ps.map dP)), .d (.list (ls.map .int)), .own (ns.map .int), x5, x6, x7, .own ((Z.take i).map dT)]) ⟨_, _, _, rfl⟩ ?_ ?_
  · rintro i y α hy ⟨x5, x6, x7, rfl⟩
    obtain ⟨u, v, hu, hv, rfl⟩ := ziD_at hy
    obtain ⟨p, hp, rfl⟩ := map_at' hu
    obtain ⟨m, hm, rfl⟩ := map_at' hv
    have hi := (List.getElem?_eq_some_iff.mp hp).1
    have ok := r.ok p (List.mem_of_getElem? hp)
    have n1 : ∃ z, ns[p.1.toNat]? = some z := ⟨_, List.getElem?_eq_getElem (by omega)⟩
    have n2 : ∃ z, ns[p.2.toNat]? = some z := ⟨_, List.getElem?_eq_getElem (by omega)⟩
    obtain ⟨z1, n1⟩ := n1
    obtain ⟨z2, n2⟩ := n2
    have a1 : atI (ns.map PyData.int) p.1 = some (.int z1) := atI_toNat (by omega) (by rw [List.getElem?_map, n1]; rfl)
    have a2 : atI (ns.map PyData.int) p.2 = some (.int z2) := atI_toNat (by omega) (by rw [List.getElem?_map, n2]; rfl)
    have er : ren ns p = (min z1 z2, max z1 z2) := by
      unfold ren
      rw [List.getD_eq_getElem?_getD, List.getD_eq_getElem?_getD, n1, n2]
      rfl
    have hZ : Z[i]? = some (ren ns p, m) := by
      rw [← eZ, List.getElem?_zip_eq_some, List.getElem?_map, hp]
      exact ⟨rfl, hm⟩
    walk_at "ax"
    refine g_ixL rfl a1 ?_
    walk_at "ax"
    refine g_ixL rfl a2 ?_
    walk_at "ax"
    refine g_ixL rfl a1 ?_
    walk_at "ax"
    refine g_ixL rfl a2 ?_
    walk_at "ax"
    have eT : (Z.take (i + 1)).map dT = (Z.take i).map dT ++ [.tuple [.int (if z2 < z1 then z2 else z1), .int (if z2 > z1 then z2 else z1), .int m]] := by
      rw [List.take_add_one, hZ, List.map_append, er]
      have e1 : (if z2 < z1 then z2 else z1) = min z1 z2 := by omega
      have e2 : (if z2 > z1 then z2 else z1) = max z1 z2 := by omega
      rw [e1, e2]
      rfl
    rw [← eT]
    exact ⟨by rw [List.length_map, List.length_take]; omega, _, _, _, rfl⟩
  · rintro α ⟨x5, x6, x7, rfl⟩
    rw [ziD_len, List.length_map, List.length_map, l0, Nat.min_self, ← lZ, List.take_length]
    have hZm : ∀ z ∈ Z, z.1 ∈ ps.map (ren ns) ∧ z.2 ∈ ls := by
      intro z hz
      rw [← eZ] at hz
      exact ⟨(List.of_mem_zip (show (z.1, z.2) ∈ _ from hz)).1, (List.of_mem_zip (show (z.1, z.2) ∈ _ from hz)).2⟩
    walk_at "ax"
    refine ⟨_, Z, rfl, rfl, by omega, fun z hz => ?_, fun qs pq pw => ?_⟩
    · have h1 := R.ok _ (hZm z hz).1
      have h2 := b0 _ (hZm z hz).2
      unfold inB
      omega
    have lq : qs.length = ps.length := by rw [pq.length_eq, lZ]
    walk_at "ax"
    refine ⟨by rw [List.length_map]; omega, ?_⟩
    refine a_lcgo (fun i acc => acc = ((qs.take i).map (·.1)).map dP) rfl ?_ ?_
    · rintro i y acc hy rfl
      obtain ⟨z, hz, rfl⟩ := map_at' hy
      walk_at "ax"
      rw [List.take_add_one, hz, List.map_append, List.map_append]
      rfl
    rintro acc rfl -
    rw [List.length_map, List.take_length]
    walk_at "ax"
    refine ⟨by rw [List.length_map]; omega, ?_⟩
    refine a_lcgo (fun i acc => acc = ((qs.take i).map (·.2)).map PyData.int) rfl ?_ ?_
    · rintro i y acc hy rfl
      obtain ⟨z, hz, rfl⟩ := map_at' hy
      walk_at "ax"
      rw [List.take_add_one, hz, List.map_append, List.map_append]
      rfl
    rintro acc rfl -
    rw [List.length_map, List.take_length]
    walk_at "ax"
    have p1 : (qs.map (·.1)).Perm (ps.map (ren ns)) := by
      have := pq.map (·.1)
      rw [← eZ, List.map_fst_zip (by rw [List.length_map]; omega)] at this
      exact this
    have p2 : (qs.map (·.2)).Perm ls := by
      have := pq.map (·.2)
      rw [← eZ, List.map_snd_zip (by rw [List.length_map]; omega)] at this
      exact this
    have nd := p1.nodup_iff.mpr R.nd
    refine h (qs.map (·.1)) (qs.map (·.2)) ⟨⟨fun p hp => R.ok p (p1.mem_iff.mp hp), nd⟩, by rw [List.length_map, List.length_map], fun m hm => ?_, ?_, by rw [List.length_map]; omega, n0, n1, up_of pw nd⟩ p2
    · obtain ⟨z, hz, rfl⟩ := List.mem_map.mp hm
      exact b0 _ (hZm z (pq.mem_iff.mp hz)).2
    · rintro z
      rw [List.map_eq_nil_iff] at z
      rw [z] at lq
      simp at lq
      omega
theorem rgI_len (a b : Int) : (rgI a b).length = (b - a).toNat := by unfold rgI; rw [List.length_map, List.length_range]
theorem s__law_tree {n : Int} (n0 : 2 ≤ n) (n1 : n ≤ 24) (h : ∀ ps, Rds n ps → ps.length = (n - 1).toNat → k (.l (ps.map dP))) : m__law_tree [.wl 3, .d (.int n)] x k := by
  show a__law_tree _ [.wl 3, .d (.int n), .x]
  walk_at "ax"
  refine i_r2 (by omega) ⟨by rw [List.length_map, rgI_len]; omega, ?_⟩
  refine a_lcgo (fun i acc => ∃ ps : List (Int × Int), acc = ps.map dP ∧ ps.length = i ∧ Rds n ps ∧ ∀ p ∈ ps, p.2 ≤ i) ⟨[], rfl, rfl, Rds.nil, fun p hp => by cases hp⟩ ?_ ?_
  · rintro i y acc hy ⟨ps, rfl, hl, r, hb⟩
    obtain ⟨rfl, hi⟩ := rgI_at hy
    walk_at "ax"
    refine ⟨_, rfl, by omega, by omega, fun q q0 q1 => ⟨?_, fun z => by cases z⟩⟩
    walk_at "ax"
    refine ⟨ps ++ [(q, 1 + (i : Int))], by rw [List.map_append]; rfl, by rw [List.length_append, hl]; rfl, r.snoc ⟨q0, q1, hi⟩ fun z => ?_, fun p hp => ?_⟩
    · have := hb _ z
      simp at this
      omega
    · rcases List.mem_append.mp hp with hp | hp
      · have := hb p hp; omega
      · rw [List.mem_singleton.mp hp]; show 1 + (i : Int) ≤ _; omega
  · rintro acc ⟨ps, rfl, hl, r, hb⟩ -
    rw [List.length_map, rgI_len] at hl
    walk_at "ax"
    exact h ps r hl
theorem _root_.UW.Bg.Rds.app {n : Int} {ps qs : List (Int × Int)} (r : Rds n ps) (s : Rds n qs) (h : ∀ p ∈ ps, p ∉ qs) : Rds n (ps ++ qs) := by
  refine ⟨fun p hp => ?_, List.nodup_append.mpr ⟨r.nd, s.nd, fun a ha b hb e => h a ha (e ▸ hb)⟩⟩
  rcases List.mem_append.mp hp with hp | hp
  · exact r.ok p hp
  · exact s.ok p hp
theorem cutP (many : Int) (qs : List (Int × Int)) (m0 : 0 ≤ many) : cutD (qs.map dP) none (some many) = (qs.take many.toNat).map dP := by
  unfold cutD
  have e := HT.sIx_nat (qs.map dP).length (qs.map dP).length many.toNat
  have e2 : HT.sIx (qs.map dP).length (qs.map dP).length (some many) = min many.toNat (qs.map dP).length := by
    rw [show many = ((many.toNat : Nat) : Int) by omega]
    exact e
  rw [e2]
  show List.take (min many.toNat (qs.map dP).length - 0) (List.drop 0 (qs.map dP)) = _
  rw [Nat.sub_zero, List.drop_zero, List.length_map, ← List.map_take]
  congr 1
  by_cases c : many.toNat ≤ qs.length
  · rw [Nat.min_eq_left c]
  · rw [Nat.min_eq_right (by omega), List.take_length, List.take_of_length_le (by omega)]
theorem s__law_more {a : Avl} {n many : Int} {ps : List (Int × Int)} (ha : a.inn = .d (.list (ps.map dP))) (r : Rds n ps) (n0 : 2 ≤ n) (n1 : n ≤ 24) (pl : ps.length ≤ 40) (m0 : 0 ≤ many) (m1 : many ≤ 40) (h : ∀ qs, Rds n qs → ps.length ≤ qs.length → qs.length ≤ ps.length + many.toNat → k (.l (qs.map dP))) : m__law_more [.wl 3, .d (.int n), a, .d (.int many)] x k := by
  show a__law_more _ [.wl 3, .d (.int n), a.inn, .d (.int many), .x, .x, .x]
  rw [ha]
  walk_at "ax"
  refine i_r1 (by omega) ?_
  refine a_loop (fun i α => ∃ (rest : List (Int × Int)) (x5 x6 : Sot), α = [.wl 3, .d (.int n), .d (.list (ps.map dP)), .d (.int many), .d (.list (rest.map dP)), x5, x6] ∧ Rds n rest ∧ (∀ p ∈ rest, p ∉ ps) ∧ (∀ p ∈ rest, p.1 < i) ∧ rest.length ≤ i * 24) ⟨[], _, _, rfl, Rds.nil, fun p hp => (by cases hp), fun p hp => (by cases hp), Nat.zero_le _⟩ ?_ ?_
  · rintro i y α hy ⟨rest, x5, x6, rfl, rr, np, lt, rl⟩
    obtain ⟨rfl, hi⟩ := iota_at' hy
    walk_at "ax"
    refine i_r2 (by omega) ⟨by rw [List.length_map, rgI_len]; omega, ?_⟩
    refine a_lcgo (fun j acc => ∃ qs : List (Int × Int), acc = qs.map dP ∧ Rds n qs ∧ (∀ p ∈ qs, p ∉ ps) ∧ (∀ p ∈ qs, p.1 = i ∧ p.2 ≤ (i : Int) + j) ∧ qs.length ≤ j) ⟨[], rfl, Rds.nil, fun p hp => (by cases hp), fun p hp => (by cases hp), Nat.le_refl _⟩ ?_ ?_
    · rintro j y acc hy ⟨qs, rfl, r2, np2, e2, l2⟩
      obtain ⟨rfl, hj⟩ := rgI_at hy
      walk_at "ax"
      refine g_niP rfl ?_
      walk_at "ax"
      refine s_ndec (fun c => ?_) (fun c => ?_)
      · walk_at "ax"
        refine ⟨qs ++ [((i : Int), (i : Int) + 1 + (j : Int))], by rw [List.map_append]; rfl, r2.snoc ⟨by simp, by simp; omega, hj⟩ fun z => ?_, fun p hp => ?_, fun p hp => ?_, by rw [List.length_append, List.length_singleton]; omega⟩
        · have := (e2 _ z).2
          simp at this
          omega
        · rcases List.mem_append.mp hp with hp | hp
          · exact np2 p hp
          · rw [List.mem_singleton.mp hp]; exact c
        · rcases List.mem_append.mp hp with hp | hp
          · have := e2 p hp
            exact ⟨this.1, by omega⟩
          · rw [List.mem_singleton.mp hp]
            exact ⟨rfl, by show (i : Int) + 1 + (j : Int) ≤ _; omega⟩
      · exact ⟨qs, rfl, r2, np2, fun p hp => ⟨(e2 p hp).1, by have := (e2 p hp).2; omega⟩, by omega⟩
    · rintro acc ⟨qs, rfl, r2, np2, e2, l2⟩ -
      rw [List.length_map, rgI_len] at l2
      walk_at "ax"
      refine g_addL rfl rfl (by rw [List.length_map, List.length_map]; omega) ?_
      walk_at "ax"
      refine ⟨rest ++ qs, _, _, by rw [List.map_append], rr.app r2 fun p hp hq => ?_, fun p hp => ?_, fun p hp => ?_, by rw [List.length_append]; omega⟩
      · have := lt p hp
        have := (e2 p hq).1
        omega
      · rcases List.mem_append.mp hp with hp | hp
        · exact np p hp
        · exact np2 p hp
      · rcases List.mem_append.mp hp with hp | hp
        · have := lt p hp; omega
        · have := (e2 p hp).1; omega
  · rintro α ⟨rest, x5, x6, rfl, rr, np, lt, rl⟩
    rw [List.length_map, iota_len] at rl
    walk_at "ax"
    refine s__law_mixed rfl (by rw [List.length_map]; omega) fun es pm => ⟨?_, fun z => by cases z⟩
    obtain ⟨qs, pq, rfl⟩ := perm_unmap pm rfl
    walk_at "ax"
    rw [cutP many qs m0]
    walk_at "ax"
    have tl : (qs.take many.toNat).length ≤ many.toNat := by rw [List.length_take]; omega
    refine g_addL rfl rfl (by rw [List.length_map, List.length_map]; omega) ?_
    walk_at "ax"
    rw [← List.map_append]
    refine h _ (r.app ⟨fun p hp => ?_, ?_⟩ fun p hp hq => ?_) (by rw [List.length_append]; omega) (by rw [List.length_append]; omega)
    · exact rr.ok p (pq.mem_iff.mp (List.mem_of_mem_take hp))
    · exact (pq.nodup_iff.mpr rr.nd).sublist (List.take_sublist _ _)
    · exact np p (pq.mem_iff.mp (List.mem_of_mem_take hq)) hp
/-- how many standings there are -/
def sz : List Int → Nat
  | [] => 1
  | m :: ms => (m + 1).toNat * sz ms
theorem sz_perm {ms ls : List Int} (p : ms.Perm ls) : sz ms = sz ls := by
  induction p with
  | nil => rfl
  | cons x _ ih => unfold sz; rw [ih]
  | swap x y l => unfold sz; rw [show sz (x :: l) = (x + 1).toNat * sz l from rfl, show sz (y :: l) = (y + 1).toNat * sz l from rfl]; exact Nat.mul_left_comm _ _ _
  | trans _ _ a b => exact a.trans b
theorem sz_le {M : Nat} : ∀ {ms : List Int}, (∀ m ∈ ms, m ≤ (M : Int)) → sz ms ≤ (M + 1) ^ ms.length
  | [], _ => Nat.le_refl _
  | m :: ms, h => by
    have h1 := h m (List.mem_cons_self ..)
    have h2 := sz_le (M := M) fun m hm => h m (List.mem_cons_of_mem _ hm)
    show (m + 1).toNat * sz ms ≤ (M + 1) ^ (ms.length + 1)
    rw [Nat.pow_succ, Nat.mul_comm ((M + 1) ^ ms.length)]
    exact Nat.mul_le_mul (by omega) h2
theorem path_rds (n : Int) : Rds n ((List.range (n - 1).toNat).map fun (j : Nat) => ((j : Int), (j : Int) + 1)) := by
  refine ⟨fun p hp => ?_, nodup_map_range _ _ fun i j _ _ e => by have := (Prod.mk.inj e).1; omega⟩
  obtain ⟨j, hj, rfl⟩ := List.mem_map.mp hp
  have := List.mem_range.mp hj
  exact ⟨by simp, by simp; omega, by simp; omega⟩
theorem rds_dec {n : Int} {ps : List (Int × Int)} (h : decide ((∀ p ∈ ps, 0 ≤ p.1 ∧ p.1 < p.2 ∧ p.2 < n) ∧ ps.Nodup) = true) : Rds n ps := ⟨(of_decide_eq_true h).1, (of_decide_eq_true h).2⟩
theorem s__law_web (h : ∀ n rs ms, WebJ n rs ms → sz ms ≤ 128 → n ≤ 8 → rs.length ≤ 7 → k (.d (dWeb n rs ms))) : m__law_web [.wl 3] x k := by
  show a__law_web _ [.wl 3, .x, .x, .x, .x, .x, .x, .x, .x, .x, .x]
  walk_at "ax"
  refine ⟨_, rfl, by decide, by decide, fun way w0 w1 => ⟨?_, fun z => by cases z⟩⟩
  walk_at "ax"
  refine ⟨_, rfl, by decide, by decide, fun fr f0 f1 => ⟨?_, fun z => by cases z⟩⟩
  walk_at "ax"
  refine i_r1 (by omega) ⟨by rw [List.length_map, iota_len]; omega, ?_⟩
  refine a_lcgo (fun i acc => acc = ((List.range i).map fun (j : Nat) => ((j : Int), (j : Int) + 1)).map dP) rfl ?_ ?_
  · rintro i y acc hy rfl
    obtain ⟨rfl, hi⟩ := iota_at' hy
    walk_at "ax"
    rw [List.range_succ, List.map_append, List.map_append]
    rfl
  rintro acc rfl -
  rw [List.length_map, iota_len]
  have R0 := path_rds (5 + fr)
  generalize eP : ((List.range (5 + fr - 1).toNat).map fun (j : Nat) => ((j : Int), (j : Int) + 1)) = P0 at R0 ⊢
  have lP : P0.length = (4 + fr).toNat := by rw [← eP, List.length_map, List.length_range]; omega
  walk_at "ax"
  refine a_cut (fun α => ∃ (n : Int) (ps : List (Int × Int)) (x5 x6 x7 x8 : Sot), α = [.wl 3, .d (.int way), .d (.int (5 + fr)), .d (.list (ps.map dP)), .d (.int n), x5, x6, x7, x8, .x, .x] ∧ Rds n ps ∧ 2 ≤ n ∧ n ≤ 8 ∧ ps ≠ [] ∧ ps.length ≤ 7 ∧ (way = 6 → ps.length ≤ 4)) ?_ ?_
  · walk_at "ax"
    have tree : ∀ {n : Int} {ps : List (Int × Int)}, 2 ≤ n → ps.length = (n - 1).toNat → ps ≠ [] := fun n2 hl z => by rw [z] at hl; simp at hl; omega
    refine s_dec (fun c1 => ?_) (fun c1 => ?_)
    · walk_at "ax"
      refine g_addL rfl rfl (by rw [List.length_map, lP]; simp; omega) ?_
      walk_at "ax"
      refine ⟨5 + fr, P0 ++ [(0, 5 + fr - 1)], _, _, _, _, by rw [List.map_append]; rfl, R0.snoc ⟨by simp, by simp; omega, by simp; omega⟩ fun z => ?_, by omega, by omega, by simp, by rw [List.length_append, lP]; simp; omega, fun z => by omega⟩
      rw [← eP] at z
      obtain ⟨j, hj, e⟩ := List.mem_map.mp z
      have e1 := (Prod.mk.inj e).1
      have e2 := (Prod.mk.inj e).2
      omega
    walk_at "ax"
    refine s_dec (fun c2 => ?_) (fun c2 => ?_)
    · walk_at "ax"
      refine ⟨_, rfl, by decide, by decide, fun q q0 q1 => ⟨?_, fun z => by cases z⟩⟩
      walk_at "ax"
      refine s__law_tree (by omega) (by omega) fun ps r hl => ⟨?_, fun z => by cases z⟩
      walk_at "ax"
      exact ⟨3 + q, ps, _, _, _, _, rfl, r, by omega, by omega, tree (by omega) hl, by omega, fun z => by omega⟩
    walk_at "ax"
    refine s_dec (fun c3 => ?_) (fun c3 => ?_)
    · walk_at "ax"
      refine ⟨_, rfl, by decide, by decide, fun q q0 q1 => ⟨?_, fun z => by cases z⟩⟩
      walk_at "ax"
      refine s__law_tree (by omega) (by omega) fun ps r hl => ⟨?_, fun z => by cases z⟩
      walk_at "ax"
      refine ⟨_, rfl, by decide, by decide, fun q2 q20 q21 => ⟨?_, fun z => by cases z⟩⟩
      walk_at "ax"
      refine s__law_more rfl r (by omega) (by omega) (by omega) (by omega) (by omega) fun qs r' l1 l2 => ⟨?_, fun z => by cases z⟩
      walk_at "ax"
      exact ⟨4 + q, qs, _, _, _, _, rfl, r', by omega, by omega, fun z => by have := congrArg List.length z; simp only [List.length_nil] at this; omega, by omega, fun z => by omega⟩
    walk_at "ax"
    refine s_dec (fun c4 => ?_) (fun c4 => ?_)
    · walk_at "ax"
      refine s__law_pick rfl (by simp) (by decide) fun d hd => ⟨?_, fun z => by cases z⟩
      obtain ⟨es, rfl, hes⟩ : ∃ es : List (Int × Int), d = .list (es.map dP) ∧ (es = [(0, 1), (0, 2), (0, 3)] ∨ es = [(0, 1), (1, 2)]) := by
        simp only [List.mem_cons, List.not_mem_nil, or_false] at hd
        rcases hd with rfl | rfl | rfl
        · exact ⟨[(0, 1), (0, 2), (0, 3)], rfl, .inl rfl⟩
        · exact ⟨[(0, 1), (0, 2), (0, 3)], rfl, .inl rfl⟩
        · exact ⟨[(0, 1), (1, 2)], rfl, .inr rfl⟩
      have le : es.length = 3 ∨ es.length = 2 := by rcases hes with rfl | rfl <;> simp
      have re : Rds ((es.length : Int) + 1) es := by rcases hes with rfl | rfl <;> exact rds_dec (by decide)
      walk_at "ax"
      refine g_mulI (.inl ⟨by decide, by decide⟩) ?_
      walk_at "ax"
      refine a_loop (fun i α => ∃ (ps : List (Int × Int)) (x5 x7 x8 : Sot), α = [.wl 3, .d (.int way), .d (.int (5 + fr)), .d (.list (ps.map dP)), .d (.int (2 * ((es.map dP).length : Int) + 1)), x5, .d (.list (es.map dP)), x7, x8, .x, .x] ∧ Rds (2 * (es.length : Int) + 1) ps ∧ (∀ p ∈ ps, p.2 ≤ (es.length : Int) + i) ∧ ps.length = 2 * i) ⟨[], _, _, _, rfl, Rds.nil, fun p hp => (by cases hp), rfl⟩ ?_ ?_
      · rintro i y α hy ⟨ps, x5, x7, x8, rfl, r, hb, hl⟩
        obtain ⟨d, hd, rfl⟩ := enD_at hy
        obtain ⟨p, hp, rfl⟩ := map_at' hd
        have o := re.ok p (List.mem_of_getElem? hp)
        have hi := (List.getElem?_eq_some_iff.mp hp).1
        walk_at "ax"
        refine g_addL rfl rfl (by rw [List.length_map, hl]; simp; omega) ?_
        walk_at "ax"
        rw [List.length_map]
        refine ⟨ps ++ [(p.1, (es.length : Int) + 1 + (i : Int)), (p.2, (es.length : Int) + 1 + (i : Int))], _, _, _, by rw [List.map_append]; rfl, r.app (qs := [_, _]) ⟨fun q hq => ?_, ?_⟩ fun q hq z => ?_, fun q hq => ?_, by rw [List.length_append, hl]; rfl⟩
        · simp only [List.mem_cons, List.not_mem_nil, or_false] at hq
          rcases hq with rfl | rfl
          · show 0 ≤ p.1 ∧ p.1 < (es.length : Int) + 1 + (i : Int) ∧ (es.length : Int) + 1 + (i : Int) < 2 * (es.length : Int) + 1
            omega
          · show 0 ≤ p.2 ∧ p.2 < (es.length : Int) + 1 + (i : Int) ∧ (es.length : Int) + 1 + (i : Int) < 2 * (es.length : Int) + 1
            omega
        · refine List.nodup_cons.mpr ⟨fun z => ?_, List.nodup_cons.mpr ⟨by simp, List.nodup_nil⟩⟩
          have := (Prod.mk.inj (List.mem_singleton.mp z)).1
          omega
        · have := hb q hq
          simp only [List.mem_cons, List.not_mem_nil, or_false] at z
          rcases z with rfl | rfl <;> simp at this <;> omega
        · rcases List.mem_append.mp hq with hq | hq
          · have := hb q hq; omega
          · simp only [List.mem_cons, List.not_mem_nil, or_false] at hq
            rcases hq with rfl | rfl <;> (show (es.length : Int) + 1 + (i : Int) ≤ _; omega)
      · rintro α ⟨ps, x5, x7, x8, rfl, r, hb, hl⟩
        rw [enD_len, List.length_map] at hl
        rw [List.length_map]
        exact ⟨2 * (es.length : Int) + 1, ps, _, _, _, _, rfl, r, by omega, by omega, fun z => by rw [z] at hl; simp at hl; omega, by omega, fun z => by omega⟩
    walk_at "ax"
    refine s_dec (fun c5 => ?_) (fun c5 => ?_)
    · walk_at "ax"
      refine s__law_pick (ds := [.int 2, .int 3, .int 3, .int 4, .int 4, .int 4]) rfl (by simp) (by decide) fun d hd => ⟨?_, fun z => by cases z⟩
      obtain ⟨n, rfl, n2, n4⟩ : ∃ n : Int, d = .int n ∧ 2 ≤ n ∧ n ≤ 4 := by
        simp only [List.mem_cons, List.not_mem_nil, or_false] at hd
        rcases hd with rfl | rfl | rfl | rfl | rfl | rfl <;> exact ⟨_, rfl, by decide, by decide⟩
      walk_at "ax"
      refine s__law_tree (by omega) (by omega) fun ps r hl => ⟨?_, fun z => by cases z⟩
      walk_at "ax"
      refine ⟨_, rfl, by decide, by decide, fun q2 q20 q21 => ⟨?_, fun z => by cases z⟩⟩
      walk_at "ax"
      refine s__law_more rfl r (by omega) (by omega) (by omega) (by omega) (by omega) fun qs r' l1 l2 => ⟨?_, fun z => by cases z⟩
      walk_at "ax"
      exact ⟨n, qs, _, _, _, _, rfl, r', by omega, by omega, fun z => by have := congrArg List.length z; simp only [List.length_nil] at this; omega, by omega, fun z => by omega⟩
    walk_at "ax"
    refine s_dec (fun c6 => ?_) (fun c6 => ?_)
    · walk_at "ax"
      refine ⟨_, rfl, by decide, by decide, fun q q0 q1 => ⟨?_, fun z => by cases z⟩⟩
      walk_at "ax"
      refine s__law_tree (by omega) (by omega) fun ps r hl => ⟨?_, fun z => by cases z⟩
      walk_at "ax"
      refine ⟨_, rfl, by decide, by decide, fun q2 q20 q21 => ⟨?_, fun z => by cases z⟩⟩
      walk_at "ax"
      refine s__law_more rfl r (by omega) (by omega) (by omega) (by omega) (by omega) fun qs r' l1 l2 => ⟨?_, fun z => by cases z⟩
      walk_at "ax"
      exact ⟨3 + q, qs, _, _, _, _, rfl, r', by omega, by omega, fun z => by have := congrArg List.length z; simp only [List.length_nil] at this; omega, by omega, fun z => by omega⟩
    walk_at "ax"
    refine s_dec (fun c7 => ?_) (fun c7 => ?_)
    · walk_at "ax"
      refine ⟨_, rfl, by decide, by decide, fun q q0 q1 => ⟨?_, fun z => by cases z⟩⟩
      walk_at "ax"
      refine s_dec (fun c8 => ?_) (fun c8 => ?_)
      · walk_at "ax"
        rw [c8]
        exact ⟨4, [(0, 2), (0, 3), (1, 2), (1, 3), (0, 1), (2, 3)], _, _, _, _, rfl, rds_dec (by decide), by omega, by omega, by simp, by decide, fun z => by omega⟩
      · walk_at "ax"
        rw [show (4 : Int) + q = 5 by omega]
        exact ⟨5, [(0, 2), (0, 3), (1, 2), (1, 3), (0, 4), (1, 4)], _, _, _, _, rfl, rds_dec (by decide), by omega, by omega, by simp, by decide, fun z => by omega⟩
    · walk_at "ax"
      exact ⟨5 + fr, P0, _, _, _, _, rfl, R0, by omega, by omega, fun z => by rw [z] at lP; simp at lP; omega, by omega, fun z => by omega⟩
  · rintro α ⟨n, ps, x5, x6, x7, x8, rfl, r, n2, n8, ne, pl, p6⟩
    have fin : ∀ most : Int, 1 ≤ most → most ≤ 3 → (most + 1).toNat ^ ps.length ≤ 128 → ((ps.map dP).length < 100000 ∧ aLcGo (agName 10) aYes (aOp gAdd (aC (PyData.int 1)) (aCall0 m__law_draw (bCons (aVar 0) (bCons (aVar 9) bNil)))) [Sot.wl 3, Sot.d (PyData.int way), Sot.d (PyData.int (5 + fr)), Sot.d (PyData.list (List.map dP ps)), Sot.d (PyData.int n), x5, x6, x7, x8, Sot.d (PyData.int most), Sot.x]
        (fun x_1 => bNil (fun _ => x) [Sot.wl 3, Sot.d (PyData.int way), Sot.d (PyData.int (5 + fr)), Sot.d (PyData.list (List.map dP ps)), Sot.d (PyData.int n), x5, x6, x7, x8, Sot.d (PyData.int most), Sot.x] fun xs => m__law_made (Avl.wl 3 :: Avl.d (PyData.int n) :: Avl.d (PyData.list (List.map dP ps)) :: x_1 :: xs) (fun _ _ => False) fun av => k av.out ∧ (anyB (Avl.wl 3 :: Avl.d (PyData.int n) :: Avl.d (PyData.list (List.map dP ps)) :: x_1 :: xs) = true → av.flat = true)) (List.map dP ps)) := by
      intro most m1 m3 mp
      refine ⟨by rw [List.length_map]; omega, ?_⟩
      refine a_lcgo (fun i acc => ∃ qs : List Int, acc = qs.map .int ∧ qs.length = i ∧ ∀ m ∈ qs, 1 ≤ m ∧ m ≤ most) ⟨[], rfl, rfl, fun m hm => by cases hm⟩ ?_ ?_
      · rintro i y acc hy ⟨qs, rfl, hq, bq⟩
        obtain ⟨z, hz, rfl⟩ := map_at' hy
        walk_at "ax"
        refine ⟨_, rfl, by omega, by omega, fun q q0 q1 => ⟨?_, fun z => by cases z⟩⟩
        walk_at "ax"
        refine ⟨qs ++ [1 + q], by rw [List.map_append]; rfl, by rw [List.length_append, hq]; rfl, fun m hm => ?_⟩
        rcases List.mem_append.mp hm with hm | hm
        · exact bq m hm
        · rw [List.mem_singleton.mp hm]; omega
      · rintro acc ⟨qs, rfl, hq, bq⟩ -
        rw [List.length_map] at hq
        walk_at "ax"
        refine s__law_made rfl rfl r n2 (by omega) ne (by omega) hq (fun m hm => by have := bq m hm; omega) fun rs ms w pm => ⟨?_, fun z => by cases z⟩
        walk_at "ax"
        have lr : rs.length = ps.length := by rw [← w.lm, pm.length_eq, hq]
        refine h n rs ms w ?_ n8 (by omega)
        rw [sz_perm pm]
        refine Nat.le_trans (sz_le (M := most.toNat) fun m hm => by have := bq m hm; omega) ?_
        rw [hq]
        rw [show (most + 1).toNat = most.toNat + 1 by omega] at mp
        exact mp
    walk_at "ax"
    refine s_dec (fun c1 => ?_) (fun c1 => ?_)
    · walk_at "ax"
      have p4 := p6 c1
      rw [decide_eq_true c1]
      by_cases c2 : (((ps.map dP).length : Nat) : Int) < 4
      · rw [decide_eq_true c2]
        rw [List.length_map] at c2
        refine fin 3 (by decide) (by decide) (Nat.le_trans (Nat.pow_le_pow_right (by decide) (show ps.length ≤ 3 by omega)) (by decide))
      · rw [decide_eq_false c2]
        refine fin 2 (by decide) (by decide) (Nat.le_trans (Nat.pow_le_pow_right (by decide) p4) (by decide))
    · walk_at "ax"
      rw [decide_eq_false c1]
      refine fin 1 (by decide) (by decide) (Nat.le_trans (Nat.pow_le_pow_right (by decide) pl) (by decide))
end
end UW.Ja
open PySem PySem.Spec PyProof.Rows L2
namespace UW
abbrev Nst := (Int × Int) × Int
section
variable {prog : Program} {w : World} {A : Around} {E : Value → Shared → Prop} {s : Shared}
def IsNest (h : Heap) (v : Value) (p : Nst) : Prop := ∃ a q t, v = .ref a ∧ IsTup h a #[.ref q, .int p.2 t] ∧ Srt.IsPair h (.ref q) p.1.1 p.1.2
theorem IsNest.keeps {h h' : Heap} {v : Value} {p : Nst} (x : IsNest h v p) (k : ∀ b o, h.get? b = some o → o.cls = .type "tuple" → h'.get? b = some o) : IsNest h' v p := by
  obtain ⟨a, q, t, e, ⟨o, ho, hc, r⟩, y⟩ := x
  exact ⟨a, q, t, e, ⟨o, k _ _ ho hc, hc, r⟩, y.keeps k⟩
end
end UW
namespace UW
open PySem PySem.Spec PyProof.Rows L2
section
variable {X : Cx}
end
end UW
open PySem PySem.Spec PyProof.Rows L2
namespace UW
section
variable {prog : Program} {w : World} {A : Around} {E : Value → Shared → Prop} {s : Shared}
/-- the int of a pair's key, read off the heap -/
def keyI (h : Heap) (v : Value) : Int := match DT.seqAt0 h (DT.refOf (some v)) with
  | some (.int i _) => i
  | _ => 0
def PairK (h : Heap) (v : Value) (i : Int) : Prop := ∃ a t u, v = .ref a ∧ IsTup h a #[.int i t, u]
theorem PairK.key {h : Heap} {v : Value} {i : Int} (x : PairK h v i) : keyI h v = i := by
  obtain ⟨a, t, u, rfl, h1⟩ := x
  unfold keyI
  show (match DT.seqAt0 h a with | some (.int i _) => i | _ => 0) = i
  rw [DT.seqAt0_of h1]
  rfl
end
end UW
namespace UW
open PySem PySem.Spec PyProof.Rows L2 L2.DX
end UW
namespace UW
open PySem PySem.Spec PyProof.Rows L2 L2.DX
section
variable {P : Program} {w : World} {A : Around} {E : Value → Shared → Prop} {s : Shared}
/-- the heap behind an empty set -/
abbrev hp0 (w : World) (h : Heap) : Heap := h.push { cls := .type "set", dict := none, data := .set #[] 0 (.fresh 0 0 (!w.params.followText "set-order")) }
end
end UW
namespace UW
open PySem PySem.Spec PyProof.Rows L2 L2.DX
section
variable {P : Program} {w : World} {A : Around} {E : Value → Shared → Prop} {s : Shared}
end
end UW
namespace UW
open PySem PySem.Spec PyProof.Rows L2 L2.DX
section
variable {K : Fg} {E : WX}
end
section
variable {k : Avl → Prop} {X : AXr} {α : Afr} {e : AEx} {i : Nat}
end
end UW
namespace UW
open PySem PySem.Spec PyProof.Rows L2 L2.DX
theorem nodup_sub_len {α : Type} [DecidableEq α] : ∀ {l m : List α}, l.Nodup → (∀ x ∈ l, x ∈ m) → l.length ≤ m.length
  | [], _, _, _ => Nat.zero_le _
  | x :: l, m, nd, h => by
    obtain ⟨n1, n2⟩ := List.nodup_cons.mp nd
    have hx := h x (List.mem_cons_self ..)
    have := nodup_sub_len (m := m.erase x) n2 fun y hy => (List.mem_erase_of_ne fun e => n1 (by rw [← e]; exact hy)).mpr (h y (List.mem_cons_of_mem _ hy))
    rw [List.length_erase_of_mem hx] at this
    have : 0 < m.length := List.length_pos_of_mem hx
    rw [List.length_cons]
    omega
section
variable {K : Fg} {E : WX}
end
section
variable {k : Avl → Prop} {X : AXr} {α : Afr} {e : AEx}
end
end UW
namespace UW.Ja
open PySem PySem.Spec PyProof.Rows L2 UW UW.Bg
theorem WebJ.laid {n : Int} {rs : List (Int × Int)} {ms ls : List Int} (w : WebJ n rs ms) (s : Stand ms ls) : Laid n rs ms ls :=
  ⟨fun p hp => w.r.ok p hp, w.lm, by rw [s.len, w.lm], by have := w.n0; omega, by have := w.n1; omega, by have := w.l; omega⟩
abbrev Nbr := (Int × Int) × List Int
/-- the deeds that a standing lets, each with what is behind it -/
def nb (rs : List (Int × Int)) (ms ls : List Int) : List Nbr := (letD rs ms ls).map fun d => (d, bh ls d.1 d.2)
def dNb (q : Nbr) : PyData := .tuple [dP q.1, dIs q.2]
section
variable {n : Int} {rs : List (Int × Int)} {ms ls : List Int} {q : Nbr}
structure NbOk (n : Int) (rs : List (Int × Int)) (ms ls : List Int) (q : Nbr) : Prop where
  L : Laid n rs ms q.2
  s : Stand ms q.2
  r0 : 0 ≤ q.1.1
  r1 : q.1.1 < rs.length
  b : q.1.2 = 1 ∨ q.1.2 = -1
  d : deedO rs ms ls (dP q.1) = none
  e : q.2 = bh ls q.1.1 q.1.2
theorem nb_ok (L : Laid n rs ms ls) (st : Stand ms ls) (h : q ∈ nb rs ms ls) : NbOk n rs ms ls q := by
  obtain ⟨d, hd, rfl⟩ := List.mem_map.mp h
  have hd' : deedO rs ms ls (.tuple [.int d.1, .int d.2]) = none := mem_let.mp hd
  obtain ⟨T, p, hp, _⟩ := there_of L st hd'
  obtain ⟨r, b, e, r0, r1, hb, _, _⟩ := deed_pair hd'
  have e1 : d.1 = r ∧ d.2 = b := by injection e with e; injection e with e1 e2; injection e2 with e2 _; exact ⟨PyData.int.inj e1, PyData.int.inj e2⟩
  obtain ⟨rfl, rfl⟩ := e1
  exact ⟨T.L, T.s, r0, r1, hb, hd', rfl⟩
theorem nb_mem {d : Int × Int} (h : deedO rs ms ls (dP d) = none) : (d, bh ls d.1 d.2) ∈ nb rs ms ls := List.mem_map.mpr ⟨d, mem_let.mpr h, rfl⟩
theorem nb_back (L : Laid n rs ms ls) (st : Stand ms ls) (h : q ∈ nb rs ms ls) : ((q.1.1, -q.1.2), ls) ∈ nb rs ms q.2 := by
  obtain ⟨d, hd, rfl⟩ := List.mem_map.mp h
  have hd' : deedO rs ms ls (.tuple [.int d.1, .int d.2]) = none := mem_let.mp hd
  obtain ⟨T, _⟩ := there_of L st hd'
  have := nb_mem (d := (d.1, -d.2)) (show deedO rs ms (bh ls d.1 d.2) (dP (d.1, -d.2)) = none from T.d)
  rw [show bh (bh ls d.1 d.2) (d.1, -d.2).1 (d.1, -d.2).2 = ls from T.e] at this
  exact this
end
/-- what one comes to from a, off the roads of cl -/
inductive Rch (rs : List (Int × Int)) (ms cl a : List Int) : List Int → Prop
  | refl : Rch rs ms cl a a
  | step {b : List Int} {q : Nbr} : Rch rs ms cl a b → q ∈ nb rs ms b → q.1.1 ∉ cl → Rch rs ms cl a q.2
section
variable {n : Int} {rs : List (Int × Int)} {ms cl a b c : List Int}
theorem Rch.ok (w : WebJ n rs ms) (sa : Stand ms a) (h : Rch rs ms cl a b) : Stand ms b := by
  induction h with
  | refl => exact sa
  | step _ hq _ ih => exact (nb_ok (w.laid ih) ih hq).s
theorem Rch.trans (h : Rch rs ms cl a b) (g : Rch rs ms cl b c) : Rch rs ms cl a c := by
  induction g with
  | refl => exact h
  | step _ hq hc ih => exact .step ih hq hc
theorem Rch.symm (w : WebJ n rs ms) (sa : Stand ms a) (h : Rch rs ms cl a b) : Rch rs ms cl b a := by
  induction h with
  | refl => exact .refl
  | @step b q hb hq hc ih =>
    have sb := hb.ok w sa
    exact Rch.trans (.step .refl (nb_back (w.laid sb) sb hq) hc) ih
end
def alls : List Int → List (List Int)
  | [] => [[]]
  | m :: ms => (iota (m + 1).toNat).flatMap fun l => (alls ms).map fun r => l :: r
theorem alls_len : ∀ ms : List Int, (alls ms).length = sz ms
  | [] => rfl
  | m :: ms => by
    unfold alls sz
    rw [List.length_flatMap]
    have e : ((iota (m + 1).toNat).map fun l => ((alls ms).map fun r => l :: r).length) = List.replicate (m + 1).toNat (sz ms) := by
      refine List.eq_replicate_iff.mpr ⟨by rw [List.length_map, iota_len], fun b hb => ?_⟩
      obtain ⟨l, _, rfl⟩ := List.mem_map.mp hb
      rw [List.length_map, alls_len ms]
    rw [e, List.sum_replicate_nat]
theorem mem_alls : ∀ {ms ls : List Int}, Stand ms ls → ls ∈ alls ms
  | [], [], _ => List.mem_singleton.mpr rfl
  | [], _ :: _, s => by have := s.len; simp at this
  | _ :: _, [], s => by have := s.len; simp at this
  | m :: ms, l :: ls, s => by
    have o := s.ok 0 l m rfl rfl
    refine List.mem_flatMap.mpr ⟨l, mem_iota.mpr (by omega), List.mem_map.mpr ⟨ls, mem_alls ⟨by have := s.len; simpa using this, fun i l' m' h1 h2 => s.ok (i + 1) l' m' h1 h2⟩, rfl⟩⟩
theorem few {ms : List Int} {K : List (List Int)} (nd : K.Nodup) (h : ∀ x ∈ K, Stand ms x) : K.length ≤ sz ms := by
  rw [← alls_len]
  exact nodup_sub_len nd fun x hx => mem_alls (h x hx)
structure Wl (rs : List (Int × Int)) (ms cl a : List Int) (K : List (List Int)) (P : List Int → Nbr → Prop) : Prop where
  nd : K.Nodup
  i : a ∈ K
  r : ∀ x ∈ K, Rch rs ms cl a x
  c : ∀ x ∈ K, ∀ q ∈ nb rs ms x, q.1.1 ∉ cl → q.2 ∈ K ∨ P x q
section
variable {n : Int} {rs : List (Int × Int)} {ms cl a : List Int} {K : List (List Int)} {P P' : List Int → Nbr → Prop}
theorem Wl.nil : Wl rs ms cl a [a] fun x _ => x = a := ⟨by simp, List.mem_singleton.mpr rfl, fun x hx => by rw [List.mem_singleton.mp hx]; exact .refl, fun x hx q _ _ => .inr (List.mem_singleton.mp hx)⟩
theorem Wl.mono (w : Wl rs ms cl a K P) (h : ∀ x ∈ K, ∀ q ∈ nb rs ms x, q.1.1 ∉ cl → P x q → q.2 ∈ K ∨ P' x q) : Wl rs ms cl a K P' :=
  ⟨w.nd, w.i, w.r, fun x hx q hq hc => (w.c x hx q hq hc).elim .inl (h x hx q hq hc)⟩
theorem Wl.add (w : Wl rs ms cl a K P) {x : List Int} {q : Nbr} (hx : x ∈ K) (hq : q ∈ nb rs ms x) (hc : q.1.1 ∉ cl) (nk : q.2 ∉ K) : Wl rs ms cl a (K ++ [q.2]) fun y p => P y p ∨ y = q.2 := by
  refine ⟨?_, List.mem_append_left _ w.i, fun y hy => ?_, fun y hy p hp hpc => ?_⟩
  · rw [List.nodup_append]
    exact ⟨w.nd, by simp, fun y hy z hz e => nk (by rw [← List.mem_singleton.mp hz, ← e]; exact hy)⟩
  · rcases List.mem_append.mp hy with hy | hy
    · exact w.r y hy
    · rw [List.mem_singleton.mp hy]
      exact .step (w.r x hx) hq hc
  · rcases List.mem_append.mp hy with hy | hy
    · rcases w.c y hy p hp hpc with h | h
      · exact .inl (List.mem_append_left _ h)
      · exact .inr (.inl h)
    · exact .inr (.inr (List.mem_singleton.mp hy))
theorem Wl.iff (w : Wl rs ms cl a K fun _ _ => False) {x : List Int} : x ∈ K ↔ Rch rs ms cl a x := by
  refine ⟨w.r x, fun h => ?_⟩
  induction h with
  | refl => exact w.i
  | step _ hq hc ih => exact (w.c _ ih _ hq hc).elim id fun z => z.elim
end
end UW.Ja
namespace UW
open PySem PySem.Spec PyProof.Rows L2 L2.DX
abbrev TKey := List L2.Key
abbrev Row3 := TKey × Addr × Value
def mergedT (acc rest : List Row3) : List Row3 := rest.foldl (fun a q => storedH a q.1 q.2.1 q.2.2) acc
theorem storedH_le (xs : List Row3) (k : TKey) (a : Addr) (v : Value) : (storedH xs k a v).length ≤ xs.length + 1 := by
  unfold storedH
  split
  · rw [List.length_map]; omega
  · rw [List.length_append]; exact Nat.le_refl _
section
variable {prog : Program} {w : World} {A : Around} {E : Value → Shared → Prop}
theorem tk_keeps {h h' : Heap} {k : TKey} {a : Addr} (x : (tupleKind (mixKind prog w)).is h k a) (keep : ∀ b o, h.get? b = some o → o.cls = .type "tuple" → h'.get? b = some o) : (tupleKind (mixKind prog w)).is h' k a := by
  obtain ⟨o, its, n, ho, hc, hd, hi⟩ := (x : IsTupleKey (mixKind prog w) h k a)
  exact (show IsTupleKey (mixKind prog w) h' k a from ⟨o, its, n, keep _ _ ho hc, hc, hd, hi⟩)
theorem dt_keeps {h h' : Heap} {S : Addr} {xs : List Row3} (x : h.DictOfH (tupleKind (mixKind prog w)) S xs) (keep : ∀ b o, h.get? b = some o → (o.cls = .type "tuple" ∨ b = S) → h'.get? b = some o) : h'.DictOfH (tupleKind (mixKind prog w)) S xs := by
  obtain ⟨o, es, ep, h1, h2, h3, h4, h5, h6⟩ := x
  exact ⟨o, es, ep, keep _ _ h1 (.inr rfl), h2, h3, h4, fun y hy => tk_keeps (h5 y hy) fun b o e c => keep b o e (.inl c), h6⟩
theorem loopT {R : Result → Shared → Prop} {S I l : Addr} {items : Array Value} {res : Value} (hh : A.handled = none) (hu : A.units + 2 < cLine) (hlI : l ≠ I) (hSI : S ≠ I) (hSl : S ≠ l) :
    ∀ (rest : List Row3) (i : Nat) (acc : List Row3) (ix : Int) (t : Tok) (s : Shared), items.size = i + rest.length → acc.length + rest.length ≤ sizeLine →
      (∀ (j : Nat) (q : Row3), rest[j]? = some q → ∃ b : Addr, items[i + j]? = some (.ref b) ∧ b ≠ S ∧ b ≠ I ∧ IsTup s.heap b #[.ref q.2.1, q.2.2] ∧ (tupleKind (mixKind prog w)).is s.heap q.1 q.2.1) →
      s.heap.IsListIter I l i → s.heap.IsList l items → s.heap.DictOfH (tupleKind (mixKind prog w)) S acc →
      (∀ h' tk, h'.DictOfH (tupleKind (mixKind prog w)) S (mergedT acc rest) → (∀ b o, b ≠ S → b ≠ I → s.heap.get? b = some o → h'.get? b = some o) → R (.ok (.ret res)) { s with heap := h', toks := tk }) →
      codeAny (model prog w) A (.builtin "dict.update.loop" ⟨[.ref S, .ref I, .int ix t, res], []⟩) R s
  | [], i, acc, ix, t, s, hsz, hln, ht, hit, hl, hm, hR => by
    refine codeAny_builtin ud_entry ?_
    rw [Around.under_plainId ud_plain _]
    show wpAny _ A.in1 (pyNext (.ref I) >>= _) _ _ s
    refine wpAny_bind (wpAny_pyNext_list_end (A := A.in1) hh hit hl (by first | exact Array.getElem?_eq_none (Nat.le_of_eq hsz) | (simp at hsz; simp; omega)) fun h' he => ?_)
    show wpAny _ A.in1 (Builtin.Dict.addKeywords S [] >>= _) _ _ _
    refine wpAny_bind (wpAny_pure (wpAny_pure ?_))
    obtain ⟨oi, hoi, hci, _⟩ := hit
    refine hR h' s.toks (dt_keeps hm fun b o e c => he b o (fun z => ?_) e) fun b o _ hb e => he b o hb e
    rcases c with c | c
    · rw [z, hoi] at e
      cases e
      rw [hci] at c
      exact absurd (Value.type.inj c) (by decide)
    · exact hSI (c.symm.trans z)
  | q :: rest, i, acc, ix, t, s, hsz, hln, ht, hit, hl, hm, hR => by
    obtain ⟨b, hb, hbS, hbI, htup, hk⟩ := ht 0 q rfl
    rw [List.length_cons] at hsz hln
    have hit0 := hit
    obtain ⟨oi, hoi, hci, _⟩ := hit0
    have nI : ∀ {c : Addr} {o : Obj}, s.heap.get? c = some o → o.cls = .type "tuple" → c ≠ I := fun e c z => by
      rw [z, hoi] at e
      cases e
      rw [hci] at c
      exact absurd (Value.type.inj c) (by decide)
    refine codeAny_builtin ud_entry ?_
    rw [Around.under_plainId ud_plain _]
    show wpAny _ A.in1 (pyNext (.ref I) >>= _) _ _ s
    refine wpAny_bind (wpAny_pyNext_list_item (x := .ref b) hit hl (by simpa using hb) fun h1 hit1 hs1 => ?_)
    have e1 : ∀ c o, s.heap.get? c = some o → o.cls = .type "tuple" ∨ c = S → h1.get? c = some o := fun c o e z => hs1.extBut c o (z.elim (fun z => nI e z) fun z => by rw [z]; exact hSI) e
    have ht1 : IsTup h1 b #[.ref q.2.1, q.2.2] := htup.extBut hs1.extBut hbI
    have hl1 : h1.IsList l items := hl.extBut hs1.extBut hlI
    have hm1 : h1.DictOfH (tupleKind (mixKind prog w)) S acc := dt_keeps hm e1
    have hk1 : (tupleKind (mixKind prog w)).is h1 q.1 q.2.1 := tk_keeps hk fun c o e z => e1 c o e (.inl z)
    obtain ⟨o, ho, hc, n, hd⟩ := id ht1
    show wpAny _ A.in1 (holding [Value.ref b] _ >>= _) _ _ _
    refine wpAny_bind (wpAny_holding ?_)
    refine wpAny_bind (wpAny_tryCatch ?_)
    unfold Builtin.Dict.pairItems
    refine wpAny_bind (wpAny_typeOf (T := "tuple") ⟨o, ho, hc⟩ ?_)
    rw [if_pos (by first | decide | rfl | simp)]
    refine wpAny_bind (wpAny_seqItems ho hd (wpAny_pure ?_))
    show wpAny _ A.in1 (holding [.ref q.2.1, q.2.2] (dictSet S (.ref q.2.1) q.2.2)) _ _ _
    have oS := hm1
    obtain ⟨os, _, _, hos, hxs, _⟩ := oS
    have nS : ∀ {c : Addr} {o : Obj}, h1.get? c = some o → o.cls = .type "tuple" → c ≠ S := fun e c z => by
      rw [z, hos] at e
      cases e
      rw [hxs.1] at c
      exact absurd (Value.type.inj c) (by decide)
    refine wpAny_holding (wpAny_dictSet_heap (k := q.1) (show A.in1.units < cLine by simp only [Around.in1_units]; omega) hk1 hm1 (fun h2 hm2 hs2 => ?_) (by omega))
    refine wpAny_pure ⟨plainId_quiet ud_plain _, loopT (items := items) hh hu hlI hSI hSl rest (i + 1) (storedH acc q.1 q.2.1 q.2.2) (ix + 1) 0 _ (show items.size = i + 1 + rest.length by omega) ?_ (fun j q' e => ?_) ?_ ?_ hm2 fun h' tk hd' k => ?_⟩
    · have z := storedH_le acc q.1 q.2.1 q.2.2
      omega
    · obtain ⟨b', hb', hbS', hbI', htup', hk'⟩ := ht (j + 1) q' (by simpa using e)
      refine ⟨b', ?_, hbS', hbI', (htup'.extBut hs1.extBut hbI').extBut hs2.extBut hbS', ?_⟩
      · rw [show i + 1 + j = i + (j + 1) by omega]
        exact hb'
      · exact tk_keeps (tk_keeps hk' fun c o e z => e1 c o e (.inl z)) fun c o e z => hs2.extBut c o (nS e z) e
    · exact hit1.at fun o' e => hs2.extBut I o' (Ne.symm hSI) e
    · exact hl1.extBut hs2.extBut (Ne.symm hSl)
    · exact hR h' tk hd' fun c oc h3 h4 e => k c oc h3 h4 (hs2.extBut c oc h3 (hs1.extBut c oc h4 e))
end
end UW
namespace UW
open PySem PySem.Spec PyProof.Rows L2 L2.DX
section
variable {prog : Program} {w : World} {A : Around} {E : Value → Shared → Prop}
theorem dict_of_rows {s : Shared} {l : Addr} {ol : Obj} {items : Array Value} {n : Nat} {prs : List Row3} {Q : Value → Shared → Prop} (hh : A.handled = none) (hu : A.units + 8 < cLine) (hl : s.heap.get? l = some ol) (hc : ol.cls = .type "list") (hd : ol.dict = none)
    (hdat : ol.data = .seq items n) (hsz : items.size = prs.length) (hln : prs.length ≤ sizeLine)
    (ht : ∀ (j : Nat) (q : Row3), prs[j]? = some q → ∃ b : Addr, items[j]? = some (.ref b) ∧ IsTup s.heap b #[.ref q.2.1, q.2.2] ∧ (tupleKind (mixKind prog w)).is s.heap q.1 q.2.1)
    (h : ∀ h' tk, h'.DictOfH (tupleKind (mixKind prog w)) s.heap.objs.size (mergedT [] prs) → (∀ b o, s.heap.get? b = some o → h'.get? b = some o) → Q (.ref s.heap.objs.size) { s with heap := h', toks := tk }) :
    wpAny (model prog w) A (call (.type "dict") [.ref l]) Q E s := by
  refine callType_codes (Q₁ := fun obj s₁ => obj = .ref s.heap.objs.size ∧ s₁ = { s with heap := s.heap.push { cls := .type "dict", data := .dict #[] } }) PySem.F.kt_called_dict (PySem.F.kt_typeCall_dict_1 _) PySem.F.entry_dict_init (kt_code_dict_new _ ⟨rfl, rfl⟩) ?_
  rintro obj s₁ ⟨rfl, rfl⟩
  have hnew : (s.heap.push { cls := .type "dict", data := .dict #[] }).DictOfH (tupleKind (mixKind prog w)) s.heap.objs.size [] := Heap.DictOfH.new s.heap
  have k0 : ∀ b o, s.heap.get? b = some o → (s.heap.push { cls := .type "dict", data := .dict #[] }).get? b = some o := fun b o e => Heap.get?_push_of_some _ e
  refine ⟨hnew.typeIs, PySem.F.args_dict_init_2 _ _, ?_⟩
  unfold Builtin.«dict.__init__»
  refine wpAny_bind ?_
  unfold Builtin.Dict.selfAndRest
  refine wpAny_bind (wpAny_notOrdered_dict hnew.typeIs ?_)
  show wpAny _ _ (pure (s.heap.objs.size, [Value.ref l])) _ _ _
  refine wpAny_pure ?_
  show wpAny _ _ (Builtin.Dict.updateFrom "dict.__init__" s.heap.objs.size (.ref l) [] .none) _ _ _
  unfold Builtin.Dict.updateFrom
  refine wpAny_bind (wpAny_typeOf (T := "list") ⟨ol, k0 _ _ hl, hc⟩ ?_)
  rw [if_pos (by first | decide | rfl | simp)]
  refine wpAny_bind (miss_list (k0 _ _ hl) hc hdat hd hh fun h1 tk1 hk1 => ?_)
  rw [if_pos (show (none : Option Value).isNone = true from rfl)]
  refine wpAny_bind (wpAny_rule ?_)
  have hl1 : h1.IsList l items := ⟨ol, hk1 _ _ (k0 _ _ hl), hc, n, hdat⟩
  have hS1 : s.heap.objs.size < h1.objs.size := by
    have e : (s.heap.push { cls := .type "dict", data := .dict #[] }).get? s.heap.objs.size = some { cls := .type "dict", data := .dict #[] } := Heap.get?_push_size _ rfl
    exact Heap.lt_size (hk1 _ _ e)
  refine wpAny_bind (wpAny_pyIter_list hl1 ?_)
  have k2 : ∀ b o, h1.get? b = some o → (h1.push { cls := .type "list_iterator", data := .fields #[.ref l, .int 0 0] }).get? b = some o := fun b o e => Heap.get?_push_of_some _ e
  have hlt : l < s.heap.objs.size := Heap.lt_size hl
  have key := loopT (prog := prog) (w := w) (A := A.in1) (R := wants (fun r s₂ => r = .none ∧ Q (.ref s.heap.objs.size) s₂) E) (S := s.heap.objs.size) (I := h1.objs.size) (l := l) (items := items) (res := Value.none) hh
    (by simp only [Around.in1_units]; omega) (Nat.ne_of_lt (Nat.lt_trans hlt hS1)) (Nat.ne_of_lt hS1) (Nat.ne_of_gt hlt) prs 0 [] 0 0
    { s with heap := h1.push { cls := .type "list_iterator", data := .fields #[.ref l, .int 0 0] }, toks := tk1 } (by rw [hsz, Nat.zero_add]) (by rw [List.length_nil, Nat.zero_add]; exact hln)
    (fun j q e => by
      obtain ⟨b, e1, e2, e3⟩ := ht j q e
      have hb : b < s.heap.objs.size := e2.lt
      exact ⟨b, by rw [Nat.zero_add]; exact e1, Nat.ne_of_lt hb, Nat.ne_of_lt (Nat.lt_trans hb hS1), e2.keeps fun c o z => k2 _ _ (hk1 _ _ (k0 _ _ z)), tk_keeps e3 fun c o z _ => k2 _ _ (hk1 _ _ (k0 _ _ z))⟩)
    ⟨_, Heap.get?_push_size _ rfl, rfl, rfl⟩ (hl1.at fun o e => k2 _ _ e) (dt_keeps hnew fun b o e _ => k2 _ _ (hk1 _ _ e))
    (fun h' tk hd' k => ⟨rfl, h h' tk hd' fun b o e => k b o (Nat.ne_of_lt (Heap.lt_size e)) (Nat.ne_of_lt (Nat.lt_trans (Heap.lt_size e) hS1)) (k2 _ _ (hk1 _ _ (k0 _ _ e)))⟩)
  first
    | exact wpAny_pure ⟨plainId_quiet ud_plain _, key⟩
    | exact wpAny_bind (wpAny_pure (wpAny_pure ⟨plainId_quiet ud_plain _, key⟩))
end
def mergeT (kvs more : List (TKey × V)) : List (TKey × V) := more.foldl (fun acc kv => putK acc kv.1 kv.2) kvs
theorem mergeT_le : ∀ (more kvs : List (TKey × V)), (mergeT kvs more).length ≤ kvs.length + more.length
  | [], kvs => by show kvs.length ≤ kvs.length + 0; omega
  | p :: r, kvs => by
    have h1 := mergeT_le r (putK kvs p.1 p.2)
    have h2 := length_putK kvs p.1 p.2
    show (mergeT (putK kvs p.1 p.2) r).length ≤ _
    rw [List.length_cons]
    omega
theorem kt_merge {H : Hp} : ∀ {more : List (TKey × V)} {rs : List Row3} {kvs : List (TKey × V)} {xs : List Row3}, KT H more rs → KT H kvs xs → KT H (mergeT kvs more) (mergedT xs rs) := by
  intro more rs kvs xs r
  unfold KT at r
  induction r generalizing kvs xs with
  | nil => intro q; exact q
  | @cons p r ps rs h t ih =>
    intro q
    refine ih ?_
    have z := q.put _ h.2.1 h.2.2
    show KT H (putK kvs p.1 p.2) (storedH xs r.1 r.2.1 r.2.2)
    rw [← h.1]
    exact z
section
variable {X : Cx}
theorem rows_of {pins : List (Addr × Obj)} {σ : L2.St} {H : Hp} {s : Shared} (I : Inv X pins σ H s) : ∀ {ps : List Addr} {kvs : List (TKey × V)}, Paired (fun (p : Addr) (kv : TKey × V) => ∃ b, SqT X.K H p [.ref b, kv.2] ∧ SqT X.K H b (kv.1.map kV)) ps kvs →
    ∃ prs : List Row3, KT H kvs prs ∧ prs.length = ps.length ∧ ∀ (j : Nat) (q : Row3), prs[j]? = some q → ∃ b : Addr, ps[j]? = some b ∧ IsTup s.heap b #[.ref q.2.1, q.2.2] ∧ (tupleKind (mixKind X.prog X.w)).is s.heap q.1 q.2.1
  | _, _, .nil => ⟨[], .nil, rfl, fun j q e => by simp at e⟩
  | _, _, .cons (a := p) (b := kv) h t => by
    obtain ⟨prs, r, hl, hp⟩ := rows_of I t
    obtain ⟨b, hb, hkb⟩ := h
    obtain ⟨its, rv, ht, _⟩ := I.tuple hb.up
    obtain ⟨u, y, ei, ru, ry⟩ := vals2 rv
    subst ei
    obtain rfl : u = Value.ref b := ru
    refine ⟨(kv.1, b, y) :: prs, .cons ⟨rfl, hkb, ry⟩ r, by rw [List.length_cons, List.length_cons, hl], fun j q e => ?_⟩
    cases j with
    | zero =>
      have e' : (kv.1, b, y) = q := Option.some.inj e
      subst e'
      exact ⟨p, rfl, ht, key_of I.hok hkb⟩
    | succ j =>
      obtain ⟨b', e1, e2, e3⟩ := hp j q (by simpa using e)
      exact ⟨b', by simpa using e1, e2, e3⟩
def rDictT (K : Fg) : List V → Hp → VK → Prop := fun xs H Q => ∃ (a : Addr) (ps : List Addr) (kvs : List (TKey × V)), xs = [.ref a] ∧ SqL K H a (ps.map V.ref) ∧ Paired (fun (p : Addr) (kv : TKey × V) => ∃ b, SqT K H p [.ref b, kv.2] ∧ SqT K H b (kv.1.map kV)) ps kvs ∧
    ∀ p, H p = none → Q (.ref p) (upd H p (.dT (mergeT [] kvs)))
theorem cr_dictT (hcalm : X.calm = true) (hu : X.A.units + 64 < cLine) : CallR X (.type "dict") (rDictT X.K) := by
  intro pins s σ H xs us Q I r q
  obtain ⟨a, ps, kvs, ex, hq, hp, q⟩ := q
  subst ex
  obtain ⟨u, eu, rx⟩ := vals1 r
  subst eu
  cases rx
  obtain ⟨its, rv, pl, hz⟩ := I.list hq
  have ei := refs_at rv
  subst ei
  rw [List.length_map] at hz
  obtain ⟨prs, rel, hl, hpr⟩ := rows_of I hp
  obtain ⟨o, n, ho, hc, hd, hdat⟩ := pl
  refine dict_of_rows (prs := prs) (I.ok.hd hcalm) (by omega) ho hc hd hdat (by simp [hl]) (by rw [hl]; exact hz) (fun j q' e => ?_) fun h' tk hd' k => ?_
  · obtain ⟨b, e1, e2, e3⟩ := hpr j q' e
    exact ⟨b, by simp [e1], e2, e3⟩
  · have hm : (s.heap.objs.size == sysModules) = false := beq_eq_false_iff_ne.mpr (Nat.ne_of_gt I.big)
    have lk : kvs.length = prs.length := Paired.length rel
    have hlen : (mergeT [] kvs).length ≤ sizeLine := by
      refine Nat.le_trans (mergeT_le kvs []) ?_
      rw [List.length_nil, Nat.zero_add, lk, hl]
      exact hz
    have hn : H s.heap.objs.size = none := I.hok.fresh (Nat.le_refl _)
    obtain ⟨o2, es, ep, d1, d2, d3, d4, _, d6⟩ := hd'
    have kt : KT (upd H s.heap.objs.size (.dT (mergeT [] kvs))) (mergeT [] kvs) (mergedT [] prs) := (kt_merge rel .nil).keeps fun b ys e => by rw [upd_ne (ne_of_none e hn)]; exact e
    exact ⟨.ref s.heap.objs.size, upd H s.heap.objs.size (.dT (mergeT [] kvs)), I.laid (t' := tk) k (Nat.le_refl _) (show ObjOk X.prog X.w _ _ _ (.dT (mergeT [] kvs)) from ⟨hlen, hm, _, kt, o2, es, ep, d1, d2, d3, d4, d6⟩), rfl, q _ hn⟩
end
section
variable {K : Fg} {E : WX}
def mergeD (kvs more : List (TKey × PyData)) : List (TKey × PyData) := more.foldl (fun acc kv => putD acc kv.1 kv.2) kvs
theorem prs_merge {S : Ads} {H : Hp} : ∀ {ls : List (TKey × V)} {kvs : List (TKey × PyData)} {ls0 : List (TKey × V)} {kvs0 : List (TKey × PyData)}, Paired (PrD K S H) ls kvs → Paired (PrD K S H) ls0 kvs0 → Paired (PrD K S H) (mergeT ls0 ls) (mergeD kvs0 kvs)
  | _, _, _, _, .nil, h => h
  | _, _, ls0, kvs0, .cons (a := p) (b := q) a b, h => by
    show Paired (PrD K S H) (mergeT (putK ls0 p.1 p.2) _) (mergeD (putD kvs0 q.1 q.2) _)
    refine prs_merge b ?_
    rw [a.1]
    exact prs_put a.2 h
def aDictT (e : AEx) : AEx := fun X α k => e X α fun x => ∃ kvs : List (TKey × PyData), x.lst = some (kvs.map fun q => .tuple [.tuple (q.1.map kD), q.2]) ∧ k (.k (.t (mergeD [] kvs)))
theorem rows_inv {S : Ads} {H : Hp} : ∀ {kvs : List (TKey × PyData)} {vs : List V}, Ods K S H vs (kvs.map fun q => .tuple [.tuple (q.1.map kD), q.2]) → ∃ (ps : List Addr) (ls : List (TKey × V)), vs = ps.map V.ref ∧ Paired (fun (p : Addr) (kv : TKey × V) => ∃ b, SqT K H p [.ref b, kv.2] ∧ SqT K H b (kv.1.map kV)) ps ls ∧ Paired (PrD K S H) ls kvs
  | [], _, .nil => ⟨[], [], rfl, .nil, .nil⟩
  | q :: kvs, _, .cons a b => by
    obtain ⟨ps, ls, rfl, h1, h2⟩ := rows_inv b
    cases a with
    | tup hs ho =>
      cases ho with
      | cons x y =>
        cases y with
        | cons y z =>
          cases z
          cases x with
          | tup hk hko =>
            rw [keys_inv hko] at hk
            exact ⟨_ :: ps, (q.1, _) :: ls, rfl, .cons ⟨_, hs, hk⟩ h1, .cons ⟨rfl, y⟩ h2⟩
theorem re_dictT {te : TE} {e : AEx} (h1 : REx K E te e) : REx K E (tCB (rDictT K) (tCons te tNil)) (aDictT e) := by
  intro W H0 S0 O S α σ H X k Q f h lk q
  refine h1 f h lk fun v av S1 H1 m r ⟨kvs, e, hk⟩ => ?_
  obtain ⟨p, vs, rfl, a, o⟩ := r.lst e
  obtain ⟨ps, ls, rfl, h2, h3⟩ := rows_inv o
  refine ⟨p, ps, ls, rfl, SqL.of a, h2, fun p' hn => ?_⟩
  have sm : Same H1 (upd H1 p' (.dT (mergeT [] ls))) := Same.new hn
  exact q _ (.k (.t (mergeD [] kvs))) S1 _ (m.trans (m.oks.same sm)) ⟨p', rfl, ⟨_, upd_same, prs_mp (fun z => z.same sm) (prs_merge h3 .nil)⟩, fun z => (m.t _ z).1 hn, m.back hn, Wel.ne m.w hn⟩ hk
end
section
variable {k : Avl → Prop} {X : AXr} {α : Afr} {e : AEx}
end
end UW
namespace UW.Ja
open PySem PySem.Spec PyProof.Rows L2 UW UW.Bg
/-- one step -/
local macro_rules | `(tactic| walk_at "a1") => `(tactic| first
  | with_reducible refine wk ?_
  | (with_reducible refine rs_go 1 ?_
     first
     | with_reducible refine a_var (by with_unfolding_all rfl) (by with_unfolding_all rfl) ?_
     | with_reducible refine a_gtup (by with_unfolding_all rfl) (by with_unfolding_all rfl) ?_
     | with_reducible refine a_glst (by with_unfolding_all rfl) (by with_unfolding_all rfl) ?_)
  | (with_reducible refine rs_go 2 ?_
     first
     | with_reducible refine g_ixT (by with_unfolding_all rfl) (by first | with_unfolding_all rfl | with_unfolding_all exact at_zero _ _) ?_
     | with_reducible refine g_ixL (by with_unfolding_all rfl) (by first | with_unfolding_all rfl | with_unfolding_all exact at_zero _ _) ?_)
  | (with_reducible refine rs_go 3 ?_
     first
     | with_reducible refine g_lenT (by with_unfolding_all rfl) ?_
     | with_reducible refine g_lenL (by with_unfolding_all rfl) ?_
     | with_reducible refine g_tupL (by with_unfolding_all rfl) ?_
     | with_reducible refine g_tupT (by with_unfolding_all rfl) ?_
     | with_reducible refine g_lstT (by with_unfolding_all rfl) ?_
     | with_reducible refine g_lstL (by with_unfolding_all rfl) ?_)
  | (with_reducible refine rs_go 4 ?_
     first
     | with_reducible refine g_addL (by with_unfolding_all rfl) (by with_unfolding_all rfl) (Nat.le_of_ble_eq_true (by with_unfolding_all rfl)) ?_
     | with_reducible refine g_mulI (by first | exact Or.inl ⟨by decide, by decide⟩ | exact Or.inr ⟨by decide, by decide⟩ | (first | (refine Or.inl ⟨?_, ?_⟩ <;> omega) | (refine Or.inr ⟨?_, ?_⟩ <;> omega))) ?_
     | with_reducible refine g_mod (by first | decide | omega) ?_
     | with_reducible refine g_div (by first | decide | omega) (by first | decide | omega) ?_
     | with_reducible refine g_slT (by with_unfolding_all rfl) ?_
     | with_reducible refine g_slL (by with_unfolding_all rfl) ?_
     | with_reducible refine g_isN (by with_unfolding_all rfl) ?_
     | with_reducible refine g_notN (by with_unfolding_all rfl) ?_)
  | (with_reducible refine rs_go 5 ?_
     first
     | with_reducible refine a_dget (by with_unfolding_all rfl) ?_
     | with_reducible refine a_dget2 (by with_unfolding_all rfl) ?_
     | with_reducible refine a_fzq (by with_unfolding_all rfl) ?_
     | with_reducible refine a_retC (by with_unfolding_all rfl) ?_
     | with_reducible refine a_isX (by with_unfolding_all rfl) ?_
     | with_reducible refine a_app (by with_unfolding_all rfl) ?_
     | with_reducible refine a_ext (by with_unfolding_all rfl) ?_
     | with_reducible refine a_pop (by with_unfolding_all rfl) ?_
     | with_reducible refine a_fz (by with_unfolding_all rfl) ?_
     | with_reducible refine a_lenDV (by with_unfolding_all rfl) ?_)
  | (with_reducible refine rs_go 6 ?_
     first
     | with_reducible refine a_cl (by with_unfolding_all rfl) ?_
     | with_reducible refine a_dat (by with_unfolding_all rfl) ?_
     | with_reducible refine a_s1 (by with_unfolding_all rfl) ?_
     | with_reducible refine a_dcy (by with_unfolding_all rfl) ?_
     | with_reducible refine a_s2 (by with_unfolding_all rfl) (by with_unfolding_all rfl) ?_
     | with_reducible refine a_s3 (by with_unfolding_all rfl) (by with_unfolding_all rfl) (by with_unfolding_all rfl) ?_
     | with_reducible refine a_owned (by with_unfolding_all rfl) ?_)
  | (with_reducible refine rs_go 7 ?_
     first
     | with_reducible refine i_B (by with_unfolding_all rfl) ?_
     | with_reducible refine i_T (by with_unfolding_all rfl) ?_
     | with_reducible refine i_L (by with_unfolding_all rfl) ?_)
  | (with_reducible refine rs_go 8 ?_
     first
     | with_reducible refine a_nb (by with_unfolding_all rfl) ?_
     | with_reducible refine a_len (by with_unfolding_all rfl) ?_
     | with_reducible refine a_revT (by with_unfolding_all rfl) ?_
     | with_reducible refine a_revL (by with_unfolding_all rfl) ?_)
  | (with_reducible refine rs_go 9 ?_
     first
     | with_reducible refine iteNT (by with_unfolding_all rfl) ?_
     | with_reducible refine iteNF (by with_unfolding_all rfl) ?_
     | with_reducible refine iteIT (by with_unfolding_all rfl) ?_
     | with_reducible refine iteIF (by with_unfolding_all rfl) ?_))
local macro_rules | `(tactic| walk_at "ax") => `(tactic| (repeat (first | walk_at "a1" | with_reducible refine a_if ?_); try dsimp only [List.set_cons_zero, List.set_cons_succ, awipe, aFrz, List.getElem?_cons_zero, List.getElem?_cons_succ]))
local macro_rules | `(tactic| walk_at "ay") => `(tactic| (repeat (walk_at "a1"); try dsimp only [List.set_cons_zero, List.set_cons_succ, awipe, aFrz, List.getElem?_cons_zero, List.getElem?_cons_succ]))
/-- with_load, slots standing, road, load -/
def t_with_load (K : Fg) : TS :=
  (tRet (tOp (rAddU K) (tOp (rAddU K) (tSl (rSlU K) (tVar 0) tNoPart (tPart (tVar 1))) (tTup (tCons (tVar 2) tNil))) (tSl (rSlU K) (tVar 0) (tPart (tOp
    (rAddU K) (tVar 1) (tC (.int 1)))) tNoPart)))
abbrev a_with_load : ASt :=
  (aRet (aOp gAdd (aOp gAdd (aSl (aVar 0) aNoPart (aPart (aVar 1))) (aTup (aCons (aVar 2) aNil))) (aSl (aVar 0) (aPart (aOp gAdd (aVar 1) (aC (.int 1)))) aNoPart)))
theorem f_with_load {K : Fg} {E : WX} : RSt K E (t_with_load K) a_with_load :=
  (rs_ret (re_op ro_add (re_op ro_add (re_sl re_var ro_none (ro_some re_var)) (re_tup (ra_cons re_var ra_nil))) (re_sl re_var (ro_some (re_op ro_add
    re_var re_int)) ro_none)))
def m_with_load : AFn := mOf 0 a_with_load
def sp_with_load (K : Fg) : Sp := SpA K 3 m_with_load
theorem br_with_load {K : Fg} : ∀ vs H Q E, SpA K 3 m_with_load vs H Q E → sp_with_load K vs H Q E := fun _ _ _ _ h => h
theorem l_with_load {K : Fg} : ∀ vs H Q E, sp_with_load K vs H Q E → vs.length = 3 := l_spa
theorem p_with_load {K : Fg} {vs : List V} {H : Hp} {Q : VK} {E : XK} (h : sp_with_load K vs H Q E) : t_with_load K { nx := fun _ H' => Q .non H', rt := Q } (L2.start ["standing", "road", "load"] vs) H :=
  p_spa (f_with_load) h rfl
/-- beside, slots web, standing, n, roads, most, found, road, load -/
def t_beside (K : Fg) : TS :=
  (tSeq (tAsg (tVar 0) (gTup K 3 (gCons (gName 2) (gCons (gName 3) (gCons (gName 4) gNil))))) (tSeq (tAsg (tLst tNil) (gName 5))
    (tSeq (tFor (iSeq K (tG (sp_unlike_roads K) E00 (tCons (tVar 0) (tCons (tVar 1) tNil)))) (gName 6) (tSeq (tAsg (tOp (rIx K) (tVar 1) (tVar 6)) (gName 7)) (Evl.tCut (tIfS (tTest (tOp rGtI (tVar 7) (tC (.int 0)))) (tDrop (tBM K
    "list" rAppend (tVar 5) (tCons (tTup (tCons (tTup (tCons (tVar 6) (tCons (tUn (rU fun i => .int (-i)) (tC (.int 1))) tNil))) (tCons (tG (sp_with_load K) E00 (tCons (tVar 1) (tCons (tVar 6) (tCons (tOp rSubI (tVar 7) (tC (.int
    1))) tNil)))) tNil))) tNil))) tNext) (tIfS (tTest (tOp (rLtU K) (tVar 7) (tOp (rIx K) (tVar 4) (tVar 6)))) (tDrop (tBM K "list" rAppend (tVar 5) (tCons (tTup (tCons (tTup (tCons (tVar 6) (tCons (tC (.int 1)) tNil))) (tCons (tG
    (sp_with_load K) E00 (tCons (tVar 1) (tCons (tVar 6) (tCons (tOp (rAddU K) (tVar 7) (tC (.int 1))) tNil)))) tNil))) tNil))) tNext)))) (tRet (tVar 5)))))
abbrev a_beside_0 : ASt :=
  (aIfS (aB (aOp gLt (aVar 7) (aOp gIx (aVar 4) (aVar 6)))) (aApp 5 (aTup (aCons (aTup (aCons (aVar 6) (aCons (aC (.int 1)) aNil))) (aCons (aCall0 m_with_load (bCons (aVar 1) (bCons (aVar 6) (bCons (aOp
    gAdd (aVar 7) (aC (.int 1))) bNil)))) aNil)))) aNext)
abbrev a_beside_1 : ASt :=
  (aCut (aIfS (aB (aOp gGt (aVar 7) (aC (.int 0)))) (aApp 5 (aTup (aCons (aTup (aCons (aVar 6) (aCons (aUn gNeg (aC (.int 1))) aNil))) (aCons (aCall0 m_with_load (bCons (aVar 1) (bCons (aVar 6) (bCons
    (aOp gSub' (aVar 7) (aC (.int 1))) bNil)))) aNil)))) aNext) a_beside_0)
abbrev a_beside_2 : ASt :=
  (aSeq (aFor (aSeqI (aCall0 m_unlike_roads (bCons (aVar 0) (bCons (aVar 1) bNil)))) (agName 6) (aSeq (aAsg (aOp gIx (aVar 1) (aVar 6)) (agName 7)) a_beside_1)) (aRet (aVar 5)))
abbrev a_beside : ASt :=
  (aSeq (aAsg (aVar 0) (agTup 3 (agCons (agName 2) (agCons (agName 3) (agCons (agName 4) agNil))))) (aSeq (aSet 5 (aLst aNil)) a_beside_2))
theorem f_beside {K : Fg} {E : WX} : RSt K E (t_beside K) a_beside :=
  (rs_seq (rs_asg re_var (rg_tup (rgs_cons rg_name (rgs_cons rg_name (rgs_cons rg_name rgs_nil))))) (rs_seq (rs_set (re_lst ra_nil)) (rs_seq (rs_for (ri_seq
    (re_call0 br_unlike_roads (rv_cons re_var (rv_cons re_var rv_nil)))) rg_name (rs_seq (rs_asg (re_op ro_ix re_var re_var) rg_name) (rs_cut (rs_ifs (rt_test (re_op ro_gt re_var re_int)) (rs_app (re_tup (ra_cons (re_tup (ra_cons
    re_var (ra_cons (re_un rou_neg re_int) ra_nil))) (ra_cons (re_call0 br_with_load (rv_cons re_var (rv_cons re_var (rv_cons (re_op ro_sub re_var re_int) rv_nil)))) ra_nil)))) rs_next) (rs_ifs (rt_test (re_op ro_lt re_var (re_op
    ro_ix re_var re_var))) (rs_app (re_tup (ra_cons (re_tup (ra_cons re_var (ra_cons re_int ra_nil))) (ra_cons (re_call0 br_with_load (rv_cons re_var (rv_cons re_var (rv_cons (re_op ro_add re_var re_int) rv_nil)))) ra_nil))))
    rs_next)))) (rs_ret re_var))))
def m_beside : AFn := mOf 6 a_beside
def sp_beside (K : Fg) : Sp := SpA K 2 m_beside
theorem br_beside {K : Fg} : ∀ vs H Q E, SpA K 2 m_beside vs H Q E → sp_beside K vs H Q E := fun _ _ _ _ h => h
theorem l_beside {K : Fg} : ∀ vs H Q E, sp_beside K vs H Q E → vs.length = 2 := l_spa
theorem p_beside {K : Fg} {vs : List V} {H : Hp} {Q : VK} {E : XK} (h : sp_beside K vs H Q E) : t_beside K { nx := fun _ H' => Q .non H', rt := Q } (L2.start ["web", "standing", "n", "roads", "most", "found", "road", "load"] vs) H :=
  p_spa (f_beside) h rfl
/-- _law_sums, slots web, standing, found, a, b, load -/
def t__law_sums (K : Fg) : TS :=
  (tSeq (tAsg (tOp (rMulU K) (tLst (tCons (tC (.int 0)) tNil)) (tOp (rIx K) (tVar 0) (tC (.int 0)))) (gName 2)) (tSeq (tFor (RZ.iZipA K
    (tCons (tOp (rIx K) (tVar 0) (tC (.int 1))) (tCons (tVar 1) tNil))) (gTup K 2 (gCons (gTup K 2 (gCons (gName 3) (gCons (gName 4) gNil))) (gCons (gName 5) gNil))) (tSeq (tAsg (tOp (rAddU K) (tOp (rIx K) (tVar 2) (tVar 3)) (tVar
    5)) (gSub (tVar 2) (tVar 3) rSetL)) (tAsg (tOp (rAddU K) (tOp (rIx K) (tVar 2) (tVar 4)) (tVar 5)) (gSub (tVar 2) (tVar 4) rSetL)))) (tRet (tVar 2))))
abbrev a__law_sums_0 : ASt :=
  (aSetI 2 (aOp gAdd (aOp gIx (aVar 2) (aVar 4)) (aVar 5)) (aVar 4))
abbrev a__law_sums_1 : ASt :=
  (aSeq (aFor (aZip (bCons (aOp gIx (aVar 0) (aC (.int 1))) (bCons (aVar 1) bNil))) (agTup 2 (agCons (agTup 2 (agCons (agName 3) (agCons (agName 4) agNil))) (agCons (agName 5) agNil))) (aSeq (aSetI 2
    (aOp gAdd (aOp gIx (aVar 2) (aVar 3)) (aVar 5)) (aVar 3)) a__law_sums_0)) (aRet (aVar 2)))
abbrev a__law_sums : ASt :=
  (aSeq (aSet 2 (aOp gMul (aLst (aCons (aC (.int 0)) aNil)) (aOp gIx (aVar 0) (aC (.int 0))))) a__law_sums_1)
theorem f__law_sums {K : Fg} {E : WX} : RSt K E (t__law_sums K) a__law_sums :=
  (rs_seq (rs_set (re_op ro_mul (re_lst (ra_cons re_int ra_nil)) (re_op ro_ix re_var re_int))) (rs_seq (rs_for (ri_zip (rv_cons (re_op ro_ix re_var
    re_int) (rv_cons re_var rv_nil))) (rg_tup (rgs_cons (rg_tup (rgs_cons rg_name (rgs_cons rg_name rgs_nil))) (rgs_cons rg_name rgs_nil))) (rs_seq (rs_setI (re_op ro_add (re_op ro_ix re_var re_var) re_var) re_var) (rs_setI (re_op
    ro_add (re_op ro_ix re_var re_var) re_var) re_var))) (rs_ret re_var)))
def m__law_sums : AFn := mOf 4 a__law_sums
def sp__law_sums (K : Fg) : Sp := SpA K 2 m__law_sums
theorem br__law_sums {K : Fg} : ∀ vs H Q E, SpA K 2 m__law_sums vs H Q E → sp__law_sums K vs H Q E := fun _ _ _ _ h => h
theorem l__law_sums {K : Fg} : ∀ vs H Q E, sp__law_sums K vs H Q E → vs.length = 2 := l_spa
theorem p__law_sums {K : Fg} {vs : List V} {H : Hp} {Q : VK} {E : XK} (h : sp__law_sums K vs H Q E) : t__law_sums K { nx := fun _ H' => Q .non H', rt := Q } (L2.start ["web", "standing", "found", "a", "b", "load"] vs) H :=
  p_spa (f__law_sums) h rfl
/-- _law_near, slots web, standing, sums, road, a, b, by, load, found -/
def t__law_near (K : Fg) : TS :=
  (tSeq (tPar 2 8 (tCons (tG (sp__law_sums K) E00 (tCons (tVar 0) (tCons (tVar 1) tNil))) (tCons (tLst tNil) tNil))) (tSeq
    (tFor (iEnumV K (tCons (tOp (rIx K) (tVar 0) (tC (.int 1))) tNil)) (gTup K 2 (gCons (gName 3) (gCons (gTup K 2 (gCons (gName 4) (gCons (gName 5) gNil))) gNil))) (tIfS (tTest (tOp (rNeU K) (tOp (rIx K) (tVar 2) (tVar 4)) (tOp
    (rIx K) (tVar 2) (tVar 5)))) (tFor (iSeq K (tTup (tCons (tUn (rU fun i => .int (-i)) (tC (.int 1))) (tCons (tC (.int 1)) tNil)))) (gName 6) (tSeq (tAsg (tOp (rAddU K) (tOp (rIx K) (tVar 1) (tVar 3)) (tVar 6)) (gName 7)) (tIfS
    (tTest (tChain rLeI rLeI (tC (.int 0)) (tVar 7) (tOp (rIx K) (tOp (rIx K) (tVar 0) (tC (.int 2))) (tVar 3)))) (tDrop (tBM K "list" rAppend (tVar 8) (tCons (tTup (tCons (tTup (tCons (tVar 3) (tCons (tVar 6) tNil))) (tCons (tOp
    (rAddU K) (tOp (rAddU K) (tSl (rSlU K) (tVar 1) tNoPart (tPart (tVar 3))) (tTup (tCons (tVar 7) tNil))) (tSl (rSlU K) (tVar 1) (tPart (tOp (rAddU K) (tVar 3) (tC (.int 1)))) tNoPart)) tNil))) tNil))) tNext))) tNext)) (tRet
    (tVar 8))))
abbrev a__law_near_0 : ASt :=
  (aIfS (aB (aChain gLe gLe (aC (.int 0)) (aVar 7) (aOp gIx (aOp gIx (aVar 0) (aC (.int 2))) (aVar 3)))) (aApp 8 (aTup (aCons (aTup (aCons (aVar 3) (aCons (aVar 6) aNil))) (aCons (aOp gAdd (aOp gAdd
    (aSl (aVar 1) aNoPart (aPart (aVar 3))) (aTup (aCons (aVar 7) aNil))) (aSl (aVar 1) (aPart (aOp gAdd (aVar 3) (aC (.int 1)))) aNoPart)) aNil)))) aNext)
abbrev a__law_near_1 : ASt :=
  (aSeq (aFor (aEnum (bCons (aOp gIx (aVar 0) (aC (.int 1))) bNil)) (agTup 2 (agCons (agName 3) (agCons (agTup 2 (agCons (agName 4) (agCons (agName 5) agNil))) agNil))) (aIfS (aB (aOp gNe (aOp gIx
    (aVar 2) (aVar 4)) (aOp gIx (aVar 2) (aVar 5)))) (aFor (aSeqI (aTup (aCons (aUn gNeg (aC (.int 1))) (aCons (aC (.int 1)) aNil)))) (agName 6) (aSeq (aAsg (aOp gAdd (aOp gIx (aVar 1) (aVar 3)) (aVar 6)) (agName 7))
    a__law_near_0)) aNext)) (aRet (aVar 8)))
abbrev a__law_near : ASt :=
  (aSeq (aSet2 2 8 (aCall0 m__law_sums (bCons (aVar 0) (bCons (aVar 1) bNil))) (aLst aNil)) a__law_near_1)
theorem f__law_near {K : Fg} {E : WX} : RSt K E (t__law_near K) a__law_near :=
  (rs_seq (rs_set2 (re_call0 br__law_sums (rv_cons re_var (rv_cons re_var rv_nil))) (re_lst ra_nil)) (rs_seq (rs_for (ri_enum (rv_cons (re_op ro_ix
    re_var re_int) rv_nil)) (rg_tup (rgs_cons rg_name (rgs_cons (rg_tup (rgs_cons rg_name (rgs_cons rg_name rgs_nil))) rgs_nil))) (rs_ifs (rt_test (re_op ro_ne (re_op ro_ix re_var re_var) (re_op ro_ix re_var re_var))) (rs_for
    (ri_seq (re_tup (ra_cons (re_un rou_neg re_int) (ra_cons re_int ra_nil)))) rg_name (rs_seq (rs_asg (re_op ro_add (re_op ro_ix re_var re_var) re_var) rg_name) (rs_ifs (rt_test (re_chain ro_le ro_le re_int re_var (re_op ro_ix
    (re_op ro_ix re_var re_int) re_var))) (rs_app (re_tup (ra_cons (re_tup (ra_cons re_var (ra_cons re_var ra_nil))) (ra_cons (re_op ro_add (re_op ro_add (re_sl re_var ro_none (ro_some re_var)) (re_tup (ra_cons re_var ra_nil)))
    (re_sl re_var (ro_some (re_op ro_add re_var re_int)) ro_none)) ra_nil)))) rs_next))) rs_next)) (rs_ret re_var)))
def m__law_near : AFn := mOf 7 a__law_near
def sp__law_near (K : Fg) : Sp := SpA K 2 m__law_near
theorem br__law_near {K : Fg} : ∀ vs H Q E, SpA K 2 m__law_near vs H Q E → sp__law_near K vs H Q E := fun _ _ _ _ h => h
theorem l__law_near {K : Fg} : ∀ vs H Q E, sp__law_near K vs H Q E → vs.length = 2 := l_spa
theorem p__law_near {K : Fg} {vs : List V} {H : Hp} {Q : VK} {E : XK} (h : sp__law_near K vs H Q E) : t__law_near K { nx := fun _ H' => Q .non H', rt := Q } (L2.start ["web", "standing", "sums", "road", "a", "b", "by", "load", "found"] vs) H :=
  p_spa (f__law_near) h rfl
/-- _law_standing, slots jar, web, way, loads, road, most, k, own -/
def t__law_standing (K : Fg) : TS :=
  (tSeq (tAsg (tG (sp__law_draw K) E00 (tCons (tVar 0) (tCons (tC (.int 4)) tNil))) (gName 2)) (tSeq (tAsg (tLc (iSeq K (tOp
    (rIx K) (tVar 1) (tC (.int 2)))) (gName 5) tYes (tG (sp__law_draw K) E00 (tCons (tVar 0) (tCons (tOp (rAddU K) (tVar 5) (tC (.int 1))) tNil))) [5]) (gName 3)) (Evl.tCut (tIfS (tTest (tOp rGtI (tVar 2) (tC (.int 1)))) (tSeq
    (tAsg (tG (sp__law_draw K) E00 (tCons (tVar 0) (tCons (tCB (rLenU K) (tCons (tVar 3) tNil)) tNil))) (gName 4)) (tAsg (tLc (iEnumV K (tCons (tVar 3) tNil)) (gTup K 2 (gCons (gName 6) (gCons (gName 7) gNil))) tYes (tIf (tTest
    (tOp (rEqU K) (tVar 6) (tVar 4))) (tVar 7) (tIf (tTest (tOp (rEqU K) (tVar 2) (tC (.int 2)))) (tC (.int 0)) (tOp (rIx K) (tOp (rIx K) (tVar 1) (tC (.int 2))) (tVar 6)))) [6, 7]) (gName 3))) tNext) (tRet (tCB (rTupOf K) (tCons
    (tVar 3) tNil))))))
abbrev a__law_standing_0 : ASt :=
  (aAsg (aLc (aEnum (bCons (aVar 3) bNil)) (agTup 2 (agCons (agName 6) (agCons (agName 7) agNil))) aYes (aIf (aB (aOp gEq (aVar 6) (aVar 4))) (aVar 7) (aIf (aB (aOp gEq (aVar 2) (aC (.int 2)))) (aC
    (.int 0)) (aOp gIx (aOp gIx (aVar 1) (aC (.int 2))) (aVar 6)))) [6, 7]) (agName 3))
abbrev a__law_standing_1 : ASt :=
  (aRet (aCB gTupOf (bCons (aVar 3) bNil)))
abbrev a__law_standing_2 : ASt :=
  (aCut (aIfS (aB (aOp gGt (aVar 2) (aC (.int 1)))) (aSeq (aAsg (aCall0 m__law_draw (bCons (aVar 0) (bCons (aCB gLen (bCons (aVar 3) bNil)) bNil))) (agName 4)) a__law_standing_0) aNext)
    a__law_standing_1)
abbrev a__law_standing_3 : ASt :=
  (aSeq (aAsg (aLc (aSeqI (aOp gIx (aVar 1) (aC (.int 2)))) (agName 5) aYes (aCall0 m__law_draw (bCons (aVar 0) (bCons (aOp gAdd (aVar 5) (aC (.int 1))) bNil))) [5]) (agName 3)) a__law_standing_2)
abbrev a__law_standing : ASt :=
  (aSeq (aAsg (aCall0 m__law_draw (bCons (aVar 0) (bCons (aC (.int 4)) bNil))) (agName 2)) a__law_standing_3)
theorem f__law_standing {K : Fg} {E : WX} : RSt K E (t__law_standing K) a__law_standing :=
  (rs_seq (rs_asg (re_call0 br__law_draw (rv_cons re_var (rv_cons re_int rv_nil))) rg_name) (rs_seq (rs_asg (re_lc (ri_seq (re_op ro_ix
    re_var re_int)) rg_name rt_yes (re_call0 br__law_draw (rv_cons re_var (rv_cons (re_op ro_add re_var re_int) rv_nil))) (by rfl)) rg_name) (rs_cut (rs_ifs (rt_test (re_op ro_gt re_var re_int)) (rs_seq (rs_asg (re_call0
    br__law_draw (rv_cons re_var (rv_cons (re_cb rb_len (rv_cons re_var rv_nil)) rv_nil))) rg_name) (rs_asg (re_lc (ri_enum (rv_cons re_var rv_nil)) (rg_tup (rgs_cons rg_name (rgs_cons rg_name rgs_nil))) rt_yes (re_if (rt_test
    (re_op ro_eq re_var re_var)) re_var (re_if (rt_test (re_op ro_eq re_var re_int)) re_int (re_op ro_ix (re_op ro_ix re_var re_int) re_var))) (by rfl)) rg_name)) rs_next) (rs_ret (re_cb rb_tupOf (rv_cons re_var rv_nil))))))
def m__law_standing : AFn := mOf 6 a__law_standing
def sp__law_standing (K : Fg) : Sp := SpA K 2 m__law_standing
theorem br__law_standing {K : Fg} : ∀ vs H Q E, SpA K 2 m__law_standing vs H Q E → sp__law_standing K vs H Q E := fun _ _ _ _ h => h
theorem l__law_standing {K : Fg} : ∀ vs H Q E, sp__law_standing K vs H Q E → vs.length = 2 := l_spa
theorem p__law_standing {K : Fg} {vs : List V} {H : Hp} {Q : VK} {E : XK} (h : sp__law_standing K vs H Q E) : t__law_standing K { nx := fun _ H' => Q .non H', rt := Q } (L2.start ["jar", "web", "way", "loads", "road", "most", "k", "own"] vs) H :=
  p_spa (f__law_standing) h rfl
section
variable {x : AXc} {k : Avl → Prop} {n : Int} {rs : List (Int × Int)} {ms ls : List Int}
theorem cut_to (ls : List Int) {r : Int} (r0 : 0 ≤ r) (r1 : r < ls.length) : cutD (ls.map PyData.int) none (some r) = (ls.take r.toNat).map .int := by
  unfold cutD
  have e2 : HT.sIx (ls.map PyData.int).length (ls.map PyData.int).length (some r) = r.toNat := by
    rw [show r = ((r.toNat : Nat) : Int) by omega]
    exact (HT.sIx_nat _ _ r.toNat).trans (by rw [List.length_map]; omega)
  rw [e2]
  show List.take (r.toNat - 0) (List.drop 0 _) = _
  rw [Nat.sub_zero, List.drop_zero, List.map_take]
theorem cut_from (ls : List Int) {r : Int} (r0 : 0 ≤ r) (r1 : r < ls.length) : cutD (ls.map PyData.int) (some (r + 1)) none = (ls.drop (r.toNat + 1)).map .int := by
  unfold cutD
  have e2 : HT.sIx (ls.map PyData.int).length 0 (some (r + 1)) = r.toNat + 1 := by
    rw [show r + 1 = ((r.toNat + 1 : Nat) : Int) by omega]
    exact (HT.sIx_nat _ _ (r.toNat + 1)).trans (by rw [List.length_map]; omega)
  rw [e2]
  show List.take ((ls.map PyData.int).length - (r.toNat + 1)) (List.drop (r.toNat + 1) _) = _
  rw [← List.length_drop, List.take_length, List.map_drop]
theorem set_cut {ls : List Int} {r l : Int} (r0 : 0 ≤ r) (r1 : r < ls.length) : (ls.take r.toNat).map PyData.int ++ [.int l] ++ (ls.drop (r.toNat + 1)).map .int = (ls.set r.toNat l).map .int := by
  rw [List.set_eq_take_append_cons_drop, if_pos (by omega), List.map_append, List.map_cons, List.append_assoc]
  rfl
theorem s_with_load {r l : Int} (r0 : 0 ≤ r) (r1 : r < ls.length) (hl : ls.length ≤ 1000) (h : k (.d (dIs (ls.set r.toNat l)))) : m_with_load [.d (dIs ls), .d (.int r), .d (.int l)] x k := by
  show a_with_load _ [.d (dIs ls), .d (.int r), .d (.int l)]
  walk_at "ax"
  rw [cut_to ls r0 r1]
  refine g_addT rfl rfl (by rw [List.length_map, List.length_take]; simp; omega) ?_
  walk_at "ax"
  rw [cut_from ls r0 r1]
  refine g_addT rfl rfl (by rw [List.length_append, List.length_map, List.length_map, List.length_take, List.length_drop]; simp; omega) ?_
  rw [set_cut r0 r1]
  walk_at "ax"
  exact h
/-- the deeds of the first roads of a list, each with what is behind it -/
def nbL (ms ls : List Int) (us : List Nat) : List Nbr := (us.flatMap (deedsAt ms ls)).map fun d => (d, bh ls d.1 d.2)
theorem nb_eq : nb rs ms ls = nbL ms ls (unlR rs ls) := rfl
theorem nbL_snoc (us : List Nat) (u : Nat) : nbL ms ls (us ++ [u]) = nbL ms ls us ++ (deedsAt ms ls u).map fun d => (d, bh ls d.1 d.2) := by
  unfold nbL
  rw [List.flatMap_append, List.map_append]
  simp
theorem nbL_len (us : List Nat) : (nbL ms ls us).length ≤ 2 * us.length := by
  unfold nbL
  rw [List.length_map]
  induction us with
  | nil => simp
  | cons u us ih =>
    rw [List.flatMap_cons, List.length_append, List.length_cons]
    have := deeds_len ms ls u
    omega
theorem deeds_of {u : Nat} {l m : Int} (hl : ls[u]? = some l) (hm : ms[u]? = some m) (l0 : 0 ≤ l) (lm : l ≤ m) : deedsAt ms ls u = (if 0 < l then [((u : Int), -1)] else []) ++ if l < m then [((u : Int), 1)] else [] := by
  unfold deedsAt
  have e1 : roomy ms ls u (-1) = decide (0 < l) := by
    rw [roomy_eq hl hm]
    by_cases h : 0 < l
    · rw [decide_eq_true h, decide_eq_true (by omega), decide_eq_true (by omega)]; rfl
    · rw [decide_eq_false h, decide_eq_false (by omega)]; rfl
  have e2 : roomy ms ls u 1 = decide (l < m) := by
    rw [roomy_eq hl hm]
    by_cases h : l < m
    · rw [decide_eq_true h, decide_eq_true (by omega), decide_eq_true (by omega)]; rfl
    · rw [decide_eq_false h, decide_eq_false (show ¬ l + 1 ≤ m by omega), Bool.and_false]
  by_cases h1 : 0 < l <;> by_cases h2 : l < m <;> simp [List.filter, e1, e2, h1, h2]
theorem s_beside (w : WebJ n rs ms) (st : Stand ms ls) (h : k (.l ((nb rs ms ls).map dNb))) : m_beside [.d (dWeb n rs ms), .d (dIs ls)] x k := by
  have L := w.laid st
  have ll := L.ll
  have rl := w.l
  have lm := w.lm
  show a_beside _ [.d (dWeb n rs ms), .d (dIs ls), .x, .x, .x, .x, .x, .x]
  walk_at "ax"
  refine ⟨n, rs, ms, ls, rfl, L, ⟨?_, fun z => by cases z⟩⟩
  refine i_T rfl ?_
  refine a_loop (fun i α => ∃ x6 x7 : Sot, α = [.d (dWeb n rs ms), .d (dIs ls), .d (.int n), .d (dPs rs), .d (dIs ms), .own ((nbL ms ls ((unlR rs ls).take i)).map dNb), x6, x7]) ⟨_, _, rfl⟩ ?_ ?_
  · rintro i y α hy ⟨x6, x7, rfl⟩
    obtain ⟨u, hu, rfl⟩ := map_at' hy
    have hu2 := List.mem_filter.mp (List.mem_of_getElem? hu)
    have ul := List.mem_range.mp hu2.1
    have hl : ls[u]? = some ls[u] := List.getElem?_eq_getElem (by omega)
    have hm : ms[u]? = some ms[u] := List.getElem?_eq_getElem (by omega)
    generalize ls[u] = l at hl
    generalize ms[u] = m at hm
    have so := st.ok _ _ _ hl hm
    have dl := deeds_of hl hm so.1 so.2
    have lb : (nbL ms ls ((unlR rs ls).take i)).length ≤ 80 := by
      refine Nat.le_trans (nbL_len _) ?_
      have h1 : (unlR rs ls).length ≤ rs.length := by
        unfold unlR
        exact Nat.le_trans (List.length_filter_le ..) (by rw [List.length_range]; exact Nat.le_refl _)
      rw [List.length_take]
      omega
    have at1 : atI (ls.map PyData.int) (u : Int) = some (.int l) := atI_toNat (by omega) (by rw [List.getElem?_map, Int.toNat_natCast, hl]; rfl)
    have at2 : atI (ms.map PyData.int) (u : Int) = some (.int m) := atI_toNat (by omega) (by rw [List.getElem?_map, Int.toNat_natCast, hm]; rfl)
    have bhE : ∀ b : Int, bh ls (u : Int) b = ls.set ((u : Nat) : Int).toNat (l + b) := fun b => by
      unfold bh
      rw [Int.toNat_natCast, nth_getD hl]
    walk_at "ax"
    refine g_ixT rfl at1 ?_
    walk_at "ax"
    refine a_cut (fun α => ∃ x6 x7 : Sot, α = [.d (dWeb n rs ms), .d (dIs ls), .d (.int n), .d (dPs rs), .d (dIs ms), .own ((nbL ms ls ((unlR rs ls).take i) ++ (if 0 < l then [(((u : Int), -1), bh ls u (-1))] else [])).map dNb), .d (.int (u : Int)), .d (.int l)]) ?_ ?_
    · walk_at "ax"
      refine s_dec (fun c => ?_) (fun c => ?_)
      · walk_at "ax"
        refine s_with_load (by omega) (by omega) (by omega) ⟨?_, fun z => by cases z⟩
        walk_at "ax"
        refine ⟨by rw [List.length_map]; omega, ?_⟩
        rw [if_pos c, List.map_append]
        refine ⟨x6, x7, ?_⟩
        rw [show bh ls (u : Int) (-1) = ls.set ((u : Nat) : Int).toNat (l - 1) by rw [bhE]; rfl]
        rfl
      · walk_at "ax"
        rw [if_neg c, List.append_nil]
        exact ⟨x6, x7, rfl⟩
    · rintro α ⟨x6, x7, rfl⟩
      have tk : nbL ms ls ((unlR rs ls).take (i + 1)) = nbL ms ls ((unlR rs ls).take i) ++ (if 0 < l then [(((u : Int), -1), bh ls u (-1))] else []) ++ (if l < m then [(((u : Int), 1), bh ls u 1)] else []) := by
        rw [List.take_add_one, hu]
        show nbL ms ls (_ ++ [u]) = _
        rw [nbL_snoc, dl, List.append_assoc]
        congr 1
        by_cases h1 : 0 < l <;> by_cases h2 : l < m <;> simp [h1, h2]
      rw [tk]
      walk_at "ax"
      refine g_ixT rfl at2 ?_
      walk_at "ax"
      refine s_dec (fun c => ?_) (fun c => ?_)
      · walk_at "ax"
        refine s_with_load (by omega) (by omega) (by omega) ⟨?_, fun z => by cases z⟩
        walk_at "ax"
        refine ⟨?_, ?_⟩
        · rw [List.length_map, List.length_append]
          have : (if 0 < l then [(((u : Int), -1), bh ls (u : Int) (-1))] else []).length ≤ 1 := by split <;> simp
          omega
        rw [if_pos c, List.map_append (l₂ := [(((u : Int), 1), bh ls u 1)])]
        refine ⟨.d (.int (u : Int)), .d (.int l), ?_⟩
        rw [show bh ls (u : Int) 1 = ls.set ((u : Nat) : Int).toNat (l + 1) by rw [bhE]]
        rfl
      · walk_at "ax"
        rw [if_neg c, List.append_nil]
        exact ⟨.d (.int (u : Int)), .d (.int l), rfl⟩
  · rintro α ⟨x6, x7, rfl⟩
    rw [List.length_map, List.take_length, ← nb_eq]
    walk_at "ax"
    exact h
theorem s__law_sums (L : Laid n rs ms ls) (h : k (.l ((sums n rs ls).map .int))) : m__law_sums [.d (dWeb n rs ms), .d (dIs ls)] x k := by
  show a__law_sums _ [.d (dWeb n rs ms), .d (dIs ls), .x, .x, .x, .x]
  have n0 := L.n0
  have n1 := L.n1
  have ll := L.ll
  have r1 := L.r1
  walk_at "ax"
  refine .inr ⟨_, _, rfl, rfl, by omega, by omega, by simp; omega, ?_⟩
  rw [rep_one, ← sums_nil]
  walk_at "ax"
  refine i_zT rfl rfl ?_
  refine a_loop (fun i α => ∃ x3 x4 x5 : Sot, α = [.d (dWeb n rs ms), .d (dIs ls), .own ((sums n (rs.take i) (ls.take i)).map .int), x3, x4, x5]) ⟨.x, .x, .x, by rw [List.take_zero, List.take_zero]; rfl⟩ ?_ ?_
  · rintro i y α hy ⟨x3, x4, x5, rfl⟩
    obtain ⟨u, v, hu, hv, rfl⟩ := ziD_at hy
    obtain ⟨p, hp, rfl⟩ := map_at' hu
    obtain ⟨l, hl, rfl⟩ := map_at' hv
    have o := L.ok p (List.mem_of_getElem? hp)
    have il : i < rs.length := (List.getElem?_eq_some_iff.mp hp).1
    have tl : (rs.take i).length = (ls.take i).length := by rw [List.length_take, List.length_take]; omega
    have e1 := sums_get (n := n) (rs := rs.take i) (ls := ls.take i) (i := p.1) o.1 (by omega)
    have a1 : atI ((sums n (rs.take i) (ls.take i)).map PyData.int) p.1 = some (.int (sumP (rs.take i) (ls.take i) p.1)) := atI_toNat o.1 (by rw [List.getElem?_map, e1]; rfl)
    have e2 := sums_get (n := n) (rs := rs.take i) (ls := ls.take i) (i := p.2) (by omega) o.2.2
    have a2 : atI (((sums n (rs.take i) (ls.take i)).map PyData.int).set p.1.toNat (.int (sumP (rs.take i) (ls.take i) p.1 + l))) p.2 = some (.int (sumP (rs.take i) (ls.take i) p.2)) :=
      atI_toNat (by omega) (by rw [List.getElem?_set_ne (by omega), List.getElem?_map, e2]; rfl)
    walk_at "ax"
    refine g_ixL rfl a1 ?_
    walk_at "ax"
    refine ⟨p.1, p.1.toNat, rfl, by rw [List.length_map, sums_len]; exact ix_int o.1 (by omega), ?_⟩
    walk_at "ax"
    refine g_ixL rfl a2 ?_
    walk_at "ax"
    refine ⟨p.2, p.2.toNat, rfl, by rw [List.length_set, List.length_map, sums_len]; exact ix_int (by omega) (by omega), ?_⟩
    rw [set_ints, set_ints, sums_step tl l o.1 o.2.1 o.2.2, ← take_snoc hp, ← take_snoc hl]
    exact ⟨_, _, _, rfl⟩
  · rintro α ⟨x3, x4, x5, rfl⟩
    have e : (ziD (rs.map dP) (ls.map PyData.int)).length = rs.length := by rw [ziD_len, List.length_map, List.length_map, ll, Nat.min_self]
    rw [e, List.take_length, ← ll, List.take_length]
    walk_at "ax"
    exact h
def nbT (rs : List (Int × Int)) (ms ls : List Int) (i : Nat) : List Nbr := (letTo rs ms ls i).map fun d => (d, bh ls d.1 d.2)
def halfN (ms ls : List Int) (i j : Nat) : List Nbr := ((([-1, 1] : List Int).take j).filter (roomy ms ls i)).map fun b => (((i : Int), b), bh ls i b)
theorem nbT_succ (rs : List (Int × Int)) (ms ls : List Int) (i : Nat) : nbT rs ms ls (i + 1) = nbT rs ms ls i ++ if unl rs ls i = true then halfN ms ls i 2 else [] := by
  unfold nbT
  rw [letTo_succ, List.map_append]
  congr 1
  split
  · unfold deedsAt halfN
    rw [List.map_map]
    rfl
  · rfl
theorem s__law_near (w : WebJ n rs ms) (st : Stand ms ls) (h : k (.l ((nb rs ms ls).map dNb))) : m__law_near [.d (dWeb n rs ms), .d (dIs ls)] x k := by
  have L := w.laid st
  have ll := L.ll
  have rl := w.l
  have lm := w.lm
  show a__law_near _ [.d (dWeb n rs ms), .d (dIs ls), .x, .x, .x, .x, .x, .x, .x]
  walk_at "ax"
  refine s__law_sums L ⟨?_, fun z => by cases z⟩
  walk_at "ax"
  have b80 : ∀ i, i ≤ rs.length → (nbT rs ms ls i).length ≤ 80 := fun i hi => by
    unfold nbT
    rw [List.length_map]
    have := letTo_len rs ms ls i
    omega
  refine a_loop (fun i α => ∃ x3 x4 x5 x6 x7 : Sot, α = [.d (dWeb n rs ms), .d (dIs ls), .own ((sums n rs ls).map .int), x3, x4, x5, x6, x7, .own ((nbT rs ms ls i).map dNb)]) ⟨_, _, _, _, _, rfl⟩ ?_ ?_
  · rintro i y α hy ⟨x3, x4, x5, x6, x7, rfl⟩
    obtain ⟨d, hd, rfl⟩ := enD_at hy
    obtain ⟨p, hp, rfl⟩ := map_at' hd
    have o := L.ok p (List.mem_of_getElem? hp)
    have il : i < rs.length := (List.getElem?_eq_some_iff.mp hp).1
    have hl : ls[i]? = some ls[i] := List.getElem?_eq_getElem (by omega)
    have hm : ms[i]? = some ms[i] := List.getElem?_eq_getElem (by omega)
    generalize ls[i] = l at hl
    generalize ms[i] = m at hm
    have a1 : atI ((sums n rs ls).map PyData.int) p.1 = some (.int (sumP rs ls p.1)) := atI_toNat o.1 (by rw [List.getElem?_map, sums_get o.1 (by omega)]; rfl)
    have a2 : atI ((sums n rs ls).map PyData.int) p.2 = some (.int (sumP rs ls p.2)) := atI_toNat (by omega) (by rw [List.getElem?_map, sums_get (by omega) o.2.2]; rfl)
    have at1 : atI (ls.map PyData.int) (i : Int) = some (.int l) := atI_toNat (by omega) (by rw [List.getElem?_map, Int.toNat_natCast, hl]; rfl)
    have at2 : atI (ms.map PyData.int) (i : Int) = some (.int m) := atI_toNat (by omega) (by rw [List.getElem?_map, Int.toNat_natCast, hm]; rfl)
    have bhE : ∀ b : Int, bh ls (i : Int) b = ls.set ((i : Nat) : Int).toNat (l + b) := fun b => by
      unfold bh
      rw [Int.toNat_natCast, nth_getD hl]
    have ue : unl rs ls i = !decide (sumP rs ls p.1 = sumP rs ls p.2) := by
      unfold unl
      rw [hp]
      rfl
    have nx := nbT_succ rs ms ls i
    have bi := b80 i (by omega)
    walk_at "ax"
    refine g_ixL rfl a1 ?_
    walk_at "ax"
    refine g_ixL rfl a2 ?_
    walk_at "ax"
    refine s_ndec (fun c => ?_) (fun c => ?_)
    · rw [ue, decide_eq_false c] at nx
      walk_at "ax"
      refine a_loop (fun j α => ∃ x6 x7 : Sot, α = [.d (dWeb n rs ms), .d (dIs ls), .own ((sums n rs ls).map .int), .d (.int (i : Int)), .d (.int p.1), .d (.int p.2), x6, x7, .own ((nbT rs ms ls i ++ halfN ms ls i j).map dNb)]) ⟨_, _, by rw [show halfN ms ls i 0 = [] from rfl, List.append_nil]⟩ ?_ ?_
      · rintro j y α hy ⟨x6, x7, rfl⟩
        obtain ⟨b, hb, rfl⟩ : ∃ b : Int, ([-1, 1] : List Int)[j]? = some b ∧ y = .int b := by
          rcases j with _ | _ | j
          · cases hy; exact ⟨-1, rfl, rfl⟩
          · cases hy; exact ⟨1, rfl, rfl⟩
          · simp at hy
        have hj : j < 2 := (List.getElem?_eq_some_iff.mp hb).1
        have hs : halfN ms ls i (j + 1) = halfN ms ls i j ++ if roomy ms ls i b = true then [(((i : Int), b), bh ls i b)] else [] := by
          unfold halfN
          rw [List.take_add_one, hb, List.filter_append, List.map_append]
          congr 1
          by_cases q : roomy ms ls i b = true <;> simp [List.filter, q]
        have hn : (halfN ms ls i j).length ≤ 2 := by
          unfold halfN
          rw [List.length_map]
          refine Nat.le_trans (List.length_filter_le ..) ?_
          rw [List.length_take]
          omega
        rw [hs, roomy_eq hl hm]
        walk_at "ax"
        refine g_ixT rfl at1 ?_
        walk_at "ax"
        refine s_dec (fun c1 => ?_) (fun c1 => ?_)
        · walk_at "ax"
          refine g_ixT rfl at2 ?_
          walk_at "ax"
          rw [decide_eq_true c1]
          refine s_dec (fun c2 => ?_) (fun c2 => ?_)
          · walk_at "ax"
            rw [cut_to ls (by omega) (by omega)]
            refine g_addT rfl rfl (by rw [List.length_map, List.length_take]; simp; omega) ?_
            walk_at "ax"
            rw [cut_from ls (by omega) (by omega)]
            refine g_addT rfl rfl (by rw [List.length_append, List.length_map, List.length_map, List.length_take, List.length_drop]; simp; omega) ?_
            rw [set_cut (by omega) (by omega)]
            walk_at "ax"
            refine ⟨by rw [List.length_map, List.length_append]; omega, ?_⟩
            rw [decide_eq_true c2, Bool.true_and, if_pos rfl, ← List.append_assoc, List.map_append (l₂ := [(((i : Int), b), bh ls i b)]), bhE]
            exact ⟨_, _, rfl⟩
          · walk_at "ax"
            rw [decide_eq_false c2, Bool.and_false, if_neg (by simp), List.append_nil]
            exact ⟨_, _, rfl⟩
        · walk_at "ax"
          rw [decide_eq_false c1, Bool.false_and, if_neg (by simp), List.append_nil]
          exact ⟨_, _, rfl⟩
      · rintro α ⟨x6, x7, rfl⟩
        rw [nx]
        exact ⟨_, _, _, _, _, rfl⟩
    · rw [ue, decide_eq_true c, if_neg (by simp), List.append_nil] at nx
      walk_at "ax"
      rw [nx]
      exact ⟨_, _, _, _, _, rfl⟩
  · rintro α ⟨x3, x4, x5, x6, x7, rfl⟩
    rw [enD_len, List.length_map]
    walk_at "ax"
    exact h
theorem s__law_standing (w : WebJ n rs ms) (h : ∀ ls, Stand ms ls → k (.d (dIs ls))) : m__law_standing [.wl 3, .d (dWeb n rs ms)] x k := by
  have lm := w.lm
  have rl := w.l
  have r0 := List.length_pos_iff.mpr w.ne
  show a__law_standing _ [.wl 3, .d (dWeb n rs ms), .x, .x, .x, .x, .x, .x]
  walk_at "ax"
  refine ⟨_, rfl, by decide, by decide, fun way w0 w1 => ⟨?_, fun z => by cases z⟩⟩
  walk_at "ax"
  refine ⟨by rw [List.length_map]; omega, ?_⟩
  refine a_lcgo (fun i acc => ∃ qs : List Int, acc = qs.map .int ∧ StandTo ms qs i) ⟨[], rfl, StandTo.nil⟩ ?_ ?_
  · rintro i y acc hy ⟨qs, rfl, hq⟩
    obtain ⟨m, hm, rfl⟩ := map_at' hy
    have hb := w.m m (List.mem_of_getElem? hm)
    walk_at "ax"
    refine ⟨_, rfl, by omega, by omega, fun q q0 q1 => ⟨?_, fun z => by cases z⟩⟩
    walk_at "ax"
    exact ⟨qs ++ [q], by rw [List.map_append]; rfl, hq.snoc hm (by omega) (by omega)⟩
  rintro acc ⟨qs, rfl, hq⟩ -
  rw [List.length_map] at hq
  walk_at "ax"
  have sq : Stand ms qs := ⟨hq.1, hq.2⟩
  have lq := hq.1
  refine a_cut (fun α => ∃ (us : List Int) (x4 x5 x6 x7 : Sot), α = [.wl 3, .d (dWeb n rs ms), .d (.int way), .d (.list (us.map .int)), x4, x5, x6, x7] ∧ Stand ms us) ?_ ?_
  · walk_at "ax"
    refine s_dec (fun c => ?_) (fun c => ?_)
    · walk_at "ax"
      refine ⟨_, rfl, by rw [List.length_map]; omega, by rw [List.length_map]; omega, fun q q0 q1 => ⟨?_, fun z => by cases z⟩⟩
      rw [List.length_map] at q1
      walk_at "ax"
      refine ⟨by rw [enD_len, List.length_map]; omega, ?_⟩
      refine a_lcgo (fun i acc => ∃ us : List Int, acc = us.map .int ∧ StandTo ms us i) ⟨[], rfl, StandTo.nil⟩ ?_ ?_
      · rintro i y acc hy ⟨us, rfl, hu⟩
        obtain ⟨d, hd, rfl⟩ := enD_at hy
        obtain ⟨l, hl, rfl⟩ := map_at' hd
        have il := (List.getElem?_eq_some_iff.mp hl).1
        have hm : ms[i]? = some ms[i] := List.getElem?_eq_getElem (by omega)
        generalize ms[i] = m at hm
        have o := sq.ok _ _ _ hl hm
        have hb := w.m m (List.mem_of_getElem? hm)
        walk_at "ax"
        refine s_dec (fun c1 => ?_) (fun c1 => ?_)
        · walk_at "ax"
          exact ⟨us ++ [l], by rw [List.map_append]; rfl, hu.snoc hm o.1 o.2⟩
        · walk_at "ax"
          refine s_dec (fun c2 => ?_) (fun c2 => ?_)
          · walk_at "ax"
            exact ⟨us ++ [0], by rw [List.map_append]; rfl, hu.snoc hm (by omega) (by omega)⟩
          · walk_at "ax"
            refine g_ixT rfl (atI_toNat (by omega) (by rw [List.getElem?_map, Int.toNat_natCast, hm]; rfl)) ?_
            walk_at "ax"
            exact ⟨us ++ [m], by rw [List.map_append]; rfl, hu.snoc hm (by omega) (by omega)⟩
      · rintro acc ⟨us, rfl, hu⟩ -
        rw [enD_len, List.length_map] at hu
        walk_at "ax"
        exact ⟨us, _, _, _, _, rfl, ⟨by rw [hu.1, lq], hu.2⟩⟩
    · walk_at "ax"
      exact ⟨qs, _, _, _, _, rfl, sq⟩
  · rintro α ⟨us, x4, x5, x6, x7, rfl, su⟩
    walk_at "ax"
    exact h us su
end
end UW.Ja
namespace UW.Ja
open PySem PySem.Spec PyProof.Rows L2 UW UW.Bg
/-- one step -/
local macro_rules | `(tactic| walk_at "a1") => `(tactic| first
  | with_reducible refine wk ?_
  | (with_reducible refine rs_go 1 ?_
     first
     | with_reducible refine a_var (by with_unfolding_all rfl) (by with_unfolding_all rfl) ?_
     | with_reducible refine a_gtup (by with_unfolding_all rfl) (by with_unfolding_all rfl) ?_
     | with_reducible refine a_glst (by with_unfolding_all rfl) (by with_unfolding_all rfl) ?_)
  | (with_reducible refine rs_go 2 ?_
     first
     | with_reducible refine g_ixT (by with_unfolding_all rfl) (by first | with_unfolding_all rfl | with_unfolding_all exact at_zero _ _) ?_
     | with_reducible refine g_ixL (by with_unfolding_all rfl) (by first | with_unfolding_all rfl | with_unfolding_all exact at_zero _ _) ?_)
  | (with_reducible refine rs_go 3 ?_
     first
     | with_reducible refine g_lenT (by with_unfolding_all rfl) ?_
     | with_reducible refine g_lenL (by with_unfolding_all rfl) ?_
     | with_reducible refine g_tupL (by with_unfolding_all rfl) ?_
     | with_reducible refine g_tupT (by with_unfolding_all rfl) ?_
     | with_reducible refine g_lstT (by with_unfolding_all rfl) ?_
     | with_reducible refine g_lstL (by with_unfolding_all rfl) ?_)
  | (with_reducible refine rs_go 4 ?_
     first
     | with_reducible refine g_addL (by with_unfolding_all rfl) (by with_unfolding_all rfl) (Nat.le_of_ble_eq_true (by with_unfolding_all rfl)) ?_
     | with_reducible refine g_mulI (by first | exact Or.inl ⟨by decide, by decide⟩ | exact Or.inr ⟨by decide, by decide⟩ | (first | (refine Or.inl ⟨?_, ?_⟩ <;> omega) | (refine Or.inr ⟨?_, ?_⟩ <;> omega))) ?_
     | with_reducible refine g_mod (by first | decide | omega) ?_
     | with_reducible refine g_div (by first | decide | omega) (by first | decide | omega) ?_
     | with_reducible refine g_slT (by with_unfolding_all rfl) ?_
     | with_reducible refine g_slL (by with_unfolding_all rfl) ?_
     | with_reducible refine g_isN (by with_unfolding_all rfl) ?_
     | with_reducible refine g_notN (by with_unfolding_all rfl) ?_)
  | (with_reducible refine rs_go 5 ?_
     first
     | with_reducible refine a_dget (by with_unfolding_all rfl) ?_
     | with_reducible refine a_dget2 (by with_unfolding_all rfl) ?_
     | with_reducible refine a_fzq (by with_unfolding_all rfl) ?_
     | with_reducible refine a_retC (by with_unfolding_all rfl) ?_
     | with_reducible refine a_isX (by with_unfolding_all rfl) ?_
     | with_reducible refine a_app (by with_unfolding_all rfl) ?_
     | with_reducible refine a_ext (by with_unfolding_all rfl) ?_
     | with_reducible refine a_pop (by with_unfolding_all rfl) ?_
     | with_reducible refine a_fz (by with_unfolding_all rfl) ?_
     | with_reducible refine a_lenDV (by with_unfolding_all rfl) ?_)
  | (with_reducible refine rs_go 6 ?_
     first
     | with_reducible refine a_cl (by with_unfolding_all rfl) ?_
     | with_reducible refine a_dat (by with_unfolding_all rfl) ?_
     | with_reducible refine a_s1 (by with_unfolding_all rfl) ?_
     | with_reducible refine a_dcy (by with_unfolding_all rfl) ?_
     | with_reducible refine a_s2 (by with_unfolding_all rfl) (by with_unfolding_all rfl) ?_
     | with_reducible refine a_s3 (by with_unfolding_all rfl) (by with_unfolding_all rfl) (by with_unfolding_all rfl) ?_
     | with_reducible refine a_owned (by with_unfolding_all rfl) ?_)
  | (with_reducible refine rs_go 7 ?_
     first
     | with_reducible refine i_B (by with_unfolding_all rfl) ?_
     | with_reducible refine i_T (by with_unfolding_all rfl) ?_
     | with_reducible refine i_L (by with_unfolding_all rfl) ?_)
  | (with_reducible refine rs_go 8 ?_
     first
     | with_reducible refine a_nb (by with_unfolding_all rfl) ?_
     | with_reducible refine a_len (by with_unfolding_all rfl) ?_
     | with_reducible refine a_revT (by with_unfolding_all rfl) ?_
     | with_reducible refine a_revL (by with_unfolding_all rfl) ?_)
  | (with_reducible refine rs_go 9 ?_
     first
     | with_reducible refine iteNT (by with_unfolding_all rfl) ?_
     | with_reducible refine iteNF (by with_unfolding_all rfl) ?_
     | with_reducible refine iteIT (by with_unfolding_all rfl) ?_
     | with_reducible refine iteIF (by with_unfolding_all rfl) ?_))
local macro_rules | `(tactic| walk_at "ax") => `(tactic| (repeat (first | walk_at "a1" | with_reducible refine a_if ?_); try dsimp only [List.set_cons_zero, List.set_cons_succ, awipe, aFrz, List.getElem?_cons_zero, List.getElem?_cons_succ]))
local macro_rules | `(tactic| walk_at "ay") => `(tactic| (repeat (walk_at "a1"); try dsimp only [List.set_cons_zero, List.set_cons_succ, awipe, aFrz, List.getElem?_cons_zero, List.getElem?_cons_succ]))
def pkL (r : List Int) : List L2.Key := r.map .inl
theorem pkL_inj : ∀ {r s : List Int}, pkL r = pkL s → r = s
  | [], [], _ => rfl
  | [], _ :: _, h => by cases h
  | _ :: _, [], h => by cases h
  | a :: r, b :: s, h => by
    obtain ⟨h1, h2⟩ := List.cons.inj h
    rw [Sum.inl.inj h1, pkL_inj h2]
theorem g_niR {y : Avl} {ws : List Int} {a : Int} {k : Avl → Prop} (e : y.tup = some (ws.map .int)) (h : k (.d (.bool (!decide (a ∈ ws))))) : gIn true (.d (.int a)) y k := by
  refine ⟨_, _, rfl, .inl e, rfl, shaped_tupl (pln_map pln_int), ?_⟩
  show k (.d (.bool (!((ws.map PyData.int).any fun z => PyData.eqv z (.int a)))))
  rw [any_ints]
  exact h
theorem dIs_pk (r : List Int) : dIs r = .tuple ((pkL r).map kD) := by
  unfold dIs pkL
  rw [List.map_map]
  rfl
def kvV (R : List (List Int × PyData)) : List (List L2.Key × PyData) := R.map fun p => (pkL p.1, p.2)
def keysV (R : List (List Int × PyData)) : List (List Int) := R.map (·.1)
theorem kvV_len (R : List (List Int × PyData)) : (kvV R).length = R.length := List.length_map ..
theorem find_kv : ∀ (R : List (List Int × PyData)) (r : List Int), findD (kvV R) (pkL r) = (R.find? fun p => decide (p.1 = r)).map (·.2)
  | [], _ => rfl
  | p :: R, r => by
    have ih := find_kv R r
    unfold findD kvV at ih ⊢
    rw [List.map_cons, List.find?_cons, List.find?_cons]
    by_cases e : p.1 = r
    · rw [decide_eq_true e, decide_eq_true (by rw [e])]; rfl
    · rw [decide_eq_false e, decide_eq_false (fun z => e (pkL_inj z))]; exact ih
theorem find_none {R : List (List Int × PyData)} {r : List Int} (h : r ∉ keysV R) : findD (kvV R) (pkL r) = none := by
  rw [find_kv, List.find?_eq_none.mpr fun p hp => ?_]
  · rfl
  · intro z
    exact h (List.mem_map.mpr ⟨p, hp, of_decide_eq_true z⟩)
theorem find_some {R : List (List Int × PyData)} {r : List Int} (h : r ∈ keysV R) : (findD (kvV R) (pkL r)).isSome = true := by
  obtain ⟨p, hp, e⟩ := List.mem_map.mp h
  rw [find_kv, Option.isSome_map, List.find?_isSome]
  exact ⟨p, hp, decide_eq_true e⟩
theorem put_new {R : List (List Int × PyData)} {r : List Int} {v : PyData} (h : r ∉ keysV R) : putD (kvV R) (pkL r) v = kvV (R ++ [(r, v)]) := by
  unfold putD
  rw [if_neg]
  · unfold kvV; rw [List.map_append]; rfl
  · intro z
    obtain ⟨q, hq, e⟩ := List.any_eq_true.mp z
    obtain ⟨p, hp, rfl⟩ := List.mem_map.mp hq
    exact h (List.mem_map.mpr ⟨p, hp, pkL_inj (of_decide_eq_true e)⟩)
theorem keysV_app (R : List (List Int × PyData)) (r : List Int) (v : PyData) : keysV (R ++ [(r, v)]) = keysV R ++ [r] := by unfold keysV; rw [List.map_append]; rfl
/-- whence each was reached -/
def Par (rs : List (Int × Int)) (ms cl a : List Int) (R : List (List Int × PyData)) : Prop :=
  R[0]? = some (a, .none) ∧ ∀ (j : Nat) (y : List Int) (v : PyData), 0 < j → R[j]? = some (y, v) → ∃ (i : Nat) (e : List Int) (u : PyData) (q : Nbr), i < j ∧ R[i]? = some (e, u) ∧ q ∈ nb rs ms e ∧ q.1.1 ∉ cl ∧ q.2 = y ∧ v = .tuple [dIs e, dP q.1]
theorem Par.add {rs : List (Int × Int)} {ms cl a : List Int} {R : List (List Int × PyData)} (P : Par rs ms cl a R) {i : Nat} {e : List Int} {q : Nbr} (hi : (keysV R)[i]? = some e) (hq : q ∈ nb rs ms e) (hc : q.1.1 ∉ cl) : Par rs ms cl a (R ++ [(q.2, .tuple [dIs e, dP q.1])]) := by
  obtain ⟨p0, P⟩ := P
  have l0 := (List.getElem?_eq_some_iff.mp p0).1
  refine ⟨by rw [List.getElem?_append_left l0]; exact p0, fun j y v j0 hj => ?_⟩
  by_cases h : j < R.length
  · rw [List.getElem?_append_left h] at hj
    obtain ⟨i', e', u, q', h1, h2, h3⟩ := P j y v j0 hj
    exact ⟨i', e', u, q', h1, by rw [List.getElem?_append_left (by omega)]; exact h2, h3⟩
  · rw [List.getElem?_append_right (by omega)] at hj
    have : j - R.length = 0 := by
      have := (List.getElem?_eq_some_iff.mp hj).1
      simp at this
      omega
    rw [this] at hj
    cases hj
    unfold keysV at hi
    rw [List.getElem?_map] at hi
    cases hR : R[i]? with
    | none => rw [hR] at hi; cases hi
    | some p =>
      rw [hR] at hi
      cases hi
      have li := (List.getElem?_eq_some_iff.mp hR).1
      exact ⟨i, p.1, p.2, q, by omega, by rw [List.getElem?_append_left li]; exact hR, hq, hc, rfl, rfl⟩
/-- one more neighbour looked at -/
def stepR (cl own : List Int) (R : List (List Int × PyData)) (q : Nbr) : List (List Int × PyData) := if q.1.1 ∈ cl ∨ q.2 ∈ keysV R then R else R ++ [(q.2, .tuple [dIs own, dP q.1])]
/-- what is reached, in turn -/
def bfsR (rs : List (Int × Int)) (ms cl : List Int) : Nat → Nat → List (List Int × PyData) → List (List Int × PyData)
  | 0, _, R => R
  | f + 1, t, R => match (keysV R)[t]? with
    | some own => bfsR rs ms cl f (t + 1) ((nb rs ms own).foldl (stepR cl own) R)
    | none => R
def allR (rs : List (Int × Int)) (ms cl a : List Int) : List (List Int × PyData) := bfsR rs ms cl (sz ms + 1) 0 [(a, .none)]
theorem bfsR_end {rs : List (Int × Int)} {ms cl : List Int} {f t : Nat} {R : List (List Int × PyData)} (h : (keysV R)[t]? = none) : bfsR rs ms cl f t R = R := by
  cases f with
  | zero => rfl
  | succ f => unfold bfsR; rw [h]
theorem foldl_take {α β : Type} (f : β → α → β) (l : List α) (b : β) {i : Nat} {x : α} (h : l[i]? = some x) : (l.take (i + 1)).foldl f b = f ((l.take i).foldl f b) x := by rw [List.take_add_one, h, List.foldl_append]; rfl
/-- reached, slots web, start, closed, limit, waiting, at, elder, deed, standing, known -/
def t_reached (K : Fg) (C : Cl) (W0 : WX) : TS :=
  (tSeq (tPar3 9 4 5 (tCons (tDisp1T (tVar 1) (tC .non)) (tCons (tLst (tCons (tVar 1)
    tNil)) (tCons (tC (.int 0)) tNil)))) (tSeq (tWhile (tTest (tOp (rLtU K) (tVar 5) (tCB (rLenU K) (tCons (tVar 4) tNil)))) (tSeq (tAsg (tOp (rIx K) (tVar 4) (tVar 5)) (gName 6)) (tSeq (tAsg (tOp (rAddU K) (tVar 5) (tC (.int 1)))
    (gName 5)) (tFor (iSeq K (tG (sp_beside K) E00 (tCons (tVar 0) (tCons (tVar 6) tNil)))) (gTup K 2 (gCons (gName 7) (gCons (gName 8) gNil))) (tIfS (tAnd (tTest (tOp (rNiU K) (tOp (rIx K) (tVar 7) (tC (.int 0))) (tVar 2))) (tB
    (tDNotIn (tVar 8) (tVar 9)))) (tSeq (tIfS (tTest (tOp (rEqU K) (tCB rLenT (tCons (tVar 9) tNil)) (tVar 3))) (tRaise (tMkO C.TooMany (sp_arg K "limit") [] (tCons (tVar 3) tNil)) W0) tNext) (tSeq (sDPut (tVar 9) (tVar 8) (tTup
    (tCons (tVar 6) (tCons (tVar 7) tNil)))) (tDrop (tBM K "list" rAppend (tVar 4) (tCons (tVar 8) tNil))))) tNext))))) (tRet (tVar 9))))
abbrev a_reached_0 (C : Cl) : ASt :=
  (aSeq (aDPut 9 (aVar 8) (aTup (aCons (aVar 6) (aCons (aVar 7) aNil)))) (aApp 4 (aVar 8)))
abbrev a_reached_1 (C : Cl) : ASt :=
  (aFor (aSeqI (aCall0 m_beside (bCons (aVar 0) (bCons (aVar 6) bNil)))) (agTup 2 (agCons (agName 7) (agCons (agName 8) agNil))) (aIfS (aAnd (aB (aOp (gIn true) (aOp gIx (aVar 7) (aC (.int 0)))
    (aVar 2))) (aB (aDNi (aVar 8) 9))) (aSeq (aIfS (aB (aOp gEq (aLenDT 9) (aVar 3))) (aRaiseA C.TooMany "limit" (aVar 3)) aNext) (a_reached_0 C)) aNext))
abbrev a_reached_2 (C : Cl) : ASt :=
  (aSeq (aAsg (aOp gAdd (aVar 5) (aC (.int 1))) (agName 5)) (a_reached_1 C))
abbrev a_reached_3 (C : Cl) : ASt :=
  (aSeq (aWhile (aB (aOp gLt (aVar 5) (aCB gLen (bCons (aVar 4) bNil)))) (aSeq (aAsg (aOp gIx (aVar 4) (aVar 5)) (agName 6)) (a_reached_2 C))) (aRetC 9))
abbrev a_reached (C : Cl) : ASt :=
  (aSeq (aSet3 9 4 5 (aDOneT (aVar 1) (aC .none)) (aLst (aCons (aVar 1) aNil)) (aC (.int 0))) (a_reached_3 C))
theorem f_reached {K : Fg} {C : Cl} {E : WX} (T_TooMany : ExF K C.TooMany C.UnevenError "limit") : RSt K E (t_reached K C E) (a_reached C) :=
  (rs_seq (rs_set3 (re_doneT re_var re_non) (re_lst (ra_cons re_var ra_nil)) re_int)
    (rs_seq (rs_while (rt_test (re_op ro_lt re_var (re_cb rb_len (rv_cons re_var rv_nil)))) (rs_seq (rs_asg (re_op ro_ix re_var re_var) rg_name) (rs_seq (rs_asg (re_op ro_add re_var re_int) rg_name) (rs_for (ri_seq (re_call0
    br_beside (rv_cons re_var (rv_cons re_var rv_nil)))) (rg_tup (rgs_cons rg_name (rgs_cons rg_name rgs_nil))) (rs_ifs (rt_and (rt_test (re_op ro_ni (re_op ro_ix re_var re_int) re_var)) (rt_b (re_dni re_var))) (rs_seq (rs_ifs
    (rt_test (re_op ro_eq re_lenDT re_var)) (rs_raiseA T_TooMany re_var) rs_next) (rs_seq (rs_dput re_var (re_tup (ra_cons re_var (ra_cons re_var ra_nil)))) (rs_app re_var))) rs_next))))) rs_retC))
def m_reached (C : Cl) : AFn := mOf 6 (a_reached C)
def sp_reached (K : Fg) (C : Cl) : Sp := SpA K 4 (m_reached C)
theorem br_reached {K : Fg} {C : Cl} : ∀ vs H Q E, SpA K 4 (m_reached C) vs H Q E → sp_reached K C vs H Q E := fun _ _ _ _ h => h
theorem l_reached {K : Fg} {C : Cl} : ∀ vs H Q E, sp_reached K C vs H Q E → vs.length = 4 := l_spa
theorem p_reached {K : Fg} {C : Cl} (T_TooMany : ExF K C.TooMany C.UnevenError "limit") {vs : List V} {H : Hp} {Q : VK} {E : XK} (h : sp_reached K C vs H Q E) : t_reached K C (fun c d _ H => E c d H) { nx := fun _ H' => Q .non H', rt := Q } (L2.start ["web", "start", "closed", "limit", "waiting", "at", "elder", "deed", "standing", "known"] vs) H :=
  p_spa (f_reached T_TooMany) h rfl
/-- _law_reach, slots web, standing, shut, known, todo, own, deed, further -/
def t__law_reach (K : Fg) : TS :=
  (tSeq (tPar 3 4 (tCons (tDisp1T (tVar 1) (tC (.bl true))) (tCons (tLst (tCons (tVar 1) tNil)) tNil))) (tSeq (tWhile
    (tTest (tOp (rNeU K) (tVar 4) (tLst tNil))) (tSeq (tAsg (tBM0 K "list" rPop (tVar 4)) (gName 5)) (tFor (iSeq K (tG (sp__law_near K) E00 (tCons (tVar 0) (tCons (tVar 5) tNil)))) (gTup K 2 (gCons (gName 6) (gCons (gName 7)
    gNil))) (tIfS (tAnd (tTest (tOp (rNiU K) (tOp (rIx K) (tVar 6) (tC (.int 0))) (tVar 2))) (tB (tDNotIn (tVar 7) (tVar 3)))) (tSeq (sDPut (tVar 3) (tVar 7) (tC (.bl true))) (tDrop (tBM K "list" rAppend (tVar 4) (tCons (tVar 7)
    tNil)))) tNext)))) (tRet (tCB (rSortK skR K) (tCons (tCB rLstDT (tCons (tVar 3) tNil)) tNil)))))
abbrev a__law_reach_0 : ASt :=
  (aFor (aSeqI (aCall0 m__law_near (bCons (aVar 0) (bCons (aVar 5) bNil)))) (agTup 2 (agCons (agName 6) (agCons (agName 7) agNil))) (aIfS (aAnd (aB (aOp (gIn true) (aOp gIx (aVar 6) (aC (.int 0)))
    (aVar 2))) (aB (aDNi (aVar 7) 3))) (aSeq (aDPut 3 (aVar 7) (aC (.bool true))) (aApp 4 (aVar 7))) aNext))
abbrev a__law_reach_1 : ASt :=
  (aRet (aCB gSortR (bCons (aLstD 3) bNil)))
abbrev a__law_reach_2 : ASt :=
  (aSeq (aWhile (aB (aOp gNe (aVar 4) (aLst aNil))) (aSeq (aPopL 4 (agName 5)) a__law_reach_0)) a__law_reach_1)
abbrev a__law_reach : ASt :=
  (aSeq (aSet2 3 4 (aDOneT (aVar 1) (aC (.bool true))) (aLst (aCons (aVar 1) aNil))) a__law_reach_2)
theorem f__law_reach {K : Fg} {E : WX} : RSt K E (t__law_reach K) a__law_reach :=
  (rs_seq (rs_set2 (re_doneT re_var re_bl) (re_lst (ra_cons re_var ra_nil))) (rs_seq (rs_while (rt_test (re_op ro_ne re_var (re_lst ra_nil))) (rs_seq
    (rs_popL rg_name) (rs_for (ri_seq (re_call0 br__law_near (rv_cons re_var (rv_cons re_var rv_nil)))) (rg_tup (rgs_cons rg_name (rgs_cons rg_name rgs_nil))) (rs_ifs (rt_and (rt_test (re_op ro_ni (re_op ro_ix re_var re_int)
    re_var)) (rt_b (re_dni re_var))) (rs_seq (rs_dput re_var re_bl) (rs_app re_var)) rs_next)))) (rs_ret (re_cb rb_sortR (rv_cons re_lstD rv_nil)))))
def m__law_reach : AFn := mOf 5 a__law_reach
def sp__law_reach (K : Fg) : Sp := SpA K 3 m__law_reach
theorem br__law_reach {K : Fg} : ∀ vs H Q E, SpA K 3 m__law_reach vs H Q E → sp__law_reach K vs H Q E := fun _ _ _ _ h => h
theorem l__law_reach {K : Fg} : ∀ vs H Q E, sp__law_reach K vs H Q E → vs.length = 3 := l_spa
theorem p__law_reach {K : Fg} {vs : List V} {H : Hp} {Q : VK} {E : XK} (h : sp__law_reach K vs H Q E) : t__law_reach K { nx := fun _ H' => Q .non H', rt := Q } (L2.start ["web", "standing", "shut", "known", "todo", "own", "deed", "further"] vs) H :=
  p_spa (f__law_reach) h rfl
section
variable {x : AXc} {k : Avl → Prop} {n : Int} {rs : List (Int × Int)} {ms ls a cl : List Int} {C : Cl}
theorem w_few (w : WebJ n rs ms) (sa : Stand ms a) {K : List (List Int)} {P : List Int → Nbr → Prop} (W : Wl rs ms cl a K P) : K.length ≤ sz ms := few W.nd fun y hy => (W.r y hy).ok w sa
theorem s_reached {lim : Int} (w : WebJ n rs ms) (sa : Stand ms a) (hb : (sz ms : Int) < lim) (h1 : sz ms ≤ 1000) (h : ∀ R, R = allR rs ms cl a → Par rs ms cl a R → (keysV R).Nodup → (∀ y, y ∈ keysV R ↔ Rch rs ms cl a y) → k (.k (.t (kvV R)))) : m_reached C [.d (dWeb n rs ms), .d (dIs a), .d (dIs cl), .d (.int lim)] x k := by
  show a_reached C _ [.d (dWeb n rs ms), .d (dIs a), .d (dIs cl), .d (.int lim), .x, .x, .x, .x, .x, .x]
  walk_at "ax"
  refine ⟨pkL a, .none, by rw [dIs_pk], rfl, ?_⟩
  walk_at "ax"
  refine a_while (fun c α => ∃ (R : List (List Int × PyData)) (t : Nat) (x6 x7 x8 : Sot), α = [.d (dWeb n rs ms), .d (dIs a), .d (dIs cl), .d (.int lim), .own ((keysV R).map dIs), .d (.int (t : Int)), x6, x7, x8, .dic (.t (kvV R))] ∧ Par rs ms cl a R ∧ Wl rs ms cl a (keysV R) (fun y _ => y ∈ (keysV R).drop t) ∧ t ≤ R.length ∧ c + t = sz ms + 1 ∧ bfsR rs ms cl c t R = allR rs ms cl a) (sz ms + 1) ?_ ?_
  · refine ⟨[(a, .none)], 0, _, _, _, rfl, ⟨rfl, fun j y v j0 hj => ?_⟩, Wl.nil.mono fun y hy q _ _ e => .inr (by rw [e]; exact List.mem_singleton.mpr rfl), by simp, rfl, rfl⟩
    rw [List.getElem?_eq_none (by simp; omega)] at hj
    cases hj
  rintro c α ⟨R, t, x6, x7, x8, rfl, P, W, tl, hc, hB⟩
  have kl : (keysV R).length = R.length := List.length_map ..
  have fw := w_few w sa W
  walk_at "ax"
  rw [List.length_map, kl]
  refine s_dec (fun c1 => ?_) (fun c1 => ?_)
  · have tR : t < R.length := by omega
    have ho : (keysV R)[t]? = some (keysV R)[t] := List.getElem?_eq_getElem (by omega)
    generalize (keysV R)[t] = own at ho
    have so : Stand ms own := (W.r _ (List.mem_of_getElem? ho)).ok w sa
    walk_at "ax"
    refine g_ixL rfl (atI_toNat (by omega) (by rw [List.getElem?_map, Int.toNat_natCast, ho]; rfl)) ?_
    walk_at "ax"
    refine s_beside w so ⟨?_, fun z => by cases z⟩
    refine i_L rfl ?_
    obtain ⟨R0, eR0⟩ : ∃ R0, R0 = R := ⟨R, rfl⟩
    have W0 : Wl rs ms cl a (keysV R) (fun y q => y ∈ (keysV R).drop (t + 1) ∨ (y = own ∧ q ∈ (nb rs ms own).drop 0)) := W.mono fun y hy q hq hc hd => by
      rw [List.drop_eq_getElem_cons (by omega)] at hd
      rcases List.mem_cons.mp hd with e | e
      · have : (keysV R)[t] = own := by
          have := List.getElem?_eq_getElem (l := keysV R) (i := t) (by omega)
          rw [ho] at this
          exact (Option.some.inj this).symm
        rw [this] at e
        exact .inr (.inr ⟨e, by rw [← e]; exact hq⟩)
      · exact .inr (.inl e)
    refine a_loop (fun i α => ∃ (R : List (List Int × PyData)) (x7 x8 : Sot), α = [.d (dWeb n rs ms), .d (dIs a), .d (dIs cl), .d (.int lim), .own ((keysV R).map dIs), .d (.int ((t : Int) + 1)), .d (dIs own), x7, x8, .dic (.t (kvV R))] ∧ Par rs ms cl a R ∧ Wl rs ms cl a (keysV R) (fun y q => y ∈ (keysV R).drop (t + 1) ∨ (y = own ∧ q ∈ (nb rs ms own).drop i)) ∧ t < R.length ∧ (keysV R)[t]? = some own ∧ R = ((nb rs ms own).take i).foldl (stepR cl own) R0) ⟨R, _, _, rfl, P, W0, tR, ho, eR0.symm⟩ ?_ ?_
    · clear W W0 P ho tR fw kl tl c1 hc hB eR0
      rintro i y α hy ⟨R, x7, x8, rfl, P, W, tR, ho, hF⟩
      obtain ⟨q, hq, rfl⟩ := map_at' hy
      have kl : (keysV R).length = R.length := List.length_map ..
      have fw := w_few w sa W
      have qm := List.mem_of_getElem? hq
      have li := (List.getElem?_eq_some_iff.mp hq).1
      have dr : (nb rs ms own).drop i = q :: (nb rs ms own).drop (i + 1) := by
        rw [List.drop_eq_getElem_cons li]
        congr 1
        have := List.getElem?_eq_getElem li
        rw [hq] at this
        exact (Option.some.inj this).symm
      walk_at "ax"
      refine g_niR rfl ?_
      walk_at "ax"
      refine s_ndec (fun c1 => ?_) (fun c1 => ?_)
      · walk_at "ax"
        refine ⟨_, _, rfl, ⟨pkL q.2, by rw [dIs_pk], rfl⟩, ?_⟩
        walk_at "ax"
        by_cases c2 : q.2 ∈ keysV R
        · rw [find_some c2]
          walk_at "ax"
          refine ⟨R, _, _, rfl, P, W.mono fun y hy p hp hc hd => ?_, tR, ho, ?_⟩
          · rcases hd with hd | ⟨e, hd⟩
            · exact .inr (.inl hd)
            · rw [dr] at hd
              rcases List.mem_cons.mp hd with rfl | hd
              · exact .inl c2
              · exact .inr (.inr ⟨e, hd⟩)
          · rw [foldl_take _ _ _ hq, ← hF]
            unfold stepR
            rw [if_pos (.inr c2)]
        · rw [find_none c2]
          have hF' := (foldl_take (stepR cl own) _ R0 hq).symm
          rw [← hF] at hF'
          unfold stepR at hF'
          rw [if_neg (fun z => z.elim c1 c2)] at hF'
          refine iteT' rfl ?_
          walk_at "ax"
          rw [kvV_len]
          refine s_dec (fun c3 => ?_) (fun c3 => ?_)
          · exact absurd c3 (by omega)
          walk_at "ax"
          refine ⟨_, ⟨pkL q.2, by rw [dIs_pk], by rw [kvV_len]; omega, rfl⟩, ?_⟩
          rw [put_new c2]
          walk_at "ax"
          refine ⟨by rw [List.length_map]; omega, ?_⟩
          refine ⟨R ++ [(q.2, .tuple [dIs own, dP q.1])], .d (dP q.1), .d (dIs q.2), ?_, P.add ho qm c1, ?_, by rw [List.length_append]; omega, ?_, hF'⟩
          · rw [keysV_app, List.map_append]
            rfl
          · rw [keysV_app]
            refine (W.add (List.mem_of_getElem? ho) qm c1 c2).mono fun y hy p hp hc hd => ?_
            have up : y ∈ (keysV R).drop (t + 1) → y ∈ (keysV R ++ [q.2]).drop (t + 1) := fun h => by
              rw [List.drop_append_of_le_length (by omega)]
              exact List.mem_append_left _ h
            rcases hd with (hd | ⟨e, hd⟩) | hd
            · exact .inr (.inl (up hd))
            · rw [dr] at hd
              rcases List.mem_cons.mp hd with rfl | hd
              · exact .inl (List.mem_append_right _ (List.mem_singleton.mpr rfl))
              · exact .inr (.inr ⟨e, hd⟩)
            · refine .inr (.inl ?_)
              rw [List.drop_append_of_le_length (by omega), hd]
              exact List.mem_append_right _ (List.mem_singleton.mpr rfl)
          · rw [keysV_app, List.getElem?_append_left (by omega)]
            exact ho
      · walk_at "ax"
        refine ⟨R, _, _, rfl, P, W.mono fun y hy p hp hc hd => ?_, tR, ho, ?_⟩
        · rcases hd with hd | ⟨e, hd⟩
          · exact .inr (.inl hd)
          · rw [dr] at hd
            rcases List.mem_cons.mp hd with rfl | hd
            · exact absurd c1 hc
            · exact .inr (.inr ⟨e, hd⟩)
        · rw [foldl_take _ _ _ hq, ← hF]
          unfold stepR
          rw [if_pos (.inl c1)]
    · have ho0 := ho
      rintro α ⟨R, x7, x8, rfl, P, W, tR, ho, hF⟩
      have fw := w_few w sa W
      have kl : (keysV R).length = R.length := List.length_map ..
      refine ⟨c - 1, by omega, R, t + 1, _, _, _, rfl, P, W.mono fun y hy p hp hc hd => ?_, tR, by omega, ?_⟩
      · rcases hd with hd | ⟨e, hd⟩
        · exact .inr hd
        · rw [List.length_map, List.drop_length] at hd
          cases hd
      · rw [← hB]
        obtain ⟨f, rfl⟩ : ∃ f, c = f + 1 := ⟨c - 1, by omega⟩
        rw [← eR0] at ho0 ⊢
        show _ = (match (keysV R0)[t]? with | some own => bfsR rs ms cl f (t + 1) ((nb rs ms own).foldl (stepR cl own) R0) | none => R0)
        rw [ho0]
        rw [List.length_map, List.take_length] at hF
        rw [hF]
        rfl
  · walk_at "ax"
    have e : (keysV R).drop t = [] := List.drop_eq_nil_of_le (by omega)
    have W2 : Wl rs ms cl a (keysV R) (fun _ _ => False) := W.mono fun y hy q hq hc hd => by rw [e] at hd; cases hd
    exact h R (by rw [← hB, bfsR_end (List.getElem?_eq_none (by omega))]) P W.nd fun y => W2.iff
/-- the rows that one comes to, ascending -/
structure Rl (rs : List (Int × Int)) (ms cl a : List Int) (L : List (List Int)) : Prop where
  nd : L.Nodup
  up : L.Pairwise (fun p q => p ≤ q)
  m : ∀ y, y ∈ L ↔ Rch rs ms cl a y
def tru (K : List (List Int)) : List (List Int × PyData) := K.map fun r => (r, .bool true)
theorem tru_keys (K : List (List Int)) : keysV (tru K) = K := by
  unfold keysV tru
  rw [List.map_map]
  exact List.map_id K
theorem tru_app (K : List (List Int)) (r : List Int) : tru K ++ [(r, .bool true)] = tru (K ++ [r]) := by unfold tru; rw [List.map_append]; rfl
theorem tru_len (K : List (List Int)) : (tru K).length = K.length := List.length_map ..
theorem pln_dIs (l : List Int) : Pln (dIs l) := ⟨by unfold dIs; simp only [PyData.canLay0, canLay_ints], by unfold dIs; simp only [PyData.depth, depth_ints]; omega⟩
theorem eqv_rows_nil (T : List (List Int)) : PyData.eqv (.list (T.map dIs)) (.list []) = decide (T = []) := by
  cases T with
  | nil => simp [PyData.eqv, PyData.eqvAll]
  | cons r T => simp [PyData.eqv, PyData.eqvAll]
theorem s__law_reach (w : WebJ n rs ms) (sa : Stand ms a) (h1 : sz ms ≤ 1000) (h : ∀ L, Rl rs ms cl a L → k (.l (L.map dIs))) : m__law_reach [.d (dWeb n rs ms), .d (dIs a), .d (dIs cl)] x k := by
  have rne := w.ne
  have r0 := List.length_pos_iff.mpr w.ne
  show a__law_reach _ [.d (dWeb n rs ms), .d (dIs a), .d (dIs cl), .x, .x, .x, .x, .x]
  walk_at "ax"
  refine ⟨pkL a, .bool true, by rw [dIs_pk], rfl, ?_⟩
  walk_at "ax"
  refine a_while (fun c α => ∃ (K T : List (List Int)) (x5 x6 x7 : Sot), α = [.d (dWeb n rs ms), .d (dIs a), .d (dIs cl), .dic (.t (kvV (tru K))), .own (T.map dIs), x5, x6, x7] ∧ Wl rs ms cl a K (fun y _ => y ∈ T) ∧ (∀ y ∈ T, y ∈ K) ∧ c = 2 * (sz ms - K.length) + T.length ∧ T.length ≤ K.length) (2 * (sz ms - 1) + 1) ?_ ?_
  · exact ⟨[a], [a], _, _, _, rfl, Wl.nil.mono fun y hy q _ _ e => .inr (by rw [e]; exact List.mem_singleton.mpr rfl), fun y hy => hy, rfl, Nat.le_refl _⟩
  rintro c α ⟨K, T, x5, x6, x7, rfl, W, TK, hc, tl⟩
  have fw := w_few w sa W
  walk_at "ax"
  refine g_neD rfl rfl (shaped_list (pln_map pln_dIs)) (by rfl) ?_
  rw [eqv_rows_nil]
  walk_at "ax"
  refine s_ndec (fun c1 => ?_) (fun c1 => ?_)
  · obtain ⟨T', own, rfl⟩ := snoc_of c1
    have ok : own ∈ K := TK own (List.mem_append_right _ (List.mem_singleton.mpr rfl))
    have so : Stand ms own := (W.r _ ok).ok w sa
    walk_at "ax"
    refine ⟨T'.map dIs, dIs own, by rw [List.map_append]; rfl, ?_⟩
    walk_at "ax"
    refine s__law_near w so ⟨?_, fun z => by cases z⟩
    refine i_L rfl ?_
    have W0 : Wl rs ms cl a K (fun y q => y ∈ T' ∨ (y = own ∧ q ∈ (nb rs ms own).drop 0)) := W.mono fun y hy q hq hc hd => by
      rcases List.mem_append.mp hd with e | e
      · exact .inr (.inl e)
      · rw [List.mem_singleton] at e
        exact .inr (.inr ⟨e, by rw [← e]; exact hq⟩)
    have TK' : ∀ y ∈ T', y ∈ K := fun y hy => TK y (List.mem_append_left _ hy)
    rw [List.length_append, List.length_singleton] at hc tl
    refine a_loop (fun i α => ∃ (K T : List (List Int)) (x6 x7 : Sot), α = [.d (dWeb n rs ms), .d (dIs a), .d (dIs cl), .dic (.t (kvV (tru K))), .own (T.map dIs), .d (dIs own), x6, x7] ∧ Wl rs ms cl a K (fun y q => y ∈ T ∨ (y = own ∧ q ∈ (nb rs ms own).drop i)) ∧ (∀ y ∈ T, y ∈ K) ∧ own ∈ K ∧ 2 * (sz ms - K.length) + T.length < c ∧ T.length ≤ K.length) ⟨K, T', _, _, rfl, W0, TK', ok, by omega, by omega⟩ ?_ ?_
    · clear W W0 TK TK' ok fw hc tl c1
      rintro i y α hy ⟨K, T, x6, x7, rfl, W, TK, ok, hc, tl⟩
      obtain ⟨q, hq, rfl⟩ := map_at' hy
      have fw := w_few w sa W
      have qm := List.mem_of_getElem? hq
      have li := (List.getElem?_eq_some_iff.mp hq).1
      have dr : (nb rs ms own).drop i = q :: (nb rs ms own).drop (i + 1) := by
        rw [List.drop_eq_getElem_cons li]
        congr 1
        have := List.getElem?_eq_getElem li
        rw [hq] at this
        exact (Option.some.inj this).symm
      walk_at "ax"
      refine g_niR rfl ?_
      walk_at "ax"
      refine s_ndec (fun c1 => ?_) (fun c1 => ?_)
      · walk_at "ax"
        refine ⟨_, _, rfl, ⟨pkL q.2, by rw [dIs_pk], rfl⟩, ?_⟩
        walk_at "ax"
        by_cases c2 : q.2 ∈ keysV (tru K)
        · rw [find_some c2]
          walk_at "ax"
          rw [tru_keys] at c2
          refine ⟨K, T, _, _, rfl, W.mono fun y hy p hp hc hd => ?_, TK, ok, hc, tl⟩
          rcases hd with hd | ⟨e, hd⟩
          · exact .inr (.inl hd)
          · rw [dr] at hd
            rcases List.mem_cons.mp hd with rfl | hd
            · exact .inl c2
            · exact .inr (.inr ⟨e, hd⟩)
        · rw [find_none c2]
          refine iteT' rfl ?_
          walk_at "ax"
          refine ⟨_, ⟨pkL q.2, by rw [dIs_pk], by rw [kvV_len, tru_len]; omega, rfl⟩, ?_⟩
          rw [put_new c2, tru_app]
          rw [tru_keys] at c2
          have W1 := W.add ok qm c1 c2
          have fw1 := w_few w sa W1
          rw [List.length_append, List.length_singleton] at fw1
          walk_at "ax"
          refine ⟨by rw [List.length_map]; omega, ?_⟩
          refine ⟨K ++ [q.2], T ++ [q.2], .d (dP q.1), .d (dIs q.2), by rw [List.map_append]; rfl, W1.mono fun y hy p hp hc hd => ?_, fun y hy => ?_, List.mem_append_left _ ok, ?_, ?_⟩
          · rcases hd with (hd | ⟨e, hd⟩) | hd
            · exact .inr (.inl (List.mem_append_left _ hd))
            · rw [dr] at hd
              rcases List.mem_cons.mp hd with rfl | hd
              · exact .inl (List.mem_append_right _ (List.mem_singleton.mpr rfl))
              · exact .inr (.inr ⟨e, hd⟩)
            · exact .inr (.inl (List.mem_append_right _ (List.mem_singleton.mpr hd)))
          · rcases List.mem_append.mp hy with hy | hy
            · exact List.mem_append_left _ (TK y hy)
            · exact List.mem_append_right _ hy
          · rw [List.length_append, List.length_append, List.length_singleton]
            omega
          · rw [List.length_append, List.length_append]
            omega
      · walk_at "ax"
        refine ⟨K, T, _, _, rfl, W.mono fun y hy p hp hc hd => ?_, TK, ok, hc, tl⟩
        rcases hd with hd | ⟨e, hd⟩
        · exact .inr (.inl hd)
        · rw [dr] at hd
          rcases List.mem_cons.mp hd with rfl | hd
          · exact absurd c1 hc
          · exact .inr (.inr ⟨e, hd⟩)
    · rintro α ⟨K, T, x6, x7, rfl, W, TK, ok, hc, tl⟩
      refine ⟨_, hc, K, T, _, _, _, rfl, W.mono fun y hy p hp hc hd => ?_, TK, rfl, tl⟩
      rcases hd with hd | ⟨e, hd⟩
      · exact .inr hd
      · rw [List.length_map, List.drop_length] at hd
        cases hd
  · subst c1
    have W2 : Wl rs ms cl a K (fun _ _ => False) := W.mono fun y hy q hq hc hd => by cases hd
    walk_at "ax"
    refine ⟨_, K, rfl, ?_, fun r hr z => ?_, fun qs pm pw => ?_⟩
    · show Avl.lst (.l _) = _
      unfold kvV tru
      rw [List.map_map, List.map_map]
      exact congrArg some (List.map_congr_left fun r hr => (dIs_pk r).symm)
    · have e1 := ((W.r r hr).ok w sa).len
      have e2 := w.lm
      rw [z] at e1
      simp at e1
      omega
    · walk_at "ax"
      exact h qs ⟨pm.nodup_iff.mpr W.nd, pw, fun y => by rw [pm.mem_iff]; exact W2.iff⟩
end
end UW.Ja
namespace UW.Ja
open PySem PySem.Spec PyProof.Rows L2 UW UW.Bg
/-- one step -/
local macro_rules | `(tactic| walk_at "a1") => `(tactic| first
  | with_reducible refine wk ?_
  | (with_reducible refine rs_go 1 ?_
     first
     | with_reducible refine a_var (by with_unfolding_all rfl) (by with_unfolding_all rfl) ?_
     | with_reducible refine a_gtup (by with_unfolding_all rfl) (by with_unfolding_all rfl) ?_
     | with_reducible refine a_glst (by with_unfolding_all rfl) (by with_unfolding_all rfl) ?_)
  | (with_reducible refine rs_go 2 ?_
     first
     | with_reducible refine g_ixT (by with_unfolding_all rfl) (by first | with_unfolding_all rfl | with_unfolding_all exact at_zero _ _) ?_
     | with_reducible refine g_ixL (by with_unfolding_all rfl) (by first | with_unfolding_all rfl | with_unfolding_all exact at_zero _ _) ?_)
  | (with_reducible refine rs_go 3 ?_
     first
     | with_reducible refine g_lenT (by with_unfolding_all rfl) ?_
     | with_reducible refine g_lenL (by with_unfolding_all rfl) ?_
     | with_reducible refine g_tupL (by with_unfolding_all rfl) ?_
     | with_reducible refine g_tupT (by with_unfolding_all rfl) ?_
     | with_reducible refine g_lstT (by with_unfolding_all rfl) ?_
     | with_reducible refine g_lstL (by with_unfolding_all rfl) ?_)
  | (with_reducible refine rs_go 4 ?_
     first
     | with_reducible refine g_addL (by with_unfolding_all rfl) (by with_unfolding_all rfl) (Nat.le_of_ble_eq_true (by with_unfolding_all rfl)) ?_
     | with_reducible refine g_mulI (by first | exact Or.inl ⟨by decide, by decide⟩ | exact Or.inr ⟨by decide, by decide⟩ | (first | (refine Or.inl ⟨?_, ?_⟩ <;> omega) | (refine Or.inr ⟨?_, ?_⟩ <;> omega))) ?_
     | with_reducible refine g_mod (by first | decide | omega) ?_
     | with_reducible refine g_div (by first | decide | omega) (by first | decide | omega) ?_
     | with_reducible refine g_slT (by with_unfolding_all rfl) ?_
     | with_reducible refine g_slL (by with_unfolding_all rfl) ?_
     | with_reducible refine g_isN (by with_unfolding_all rfl) ?_
     | with_reducible refine g_notN (by with_unfolding_all rfl) ?_)
  | (with_reducible refine rs_go 5 ?_
     first
     | with_reducible refine a_dget (by with_unfolding_all rfl) ?_
     | with_reducible refine a_dget2 (by with_unfolding_all rfl) ?_
     | with_reducible refine a_fzq (by with_unfolding_all rfl) ?_
     | with_reducible refine a_retC (by with_unfolding_all rfl) ?_
     | with_reducible refine a_isX (by with_unfolding_all rfl) ?_
     | with_reducible refine a_app (by with_unfolding_all rfl) ?_
     | with_reducible refine a_ext (by with_unfolding_all rfl) ?_
     | with_reducible refine a_pop (by with_unfolding_all rfl) ?_
     | with_reducible refine a_fz (by with_unfolding_all rfl) ?_
     | with_reducible refine a_lenDV (by with_unfolding_all rfl) ?_)
  | (with_reducible refine rs_go 6 ?_
     first
     | with_reducible refine a_cl (by with_unfolding_all rfl) ?_
     | with_reducible refine a_dat (by with_unfolding_all rfl) ?_
     | with_reducible refine a_s1 (by with_unfolding_all rfl) ?_
     | with_reducible refine a_dcy (by with_unfolding_all rfl) ?_
     | with_reducible refine a_s2 (by with_unfolding_all rfl) (by with_unfolding_all rfl) ?_
     | with_reducible refine a_s3 (by with_unfolding_all rfl) (by with_unfolding_all rfl) (by with_unfolding_all rfl) ?_
     | with_reducible refine a_owned (by with_unfolding_all rfl) ?_)
  | (with_reducible refine rs_go 7 ?_
     first
     | with_reducible refine i_B (by with_unfolding_all rfl) ?_
     | with_reducible refine i_T (by with_unfolding_all rfl) ?_
     | with_reducible refine i_L (by with_unfolding_all rfl) ?_)
  | (with_reducible refine rs_go 8 ?_
     first
     | with_reducible refine a_nb (by with_unfolding_all rfl) ?_
     | with_reducible refine a_len (by with_unfolding_all rfl) ?_
     | with_reducible refine a_revT (by with_unfolding_all rfl) ?_
     | with_reducible refine a_revL (by with_unfolding_all rfl) ?_)
  | (with_reducible refine rs_go 9 ?_
     first
     | with_reducible refine iteNT (by with_unfolding_all rfl) ?_
     | with_reducible refine iteNF (by with_unfolding_all rfl) ?_
     | with_reducible refine iteIT (by with_unfolding_all rfl) ?_
     | with_reducible refine iteIF (by with_unfolding_all rfl) ?_))
local macro_rules | `(tactic| walk_at "ax") => `(tactic| (repeat (first | walk_at "a1" | with_reducible refine a_if ?_); try dsimp only [List.set_cons_zero, List.set_cons_succ, awipe, aFrz, List.getElem?_cons_zero, List.getElem?_cons_succ]))
local macro_rules | `(tactic| walk_at "ay") => `(tactic| (repeat (walk_at "a1"); try dsimp only [List.set_cons_zero, List.set_cons_succ, awipe, aFrz, List.getElem?_cons_zero, List.getElem?_cons_succ]))
instance {e : AEx} {X : AXr} {α : Afr} {k : Avl → Prop} : Wk (aDictT e X α k) (e X α fun x => ∃ kvs : List (TKey × PyData), x.lst = some (kvs.map fun q => .tuple [.tuple (q.1.map kD), q.2]) ∧ k (.k (.t (mergeD [] kvs)))) := ⟨fun h => h⟩
/-- way_to, slots known, standing, found, step -/
def t_way_to (K : Fg) : TS :=
  (tSeq (tAsg (tLst tNil) (gName 2)) (tSeq (tAsg (tDGet (tVar 0) (tVar 1)) (gName 3)) (tSeq (tWhile (tTest (tOp rNotN (tVar 3) (tC .non))) (tSeq (tDrop
    (tBM K "list" rAppend (tVar 2) (tCons (tOp (rIx K) (tVar 3) (tC (.int 1))) tNil))) (tAsg (tDGet (tVar 0) (tOp (rIx K) (tVar 3) (tC (.int 0)))) (gName 3)))) (tRet (tCB (rTupOf K) (tCons (tRev K (tVar 2)) tNil))))))
abbrev a_way_to_0 : ASt :=
  (aAsg (aEGet (aVar 0) (aOp gIx (aVar 3) (aC (.int 0)))) (agName 3))
abbrev a_way_to_1 : ASt :=
  (aRet (aCB gTupOf (bCons (aRev (aVar 2)) bNil)))
abbrev a_way_to_2 : ASt :=
  (aSeq (aWhile (aB (aOp gNotN (aVar 3) (aC .none))) (aSeq (aApp 2 (aOp gIx (aVar 3) (aC (.int 1)))) a_way_to_0)) a_way_to_1)
abbrev a_way_to_3 : ASt :=
  (aSeq (aAsg (aEGet (aVar 0) (aVar 1)) (agName 3)) a_way_to_2)
abbrev a_way_to : ASt :=
  (aSeq (aSet 2 (aLst aNil)) a_way_to_3)
theorem f_way_to {K : Fg} {E : WX} : RSt K E (t_way_to K) a_way_to :=
  (rs_seq (rs_set (re_lst ra_nil)) (rs_seq (rs_asg (re_eget re_var re_var) rg_name) (rs_seq (rs_while (rt_test (re_op ro_notN re_var re_non)) (rs_seq (rs_app
    (re_op ro_ix re_var re_int)) (rs_asg (re_eget re_var (re_op ro_ix re_var re_int)) rg_name))) (rs_ret (re_cb rb_tupOf (rv_cons (re_rev re_var) rv_nil))))))
def m_way_to : AFn := mOf 2 a_way_to
def sp_way_to (K : Fg) : Sp := SpA K 2 m_way_to
theorem br_way_to {K : Fg} : ∀ vs H Q E, SpA K 2 m_way_to vs H Q E → sp_way_to K vs H Q E := fun _ _ _ _ h => h
theorem l_way_to {K : Fg} : ∀ vs H Q E, sp_way_to K vs H Q E → vs.length = 2 := l_spa
theorem p_way_to {K : Fg} {vs : List V} {H : Hp} {Q : VK} {E : XK} (h : sp_way_to K vs H Q E) : t_way_to K { nx := fun _ H' => Q .non H', rt := Q } (L2.start ["known", "standing", "found", "step"] vs) H :=
  p_spa (f_way_to) h rfl
/-- closed_way, slots web, one, other, closed, known -/
def t_closed_way (K : Fg) (C : Cl) (W0 : WX) : TS :=
  (tSeq (tAsg (tG (sp_reached K C) (WE W0) (tCons (tVar 0) (tCons (tVar 1) (tCons (tVar 3) (tCons (tC (.int 2000))
    tNil))))) (gName 4)) (tRet (tIf (tB (tDIn (tVar 2) (tVar 4))) (tG (sp_way_to K) E00 (tCons (tVar 4) (tCons (tVar 2) tNil))) (tC .non))))
abbrev a_closed_way_0 (C : Cl) : ASt :=
  (aFzD 4 (aRet (aIf (aB (aEIn (aVar 2) (aVar 4))) (aCall0 m_way_to (bCons (aVar 4) (bCons (aVar 2) bNil))) (aC .none))))
abbrev a_closed_way (C : Cl) : ASt :=
  (aSeq (aSet 4 (aCall (m_reached C) (bCons (aVar 0) (bCons (aVar 1) (bCons (aVar 3) (bCons (aC (.int 2000)) bNil)))))) (a_closed_way_0 C))
theorem f_closed_way {K : Fg} {C : Cl} {E : WX} : RSt K E (t_closed_way K C E) (a_closed_way C) :=
  (rs_seq (rs_set (re_call br_reached (fun _ _ _ _ h => h) (rv_cons re_var (rv_cons re_var (rv_cons re_var (rv_cons re_int
    rv_nil)))))) (rs_fzD (rs_ret (re_if (rt_test (re_ein re_var re_var)) (re_call0 br_way_to (rv_cons re_var (rv_cons re_var rv_nil))) re_non))))
def m_closed_way (C : Cl) : AFn := mOf 1 (a_closed_way C)
def sp_closed_way (K : Fg) (C : Cl) : Sp := SpA K 4 (m_closed_way C)
theorem br_closed_way {K : Fg} {C : Cl} : ∀ vs H Q E, SpA K 4 (m_closed_way C) vs H Q E → sp_closed_way K C vs H Q E := fun _ _ _ _ h => h
theorem l_closed_way {K : Fg} {C : Cl} : ∀ vs H Q E, sp_closed_way K C vs H Q E → vs.length = 4 := l_spa
theorem p_closed_way {K : Fg} {C : Cl} {vs : List V} {H : Hp} {Q : VK} {E : XK} (h : sp_closed_way K C vs H Q E) : t_closed_way K C (fun c d _ H => E c d H) { nx := fun _ H' => Q .non H', rt := Q } (L2.start ["web", "one", "other", "closed", "known"] vs) H :=
  p_spa (f_closed_way) h rfl
/-- _law_led, slots web, standing, way, shut, own, deed, known, further -/
def t__law_led (K : Fg) : TS :=
  (tSeq (tAsg (tVar 1) (gName 4)) (tSeq (tIfS (tNot (tB (tCB (rIsi K) (tCons (tVar 2) (tCons (tC (.ty "tuple")) tNil)))))
    (tRet (tC .non)) tNext) (tSeq (tFor (iSeq K (tVar 2)) (gName 5) (tSeq (tIfS (tOr (tTest (tOp (rEqU K) (tLc (iSeq K (tG (sp__law_near K) E00 (tCons (tVar 0) (tCons (tVar 4) tNil)))) (gTup K 2 (gCons (gName 6) (gCons (gName 7)
    gNil))) (tTest (tOp (rEqU K) (tCB (rReprU K) (tCons (tVar 6) tNil)) (tCB (rReprU K) (tCons (tVar 5) tNil)))) (tC (.int 1)) [6, 7]) (tLst tNil))) (tTest (tOp (rInU K) (tOp (rIx K) (tVar 5) (tC (.int 0))) (tVar 3)))) (tRet (tC
    .non)) tNext) (tAsg (tDGet (tCB (rDictT K) (tCons (tG (sp__law_near K) E00 (tCons (tVar 0) (tCons (tVar 4) tNil))) tNil)) (tVar 5)) (gName 4)))) (tRet (tVar 4)))))
abbrev a__law_led_0 : ASt :=
  (aAsg (aEGet (aDictT (aCall0 m__law_near (bCons (aVar 0) (bCons (aVar 4) bNil)))) (aVar 5)) (agName 4))
abbrev a__law_led_1 : ASt :=
  (aSeq (aFor (aSeqI (aVar 2)) (agName 5) (aSeq (aIfS (aOr (aB (aOp gEq (aLc (aSeqI (aCall0 m__law_near (bCons (aVar 0) (bCons (aVar 4) bNil)))) (agTup 2 (agCons (agName 6) (agCons (agName 7) agNil)))
    (aB (aOp gEq (aCB gRepr (bCons (aVar 6) bNil)) (aCB gRepr (bCons (aVar 5) bNil)))) (aC (.int 1)) [6, 7]) (aLst aNil))) (aB (aOp (gIn false) (aOp gIx (aVar 5) (aC (.int 0))) (aVar 3)))) (aRet (aC .none)) aNext) a__law_led_0))
    (aRet (aVar 4)))
abbrev a__law_led_2 : ASt :=
  (aSeq (aIfS (aNot (aB (aIsi isTup (aVar 2)))) (aRet (aC .none)) aNext) a__law_led_1)
abbrev a__law_led : ASt :=
  (aSeq (aAsg (aVar 1) (agName 4)) a__law_led_2)
theorem f__law_led {K : Fg} {E : WX} : RSt K E (t__law_led K) a__law_led :=
  (rs_seq (rs_asg re_var rg_name) (rs_seq (rs_ifs (rt_not (rt_b (re_isTup re_var))) (rs_ret re_non) rs_next) (rs_seq (rs_for (ri_seq re_var) rg_name
    (rs_seq (rs_ifs (rt_or (rt_test (re_op ro_eq (re_lc (ri_seq (re_call0 br__law_near (rv_cons re_var (rv_cons re_var rv_nil)))) (rg_tup (rgs_cons rg_name (rgs_cons rg_name rgs_nil))) (rt_test (re_op ro_eq (re_cb rb_repr (rv_cons
    re_var rv_nil)) (re_cb rb_repr (rv_cons re_var rv_nil)))) re_int (by rfl)) (re_lst ra_nil))) (rt_test (re_op ro_in (re_op ro_ix re_var re_int) re_var))) (rs_ret re_non) rs_next) (rs_asg (re_eget (re_dictT (re_call0 br__law_near
    (rv_cons re_var (rv_cons re_var rv_nil)))) re_var) rg_name))) (rs_ret re_var))))
def m__law_led : AFn := mOf 4 a__law_led
def sp__law_led (K : Fg) : Sp := SpA K 4 m__law_led
theorem br__law_led {K : Fg} : ∀ vs H Q E, SpA K 4 m__law_led vs H Q E → sp__law_led K vs H Q E := fun _ _ _ _ h => h
theorem l__law_led {K : Fg} : ∀ vs H Q E, sp__law_led K vs H Q E → vs.length = 4 := l_spa
theorem p__law_led {K : Fg} {vs : List V} {H : Hp} {Q : VK} {E : XK} (h : sp__law_led K vs H Q E) : t__law_led K { nx := fun _ H' => Q .non H', rt := Q } (L2.start ["web", "standing", "way", "shut", "own", "deed", "known", "further"] vs) H :=
  p_spa (f__law_led) h rfl
/-- _law_is_right, slots web, one, other, shut, told -/
def t__law_is_right (K : Fg) : TS :=
  (tSeq (tIfS (tTest (tOp (rNiU K) (tVar 2) (tG (sp__law_reach K) E00 (tCons (tVar 0) (tCons (tVar 1) (tCons (tVar 3) tNil)))))) (tRet
    (tOp rIsN (tVar 4) (tC .non))) tNext) (tSeq (tIfS (tTest (tOp (rEqU K) (tVar 1) (tVar 2))) (tRet (tOp (rEqU K) (tCB (rReprU K) (tCons (tVar 4) tNil)) (tCB (rReprU K) (tCons (tTup tNil) tNil)))) tNext) (tRet (tAndV (tOp rNotN
    (tVar 4) (tC .non)) (tOp (rEqU K) (tG (sp__law_led K) E00 (tCons (tVar 0) (tCons (tVar 1) (tCons (tVar 4) (tCons (tVar 3) tNil))))) (tVar 2))))))
abbrev a__law_is_right_0 : ASt :=
  (aRet (aAndV (aOp gNotN (aVar 4) (aC .none)) (aOp gEq (aCall0 m__law_led (bCons (aVar 0) (bCons (aVar 1) (bCons (aVar 4) (bCons (aVar 3) bNil))))) (aVar 2))))
abbrev a__law_is_right_1 : ASt :=
  (aSeq (aIfS (aB (aOp gEq (aVar 1) (aVar 2))) (aRet (aOp gEq (aCB gRepr (bCons (aVar 4) bNil)) (aCB gRepr (bCons (aTup aNil) bNil)))) aNext) a__law_is_right_0)
abbrev a__law_is_right : ASt :=
  (aSeq (aIfS (aB (aOp (gIn true) (aVar 2) (aCall0 m__law_reach (bCons (aVar 0) (bCons (aVar 1) (bCons (aVar 3) bNil)))))) (aRet (aOp gIsN (aVar 4) (aC .none))) aNext) a__law_is_right_1)
theorem f__law_is_right {K : Fg} {E : WX} : RSt K E (t__law_is_right K) a__law_is_right :=
  (rs_seq (rs_ifs (rt_test (re_op ro_ni re_var (re_call0 br__law_reach (rv_cons re_var (rv_cons re_var (rv_cons re_var rv_nil)))))) (rs_ret
    (re_op ro_isN re_var re_non)) rs_next) (rs_seq (rs_ifs (rt_test (re_op ro_eq re_var re_var)) (rs_ret (re_op ro_eq (re_cb rb_repr (rv_cons re_var rv_nil)) (re_cb rb_repr (rv_cons (re_tup ra_nil) rv_nil)))) rs_next) (rs_ret
    (re_andV (re_op ro_notN re_var re_non) (re_op ro_eq (re_call0 br__law_led (rv_cons re_var (rv_cons re_var (rv_cons re_var (rv_cons re_var rv_nil))))) re_var)))))
def m__law_is_right : AFn := mOf 0 a__law_is_right
def sp__law_is_right (K : Fg) : Sp := SpA K 5 m__law_is_right
theorem br__law_is_right {K : Fg} : ∀ vs H Q E, SpA K 5 m__law_is_right vs H Q E → sp__law_is_right K vs H Q E := fun _ _ _ _ h => h
theorem l__law_is_right {K : Fg} : ∀ vs H Q E, sp__law_is_right K vs H Q E → vs.length = 5 := l_spa
theorem p__law_is_right {K : Fg} {vs : List V} {H : Hp} {Q : VK} {E : XK} (h : sp__law_is_right K vs H Q E) : t__law_is_right K { nx := fun _ H' => Q .non H', rt := Q } (L2.start ["web", "one", "other", "shut", "told"] vs) H :=
  p_spa (f__law_is_right) h rfl
section
variable {x : AXc} {k : Avl → Prop} {n : Int} {rs : List (Int × Int)} {ms ls a b cl : List Int} {C : Cl}
/-- deeds, each let where it is done, off the roads of cl -/
inductive Led (rs : List (Int × Int)) (ms cl : List Int) : List Int → List (Int × Int) → List Int → Prop
  | nil {a : List Int} : Led rs ms cl a [] a
  | cons {a b : List Int} {q : Nbr} {W : List (Int × Int)} : q ∈ nb rs ms a → q.1.1 ∉ cl → Led rs ms cl q.2 W b → Led rs ms cl a (q.1 :: W) b
theorem Led.snoc {e : List Int} {q : Nbr} {W : List (Int × Int)} (h : Led rs ms cl a W e) (hq : q ∈ nb rs ms e) (hc : q.1.1 ∉ cl) : Led rs ms cl a (W ++ [q.1]) q.2 := by
  induction h with
  | nil => exact .cons hq hc .nil
  | cons h1 h2 _ ih => exact .cons h1 h2 (ih hq)
theorem Led.app {e c : List Int} {V W : List (Int × Int)} (h : Led rs ms cl a V e) (g : Led rs ms cl e W c) : Led rs ms cl a (V ++ W) c := by
  induction h with
  | nil => exact g
  | cons h1 h2 _ ih => exact .cons h1 h2 (ih g)
theorem nd_at {R : List (List Int × PyData)} (nd : (keysV R).Nodup) {i j : Nat} {y : List Int} {u v : PyData} (hi : R[i]? = some (y, u)) (hj : R[j]? = some (y, v)) : i = j := by
  have e1 : (keysV R)[i]? = some y := by unfold keysV; rw [List.getElem?_map, hi]; rfl
  have e2 : (keysV R)[j]? = some y := by unfold keysV; rw [List.getElem?_map, hj]; rfl
  exact (List.getElem?_inj (List.getElem?_eq_some_iff.mp e1).1 nd).mp (e1.trans e2.symm)
theorem find_at {R : List (List Int × PyData)} (nd : (keysV R).Nodup) {i : Nat} {y : List Int} {u : PyData} (hi : R[i]? = some (y, u)) : findD (kvV R) (pkL y) = some u := by
  rw [find_kv]
  cases e : R.find? fun p => decide (p.1 = y) with
  | none => exact absurd (List.find?_eq_none.mp e _ (List.mem_of_getElem? hi)) (by simp)
  | some p =>
    have h1 := List.find?_some e
    have h2 := List.mem_of_find?_eq_some e
    obtain ⟨j, hj⟩ := List.mem_iff_getElem?.mp h2
    obtain ⟨y', v⟩ := p
    have e1 : y' = y := of_decide_eq_true h1
    subst e1
    have := nd_at nd hi hj
    subst this
    rw [hi] at hj
    cases hj
    rfl
/-- the deeds from the row j back to the first -/
inductive Ch (R : List (List Int × PyData)) : Nat → List (Int × Int) → Prop
  | nil {j : Nat} {y : List Int} : R[j]? = some (y, .none) → Ch R j []
  | cons {j i : Nat} {y e : List Int} {u : PyData} {d : Int × Int} {V : List (Int × Int)} : R[j]? = some (y, .tuple [dIs e, dP d]) → R[i]? = some (e, u) → Ch R i V → Ch R j (d :: V)
theorem dIs_inj : ∀ {r s : List Int}, dIs r = dIs s → r = s := by
  intro r s h
  rw [dIs_pk, dIs_pk] at h
  exact pkL_inj (kDs_inj (PyData.tuple.inj h))
theorem dP_injJ {p q : Int × Int} (h : dP p = dP q) : p = q := by
  unfold dP at h
  injection h with h
  injection h with h1 h2
  injection h2 with h2 _
  exact Prod.ext (PyData.int.inj h1) (PyData.int.inj h2)
theorem Ch.fn {R : List (List Int × PyData)} (nd : (keysV R).Nodup) : ∀ {j : Nat} {V V' : List (Int × Int)}, Ch R j V → Ch R j V' → V = V'
  | _, _, _, .nil _, .nil _ => rfl
  | _, _, _, .nil h, .cons h' _ _ => by rw [h] at h'; cases h'
  | _, _, _, .cons h' _ _, .nil h => by rw [h] at h'; cases h'
  | _, _, _, .cons h1 h2 h3, .cons g1 g2 g3 => by
    rw [h1] at g1
    have g1 := (Prod.mk.inj (Option.some.inj g1)).2
    injection g1 with g1
    injection g1 with e1 e2
    injection e2 with e2 _
    have e1 := dIs_inj e1
    have e2 := dP_injJ e2
    subst e1 e2
    have := nd_at nd h2 g2
    subst this
    rw [Ch.fn nd h3 g3]
/-- the way that the package tells -/
def Cw (rs : List (Int × Int)) (ms cl a b : List Int) (W : List (Int × Int)) : Prop := (keysV (allR rs ms cl a)).Nodup ∧ ∃ (j : Nat) (u : PyData), (allR rs ms cl a)[j]? = some (b, u) ∧ Ch (allR rs ms cl a) j W.reverse
theorem Cw.fn {W W' : List (Int × Int)} (h : Cw rs ms cl a b W) (g : Cw rs ms cl a b W') : W = W' := by
  obtain ⟨nd, j, u, h1, h2⟩ := h
  obtain ⟨_, j', u', g1, g2⟩ := g
  have := nd_at nd h1 g1
  subst this
  have := Ch.fn nd h2 g2
  rw [← List.reverse_reverse W, this, List.reverse_reverse]
theorem s_way_to {R : List (List Int × PyData)} (P : Par rs ms cl a R) (nd : (keysV R).Nodup) (hl : R.length ≤ 1000) (hb : b ∈ keysV R) (h : ∀ W, Led rs ms cl a W b → W.length ≤ R.length → (a = b → W = []) → (∃ j u, R[j]? = some (b, u) ∧ Ch R j W.reverse) → k (.d (dPs W))) : m_way_to [.d (dicD (.t (kvV R))), .d (dIs b)] x k := by
  obtain ⟨p, hp, rfl⟩ := List.mem_map.mp hb
  obtain ⟨j, hj⟩ := List.mem_iff_getElem?.mp hp
  obtain ⟨b, u⟩ := p
  have ne : (Dic.t (kvV R)).ne := by
    have := List.length_pos_of_mem hp
    show kvV R ≠ []
    intro z
    have := kvV_len R
    rw [z] at this
    simp at this
    omega
  show a_way_to _ [.d (dicD (.t (kvV R))), .d (dIs b), .x, .x]
  walk_at "ax"
  refine ⟨_, ⟨rfl, ne⟩, ?_⟩
  walk_at "ax"
  refine ⟨u, ⟨pkL b, by rw [dIs_pk], (find_at nd hj).symm⟩, ?_⟩
  walk_at "ax"
  refine a_while (fun c α => ∃ (i : Nat) (y : List Int) (v : PyData) (V : List (Int × Int)), α = [.d (dicD (.t (kvV R))), .d (dIs b), .own (V.map dP), .d v] ∧ R[i]? = some (y, v) ∧ Led rs ms cl y V.reverse b ∧ c = i ∧ V.length + i ≤ R.length ∧ (a = b → V = [] ∧ i = 0) ∧ ∀ U, Ch R i U → Ch R j (V ++ U)) j ⟨j, b, u, [], rfl, hj, .nil, rfl, by have := (List.getElem?_eq_some_iff.mp hj).1; simp; omega, fun e => ⟨rfl, nd_at nd hj (by rw [← e]; exact P.1)⟩, fun U hU => hU⟩ ?_
  rintro c α ⟨i, y, v, V, rfl, hi, hV, rfl, vl, ve, vc⟩
  walk_at "ax"
  by_cases c0 : c = 0
  · subst c0
    have := P.1
    rw [hi] at this
    cases this
    refine iteNF rfl ?_
    walk_at "ax"
    rw [← List.map_reverse]
    exact h _ hV (by rw [List.length_reverse]; omega) (fun e => by rw [(ve e).1]; rfl) ⟨j, u, hj, by rw [List.reverse_reverse, ← List.append_nil V]; exact vc [] (.nil hi)⟩
  · obtain ⟨i', e, u', q, lt, he, hq, hc, rfl, rfl⟩ := P.2 c y v (by omega) hi
    refine iteNT rfl ?_
    walk_at "ax"
    refine ⟨by rw [List.length_map]; omega, ?_⟩
    walk_at "ax"
    refine ⟨_, ⟨rfl, ne⟩, ?_⟩
    walk_at "ax"
    refine ⟨u', ⟨pkL e, by rw [dIs_pk], (find_at nd he).symm⟩, ?_⟩
    walk_at "ax"
    refine ⟨i', lt, i', e, u', V ++ [q.1], by rw [List.map_append]; rfl, he, ?_, rfl, by rw [List.length_append, List.length_singleton]; omega, fun e => absurd (ve e).2 c0, fun U hU => by rw [List.append_assoc]; exact vc _ (.cons hi he hU)⟩
    rw [List.reverse_append]
    exact .cons hq hc hV
theorem s_closed_way (w : WebJ n rs ms) (sa : Stand ms a) (h1 : sz ms ≤ 1000) (hy : ∀ W, Led rs ms cl a W b → W.length ≤ 1000 → (a = b → W = []) → Cw rs ms cl a b W → k (.d (dPs W))) (hn : ¬ Rch rs ms cl a b → k (.d .none)) : m_closed_way C [.d (dWeb n rs ms), .d (dIs a), .d (dIs b), .d (dIs cl)] x k := by
  show a_closed_way C _ [.d (dWeb n rs ms), .d (dIs a), .d (dIs b), .d (dIs cl), .x]
  walk_at "ax"
  refine s_reached w sa (by omega) h1 fun R eR P nd hR => ⟨?_, fun z => by cases z⟩
  have few := w_few (cl := cl) (a := a) w sa (K := keysV R) (P := fun _ _ => False) ⟨nd, (hR a).mpr .refl, fun y hy => (hR y).mp hy, fun y hy q hq hc => .inl ((hR _).mpr (.step ((hR y).mp hy) hq hc))⟩
  have kl : (keysV R).length = R.length := List.length_map ..
  have ne : (Dic.t (kvV R)).ne := by
    have := (List.getElem?_eq_some_iff.mp P.1).1
    show kvV R ≠ []
    intro z
    have := kvV_len R
    rw [z] at this
    simp at this
    omega
  walk_at "ax"
  refine ⟨_, _, ⟨rfl, ne⟩, ⟨pkL b, by rw [dIs_pk], rfl⟩, ?_⟩
  walk_at "ax"
  by_cases c1 : b ∈ keysV R
  · rw [find_some c1]
    walk_at "ax"
    refine s_way_to P nd (by omega) c1 fun W hW hl he hc => ⟨?_, fun z => by cases z⟩
    walk_at "ax"
    exact hy W hW (by omega) he ⟨by rw [← eR]; exact nd, by rw [← eR]; exact hc⟩
  · rw [find_none c1]
    refine iteF' rfl ?_
    walk_at "ax"
    exact hn fun z => c1 ((hR b).mpr z)
theorem Led.mem {W : List (Int × Int)} (h : Led rs ms cl a W b) : Led rs ms cl a W b := h
/-- the deed W[i] is let behind those ahead of it -/
theorem Led.split : ∀ {W : List (Int × Int)} {a : List Int} {i : Nat} {d : Int × Int}, Led rs ms cl a W b → W[i]? = some d → ∃ (e : List Int) (q : Nbr), Led rs ms cl a (W.take i) e ∧ q ∈ nb rs ms e ∧ q.1 = d ∧ d.1 ∉ cl ∧ Led rs ms cl a (W.take (i + 1)) q.2
  | _, _, _, _, .nil, h => by cases h
  | _, _, 0, _, .cons (q := q) h1 h2 h3, h => by
    cases h
    exact ⟨_, q, .nil, h1, rfl, h2, .cons h1 h2 .nil⟩
  | _, _, i + 1, d, .cons (q := q) h1 h2 h3, h => by
    obtain ⟨e, p, g1, g2, g3, g4, g5⟩ := Led.split (i := i) h3 h
    exact ⟨e, p, .cons h1 h2 g1, g2, g3, g4, .cons h1 h2 g5⟩
theorem nb_fn {p q : Nbr} (hp : p ∈ nb rs ms a) (hq : q ∈ nb rs ms a) (e : p.1 = q.1) : p.2 = q.2 := by
  obtain ⟨d, _, rfl⟩ := List.mem_map.mp hp
  obtain ⟨d', _, rfl⟩ := List.mem_map.mp hq
  cases e
  rfl
theorem Led.fn : ∀ {W : List (Int × Int)} {a b c : List Int}, Led rs ms cl a W b → Led rs ms cl a W c → b = c
  | _, _, _, _, .nil, .nil => rfl
  | _, _, _, _, .cons (q := q) h1 _ h3, g => by
    generalize hX : q.1 :: _ = X at g
    cases g with
    | nil => cases hX
    | @cons _ _ p V g1 _ g3 =>
      obtain ⟨e1, rfl⟩ := List.cons.inj hX
      have := nb_fn h1 g1 e1
      rw [this] at h3
      exact Led.fn h3 g3
theorem Led.ok (w : WebJ n rs ms) (sa : Stand ms a) {W : List (Int × Int)} (h : Led rs ms cl a W b) : Stand ms b := by
  induction h with
  | nil => exact sa
  | cons h1 _ _ ih => exact ih (nb_ok (w.laid sa) sa h1).s
theorem g_inR {y : Avl} {ws : List Int} {a : Int} {k : Avl → Prop} (e : y.tup = some (ws.map .int)) (h : k (.d (.bool (decide (a ∈ ws))))) : gIn false (.d (.int a)) y k := by
  refine ⟨_, _, rfl, .inl e, rfl, shaped_tupl (pln_map pln_int), ?_⟩
  show k (.d (.bool ((ws.map PyData.int).any fun z => PyData.eqv z (.int a))))
  rw [any_ints]
  exact h
theorem find_putJ {κ : Type} [DecidableEq κ] (kvs : List (κ × PyData)) (k x : κ) (d : PyData) : findD (putD kvs k d) x = if x = k then some d else findD kvs x := by
  unfold putD
  split
  · rename_i h
    induction kvs with
    | nil => simp at h
    | cons q kvs ih =>
      by_cases e : q.1 = k
      · by_cases c : x = k
        · rw [if_pos c]
          simp [findD, List.find?_cons, e, c]
        · rw [if_neg c]
          by_cases a : (kvs.any fun kv => decide (kv.1 = k)) = true
          · have := ih a
            rw [if_neg c] at this
            simp only [List.map_cons, if_pos e, findD, List.find?_cons] at this ⊢
            rw [show decide (q.1 = x) = false from decide_eq_false fun z => c (z.symm.trans e)]
            exact this
          · have nm : ∀ z ∈ kvs, ¬ z.1 = k := fun z hz y => a (List.any_eq_true.mpr ⟨z, hz, decide_eq_true y⟩)
            have em : kvs.map (fun kv => if kv.1 = k then (kv.1, d) else kv) = kvs := (List.map_congr_left fun z hz => by rw [if_neg (nm z hz)]; rfl).trans (List.map_id _)
            simp only [List.map_cons, if_pos e, em, findD, List.find?_cons]
            rw [show decide (q.1 = x) = false from decide_eq_false fun z => c (z.symm.trans e)]
      · have a : (kvs.any fun kv => decide (kv.1 = k)) = true := by
          rw [List.any_cons] at h
          simpa [e] using h
        have := ih a
        simp only [List.map_cons, if_neg e, findD, List.find?_cons] at this ⊢
        by_cases c : q.1 = x
        · rw [show decide (q.1 = x) = true from decide_eq_true c]
          rw [if_neg (fun z => e (c.trans z))]
        · rw [show decide (q.1 = x) = false from decide_eq_false c]
          exact this
  · rename_i h
    unfold findD
    rw [List.find?_append]
    by_cases c : x = k
    · rw [if_pos c]
      have : (kvs.find? fun kv => decide (kv.1 = x)) = none := List.find?_eq_none.mpr fun z hz y => h (List.any_eq_true.mpr ⟨z, hz, by rw [← c]; exact y⟩)
      rw [this]
      simp [c]
    · rw [if_neg c]
      cases q : kvs.find? fun kv => decide (kv.1 = x) with
      | some z => rfl
      | none =>
        have : decide (k = x) = false := decide_eq_false fun z => c z.symm
        simp [List.find?_cons, this]
theorem find_merge {v : PyData} {key : TKey} : ∀ {kvs acc : List (TKey × PyData)}, (∀ p ∈ kvs, p.1 = key → p.2 = v) → (key ∈ kvs.map (·.1) ∨ findD acc key = some v) → findD (mergeD acc kvs) key = some v
  | [], acc, _, h => h.elim (fun z => by cases z) id
  | p :: kvs, acc, hv, h => by
    show findD (mergeD (putD acc p.1 p.2) kvs) key = some v
    refine find_merge (fun q hq => hv q (List.mem_cons_of_mem _ hq)) ?_
    by_cases e : p.1 = key
    · right
      rw [find_putJ, if_pos e.symm, hv p (List.mem_cons_self ..) e]
    · rcases h with h | h
      · rcases List.mem_cons.mp h with h | h
        · exact absurd h.symm e
        · exact .inl h
      · right
        rw [find_putJ, if_neg (fun z => e z.symm), h]
theorem s__law_led {W : List (Int × Int)} (w : WebJ n rs ms) (sa : Stand ms a) (hW : Led rs ms cl a W b) (wl : W.length ≤ 1000) (h : k (.d (dIs b))) : m__law_led [.d (dWeb n rs ms), .d (dIs a), .d (dPs W), .d (dIs cl)] x k := by
  show a__law_led _ [.d (dWeb n rs ms), .d (dIs a), .d (dPs W), .d (dIs cl), .x, .x, .x, .x]
  walk_at "ax"
  refine iteF' rfl ?_
  walk_at "ax"
  refine a_loop (fun i α => ∃ (e : List Int) (x5 x6 x7 : Sot), α = [.d (dWeb n rs ms), .d (dIs a), .d (dPs W), .d (dIs cl), .d (dIs e), x5, x6, x7] ∧ Led rs ms cl a (W.take i) e) ⟨a, _, _, _, rfl, .nil⟩ ?_ ?_
  · rintro i y α hy ⟨e, x5, x6, x7, rfl, he⟩
    obtain ⟨d, hd, rfl⟩ := map_at' hy
    obtain ⟨e', q, g1, g2, rfl, g4, g5⟩ := hW.split hd
    cases he.fn g1
    have se := he.ok w sa
    have nl : (nb rs ms e).length ≤ 80 := by
      unfold nb
      rw [List.length_map]
      have := letTo_len rs ms e rs.length
      have := w.l
      unfold letD
      omega
    walk_at "ax"
    refine s__law_near w se ⟨?_, fun z => by cases z⟩
    refine i_L rfl ⟨by rw [List.length_map]; omega, ?_⟩
    refine a_lcgo (fun j acc => ∃ m : Nat, acc = List.replicate m (.int 1) ∧ ((∃ t, t < j ∧ ∃ p, (nb rs ms e)[t]? = some p ∧ p.1 = q.1) → 0 < m)) ⟨0, rfl, fun ⟨t, ht, _⟩ => by omega⟩ ?_ ?_
    · rintro j y acc hy ⟨m, rfl, hm⟩
      obtain ⟨p, hp, rfl⟩ := map_at' hy
      have op := nb_ok (w.laid se) se (List.mem_of_getElem? hp)
      have oq := nb_ok (w.laid se) se g2
      have rl := w.l
      have sp : Shw (dP p.1) := shw (okd_dP (by have := op.r0; have := op.r1; omega) (by rcases op.b with h | h <;> rw [h] <;> decide)).x
      have sq : Shw (dP q.1) := shw (okd_dP (by have := oq.r0; have := oq.r1; omega) (by rcases oq.b with h | h <;> rw [h] <;> decide)).x
      walk_at "ax"
      refine g_repr rfl sp ?_
      walk_at "ax"
      refine g_repr rfl sq ?_
      walk_at "ax"
      refine s_dec (fun c1 => ?_) (fun c1 => ?_)
      · walk_at "ax"
        exact ⟨m + 1, (List.replicate_succ' ..).symm, fun _ => Nat.succ_pos m⟩
      · refine ⟨m, rfl, fun ⟨t, ht, p', hp', e'⟩ => hm ⟨t, ?_, p', hp', e'⟩⟩
        by_cases c2 : t = j
        · subst c2
          rw [hp] at hp'
          cases hp'
          exact absurd (by rw [e']) c1
        · omega
    rintro acc ⟨m, rfl, hm⟩ -
    have mp : 0 < m := by
      obtain ⟨t, ht⟩ := List.mem_iff_getElem?.mp g2
      exact hm ⟨t, by rw [List.length_map]; exact (List.getElem?_eq_some_iff.mp ht).1, q, ht, rfl⟩
    obtain ⟨m, rfl⟩ : ∃ m', m = m' + 1 := ⟨m - 1, by omega⟩
    walk_at "ax"
    refine g_eqD rfl rfl (shaped_list fun d hd => by rw [(List.mem_replicate.mp hd).2]; exact pln_int 1) (by rfl) ?_
    rw [show PyData.eqv (.list (List.replicate (m + 1) (.int 1))) (.list []) = false by rw [List.replicate_succ]; simp [PyData.eqv, PyData.eqvAll]]
    walk_at "ax"
    refine g_inR rfl ?_
    rw [decide_eq_false g4]
    walk_at "ax"
    refine s__law_near w se ⟨?_, fun z => by cases z⟩
    refine ⟨(nb rs ms e).map fun p => ([.inl p.1.1, .inl p.1.2], dIs p.2), ?_, ?_⟩
    · show some _ = some _
      rw [List.map_map]
      rfl
    refine ⟨_, rfl, ?_⟩
    walk_at "ax"
    have fm : findD (mergeD [] ((nb rs ms e).map fun p => (([.inl p.1.1, .inl p.1.2] : TKey), dIs p.2))) [.inl q.1.1, .inl q.1.2] = some (dIs q.2) := by
      refine find_merge (fun p hp e => ?_) (.inl ?_)
      · obtain ⟨p', hp', rfl⟩ := List.mem_map.mp hp
        have e' : p'.1 = q.1 := by
          injection e with e1 e2
          injection e2 with e2 _
          exact Prod.ext (Sum.inl.inj e1) (Sum.inl.inj e2)
        rw [nb_fn hp' g2 e']
      · rw [List.map_map]
        exact List.mem_map.mpr ⟨q, g2, rfl⟩
    refine ⟨dIs q.2, ⟨[.inl q.1.1, .inl q.1.2], rfl, fm.symm⟩, ?_⟩
    walk_at "ax"
    exact ⟨q.2, _, _, _, rfl, g5⟩
  · rintro α ⟨e, x5, x6, x7, rfl, he⟩
    rw [List.length_map, List.take_length] at he
    cases he.fn hW
    walk_at "ax"
    exact h
theorem Led.rch {W : List (Int × Int)} {c : List Int} (h : Led rs ms cl c W b) : ∀ {a : List Int}, Rch rs ms cl a c → Rch rs ms cl a b := by
  induction h with
  | nil => exact fun g => g
  | cons h1 h2 _ ih => exact fun g => ih (.step g h1 h2)
theorem _root_.UW.Bg.Pln.shp {d : PyData} (h : Pln d) : SeqAt.shaped d = true := shaped_of h.1 (by have := h.2; omega)
theorem eqvAll_intsJ : ∀ r s : List Int, PyData.eqvAll (r.map .int) (s.map .int) = decide (r = s)
  | [], [] => by simp [PyData.eqvAll]
  | [], _ :: _ => by simp [PyData.eqvAll]
  | _ :: _, [] => by simp [PyData.eqvAll]
  | a :: r, b :: s => by
    have e : PyData.eqv (.int a) (.int b) = decide (a = b) := by simp only [PyData.eqv]; first | rfl | exact beq_eq_decide _ _
    rw [List.map_cons, List.map_cons]
    show (PyData.eqvAll (_ :: _) (_ :: _)) = _
    rw [PySem.W.eqv_all_cons, eqvAll_intsJ r s, e]
    by_cases h1 : a = b <;> by_cases h2 : r = s <;> simp [h1, h2]
theorem eqv_dIsJ (r s : List Int) : PyData.eqv (dIs r) (dIs s) = decide (r = s) := by
  rw [← eqvAll_intsJ]
  unfold dIs
  simp [PyData.eqv]
theorem any_rows (L : List (List Int)) (b : List Int) : ((L.map dIs).any fun z => PyData.eqv z (dIs b)) = decide (b ∈ L) := by
  induction L with
  | nil => simp
  | cons r L ih =>
    rw [List.map_cons, List.any_cons, ih, eqv_dIsJ]
    by_cases h1 : r = b
    · subst h1
      rw [decide_eq_true rfl, decide_eq_true (List.mem_cons_self ..)]; rfl
    · rw [decide_eq_false h1, Bool.false_or]
      exact decide_eq_decide.mpr (by rw [List.mem_cons]; exact ⟨.inr, fun h => h.elim (fun z => absurd z.symm h1) id⟩)
theorem g_rows {neg : Bool} {y : Avl} {L : List (List Int)} {b : List Int} {k : Avl → Prop} (e : y.lst = some (L.map dIs)) (h : k (.d (.bool (if neg = true then !decide (b ∈ L) else decide (b ∈ L))))) : gIn neg (.d (dIs b)) y k := by
  refine ⟨_, _, rfl, .inr e, (pln_dIs b).shp, shaped_tupl (pln_map pln_dIs), ?_⟩
  rw [any_rows]
  exact h
theorem s__law_is_right (w : WebJ n rs ms) (sa : Stand ms a) (h1 : sz ms ≤ 1000) {d : PyData} (hd : (d = .none ∧ ¬ Rch rs ms cl a b) ∨ ∃ W, d = dPs W ∧ Led rs ms cl a W b ∧ W.length ≤ 1000 ∧ (a = b → W = [])) (h : k (.d (.bool true))) : m__law_is_right [.d (dWeb n rs ms), .d (dIs a), .d (dIs b), .d (dIs cl), .d d] x k := by
  show a__law_is_right _ [.d (dWeb n rs ms), .d (dIs a), .d (dIs b), .d (dIs cl), .d d]
  walk_at "ax"
  refine s__law_reach w sa h1 fun L hL => ⟨?_, fun z => by cases z⟩
  refine g_rows rfl ?_
  rw [if_pos rfl]
  rcases hd with ⟨rfl, hn⟩ | ⟨W, rfl, hW, wl, he⟩
  · rw [decide_eq_false fun z => hn ((hL.m b).mp z)]
    walk_at "ax"
    refine iteT' rfl ?_
    walk_at "ax"
    exact h
  · have rb : Rch rs ms cl a b := hW.rch .refl
    rw [decide_eq_true ((hL.m b).mpr rb)]
    walk_at "ax"
    refine iteF' rfl ?_
    walk_at "ax"
    refine g_eqD rfl rfl (pln_dIs a).shp (pln_dIs b).shp ?_
    rw [eqv_dIsJ]
    walk_at "ax"
    refine s_dec (fun c1 => ?_) (fun c1 => ?_)
    · rw [he c1]
      have s0 : Shw (dPs []) := shw okx_t0
      walk_at "ax"
      refine g_repr rfl s0 ?_
      walk_at "ax"
      refine g_repr rfl s0 ?_
      walk_at "ax"
      rw [show dPs [] = PyData.tuple [] from rfl, decide_eq_true rfl]
      exact h
    · walk_at "ax"
      refine s__law_led w sa hW wl ⟨?_, fun z => by cases z⟩
      walk_at "ax"
      refine g_eqD rfl rfl (pln_dIs b).shp (pln_dIs b).shp ?_
      rw [eqv_dIsJ, decide_eq_true rfl]
      walk_at "ax"
      exact h
end
end UW.Ja
namespace UW.Ja
open PySem PySem.Spec PyProof.Rows L2 UW UW.Bg
/-- one step -/
local macro_rules | `(tactic| walk_at "a1") => `(tactic| first
  | with_reducible refine wk ?_
  | (with_reducible refine rs_go 1 ?_
     first
     | with_reducible refine a_var (by with_unfolding_all rfl) (by with_unfolding_all rfl) ?_
     | with_reducible refine a_gtup (by with_unfolding_all rfl) (by with_unfolding_all rfl) ?_
     | with_reducible refine a_glst (by with_unfolding_all rfl) (by with_unfolding_all rfl) ?_)
  | (with_reducible refine rs_go 2 ?_
     first
     | with_reducible refine g_ixT (by with_unfolding_all rfl) (by first | with_unfolding_all rfl | with_unfolding_all exact at_zero _ _) ?_
     | with_reducible refine g_ixL (by with_unfolding_all rfl) (by first | with_unfolding_all rfl | with_unfolding_all exact at_zero _ _) ?_)
  | (with_reducible refine rs_go 3 ?_
     first
     | with_reducible refine g_lenT (by with_unfolding_all rfl) ?_
     | with_reducible refine g_lenL (by with_unfolding_all rfl) ?_
     | with_reducible refine g_tupL (by with_unfolding_all rfl) ?_
     | with_reducible refine g_tupT (by with_unfolding_all rfl) ?_
     | with_reducible refine g_lstT (by with_unfolding_all rfl) ?_
     | with_reducible refine g_lstL (by with_unfolding_all rfl) ?_)
  | (with_reducible refine rs_go 4 ?_
     first
     | with_reducible refine g_addL (by with_unfolding_all rfl) (by with_unfolding_all rfl) (Nat.le_of_ble_eq_true (by with_unfolding_all rfl)) ?_
     | with_reducible refine g_mulI (by first | exact Or.inl ⟨by decide, by decide⟩ | exact Or.inr ⟨by decide, by decide⟩ | (first | (refine Or.inl ⟨?_, ?_⟩ <;> omega) | (refine Or.inr ⟨?_, ?_⟩ <;> omega))) ?_
     | with_reducible refine g_mod (by first | decide | omega) ?_
     | with_reducible refine g_div (by first | decide | omega) (by first | decide | omega) ?_
     | with_reducible refine g_slT (by with_unfolding_all rfl) ?_
     | with_reducible refine g_slL (by with_unfolding_all rfl) ?_
     | with_reducible refine g_isN (by with_unfolding_all rfl) ?_
     | with_reducible refine g_notN (by with_unfolding_all rfl) ?_)
  | (with_reducible refine rs_go 5 ?_
     first
     | with_reducible refine a_dget (by with_unfolding_all rfl) ?_
     | with_reducible refine a_dget2 (by with_unfolding_all rfl) ?_
     | with_reducible refine a_fzq (by with_unfolding_all rfl) ?_
     | with_reducible refine a_retC (by with_unfolding_all rfl) ?_
     | with_reducible refine a_isX (by with_unfolding_all rfl) ?_
     | with_reducible refine a_app (by with_unfolding_all rfl) ?_
     | with_reducible refine a_ext (by with_unfolding_all rfl) ?_
     | with_reducible refine a_pop (by with_unfolding_all rfl) ?_
     | with_reducible refine a_fz (by with_unfolding_all rfl) ?_
     | with_reducible refine a_lenDV (by with_unfolding_all rfl) ?_)
  | (with_reducible refine rs_go 6 ?_
     first
     | with_reducible refine a_cl (by with_unfolding_all rfl) ?_
     | with_reducible refine a_dat (by with_unfolding_all rfl) ?_
     | with_reducible refine a_s1 (by with_unfolding_all rfl) ?_
     | with_reducible refine a_dcy (by with_unfolding_all rfl) ?_
     | with_reducible refine a_s2 (by with_unfolding_all rfl) (by with_unfolding_all rfl) ?_
     | with_reducible refine a_s3 (by with_unfolding_all rfl) (by with_unfolding_all rfl) (by with_unfolding_all rfl) ?_
     | with_reducible refine a_owned (by with_unfolding_all rfl) ?_)
  | (with_reducible refine rs_go 7 ?_
     first
     | with_reducible refine i_B (by with_unfolding_all rfl) ?_
     | with_reducible refine i_T (by with_unfolding_all rfl) ?_
     | with_reducible refine i_L (by with_unfolding_all rfl) ?_)
  | (with_reducible refine rs_go 8 ?_
     first
     | with_reducible refine a_nb (by with_unfolding_all rfl) ?_
     | with_reducible refine a_len (by with_unfolding_all rfl) ?_
     | with_reducible refine a_revT (by with_unfolding_all rfl) ?_
     | with_reducible refine a_revL (by with_unfolding_all rfl) ?_)
  | (with_reducible refine rs_go 9 ?_
     first
     | with_reducible refine iteNT (by with_unfolding_all rfl) ?_
     | with_reducible refine iteNF (by with_unfolding_all rfl) ?_
     | with_reducible refine iteIT (by with_unfolding_all rfl) ?_
     | with_reducible refine iteIF (by with_unfolding_all rfl) ?_))
local macro_rules | `(tactic| walk_at "ax") => `(tactic| (repeat (first | walk_at "a1" | with_reducible refine a_if ?_); try dsimp only [List.set_cons_zero, List.set_cons_succ, awipe, aFrz, List.getElem?_cons_zero, List.getElem?_cons_succ]))
local macro_rules | `(tactic| walk_at "ay") => `(tactic| (repeat (walk_at "a1"); try dsimp only [List.set_cons_zero, List.set_cons_succ, awipe, aFrz, List.getElem?_cons_zero, List.getElem?_cons_succ]))
section
variable {x : AXc} {k : Avl → Prop} {n : Int} {rs : List (Int × Int)} {ms ls a b cl : List Int} {C : Cl}
theorem okd_webJ (w : WebJ n rs ms) : Okd (dWeb n rs ms) 3 30014 := by
  have h0 := w.n0
  have h1 := w.n1
  have h2 := w.l
  unfold dWeb
  refine Okd.tup (n := 10002) (m := 3) (fun d hd => ?_) (Nat.le_refl _)
  rcases List.mem_cons.mp hd with rfl | hd
  · exact (okd_int (by omega)).mono (by decide) (by decide)
  rcases List.mem_cons.mp hd with rfl | hd
  · exact okd_dPs (m := 40) (fun p hp => by have := w.r.ok p hp; omega) (by omega)
  rcases List.mem_cons.mp hd with rfl | hd
  · exact (okd_dIs (m := 40) (fun i hi => by have := w.m i hi; omega) (by have := w.lm; omega)).mono (by decide) (by decide)
  · cases hd
theorem okd_standJ (w : WebJ n rs ms) (st : Stand ms ls) : Okd (dIs ls) 1 4922 := by
  have h2 := w.l
  refine okd_dIs (m := 40) (fun i hi => ?_) (by have := st.len; have := w.lm; omega)
  obtain ⟨j, hj, rfl⟩ := List.mem_iff_getElem.mp hi
  have m1 : ms[j]? = some (ms[j]'(by have := st.len; omega)) := List.getElem?_eq_getElem _
  have := st.ok j _ _ (List.getElem?_eq_getElem hj) m1
  have := w.m _ (List.mem_of_getElem? m1)
  omega
/-- what closed_way tells -/
def TD (rs : List (Int × Int)) (ms cl a b : List Int) (d : PyData) : Prop := (d = .none ∧ ¬ Rch rs ms cl a b) ∨ ∃ W, d = dPs W ∧ Led rs ms cl a W b ∧ W.length ≤ 1000 ∧ (a = b → W = []) ∧ Cw rs ms cl a b W
theorem TD.fn {d e : PyData} (h : TD rs ms cl a b d) (g : TD rs ms cl a b e) : d = e := by
  rcases h with ⟨rfl, h⟩ | ⟨W, rfl, h, _, _, hc⟩ <;> rcases g with ⟨rfl, g⟩ | ⟨V, rfl, g, _, _, gc⟩
  · rfl
  · exact absurd (g.rch .refl) h
  · exact absurd (h.rch .refl) g
  · rw [hc.fn gc]
theorem s_closed (w : WebJ n rs ms) (sa : Stand ms a) (h1 : sz ms ≤ 1000) (h : ∀ d, TD rs ms cl a b d → k (.d d)) : m_closed_way C [.d (dWeb n rs ms), .d (dIs a), .d (dIs b), .d (dIs cl)] x k :=
  s_closed_way w sa h1 (fun W hW wl we wc => h _ (.inr ⟨W, rfl, hW, wl, we, wc⟩)) fun z => h _ (.inl ⟨rfl, z⟩)
theorem s_right (w : WebJ n rs ms) (sa : Stand ms a) (h1 : sz ms ≤ 1000) {d : PyData} (hd : TD rs ms cl a b d) (h : k (.d (.bool true))) : m__law_is_right [.d (dWeb n rs ms), .d (dIs a), .d (dIs b), .d (dIs cl), .d d] x k :=
  s__law_is_right w sa h1 (hd.elim .inl fun ⟨W, e, hW, wl, we, _⟩ => .inr ⟨W, e, hW, wl, we⟩) h
theorem Led.bound (w : WebJ n rs ms) (sa : Stand ms a) {W : List (Int × Int)} (h : Led rs ms cl a W b) : ∀ p ∈ W, 0 ≤ p.1 ∧ p.1 < rs.length ∧ (p.2 = 1 ∨ p.2 = -1) := by
  induction h with
  | nil => intro p hp; cases hp
  | cons h1 _ _ ih =>
    have o := nb_ok (w.laid sa) sa h1
    intro p hp
    rcases List.mem_cons.mp hp with rfl | hp
    · exact ⟨o.r0, o.r1, o.b⟩
    · exact ih o.s p hp
theorem TD.shw (w : WebJ n rs ms) (sa : Stand ms a) {d : PyData} (h : TD rs ms cl a b d) : Shw d := by
  rcases h with ⟨rfl, _⟩ | ⟨W, rfl, hW, wl, _⟩
  · exact UW.shw Okd.non.x
  · refine UW.shw (okd_dPs (m := 1000) (fun p hp => ?_) wl).x
    have o := hW.bound w sa p hp
    have := w.l
    rcases o.2.2 with e | e <;> rw [e] <;> exact ⟨by omega, by decide⟩
theorem row_nr : ∀ y, Rch [(0, 1), (1, 2), (2, 3), (3, 4)] [1, 1, 1, 1] [1] [1, 0, 0, 0] y → y = [1, 0, 0, 0] := by
  intro y hy
  induction hy with
  | refl => rfl
  | @step b q _ hq hc ih =>
    subst ih
    have e : nb [(0, 1), (1, 2), (2, 3), (3, 4)] [1, 1, 1, 1] [1, 0, 0, 0] = [((1, 1), [1, 1, 0, 0])] := by decide +kernel
    rw [e] at hq
    rw [List.mem_singleton.mp hq] at hc
    exact absurd (List.mem_singleton.mpr rfl) hc
theorem row_web : WebJ 5 [(0, 1), (1, 2), (2, 3), (3, 4)] [1, 1, 1, 1] := ⟨rds_dec (by decide), rfl, by decide, by decide, by decide, by decide, by decide, by unfold ltP; decide⟩
theorem row_stand : Stand [1, 1, 1, 1] [1, 0, 0, 0] := by
  refine ⟨rfl, fun j l m hl hm => ?_⟩
  match j, hl, hm with
  | 0, hl, hm => cases hl; cases hm; decide
  | 1, hl, hm => cases hl; cases hm; decide
  | 2, hl, hm => cases hl; cases hm; decide
  | 3, hl, hm => cases hl; cases hm; decide
  | j + 4, hl, hm => simp at hl
theorem row_none {d : PyData} (hd : TD [(0, 1), (1, 2), (2, 3), (3, 4)] [1, 1, 1, 1] [1] [1, 0, 0, 0] [0, 1, 0, 0] d) : d = .none := by
  rcases hd with ⟨rfl, _⟩ | ⟨W, _, hW, _⟩
  · rfl
  · have := row_nr _ (hW.rch .refl)
    simp at this
theorem s_row (h : k (.d .none)) : m_closed_way C [.d (dWeb 5 [(0, 1), (1, 2), (2, 3), (3, 4)] [1, 1, 1, 1]), .d (dIs [1, 0, 0, 0]), .d (dIs [0, 1, 0, 0]), .d (dIs [1])] x k := s_closed row_web row_stand (by decide) fun d hd => by rw [row_none hd]; exact h
end
end UW.Ja
namespace UW.Ja
open PySem PySem.Spec PyProof.Rows L2 UW UW.Bg
/-- one step -/
local macro_rules | `(tactic| walk_at "a1") => `(tactic| first
  | with_reducible refine wk ?_
  | (with_reducible refine rs_go 1 ?_
     first
     | with_reducible refine a_var (by with_unfolding_all rfl) (by with_unfolding_all rfl) ?_
     | with_reducible refine a_gtup (by with_unfolding_all rfl) (by with_unfolding_all rfl) ?_
     | with_reducible refine a_glst (by with_unfolding_all rfl) (by with_unfolding_all rfl) ?_)
  | (with_reducible refine rs_go 2 ?_
     first
     | with_reducible refine g_ixT (by with_unfolding_all rfl) (by first | with_unfolding_all rfl | with_unfolding_all exact at_zero _ _) ?_
     | with_reducible refine g_ixL (by with_unfolding_all rfl) (by first | with_unfolding_all rfl | with_unfolding_all exact at_zero _ _) ?_)
  | (with_reducible refine rs_go 3 ?_
     first
     | with_reducible refine g_lenT (by with_unfolding_all rfl) ?_
     | with_reducible refine g_lenL (by with_unfolding_all rfl) ?_
     | with_reducible refine g_tupL (by with_unfolding_all rfl) ?_
     | with_reducible refine g_tupT (by with_unfolding_all rfl) ?_
     | with_reducible refine g_lstT (by with_unfolding_all rfl) ?_
     | with_reducible refine g_lstL (by with_unfolding_all rfl) ?_)
  | (with_reducible refine rs_go 4 ?_
     first
     | with_reducible refine g_addL (by with_unfolding_all rfl) (by with_unfolding_all rfl) (Nat.le_of_ble_eq_true (by with_unfolding_all rfl)) ?_
     | with_reducible refine g_mulI (by first | exact Or.inl ⟨by decide, by decide⟩ | exact Or.inr ⟨by decide, by decide⟩ | (first | (refine Or.inl ⟨?_, ?_⟩ <;> omega) | (refine Or.inr ⟨?_, ?_⟩ <;> omega))) ?_
     | with_reducible refine g_mod (by first | decide | omega) ?_
     | with_reducible refine g_div (by first | decide | omega) (by first | decide | omega) ?_
     | with_reducible refine g_slT (by with_unfolding_all rfl) ?_
     | with_reducible refine g_slL (by with_unfolding_all rfl) ?_
     | with_reducible refine g_isN (by with_unfolding_all rfl) ?_
     | with_reducible refine g_notN (by with_unfolding_all rfl) ?_)
  | (with_reducible refine rs_go 5 ?_
     first
     | with_reducible refine a_dget (by with_unfolding_all rfl) ?_
     | with_reducible refine a_dget2 (by with_unfolding_all rfl) ?_
     | with_reducible refine a_fzq (by with_unfolding_all rfl) ?_
     | with_reducible refine a_retC (by with_unfolding_all rfl) ?_
     | with_reducible refine a_isX (by with_unfolding_all rfl) ?_
     | with_reducible refine a_app (by with_unfolding_all rfl) ?_
     | with_reducible refine a_ext (by with_unfolding_all rfl) ?_
     | with_reducible refine a_pop (by with_unfolding_all rfl) ?_
     | with_reducible refine a_fz (by with_unfolding_all rfl) ?_
     | with_reducible refine a_lenDV (by with_unfolding_all rfl) ?_)
  | (with_reducible refine rs_go 6 ?_
     first
     | with_reducible refine a_cl (by with_unfolding_all rfl) ?_
     | with_reducible refine a_dat (by with_unfolding_all rfl) ?_
     | with_reducible refine a_s1 (by with_unfolding_all rfl) ?_
     | with_reducible refine a_dcy (by with_unfolding_all rfl) ?_
     | with_reducible refine a_s2 (by with_unfolding_all rfl) (by with_unfolding_all rfl) ?_
     | with_reducible refine a_s3 (by with_unfolding_all rfl) (by with_unfolding_all rfl) (by with_unfolding_all rfl) ?_
     | with_reducible refine a_owned (by with_unfolding_all rfl) ?_)
  | (with_reducible refine rs_go 7 ?_
     first
     | with_reducible refine i_B (by with_unfolding_all rfl) ?_
     | with_reducible refine i_T (by with_unfolding_all rfl) ?_
     | with_reducible refine i_L (by with_unfolding_all rfl) ?_)
  | (with_reducible refine rs_go 8 ?_
     first
     | with_reducible refine a_nb (by with_unfolding_all rfl) ?_
     | with_reducible refine a_len (by with_unfolding_all rfl) ?_
     | with_reducible refine a_revT (by with_unfolding_all rfl) ?_
     | with_reducible refine a_revL (by with_unfolding_all rfl) ?_)
  | (with_reducible refine rs_go 9 ?_
     first
     | with_reducible refine iteNT (by with_unfolding_all rfl) ?_
     | with_reducible refine iteNF (by with_unfolding_all rfl) ?_
     | with_reducible refine iteIT (by with_unfolding_all rfl) ?_
     | with_reducible refine iteIF (by with_unfolding_all rfl) ?_))
local macro_rules | `(tactic| walk_at "ax") => `(tactic| (repeat (first | walk_at "a1" | with_reducible refine a_if ?_); try dsimp only [List.set_cons_zero, List.set_cons_succ, awipe, aFrz, List.getElem?_cons_zero, List.getElem?_cons_succ]))
local macro_rules | `(tactic| walk_at "ay") => `(tactic| (repeat (walk_at "a1"); try dsimp only [List.set_cons_zero, List.set_cons_succ, awipe, aFrz, List.getElem?_cons_zero, List.getElem?_cons_succ]))
def g_kb_closed_way_closed_other_one_web : {α : Type} → List α → List α := fun l => match l with | [a0, a1, a2, a3] => [a3, a2, a1, a0] | l => l
theorem kq_kb_closed_way_closed_other_one_web : ∀ {R : V → Avl → Prop} {vs : List V} {as : List Avl}, Paired R vs as → vs.length = 4 → Paired R (g_kb_closed_way_closed_other_one_web vs) (g_kb_closed_way_closed_other_one_web as) ∧ (g_kb_closed_way_closed_other_one_web vs).length = 4 := by
  intro R vs as r h
  rcases r with _ | ⟨r0, r⟩
  · simp only [List.length_cons, List.length_nil] at h; omega
  rcases r with _ | ⟨r1, r⟩
  · simp only [List.length_cons, List.length_nil] at h; omega
  rcases r with _ | ⟨r2, r⟩
  · simp only [List.length_cons, List.length_nil] at h; omega
  rcases r with _ | ⟨r3, r⟩
  · simp only [List.length_cons, List.length_nil] at h; omega
  rcases r with _ | ⟨rx, r⟩
  · exact ⟨(.cons r3 (.cons r2 (.cons r1 (.cons r0 .nil)))), rfl⟩
  · simp only [List.length_cons] at h; omega
/-- law, slots script, jar, turn, web, one, many, again, shut, near, other, kept, told, again_told, every, row, road -/
def t_law (K : Fg) (C : Cl) (W0 : WX) : TS :=
  (tSeq (tAsg (tG (sp__law_jar K) E00 (tCons (tVar 0) tNil))
    (gName 1)) (tSeq (tFor (iRng1 (tCons (tC (.int 2)) tNil)) (gName 2) (tSeq (tAsg (tG (sp__law_web K) E00 (tCons (tVar 1) tNil)) (gName 3)) (tSeq (tAsg (tG (sp__law_standing K) E00 (tCons (tVar 1) (tCons (tVar 3) tNil))) (gName
    4)) (tSeq (tAsg (tCB (rLenU K) (tCons (tOp (rIx K) (tVar 3) (tC (.int 1))) tNil)) (gName 5)) (tSeq (tFor (iRng1 (tCons (tIf (tTest (tOp (rLtU K) (tVar 5) (tC (.int 6)))) (tC (.int 3)) (tC (.int 1))) tNil)) (gName 6) (tSeq (tAsg
    (tCB (rTupOf K) (tCons (tLc (iRng1 (tCons (tVar 5) tNil)) (gName 15) (tTest (tOp (rEqU K) (tG (sp__law_draw K) E00 (tCons (tVar 1) (tCons (tOp (rIx K) (tLst (tCons (tC (.int 9)) (tCons (tC (.int 4)) (tCons (tC (.int 2))
    tNil)))) (tVar 6)) tNil))) (tC (.int 0)))) (tVar 15) [15]) tNil)) (gName 7)) (tSeq (tAsg (tG (sp__law_reach K) E00 (tCons (tVar 3) (tCons (tVar 4) (tCons (tIf (tTest (tOp rGtI (tG (sp__law_draw K) E00 (tCons (tVar 1) (tCons (tC
    (.int 3)) tNil))) (tC (.int 0)))) (tVar 7) (tTup tNil)) tNil)))) (gName 8)) (tSeq (tAsg (tIf (tTest (tOp rGtI (tG (sp__law_draw K) E00 (tCons (tVar 1) (tCons (tC (.int 4)) tNil))) (tC (.int 0)))) (tG (sp__law_pick K) E00 (tCons
    (tVar 1) (tCons (tVar 8) tNil))) (tG (sp__law_standing K) E00 (tCons (tVar 1) (tCons (tVar 3) tNil)))) (gName 9)) (tSeq (tAsg (tCB (rReprU K) (tCons (tLst (tCons (tVar 3) (tCons (tVar 4) (tCons (tVar 9) (tCons (tVar 7)
    tNil))))) tNil)) (gName 10)) (tSeq (tAsg (tG (sp_closed_way K C) (WE W0) (tCons (tVar 3) (tCons (tVar 4) (tCons (tVar 9) (tCons (tVar 7) tNil))))) (gName 11)) (tSeq (tAsg (tKw (sp_closed_way K C) 4
    g_kb_closed_way_closed_other_one_web (WE W0) (tCons (tVar 7) (tCons (tVar 9) (tCons (tVar 4) (tCons (tVar 3) tNil))))) (gName 12)) (tSeq (tIfS (tOr (tTest (tOp (rNeU K) (tCB (rReprU K) (tCons (tVar 12) tNil)) (tCB (rReprU K)
    (tCons (tVar 11) tNil)))) (tTest (tOp (rNeU K) (tCB (rReprU K) (tCons (tLst (tCons (tVar 3) (tCons (tVar 4) (tCons (tVar 9) (tCons (tVar 7) tNil))))) tNil)) (tVar 10)))) (tRet (tC (.bl false))) tNext) (tSeq (tIfS (tNot (tB (tG
    (sp__law_is_right K) E00 (tCons (tVar 3) (tCons (tVar 4) (tCons (tVar 9) (tCons (tVar 7) (tCons (tVar 11) tNil)))))))) (tRet (tC (.bl false))) tNext) (tIfS (tNot (tB (tG (sp__law_is_right K) E00 (tCons (tVar 3) (tCons (tVar 9)
    (tCons (tVar 4) (tCons (tVar 7) (tCons (tG (sp_closed_way K C) (WE W0) (tCons (tVar 3) (tCons (tVar 9) (tCons (tVar 4) (tCons (tVar 7) tNil))))) tNil)))))))) (tRet (tC (.bl false))) tNext)))))))))) (tSeq (tAsg (tCB (rTupOf K)
    (tCons (tLstRg (tRg1 (tVar 5))) tNil)) (gName 13)) (tIfS (tNot (tB (tG (sp__law_is_right K) E00 (tCons (tVar 3) (tCons (tVar 4) (tCons (tVar 4) (tCons (tVar 13) (tCons (tG (sp_closed_way K C) (WE W0) (tCons (tVar 3) (tCons
    (tVar 4) (tCons (tVar 4) (tCons (tVar 13) tNil))))) tNil)))))))) (tRet (tC (.bl false))) tNext))))))) (tSeq (tAsg (tTup (tCons (tC (.int 5)) (tCons (tTup (tCons (tTup (tCons (tC (.int 0)) (tCons (tC (.int 1)) tNil))) (tCons
    (tTup (tCons (tC (.int 1)) (tCons (tC (.int 2)) tNil))) (tCons (tTup (tCons (tC (.int 2)) (tCons (tC (.int 3)) tNil))) (tCons (tTup (tCons (tC (.int 3)) (tCons (tC (.int 4)) tNil))) tNil))))) (tCons (tTup (tCons (tC (.int 1))
    (tCons (tC (.int 1)) (tCons (tC (.int 1)) (tCons (tC (.int 1)) tNil))))) tNil)))) (gName 14)) (tRet (tOp rIsN (tG (sp_closed_way K C) (WE W0) (tCons (tVar 14) (tCons (tTup (tCons (tC (.int 1)) (tCons (tC (.int 0)) (tCons (tC
    (.int 0)) (tCons (tC (.int 0)) tNil))))) (tCons (tTup (tCons (tC (.int 0)) (tCons (tC (.int 1)) (tCons (tC (.int 0)) (tCons (tC (.int 0)) tNil))))) (tCons (tTup (tCons (tC (.int 1)) tNil)) tNil))))) (tC .non))))))
abbrev a_law_0 (C : Cl) : ASt :=
  (aRet (aOp gIsN (aCall (m_closed_way C) (bCons (aVar 14) (bCons (aTup (aCons (aC (.int 1)) (aCons (aC (.int 0)) (aCons (aC (.int 0)) (aCons (aC (.int 0)) aNil))))) (bCons (aTup (aCons (aC (.int
    0)) (aCons (aC (.int 1)) (aCons (aC (.int 0)) (aCons (aC (.int 0)) aNil))))) (bCons (aTup (aCons (aC (.int 1)) aNil)) bNil))))) (aC .none)))
abbrev a_law_1 (C : Cl) : ASt :=
  (aIfS (aNot (aB (aCall0 m__law_is_right (bCons (aVar 3) (bCons (aVar 4) (bCons (aVar 4) (bCons (aVar 13) (bCons (aCall (m_closed_way C) (bCons (aVar 3) (bCons (aVar 4) (bCons (aVar 4) (bCons (aVar
    13) bNil))))) bNil)))))))) (aRet (aC (.bool false))) aNext)
abbrev a_law_2 (C : Cl) : ASt :=
  (aIfS (aNot (aB (aCall0 m__law_is_right (bCons (aVar 3) (bCons (aVar 9) (bCons (aVar 4) (bCons (aVar 7) (bCons (aCall (m_closed_way C) (bCons (aVar 3) (bCons (aVar 9) (bCons (aVar 4) (bCons (aVar
    7) bNil))))) bNil)))))))) (aRet (aC (.bool false))) aNext)
abbrev a_law_3 (C : Cl) : ASt :=
  (aSeq (aIfS (aNot (aB (aCall0 m__law_is_right (bCons (aVar 3) (bCons (aVar 4) (bCons (aVar 9) (bCons (aVar 7) (bCons (aVar 11) bNil)))))))) (aRet (aC (.bool false))) aNext) (a_law_2 C))
abbrev a_law_4 (C : Cl) : ASt :=
  (aSeq (aIfS (aOr (aB (aOp gNe (aCB gRepr (bCons (aVar 12) bNil)) (aCB gRepr (bCons (aVar 11) bNil)))) (aB (aOp gNe (aCB gRepr (bCons (aLst (aCons (aVar 3) (aCons (aVar 4) (aCons (aVar 9) (aCons
    (aVar 7) aNil))))) bNil)) (aVar 10)))) (aRet (aC (.bool false))) aNext) (a_law_3 C))
abbrev a_law_5 (C : Cl) : ASt :=
  (aSeq (aAsg (aCall (m_closed_way C) (aKw 4 (fun l => g_kb_closed_way_closed_other_one_web l) (bCons (aVar 7) (bCons (aVar 9) (bCons (aVar 4) (bCons (aVar 3) bNil)))))) (agName 12)) (a_law_4 C))
abbrev a_law_6 (C : Cl) : ASt :=
  (aSeq (aAsg (aCall (m_closed_way C) (bCons (aVar 3) (bCons (aVar 4) (bCons (aVar 9) (bCons (aVar 7) bNil))))) (agName 11)) (a_law_5 C))
abbrev a_law_7 (C : Cl) : ASt :=
  (aSeq (aAsg (aCB gRepr (bCons (aLst (aCons (aVar 3) (aCons (aVar 4) (aCons (aVar 9) (aCons (aVar 7) aNil))))) bNil)) (agName 10)) (a_law_6 C))
abbrev a_law_8 (C : Cl) : ASt :=
  (aSeq (aAsg (aIf (aB (aOp gGt (aCall0 m__law_draw (bCons (aVar 1) (bCons (aC (.int 4)) bNil))) (aC (.int 0)))) (aCall0 m__law_pick (bCons (aVar 1) (bCons (aVar 8) bNil))) (aCall0 m__law_standing
    (bCons (aVar 1) (bCons (aVar 3) bNil)))) (agName 9)) (a_law_7 C))
abbrev a_law_9 (C : Cl) : ASt :=
  (aSeq (aAsg (aCall0 m__law_reach (bCons (aVar 3) (bCons (aVar 4) (bCons (aIf (aB (aOp gGt (aCall0 m__law_draw (bCons (aVar 1) (bCons (aC (.int 3)) bNil))) (aC (.int 0)))) (aVar 7) (aTup aNil))
    bNil)))) (agName 8)) (a_law_8 C))
abbrev a_law_10 (C : Cl) : ASt :=
  (aSeq (aAsg (aCB gTupOf (bCons (aLstRg (aVar 5)) bNil)) (agName 13)) (a_law_1 C))
abbrev a_law_11 (C : Cl) : ASt :=
  (aSeq (aFor (aRng1 (bCons (aIf (aB (aOp gLt (aVar 5) (aC (.int 6)))) (aC (.int 3)) (aC (.int 1))) bNil)) (agName 6) (aSeq (aAsg (aCB gTupOf (bCons (aLc (aRng1 (bCons (aVar 5) bNil)) (agName 15)
    (aB (aOp gEq (aCall0 m__law_draw (bCons (aVar 1) (bCons (aOp gIx (aLst (aCons (aC (.int 9)) (aCons (aC (.int 4)) (aCons (aC (.int 2)) aNil)))) (aVar 6)) bNil))) (aC (.int 0)))) (aVar 15) [15]) bNil)) (agName 7)) (a_law_9 C)))
    (a_law_10 C))
abbrev a_law_12 (C : Cl) : ASt :=
  (aSeq (aAsg (aCB gLen (bCons (aOp gIx (aVar 3) (aC (.int 1))) bNil)) (agName 5)) (a_law_11 C))
abbrev a_law_13 (C : Cl) : ASt :=
  (aSeq (aAsg (aCall0 m__law_standing (bCons (aVar 1) (bCons (aVar 3) bNil))) (agName 4)) (a_law_12 C))
abbrev a_law_14 (C : Cl) : ASt :=
  (aSeq (aAsg (aTup (aCons (aC (.int 5)) (aCons (aTup (aCons (aTup (aCons (aC (.int 0)) (aCons (aC (.int 1)) aNil))) (aCons (aTup (aCons (aC (.int 1)) (aCons (aC (.int 2)) aNil))) (aCons (aTup
    (aCons (aC (.int 2)) (aCons (aC (.int 3)) aNil))) (aCons (aTup (aCons (aC (.int 3)) (aCons (aC (.int 4)) aNil))) aNil))))) (aCons (aTup (aCons (aC (.int 1)) (aCons (aC (.int 1)) (aCons (aC (.int 1)) (aCons (aC (.int 1))
    aNil))))) aNil)))) (agName 14)) (a_law_0 C))
abbrev a_law (C : Cl) : ASt :=
  (aSeq (aFor (aRng1 (bCons (aC (.int 2)) bNil)) (agName 2) (aSeq (aAsg (aCall0 m__law_web (bCons (aVar 1) bNil)) (agName 3)) (a_law_13 C))) (a_law_14 C))
def u_law (K : Fg) (C : Cl) (W0 : WX) : TS :=
  (tSeq (tFor (iRng1 (tCons (tC (.int 2)) tNil)) (gName 2) (tSeq (tAsg (tG (sp__law_web K) E00 (tCons (tVar 1) tNil)) (gName 3)) (tSeq (tAsg (tG (sp__law_standing K) E00 (tCons (tVar 1)
    (tCons (tVar 3) tNil))) (gName 4)) (tSeq (tAsg (tCB (rLenU K) (tCons (tOp (rIx K) (tVar 3) (tC (.int 1))) tNil)) (gName 5)) (tSeq (tFor (iRng1 (tCons (tIf (tTest (tOp (rLtU K) (tVar 5) (tC (.int 6)))) (tC (.int 3)) (tC (.int
    1))) tNil)) (gName 6) (tSeq (tAsg (tCB (rTupOf K) (tCons (tLc (iRng1 (tCons (tVar 5) tNil)) (gName 15) (tTest (tOp (rEqU K) (tG (sp__law_draw K) E00 (tCons (tVar 1) (tCons (tOp (rIx K) (tLst (tCons (tC (.int 9)) (tCons (tC
    (.int 4)) (tCons (tC (.int 2)) tNil)))) (tVar 6)) tNil))) (tC (.int 0)))) (tVar 15) [15]) tNil)) (gName 7)) (tSeq (tAsg (tG (sp__law_reach K) E00 (tCons (tVar 3) (tCons (tVar 4) (tCons (tIf (tTest (tOp rGtI (tG (sp__law_draw K)
    E00 (tCons (tVar 1) (tCons (tC (.int 3)) tNil))) (tC (.int 0)))) (tVar 7) (tTup tNil)) tNil)))) (gName 8)) (tSeq (tAsg (tIf (tTest (tOp rGtI (tG (sp__law_draw K) E00 (tCons (tVar 1) (tCons (tC (.int 4)) tNil))) (tC (.int 0))))
    (tG (sp__law_pick K) E00 (tCons (tVar 1) (tCons (tVar 8) tNil))) (tG (sp__law_standing K) E00 (tCons (tVar 1) (tCons (tVar 3) tNil)))) (gName 9)) (tSeq (tAsg (tCB (rReprU K) (tCons (tLst (tCons (tVar 3) (tCons (tVar 4) (tCons
    (tVar 9) (tCons (tVar 7) tNil))))) tNil)) (gName 10)) (tSeq (tAsg (tG (sp_closed_way K C) (WE W0) (tCons (tVar 3) (tCons (tVar 4) (tCons (tVar 9) (tCons (tVar 7) tNil))))) (gName 11)) (tSeq (tAsg (tKw (sp_closed_way K C) 4
    g_kb_closed_way_closed_other_one_web (WE W0) (tCons (tVar 7) (tCons (tVar 9) (tCons (tVar 4) (tCons (tVar 3) tNil))))) (gName 12)) (tSeq (tIfS (tOr (tTest (tOp (rNeU K) (tCB (rReprU K) (tCons (tVar 12) tNil)) (tCB (rReprU K)
    (tCons (tVar 11) tNil)))) (tTest (tOp (rNeU K) (tCB (rReprU K) (tCons (tLst (tCons (tVar 3) (tCons (tVar 4) (tCons (tVar 9) (tCons (tVar 7) tNil))))) tNil)) (tVar 10)))) (tRet (tC (.bl false))) tNext) (tSeq (tIfS (tNot (tB (tG
    (sp__law_is_right K) E00 (tCons (tVar 3) (tCons (tVar 4) (tCons (tVar 9) (tCons (tVar 7) (tCons (tVar 11) tNil)))))))) (tRet (tC (.bl false))) tNext) (tIfS (tNot (tB (tG (sp__law_is_right K) E00 (tCons (tVar 3) (tCons (tVar 9)
    (tCons (tVar 4) (tCons (tVar 7) (tCons (tG (sp_closed_way K C) (WE W0) (tCons (tVar 3) (tCons (tVar 9) (tCons (tVar 4) (tCons (tVar 7) tNil))))) tNil)))))))) (tRet (tC (.bl false))) tNext)))))))))) (tSeq (tAsg (tCB (rTupOf K)
    (tCons (tLstRg (tRg1 (tVar 5))) tNil)) (gName 13)) (tIfS (tNot (tB (tG (sp__law_is_right K) E00 (tCons (tVar 3) (tCons (tVar 4) (tCons (tVar 4) (tCons (tVar 13) (tCons (tG (sp_closed_way K C) (WE W0) (tCons (tVar 3) (tCons
    (tVar 4) (tCons (tVar 4) (tCons (tVar 13) tNil))))) tNil)))))))) (tRet (tC (.bl false))) tNext))))))) (tSeq (tAsg (tTup (tCons (tC (.int 5)) (tCons (tTup (tCons (tTup (tCons (tC (.int 0)) (tCons (tC (.int 1)) tNil))) (tCons
    (tTup (tCons (tC (.int 1)) (tCons (tC (.int 2)) tNil))) (tCons (tTup (tCons (tC (.int 2)) (tCons (tC (.int 3)) tNil))) (tCons (tTup (tCons (tC (.int 3)) (tCons (tC (.int 4)) tNil))) tNil))))) (tCons (tTup (tCons (tC (.int 1))
    (tCons (tC (.int 1)) (tCons (tC (.int 1)) (tCons (tC (.int 1)) tNil))))) tNil)))) (gName 14)) (tRet (tOp rIsN (tG (sp_closed_way K C) (WE W0) (tCons (tVar 14) (tCons (tTup (tCons (tC (.int 1)) (tCons (tC (.int 0)) (tCons (tC
    (.int 0)) (tCons (tC (.int 0)) tNil))))) (tCons (tTup (tCons (tC (.int 0)) (tCons (tC (.int 1)) (tCons (tC (.int 0)) (tCons (tC (.int 0)) tNil))))) (tCons (tTup (tCons (tC (.int 1)) tNil)) tNil))))) (tC .non)))))
theorem f_law {K : Fg} {C : Cl} {E : WX} : RSt K E (u_law K C E) (a_law C) :=
  (rs_seq (rs_for (ri_rng1 (rv_cons re_int rv_nil)) rg_name (rs_seq (rs_asg (re_call0 br__law_web (rv_cons re_var rv_nil)) rg_name) (rs_seq (rs_asg
    (re_call0 br__law_standing (rv_cons re_var (rv_cons re_var rv_nil))) rg_name) (rs_seq (rs_asg (re_cb rb_len (rv_cons (re_op ro_ix re_var re_int) rv_nil)) rg_name) (rs_seq (rs_for (ri_rng1 (rv_cons (re_if (rt_test (re_op ro_lt
    re_var re_int)) re_int re_int) rv_nil)) rg_name (rs_seq (rs_asg (re_cb rb_tupOf (rv_cons (re_lc (ri_rng1 (rv_cons re_var rv_nil)) rg_name (rt_test (re_op ro_eq (re_call0 br__law_draw (rv_cons re_var (rv_cons (re_op ro_ix
    (re_lst (ra_cons re_int (ra_cons re_int (ra_cons re_int ra_nil)))) re_var) rv_nil))) re_int)) re_var (by rfl)) rv_nil)) rg_name) (rs_seq (rs_asg (re_call0 br__law_reach (rv_cons re_var (rv_cons re_var (rv_cons (re_if (rt_test
    (re_op ro_gt (re_call0 br__law_draw (rv_cons re_var (rv_cons re_int rv_nil))) re_int)) re_var (re_tup ra_nil)) rv_nil)))) rg_name) (rs_seq (rs_asg (re_if (rt_test (re_op ro_gt (re_call0 br__law_draw (rv_cons re_var (rv_cons
    re_int rv_nil))) re_int)) (re_call0 br__law_pick (rv_cons re_var (rv_cons re_var rv_nil))) (re_call0 br__law_standing (rv_cons re_var (rv_cons re_var rv_nil)))) rg_name) (rs_seq (rs_asg (re_cb rb_repr (rv_cons (re_lst (ra_cons
    re_var (ra_cons re_var (ra_cons re_var (ra_cons re_var ra_nil))))) rv_nil)) rg_name) (rs_seq (rs_asg (re_call br_closed_way (fun _ _ _ _ h => h) (rv_cons re_var (rv_cons re_var (rv_cons re_var (rv_cons re_var rv_nil)))))
    rg_name) (rs_seq (rs_asg (re_kw br_closed_way (fun _ _ _ _ h => h) kq_kb_closed_way_closed_other_one_web (rv_cons re_var (rv_cons re_var (rv_cons re_var (rv_cons re_var rv_nil))))) rg_name) (rs_seq (rs_ifs (rt_or (rt_test
    (re_op ro_ne (re_cb rb_repr (rv_cons re_var rv_nil)) (re_cb rb_repr (rv_cons re_var rv_nil)))) (rt_test (re_op ro_ne (re_cb rb_repr (rv_cons (re_lst (ra_cons re_var (ra_cons re_var (ra_cons re_var (ra_cons re_var ra_nil)))))
    rv_nil)) re_var))) (rs_ret re_bl) rs_next) (rs_seq (rs_ifs (rt_not (rt_b (re_call0 br__law_is_right (rv_cons re_var (rv_cons re_var (rv_cons re_var (rv_cons re_var (rv_cons re_var rv_nil)))))))) (rs_ret re_bl) rs_next) (rs_ifs
    (rt_not (rt_b (re_call0 br__law_is_right (rv_cons re_var (rv_cons re_var (rv_cons re_var (rv_cons re_var (rv_cons (re_call br_closed_way (fun _ _ _ _ h => h) (rv_cons re_var (rv_cons re_var (rv_cons re_var (rv_cons re_var
    rv_nil))))) rv_nil)))))))) (rs_ret re_bl) rs_next)))))))))) (rs_seq (rs_asg (re_cb rb_tupOf (rv_cons (re_lstRg re_var) rv_nil)) rg_name) (rs_ifs (rt_not (rt_b (re_call0 br__law_is_right (rv_cons re_var (rv_cons re_var (rv_cons
    re_var (rv_cons re_var (rv_cons (re_call br_closed_way (fun _ _ _ _ h => h) (rv_cons re_var (rv_cons re_var (rv_cons re_var (rv_cons re_var rv_nil))))) rv_nil)))))))) (rs_ret re_bl) rs_next))))))) (rs_seq (rs_asg (re_tup
    (ra_cons re_int (ra_cons (re_tup (ra_cons (re_tup (ra_cons re_int (ra_cons re_int ra_nil))) (ra_cons (re_tup (ra_cons re_int (ra_cons re_int ra_nil))) (ra_cons (re_tup (ra_cons re_int (ra_cons re_int ra_nil))) (ra_cons (re_tup
    (ra_cons re_int (ra_cons re_int ra_nil))) ra_nil))))) (ra_cons (re_tup (ra_cons re_int (ra_cons re_int (ra_cons re_int (ra_cons re_int ra_nil))))) ra_nil)))) rg_name) (rs_ret (re_op ro_isN (re_call br_closed_way (fun _ _ _ _ h
    => h) (rv_cons re_var (rv_cons (re_tup (ra_cons re_int (ra_cons re_int (ra_cons re_int (ra_cons re_int ra_nil))))) (rv_cons (re_tup (ra_cons re_int (ra_cons re_int (ra_cons re_int (ra_cons re_int ra_nil))))) (rv_cons (re_tup
    (ra_cons re_int ra_nil)) rv_nil))))) re_non))))
section
variable {x : AXc} {k : Avl → Prop} {n : Int} {rs : List (Int × Int)} {ms ls a b cl : List Int} {C : Cl}
theorem law_holds : a_law C { nx := fun _ => False, rt := fun av => av = .d (.bool true) } (.x :: .wl 3 :: List.replicate 14 .x) := by
  show a_law C _ [.x, .wl 3, .x, .x, .x, .x, .x, .x, .x, .x, .x, .x, .x, .x, .x, .x]
  walk_at "ax"
  refine i_r1 (by omega) ?_
  refine a_loop (fun i α => ∃ x2 x3 x4 x5 x6 x7 x8 x9 x10 x11 x12 x13, α = [.x, .wl 3, x2, x3, x4, x5, x6, x7, x8, x9, x10, x11, x12, x13, .x, .x]) ⟨_, _, _, _, _, _, _, _, _, _, _, _, rfl⟩ ?_ ?_
  · rintro i y α hy ⟨x2, x3, x4, x5, x6, x7, x8, x9, x10, x11, x12, x13, rfl⟩
    obtain ⟨rfl, hi⟩ := iota_at' hy
    walk_at "ax"
    refine s__law_web fun n rs ms w s128 n8 l7 => ⟨?_, fun z => by cases z⟩
    have r0 := List.length_pos_iff.mpr w.ne
    walk_at "ax"
    refine s__law_standing w fun a sa => ⟨?_, fun z => by cases z⟩
    walk_at "ax"
    rw [List.length_map]
    refine s_dec (fun c0 => ?_) (fun c0 => ?_)
    all_goals
      walk_at "ax"
      refine i_r1 (by omega) ?_
      refine a_loop (fun j α => ∃ x6 x7 x8 x9 x10 x11 x12, α = [.x, .wl 3, .d (.int (i : Int)), .d (dWeb n rs ms), .d (dIs a), .d (.int (rs.length : Int)), x6, x7, x8, x9, x10, x11, x12, x13, .x, .x]) ⟨_, _, _, _, _, _, _, rfl⟩ ?_ ?_
      · rintro j y α hy ⟨x6, x7, x8, x9, x10, x11, x12, rfl⟩
        obtain ⟨rfl, hj⟩ := iota_at' hy
        have rl := w.l
        walk_at "ax"
        refine i_r1 (by omega) ⟨by rw [List.length_map, iota_len]; omega, ?_⟩
        refine a_lcgo (fun u acc => ∃ cl : List Int, acc = cl.map .int ∧ cl.length ≤ u ∧ ∀ q ∈ cl, 0 ≤ q ∧ q < u) ⟨[], rfl, Nat.le_refl _, fun q hq => by cases hq⟩ ?_ ?_
        · rintro u y acc hy ⟨cl, rfl, cll, clb⟩
          obtain ⟨rfl, hu⟩ := iota_at' hy
          have at3 : ∃ z : Int, atI [PyData.int 9, .int 4, .int 2] (j : Int) = some (.int z) ∧ 0 < z ∧ z < 10 := by
            have : j = 0 ∨ j = 1 ∨ j = 2 := by omega
            rcases this with rfl | rfl | rfl
            · exact ⟨9, rfl, by decide, by decide⟩
            · exact ⟨4, rfl, by decide, by decide⟩
            · exact ⟨2, rfl, by decide, by decide⟩
          obtain ⟨z, hz, z0, z1⟩ := at3
          walk_at "ax"
          refine g_ixL rfl hz ?_
          walk_at "ax"
          refine ⟨_, rfl, z0, by omega, fun r _ _ => ⟨?_, fun z => by cases z⟩⟩
          walk_at "ax"
          refine s_dec (fun c1 => ?_) (fun c1 => ?_)
          · walk_at "ax"
            refine ⟨cl ++ [(u : Int)], by rw [List.map_append]; rfl, by rw [List.length_append, List.length_singleton]; omega, fun q hq => ?_⟩
            rcases List.mem_append.mp hq with hq | hq
            · have := clb q hq; omega
            · rw [List.mem_singleton.mp hq]; omega
          · exact ⟨cl, rfl, by omega, fun q hq => by have := clb q hq; omega⟩
        rintro acc ⟨cl, rfl, cll, clb⟩ -
        rw [List.length_map, iota_len] at cll clb
        have scl : Shw (dIs cl) := shw (okd_dIs (m := 40) (fun q hq => by have := clb q hq; omega) (by omega)).x
        walk_at "ax"
        refine ⟨_, rfl, by decide, by decide, fun r3 _ _ => ⟨?_, fun z => by cases z⟩⟩
        walk_at "ax"
        have near : ∀ cl' : List Int, ∀ k' : Avl → Prop, (∀ L, Rl rs ms cl' a L → k' (.l (L.map dIs))) → m__law_reach [.d (dWeb n rs ms), .d (dIs a), .d (dIs cl')] (fun _ _ => False) k' := fun cl' k' hk => s__law_reach w sa (by omega) hk
        have pick : ∀ (cl' : List Int) (L : List (List Int)), Rl rs ms cl' a L → ∀ k' : Avl → Prop, (∀ b, Stand ms b → k' (.d (dIs b))) → m__law_pick [.wl 3, .d (.list (L.map dIs))] (fun _ _ => False) k' := fun cl' L hL k' hk => by
          have ha : a ∈ L := (hL.m a).mpr .refl
          have fl := few hL.nd fun y hy => ((hL.m y).mp hy).ok w sa
          refine s__law_pick rfl (fun z => ?_) (by rw [List.length_map]; omega) fun d hd => ?_
          · rw [List.map_eq_nil_iff.mp z] at ha
            cases ha
          · obtain ⟨b, hb, rfl⟩ := List.mem_map.mp hd
            exact hk b (((hL.m b).mp hb).ok w sa)
        have sl : ∀ b, Stand ms b → Shw (.list [dWeb n rs ms, dIs a, dIs b, dIs cl]) := fun b sb => by
          refine UW.shw (Okd.lst (n := 30014) (k := 3) (m := 4) (fun d hd => ?_) (Nat.le_refl _)).x
          rcases List.mem_cons.mp hd with rfl | hd
          · exact okd_webJ w
          rcases List.mem_cons.mp hd with rfl | hd
          · exact (okd_standJ w sa).mono (by decide) (by decide)
          rcases List.mem_cons.mp hd with rfl | hd
          · exact (okd_standJ w sb).mono (by decide) (by decide)
          rcases List.mem_cons.mp hd with rfl | hd
          · exact (okd_dIs (m := 40) (fun q hq => by have := clb q hq; omega) (by omega)).mono (by decide) (by decide)
          · cases hd
        refine s_dec (fun c2 => ?_) (fun c2 => ?_)
        all_goals
          walk_at "ax"
          first | refine near cl _ fun L hL => ⟨?_, fun z => by cases z⟩ | refine near [] _ fun L hL => ⟨?_, fun z => by cases z⟩
          walk_at "ax"
          refine ⟨_, rfl, by decide, by decide, fun r4 _ _ => ⟨?_, fun z => by cases z⟩⟩
          walk_at "ax"
          refine s_dec (fun c3 => ?_) (fun c3 => ?_)
          · walk_at "ax"
            refine pick _ L hL _ fun b sb => ⟨?_, fun z => by cases z⟩
            have slt : Shw (.list [dWeb n rs ms, dIs a, dIs b, dIs cl]) := sl b sb
            walk_at "ax"
            refine g_repr (d := .list [dWeb n rs ms, dIs a, dIs b, dIs cl]) rfl slt ?_
            walk_at "ax"
            refine s_closed w sa (by omega) fun d hd => ⟨?_, fun z => by cases z⟩
            walk_at "ax"
            refine s_closed (a := a) (b := b) (cl := cl) w sa (by omega) fun d2 hd2 => ⟨?_, fun z => by cases z⟩
            cases hd.fn hd2
            have sd := hd.shw w sa
            walk_at "ax"
            refine g_repr rfl sd ?_
            walk_at "ax"
            refine g_repr rfl sd ?_
            walk_at "ax"
            refine iteF' (by rw [decide_eq_true rfl]; rfl) ?_
            walk_at "ax"
            refine g_repr (d := .list [dWeb n rs ms, dIs a, dIs b, dIs cl]) rfl slt ?_
            walk_at "ax"
            refine iteF' (by rw [decide_eq_true rfl]; rfl) ?_
            walk_at "ax"
            refine s_right w sa (by omega) hd ⟨?_, fun z => by cases z⟩
            walk_at "ax"
            refine iteF' rfl ?_
            walk_at "ax"
            refine s_closed w sb (by omega) fun d3 hd3 => ⟨?_, fun z => by cases z⟩
            walk_at "ax"
            refine s_right w sb (by omega) hd3 ⟨?_, fun z => by cases z⟩
            walk_at "ax"
            refine iteF' rfl ?_
            walk_at "ax"
            exact ⟨_, _, _, _, _, _, _, rfl⟩
          · walk_at "ax"
            refine s__law_standing w fun b sb => ⟨?_, fun z => by cases z⟩
            have slt : Shw (.list [dWeb n rs ms, dIs a, dIs b, dIs cl]) := sl b sb
            walk_at "ax"
            refine g_repr (d := .list [dWeb n rs ms, dIs a, dIs b, dIs cl]) rfl slt ?_
            walk_at "ax"
            refine s_closed w sa (by omega) fun d hd => ⟨?_, fun z => by cases z⟩
            walk_at "ax"
            refine s_closed (a := a) (b := b) (cl := cl) w sa (by omega) fun d2 hd2 => ⟨?_, fun z => by cases z⟩
            cases hd.fn hd2
            have sd := hd.shw w sa
            walk_at "ax"
            refine g_repr rfl sd ?_
            walk_at "ax"
            refine g_repr rfl sd ?_
            walk_at "ax"
            refine iteF' (by rw [decide_eq_true rfl]; rfl) ?_
            walk_at "ax"
            refine g_repr (d := .list [dWeb n rs ms, dIs a, dIs b, dIs cl]) rfl slt ?_
            walk_at "ax"
            refine iteF' (by rw [decide_eq_true rfl]; rfl) ?_
            walk_at "ax"
            refine s_right w sa (by omega) hd ⟨?_, fun z => by cases z⟩
            walk_at "ax"
            refine iteF' rfl ?_
            walk_at "ax"
            refine s_closed w sb (by omega) fun d3 hd3 => ⟨?_, fun z => by cases z⟩
            walk_at "ax"
            refine s_right w sb (by omega) hd3 ⟨?_, fun z => by cases z⟩
            walk_at "ax"
            refine iteF' rfl ?_
            walk_at "ax"
            exact ⟨_, _, _, _, _, _, _, rfl⟩
      · rintro α ⟨x6, x7, x8, x9, x10, x11, x12, rfl⟩
        have rl := w.l
        walk_at "ax"
        refine ⟨by omega, by omega, ?_⟩
        walk_at "ax"
        refine s_closed (cl := iota rs.length) w sa (by omega) fun d hd => ⟨?_, fun z => by cases z⟩
        walk_at "ax"
        refine s_right (cl := iota rs.length) w sa (by omega) hd ⟨?_, fun z => by cases z⟩
        walk_at "ax"
        exact ⟨_, _, _, _, _, _, _, _, _, _, _, _, rfl⟩
  · rintro α ⟨x2, x3, x4, x5, x6, x7, x8, x9, x10, x11, x12, x13, rfl⟩
    walk_at "ax"
    refine s_row ⟨?_, fun z => by cases z⟩
    walk_at "ax"
    rfl
theorem p_law {K : Fg} {vs : List V} {H : Hp} {Q : VK} {E : XK} (h : sp_law K vs H Q E) : t_law K C (fun c d _ H => E c d H) { nx := fun _ H' => Q .non H', rt := Q } (L2.start ["script", "jar", "turn", "web", "one", "many", "again", "shut", "near", "other", "kept", "told", "again_told", "every", "row", "road"] vs) H :=
  p_lawJ f_law rfl law_holds h
end
end UW.Ja
namespace UW.Ja.D83
open PySem PySem.Spec PyProof.Rows L2 UW

def top (i : Nat) : Stmt := PySem.Challenge.pw_unevenroads_k83_whole_ways_past_closed_r.main.body.getD i (.Pass ⟨0, 0, 0, 0⟩)
abbrev s_sums_of : Stmt := top 5
abbrev N_sums_of : List Str := ["web", "standing", "found", "one", "other", "load"]
theorem sc_sums_of : FnScope N_sums_of ["web", "standing"] (defScope s_sums_of) := ⟨rfl, rfl, rfl, by decide +kernel, rfl, by decide +kernel, by decide +kernel⟩
abbrev s_unlike_roads : Stmt := top 6
abbrev N_unlike_roads : List Str := ["web", "standing", "sums", "road", "one", "other"]
theorem sc_unlike_roads : FnScope N_unlike_roads ["web", "standing"] (defScope s_unlike_roads) := ⟨rfl, rfl, rfl, by decide +kernel, rfl, by decide +kernel, by decide +kernel⟩
abbrev s_with_load : Stmt := top 8
abbrev N_with_load : List Str := ["standing", "road", "load"]
theorem sc_with_load : FnScope N_with_load ["standing", "road", "load"] (defScope s_with_load) := ⟨rfl, rfl, rfl, by decide +kernel, rfl, by decide +kernel, by decide +kernel⟩
abbrev s_beside : Stmt := top 9
abbrev N_beside : List Str := ["web", "standing", "n", "roads", "most", "found", "road", "load"]
theorem sc_beside : FnScope N_beside ["web", "standing"] (defScope s_beside) := ⟨rfl, rfl, rfl, by decide +kernel, rfl, by decide +kernel, by decide +kernel⟩
abbrev s_reached : Stmt := top 10
abbrev N_reached : List Str := ["web", "start", "closed", "limit", "waiting", "at", "elder", "deed", "standing", "known"]
theorem sc_reached : FnScope N_reached ["web", "start", "closed", "limit"] (defScope s_reached) := ⟨rfl, rfl, rfl, by decide +kernel, rfl, by decide +kernel, by decide +kernel⟩
abbrev s_way_to : Stmt := top 11
abbrev N_way_to : List Str := ["known", "standing", "found", "step"]
theorem sc_way_to : FnScope N_way_to ["known", "standing"] (defScope s_way_to) := ⟨rfl, rfl, rfl, by decide +kernel, rfl, by decide +kernel, by decide +kernel⟩
abbrev s_closed_way : Stmt := top 13
abbrev N_closed_way : List Str := ["web", "one", "other", "closed", "known"]
theorem sc_closed_way : FnScope N_closed_way ["web", "one", "other", "closed"] (defScope s_closed_way) := ⟨rfl, rfl, rfl, by decide +kernel, rfl, by decide +kernel, by decide +kernel⟩
abbrev s__law_jar : Stmt := top 15
abbrev N__law_jar : List Str := ["script", "seal", "own", "cells", "far"]
theorem sc__law_jar : FnScope N__law_jar ["script"] (defScope s__law_jar) := ⟨rfl, rfl, rfl, by decide +kernel, rfl, by decide +kernel, by decide +kernel⟩
abbrev s__law_draw : Stmt := top 16
abbrev N__law_draw : List Str := ["jar", "many", "far", "own", "count", "cells", "mixed", "turn"]
theorem sc__law_draw : FnScope N__law_draw ["jar", "many"] (defScope s__law_draw) := ⟨rfl, rfl, rfl, by decide +kernel, rfl, by decide +kernel, by decide +kernel⟩
abbrev s__law_pick : Stmt := top 17
abbrev N__law_pick : List Str := ["jar", "row"]
theorem sc__law_pick : FnScope N__law_pick ["jar", "row"] (defScope s__law_pick) := ⟨rfl, rfl, rfl, by decide +kernel, rfl, by decide +kernel, by decide +kernel⟩
abbrev s__law_mixed : Stmt := top 18
abbrev N__law_mixed : List Str := ["jar", "row", "rest", "turn", "found"]
theorem sc__law_mixed : FnScope N__law_mixed ["jar", "row"] (defScope s__law_mixed) := ⟨rfl, rfl, rfl, by decide +kernel, rfl, by decide +kernel, by decide +kernel⟩
abbrev s__law_made : Stmt := top 19
abbrev N__law_made : List Str := ["jar", "n", "pairs", "loads", "names", "a", "b", "load", "found"]
theorem sc__law_made : FnScope N__law_made ["jar", "n", "pairs", "loads"] (defScope s__law_made) := ⟨rfl, rfl, rfl, by decide +kernel, rfl, by decide +kernel, by decide +kernel⟩
abbrev s__law_tree : Stmt := top 20
abbrev N__law_tree : List Str := ["jar", "n", "place"]
theorem sc__law_tree : FnScope N__law_tree ["jar", "n"] (defScope s__law_tree) := ⟨rfl, rfl, rfl, by decide +kernel, rfl, by decide +kernel, by decide +kernel⟩
abbrev s__law_more : Stmt := top 21
abbrev N__law_more : List Str := ["jar", "n", "pairs", "many", "rest", "a", "b"]
theorem sc__law_more : FnScope N__law_more ["jar", "n", "pairs", "many"] (defScope s__law_more) := ⟨rfl, rfl, rfl, by decide +kernel, rfl, by decide +kernel, by decide +kernel⟩
abbrev s__law_web : Stmt := top 22
abbrev N__law_web : List Str := ["jar", "way", "far", "pairs", "n", "k", "elder", "a", "b", "most", "pair"]
theorem sc__law_web : FnScope N__law_web ["jar"] (defScope s__law_web) := ⟨rfl, rfl, rfl, by decide +kernel, rfl, by decide +kernel, by decide +kernel⟩
abbrev s__law_sums : Stmt := top 23
abbrev N__law_sums : List Str := ["web", "standing", "found", "a", "b", "load"]
theorem sc__law_sums : FnScope N__law_sums ["web", "standing"] (defScope s__law_sums) := ⟨rfl, rfl, rfl, by decide +kernel, rfl, by decide +kernel, by decide +kernel⟩
abbrev s__law_near : Stmt := top 24
abbrev N__law_near : List Str := ["web", "standing", "sums", "road", "a", "b", "by", "load", "found"]
theorem sc__law_near : FnScope N__law_near ["web", "standing"] (defScope s__law_near) := ⟨rfl, rfl, rfl, by decide +kernel, rfl, by decide +kernel, by decide +kernel⟩
abbrev s__law_standing : Stmt := top 25
abbrev N__law_standing : List Str := ["jar", "web", "way", "loads", "road", "most", "k", "own"]
theorem sc__law_standing : FnScope N__law_standing ["jar", "web"] (defScope s__law_standing) := ⟨rfl, rfl, rfl, by decide +kernel, rfl, by decide +kernel, by decide +kernel⟩
abbrev s__law_reach : Stmt := top 26
abbrev N__law_reach : List Str := ["web", "standing", "shut", "known", "todo", "own", "deed", "further"]
theorem sc__law_reach : FnScope N__law_reach ["web", "standing", "shut"] (defScope s__law_reach) := ⟨rfl, rfl, rfl, by decide +kernel, rfl, by decide +kernel, by decide +kernel⟩
abbrev s__law_led : Stmt := top 27
abbrev N__law_led : List Str := ["web", "standing", "way", "shut", "own", "deed", "known", "further"]
theorem sc__law_led : FnScope N__law_led ["web", "standing", "way", "shut"] (defScope s__law_led) := ⟨rfl, rfl, rfl, by decide +kernel, rfl, by decide +kernel, by decide +kernel⟩
abbrev s__law_is_right : Stmt := top 28
abbrev N__law_is_right : List Str := ["web", "one", "other", "shut", "told"]
theorem sc__law_is_right : FnScope N__law_is_right ["web", "one", "other", "shut", "told"] (defScope s__law_is_right) := ⟨rfl, rfl, rfl, by decide +kernel, rfl, by decide +kernel, by decide +kernel⟩
abbrev s_law : Stmt := top 29
abbrev N_law : List Str := ["script", "jar", "turn", "web", "one", "many", "again", "shut", "near", "other", "kept", "told", "again_told", "every", "row", "road"]
theorem sc_law : FnScope N_law ["script"] (defScope s_law) := ⟨rfl, rfl, rfl, by decide +kernel, rfl, by decide +kernel, by decide +kernel⟩
abbrev s__TooMany : Stmt := inClass (top 3) 0
theorem sc__TooMany : FnScope ["self", "limit"] ["self", "limit"] (defScope s__TooMany) := ⟨rfl, rfl, rfl, by decide +kernel, rfl, by decide +kernel, by decide +kernel⟩
structure Fs where
  f_sums_of : Addr
  d_sums_of : FuncData
  f_unlike_roads : Addr
  d_unlike_roads : FuncData
  f_with_load : Addr
  d_with_load : FuncData
  f_beside : Addr
  d_beside : FuncData
  f_reached : Addr
  d_reached : FuncData
  f_way_to : Addr
  d_way_to : FuncData
  f_closed_way : Addr
  d_closed_way : FuncData
  f__law_jar : Addr
  d__law_jar : FuncData
  f__law_draw : Addr
  d__law_draw : FuncData
  f__law_pick : Addr
  d__law_pick : FuncData
  f__law_mixed : Addr
  d__law_mixed : FuncData
  f__law_made : Addr
  d__law_made : FuncData
  f__law_tree : Addr
  d__law_tree : FuncData
  f__law_more : Addr
  d__law_more : FuncData
  f__law_web : Addr
  d__law_web : FuncData
  f__law_sums : Addr
  d__law_sums : FuncData
  f__law_near : Addr
  d__law_near : FuncData
  f__law_standing : Addr
  d__law_standing : FuncData
  f__law_reach : Addr
  d__law_reach : FuncData
  f__law_led : Addr
  d__law_led : FuncData
  f__law_is_right : Addr
  d__law_is_right : FuncData
  f_law : Addr
  d_law : FuncData
  f__TooMany : Addr
  d__TooMany : FuncData
  cl : Cl
structure All (K : Fg) (mg : Str → Option Value) (F : Fs) : Prop where
  h_sums_of : Fun K "sums_of" "sums_of" s_sums_of F.f_sums_of F.d_sums_of
  b_sums_of : Binds K F.d_sums_of ["web", "standing"] []
  m_sums_of : mg "sums_of" = some (.ref F.f_sums_of)
  k_sums_of : PySem.W.keepIn K (.ref F.f_sums_of) = true
  h_unlike_roads : Fun K "unlike_roads" "unlike_roads" s_unlike_roads F.f_unlike_roads F.d_unlike_roads
  b_unlike_roads : Binds K F.d_unlike_roads ["web", "standing"] []
  m_unlike_roads : mg "unlike_roads" = some (.ref F.f_unlike_roads)
  k_unlike_roads : PySem.W.keepIn K (.ref F.f_unlike_roads) = true
  h_with_load : Fun K "with_load" "with_load" s_with_load F.f_with_load F.d_with_load
  b_with_load : Binds K F.d_with_load ["standing", "road", "load"] []
  m_with_load : mg "with_load" = some (.ref F.f_with_load)
  k_with_load : PySem.W.keepIn K (.ref F.f_with_load) = true
  h_beside : Fun K "beside" "beside" s_beside F.f_beside F.d_beside
  b_beside : Binds K F.d_beside ["web", "standing"] []
  m_beside : mg "beside" = some (.ref F.f_beside)
  k_beside : PySem.W.keepIn K (.ref F.f_beside) = true
  h_reached : Fun K "reached" "reached" s_reached F.f_reached F.d_reached
  b_reached : Binds K F.d_reached ["web", "start", "closed", "limit"] []
  m_reached : mg "reached" = some (.ref F.f_reached)
  k_reached : PySem.W.keepIn K (.ref F.f_reached) = true
  h_way_to : Fun K "way_to" "way_to" s_way_to F.f_way_to F.d_way_to
  b_way_to : Binds K F.d_way_to ["known", "standing"] []
  m_way_to : mg "way_to" = some (.ref F.f_way_to)
  k_way_to : PySem.W.keepIn K (.ref F.f_way_to) = true
  h_closed_way : Fun K "closed_way" "closed_way" s_closed_way F.f_closed_way F.d_closed_way
  b_closed_way : Binds K F.d_closed_way ["web", "one", "other", "closed"] []
  m_closed_way : mg "closed_way" = some (.ref F.f_closed_way)
  k_closed_way : PySem.W.keepIn K (.ref F.f_closed_way) = true
  h__law_jar : Fun K "_law_jar" "_law_jar" s__law_jar F.f__law_jar F.d__law_jar
  b__law_jar : Binds K F.d__law_jar ["script"] []
  m__law_jar : mg "_law_jar" = some (.ref F.f__law_jar)
  k__law_jar : PySem.W.keepIn K (.ref F.f__law_jar) = true
  h__law_draw : Fun K "_law_draw" "_law_draw" s__law_draw F.f__law_draw F.d__law_draw
  b__law_draw : Binds K F.d__law_draw ["jar", "many"] []
  m__law_draw : mg "_law_draw" = some (.ref F.f__law_draw)
  k__law_draw : PySem.W.keepIn K (.ref F.f__law_draw) = true
  h__law_pick : Fun K "_law_pick" "_law_pick" s__law_pick F.f__law_pick F.d__law_pick
  b__law_pick : Binds K F.d__law_pick ["jar", "row"] []
  m__law_pick : mg "_law_pick" = some (.ref F.f__law_pick)
  k__law_pick : PySem.W.keepIn K (.ref F.f__law_pick) = true
  h__law_mixed : Fun K "_law_mixed" "_law_mixed" s__law_mixed F.f__law_mixed F.d__law_mixed
  b__law_mixed : Binds K F.d__law_mixed ["jar", "row"] []
  m__law_mixed : mg "_law_mixed" = some (.ref F.f__law_mixed)
  k__law_mixed : PySem.W.keepIn K (.ref F.f__law_mixed) = true
  h__law_made : Fun K "_law_made" "_law_made" s__law_made F.f__law_made F.d__law_made
  b__law_made : Binds K F.d__law_made ["jar", "n", "pairs", "loads"] []
  m__law_made : mg "_law_made" = some (.ref F.f__law_made)
  k__law_made : PySem.W.keepIn K (.ref F.f__law_made) = true
  h__law_tree : Fun K "_law_tree" "_law_tree" s__law_tree F.f__law_tree F.d__law_tree
  b__law_tree : Binds K F.d__law_tree ["jar", "n"] []
  m__law_tree : mg "_law_tree" = some (.ref F.f__law_tree)
  k__law_tree : PySem.W.keepIn K (.ref F.f__law_tree) = true
  h__law_more : Fun K "_law_more" "_law_more" s__law_more F.f__law_more F.d__law_more
  b__law_more : Binds K F.d__law_more ["jar", "n", "pairs", "many"] []
  m__law_more : mg "_law_more" = some (.ref F.f__law_more)
  k__law_more : PySem.W.keepIn K (.ref F.f__law_more) = true
  h__law_web : Fun K "_law_web" "_law_web" s__law_web F.f__law_web F.d__law_web
  b__law_web : Binds K F.d__law_web ["jar"] []
  m__law_web : mg "_law_web" = some (.ref F.f__law_web)
  k__law_web : PySem.W.keepIn K (.ref F.f__law_web) = true
  h__law_sums : Fun K "_law_sums" "_law_sums" s__law_sums F.f__law_sums F.d__law_sums
  b__law_sums : Binds K F.d__law_sums ["web", "standing"] []
  m__law_sums : mg "_law_sums" = some (.ref F.f__law_sums)
  k__law_sums : PySem.W.keepIn K (.ref F.f__law_sums) = true
  h__law_near : Fun K "_law_near" "_law_near" s__law_near F.f__law_near F.d__law_near
  b__law_near : Binds K F.d__law_near ["web", "standing"] []
  m__law_near : mg "_law_near" = some (.ref F.f__law_near)
  k__law_near : PySem.W.keepIn K (.ref F.f__law_near) = true
  h__law_standing : Fun K "_law_standing" "_law_standing" s__law_standing F.f__law_standing F.d__law_standing
  b__law_standing : Binds K F.d__law_standing ["jar", "web"] []
  m__law_standing : mg "_law_standing" = some (.ref F.f__law_standing)
  k__law_standing : PySem.W.keepIn K (.ref F.f__law_standing) = true
  h__law_reach : Fun K "_law_reach" "_law_reach" s__law_reach F.f__law_reach F.d__law_reach
  b__law_reach : Binds K F.d__law_reach ["web", "standing", "shut"] []
  m__law_reach : mg "_law_reach" = some (.ref F.f__law_reach)
  k__law_reach : PySem.W.keepIn K (.ref F.f__law_reach) = true
  h__law_led : Fun K "_law_led" "_law_led" s__law_led F.f__law_led F.d__law_led
  b__law_led : Binds K F.d__law_led ["web", "standing", "way", "shut"] []
  m__law_led : mg "_law_led" = some (.ref F.f__law_led)
  k__law_led : PySem.W.keepIn K (.ref F.f__law_led) = true
  h__law_is_right : Fun K "_law_is_right" "_law_is_right" s__law_is_right F.f__law_is_right F.d__law_is_right
  b__law_is_right : Binds K F.d__law_is_right ["web", "one", "other", "shut", "told"] []
  m__law_is_right : mg "_law_is_right" = some (.ref F.f__law_is_right)
  k__law_is_right : PySem.W.keepIn K (.ref F.f__law_is_right) = true
  h_law : Fun K "law" "law" s_law F.f_law F.d_law
  b_law : Binds K F.d_law ["script"] []
  m_law : mg "law" = some (.ref F.f_law)
  k_law : PySem.W.keepIn K (.ref F.f_law) = true
  m_TooMany : mg "TooMany" = some (.ref F.cl.TooMany)
  o_TooMany : OexC K F.cl.TooMany
  i_TooMany : PySem.W.findIn K (.ref F.cl.TooMany) "__init__" = some (some (.ref F.f__TooMany))
  t_TooMany : PySem.W.typeIn K (.ref F.f__TooMany) = some (.type "function")
  x_TooMany : ExF K F.cl.TooMany F.cl.UnevenError "limit"
  h__TooMany : Fun K "__init__" "TooMany.__init__" s__TooMany F.f__TooMany F.d__TooMany
  b_TooMany : Binds K F.d__TooMany ["self", "limit"] []
  m_UnevenError : mg "UnevenError" = some (.ref F.cl.UnevenError)
  u_UnevenError : UeC K F.cl.UnevenError
  z_dict : mg "dict" = none
  z_enumerate : mg "enumerate" = none
  z_int : mg "int" = none
  z_isinstance : mg "isinstance" = none
  z_len : mg "len" = none
  z_list : mg "list" = none
  z_max : mg "max" = none
  z_min : mg "min" = none
  z_range : mg "range" = none
  z_repr : mg "repr" = none
  z_sorted : mg "sorted" = none
  z_tuple : mg "tuple" = none
  z_zip : mg "zip" = none
  c_MAX_SEEN : ∃ t, mg "MAX_SEEN" = some (.int 2000 t)
variable {P : Program} {w : World} {K : Fg} {mg : Str → Option Value} {base : Heap} {F : Fs}
theorem kb_closed_way_closed_other_one_web (A : All K mg F) : KOnly K F.d_closed_way ["web", "one", "other", "closed"] ["closed", "other", "one", "web"] g_kb_closed_way_closed_other_one_web := by
  obtain ⟨oc, od, kV, doc, pm, an, cdv, ct, osl, e, lk, hcd⟩ := A.h_closed_way.ex
  rw [e]
  refine ⟨fun s ws _ hl => match ws, hl with | [_, _, _, _], _ => .of_eq rfl, ?_⟩
  intro zs ws r
  rcases r with _ | ⟨r0, r⟩
  · exact .nil
  rcases r with _ | ⟨r1, r⟩
  · exact (.cons r0 .nil)
  rcases r with _ | ⟨r2, r⟩
  · exact (.cons r0 (.cons r1 .nil))
  rcases r with _ | ⟨r3, r⟩
  · exact (.cons r0 (.cons r1 (.cons r2 .nil)))
  rcases r with _ | ⟨rx, r⟩
  · exact (.cons r3 (.cons r2 (.cons r1 (.cons r0 .nil))))
  · exact (.cons r0 (.cons r1 (.cons r2 (.cons r3 (.cons rx r)))))
theorem g__TooMany (A : All K mg F) : FnOk P w K mg base (L2.CX P w) 1 F.f__TooMany F.d__TooMany ["self", "limit"] (sp_arg K "limit") := by
  refine Fun.okX A.h__TooMany sc__TooMany l_arg ?_
  intro cdv Ar o s H vs Q E hr h
  exact ⟨t_arg K "more than are gone through" "limit", (pss_cons (ps_expr (pe_ueinit (by rfl) A.m_UnevenError A.u_UnevenError (pa_cons (pv 0) (pa_cons pe_str pa_nil)))) (pss_one (ps_ost (pv 0) (pv 1)))), p_arg h⟩
theorem g_sums_of (A : All K mg F) (hsm : Smb base) : FnG P w K mg base 1 F.f_sums_of F.d_sums_of ["web", "standing"] (sp_sums_of K) := by
  refine Fun.okG A.h_sums_of sc_sums_of l_sums_of ?_
  intro cdv Ar o s H vs Q E hG hr h
  have hu := hu_of hr
  have h65 := h65_of hr
  have hp := passes_of (X := cxOf (L2.CX P w) P w K mg base N_sums_of "sums_of" (defScope s_sums_of) F.f_sums_of cdv Ar o s H E) rfl
  exact ⟨t_sums_of K, (pss_cons (ps_set (i := 2) sc_sums_of.nd rfl (Or.inl rfl) (pe_op op_mulU (pe_lst (pa_cons pe_int pa_nil)) (pe_ix ix_seq (pv 0) pe_int (fun _ _ => rfl)))) (pss_cons (ps_for hp rfl (RZ.pi_zipA rfl A.z_zip (pa_cons (pe_ix ix_seq (pv
    0) pe_int (fun _ _ => rfl)) (pa_cons (pv 1) pa_nil))) (pg_tup rfl (pgs_cons (pg_tup rfl (pgs_cons (pg_name (i := 3) sc_sums_of.nd rfl (Or.inl rfl)) (pgs_cons (pg_name (i := 4) sc_sums_of.nd rfl (Or.inl rfl)) pgs_nil)))
    (pgs_cons (pg_name (i := 5) sc_sums_of.nd rfl (Or.inl rfl)) pgs_nil))) (pss_cons (ps_asg (pe_op op_addU (pe_ix ix_seq (pv 2) (pv 3) (fun _ _ => rfl)) (pv 5)) (pg_sub (pv 2) (pv 3) set_list)) (pss_one (ps_asg (pe_op op_addU
    (pe_ix ix_seq (pv 2) (pv 4) (fun _ _ => rfl)) (pv 5)) (pg_sub (pv 2) (pv 4) set_list))))) (pss_one (ps_ret (pe_callTy cr_tupOf (by rfl) A.z_tuple (by decide +kernel) (pa_cons (pv 2) pa_nil)))))), p_sums_of h⟩
theorem g_with_load (A : All K mg F) (hsm : Smb base) : FnG P w K mg base 1 F.f_with_load F.d_with_load ["standing", "road", "load"] (sp_with_load K) := by
  refine Fun.okG A.h_with_load sc_with_load l_with_load ?_
  intro cdv Ar o s H vs Q E hG hr h
  have hu := hu_of hr
  have h65 := h65_of hr
  exact ⟨t_with_load K, (pss_one (ps_ret (pe_op op_addU (pe_op op_addU (pe_slice sl_U (pv 0) po_none (po_some (pv 1))) (pe_tup (pa_cons (pv 2) pa_nil))) (pe_slice sl_U (pv 0) (po_some (pe_op op_addU (pv 1) pe_int)) po_none)))), p_with_load h⟩
theorem g_way_to (A : All K mg F) (hsm : Smb base) : FnG P w K mg base 1 F.f_way_to F.d_way_to ["known", "standing"] (sp_way_to K) := by
  refine Fun.okG A.h_way_to sc_way_to l_way_to ?_
  intro cdv Ar o s H vs Q E hG hr h
  have hu := hu_of hr
  have h65 := h65_of hr
  have hp := passes_of (X := cxOf (L2.CX P w) P w K mg base N_way_to "way_to" (defScope s_way_to) F.f_way_to cdv Ar o s H E) rfl
  exact ⟨t_way_to K, (pss_cons (ps_set (i := 2) sc_way_to.nd rfl (Or.inl rfl) (pe_lst pa_nil)) (pss_cons (ps_set (i := 3) sc_way_to.nd rfl (Or.inl rfl) (pe_dget hu (pv 0) (pv 1) (fun _ _ => rfl))) (pss_cons (ps_while hp (pt_cmpR op_notN1 (pv 3) pe_non
    (nomark _)) (pss_cons (ps_expr (pe_bm PySem.F.plainAttrs_list PySem.F.slot_list_append PySem.F.type_list_append mt_append (pv 2) (pa_cons (pe_ix ix_seq (pv 3) pe_int (fun _ _ => rfl)) pa_nil))) (pss_one (ps_set (i := 3)
    sc_way_to.nd rfl (Or.inl rfl) (pe_dget hu (pv 0) (pe_ix ix_seq (pv 3) pe_int (fun _ _ => rfl)) (fun _ _ => rfl)))))) (pss_one (ps_ret (pe_callTy cr_tupOf (by rfl) A.z_tuple (by decide +kernel) (pa_cons (pe_rev (pv 2))
    pa_nil))))))), p_way_to h⟩
theorem g__law_jar (A : All K mg F) (hsm : Smb base) : FnG P w K mg base 1 F.f__law_jar F.d__law_jar ["script"] (sp__law_jar K) := by
  refine Fun.okG A.h__law_jar sc__law_jar l__law_jar ?_
  intro cdv Ar o s H vs Q E hG hr h
  have hu := hu_of hr
  have h65 := h65_of hr
  have hp := passes_of (X := cxOf (L2.CX P w) P w K mg base N__law_jar "_law_jar" (defScope s__law_jar) F.f__law_jar cdv Ar o s H E) rfl
  exact ⟨t__law_jar K, (pss_cons (ps_parU (i := 3) (j := 1) rfl sc__law_jar.nd rfl rfl (by decide) (Or.inl rfl) (Or.inl rfl) (pa_cons (pe_lc (own := [("own", 2)]) (g := (gName 2)) (tt := tYes) (te := (tIf (tTest (tOp rGeI (tVar 2) (tC (.int 0)))) (tOp
    (rMulU K) (tC (.int 2)) (tVar 2)) (tOp rSubI (tOp (rMulU K) (tUn (rU fun i => .int (-i)) (tC (.int 2))) (tVar 2)) (tC (.int 1))))) rfl sc__law_jar.nd (pi_seq (pe_slice sl_U (pv 0) po_none (po_some pe_int))) (blkOk_by (N :=
    N__law_jar) (sc := defScope s__law_jar) (by decide +kernel)) (fun _ _ _ _ _ => (pg_name (i := 2) sc__law_jar.nd rfl (Or.inl rfl))) (fun _ _ _ _ _ => pts_nil) (fun _ _ _ _ _ => (pe_ifExp (pt_cmpR op_geI (pv 2) pe_int (nomark _))
    (pe_op op_mulU pe_int (pv 2)) (pe_op op_subI (pe_op op_mulU (pe_un un_neg pe_int) (pv 2)) pe_int)))) (pa_cons (pe_op op_addU (pe_op op_mulU pe_int (pe_callB cr_len (by rfl) A.z_len boot_len (pa_cons (pv 0) pa_nil))) pe_int)
    pa_nil)) (by rfl)) (pss_cons (ps_for hp rfl (pi_seq (pv 3)) (pg_name (i := 2) sc__law_jar.nd rfl (Or.inl rfl)) (pss_one (ps_set (i := 1) sc__law_jar.nd rfl (Or.inl rfl) (pe_op op_modI (pe_callTy cr_int (by rfl) A.z_int (by
    decide +kernel) (pa_cons (pe_op op_addU (pe_op op_addU (pe_op op_mulU (pv 1) pe_int) (pe_op op_mulU (pv 2) pe_int)) pe_int) pa_nil)) pe_int)))) (pss_cons (ps_setLc (i := 4) (own := [("own", 2)]) (g := (gName 2)) (tt := (tTest
    (tOp rGeI (tVar 2) (tOp rPowI (tC (.int 10)) (tC (.int 18)))))) (te := (tVar 2)) rfl sc__law_jar.nd rfl (by rfl) (sw_true (by rfl) (by rfl) (by rfl) (by decide +kernel)) (pi_seq (pv 3)) (blkOk_by (N := N__law_jar) (sc :=
    defScope s__law_jar) (by decide +kernel)) (fun _ _ _ _ _ => (pg_name (i := 2) sc__law_jar.nd rfl (Or.inl rfl))) (fun _ _ _ _ _ => (pts_one (pt_cmpR op_geI (pv 2) (pe_op op_powI pe_int pe_int) (nomark _)))) (fun _ _ _ _ _ => (pv
    2))) (pss_one (ps_ret (pe_disp (pps_cons pe_str (pv 4) (pps_cons pe_str (pe_op op_addU (pv 3) (pe_lst (pa_cons (pe_op op_addU (pe_op op_mulU pe_int (pe_callB cr_len (by rfl) A.z_len boot_len (pa_cons (pv 3) pa_nil))) pe_int)
    pa_nil))) (pps_cons pe_str (pv 1) (pps_cons pe_str pe_int pps_nil)))) (by rfl) (by rfl) (fun z => by cases z) (by decide))))))), p__law_jar h⟩
theorem g__law_draw (A : All K mg F) (hsm : Smb base) : FnG P w K mg base 1 F.f__law_draw F.d__law_draw ["jar", "many"] (sp__law_draw K) := by
  refine Fun.okG A.h__law_draw sc__law_draw l__law_draw ?_
  intro cdv Ar o s H vs Q E hG hr h
  have hu := hu_of hr
  have h65 := h65_of hr
  have hp := passes_of (X := cxOf (L2.CX P w) P w K mg base N__law_draw "_law_draw" (defScope s__law_draw) F.f__law_draw cdv Ar o s H E) rfl
  exact ⟨t__law_draw K, (pss_cons (ps_set (i := 2) sc__law_draw.nd rfl (Or.inl rfl) (pe_dget hu (pv 0) pe_str (fun _ _ => rfl))) (pss_cons (ps_if (PW.pt (pw_and (pt_cmpR (op_neU hr.units) (pv 2) (pe_lst pa_nil) (nomark _)) (pw_and1 (pt_cmpR op_gtI (pv 1)
    pe_int (nomark _))))) (pss_cons (ps_set (i := 3) sc__law_draw.nd rfl (Or.inl rfl) (pe_bm PySem.F.plainAttrs_list PySem.F.slot_list_pop PySem.F.type_list_pop mt_popAt (pv 2) (pa_cons pe_int pa_nil))) (Evl.pss_cut (ps_if (pt_cmpR
    op_geI (pv 3) (pv 1) (nomark _)) (pss_one (ps_expr (pe_bm PySem.F.plainAttrs_list PySem.F.slot_list_insert PySem.F.type_list_insert mt_insert (pv 2) (pa_cons pe_int (pa_cons (pe_op op_divI (pv 3) (pv 1)) pa_nil))))) pss_nil)
    (pss_one (ps_ret (pe_op op_modI (pe_callTy cr_int (by rfl) A.z_int (by decide +kernel) (pa_cons (pv 3) pa_nil)) (pv 1)))))) pss_nil) (pss_cons (ps_dput hu (pv 0) pe_str (pe_op op_addU (pe_dget hu (pv 0) pe_str (fun _ _ => rfl))
    pe_int) rfl) (pss_cons (ps_parU (i := 4) (j := 5) rfl sc__law_draw.nd rfl rfl (by decide) (Or.inl rfl) (Or.inl rfl) (pa_cons (pe_dget hu (pv 0) pe_str (fun _ _ => rfl)) (pa_cons (pe_dget hu (pv 0) pe_str (fun _ _ => rfl))
    pa_nil)) (by rfl)) (pss_cons (ps_set (i := 6) sc__law_draw.nd rfl (Or.inl rfl) (pe_op op_modI (pe_callTy cr_int (by rfl) A.z_int (by decide +kernel) (pa_cons (pe_op op_addU (pe_op op_addU (pe_op op_mulU (pe_ix ix_seq (pv 5)
    (pe_op op_modI (pe_callTy cr_int (by rfl) A.z_int (by decide +kernel) (pa_cons (pe_op op_mulU (pv 4) pe_int) pa_nil)) (pe_callB cr_len (by rfl) A.z_len boot_len (pa_cons (pv 5) pa_nil))) (fun _ _ => rfl)) pe_int) (pe_op op_mulU
    (pe_dget hu (pv 0) pe_str (fun _ _ => rfl)) pe_int)) (pe_op op_mulU (pv 4) pe_int)) pa_nil)) pe_int)) (pss_cons (ps_for hp rfl (pi_range1 rfl A.z_range (pa_cons pe_int pa_nil)) (pg_name (i := 7) sc__law_draw.nd rfl (Or.inl
    rfl)) (pss_one (ps_set (i := 6) sc__law_draw.nd rfl (Or.inl rfl) (pe_op op_modI (pe_callTy cr_int (by rfl) A.z_int (by decide +kernel) (pa_cons (pe_op op_addU (pe_op op_addU (pe_op op_mulU (pv 6) (pv 6)) (pe_dget hu (pv 0)
    pe_str (fun _ _ => rfl))) (pe_op op_mulU (pv 4) (pe_op op_addU pe_int (pv 7)))) pa_nil)) pe_int)))) (pss_one (ps_ret (pe_op op_modI (pe_callTy cr_int (by rfl) A.z_int (by decide +kernel) (pa_cons (pe_op op_divI (pv 6) pe_int)
    pa_nil)) (pv 1)))))))))), p__law_draw h⟩
theorem g__law_sums (A : All K mg F) (hsm : Smb base) : FnG P w K mg base 1 F.f__law_sums F.d__law_sums ["web", "standing"] (sp__law_sums K) := by
  refine Fun.okG A.h__law_sums sc__law_sums l__law_sums ?_
  intro cdv Ar o s H vs Q E hG hr h
  have hu := hu_of hr
  have h65 := h65_of hr
  have hp := passes_of (X := cxOf (L2.CX P w) P w K mg base N__law_sums "_law_sums" (defScope s__law_sums) F.f__law_sums cdv Ar o s H E) rfl
  exact ⟨t__law_sums K, (pss_cons (ps_set (i := 2) sc__law_sums.nd rfl (Or.inl rfl) (pe_op op_mulU (pe_lst (pa_cons pe_int pa_nil)) (pe_ix ix_seq (pv 0) pe_int (fun _ _ => rfl)))) (pss_cons (ps_for hp rfl (RZ.pi_zipA rfl A.z_zip (pa_cons (pe_ix ix_seq (pv
    0) pe_int (fun _ _ => rfl)) (pa_cons (pv 1) pa_nil))) (pg_tup rfl (pgs_cons (pg_tup rfl (pgs_cons (pg_name (i := 3) sc__law_sums.nd rfl (Or.inl rfl)) (pgs_cons (pg_name (i := 4) sc__law_sums.nd rfl (Or.inl rfl)) pgs_nil)))
    (pgs_cons (pg_name (i := 5) sc__law_sums.nd rfl (Or.inl rfl)) pgs_nil))) (pss_cons (ps_asg (pe_op op_addU (pe_ix ix_seq (pv 2) (pv 3) (fun _ _ => rfl)) (pv 5)) (pg_sub (pv 2) (pv 3) set_list)) (pss_one (ps_asg (pe_op op_addU
    (pe_ix ix_seq (pv 2) (pv 4) (fun _ _ => rfl)) (pv 5)) (pg_sub (pv 2) (pv 4) set_list))))) (pss_one (ps_ret (pv 2))))), p__law_sums h⟩
theorem g_unlike_roads (A : All K mg F) (hsm : Smb base) (g_sums_of : FnG P w K mg base 1 F.f_sums_of F.d_sums_of ["web", "standing"] (sp_sums_of K)) : FnG P w K mg base 2 F.f_unlike_roads F.d_unlike_roads ["web", "standing"] (sp_unlike_roads K) := by
  refine Fun.okG A.h_unlike_roads sc_unlike_roads l_unlike_roads ?_
  intro cdv Ar o s H vs Q E hG hr h
  have hu := hu_of hr
  have h65 := h65_of hr
  exact ⟨t_unlike_roads K, (pss_cons (ps_set (i := 2) sc_unlike_roads.nd rfl (Or.inr rfl) (pe_g g_sums_of hG (hr.mono (by decide)) A.m_sums_of A.k_sums_of A.b_sums_of pass00 (pa_cons (pv 0) (pa_cons (pv 1) pa_nil)))) (pss_one (ps_ret (pe_callTy cr_tupOf (by
    rfl) A.z_tuple (by decide +kernel) (pa_cons (pe_lc (own := [("road", 3), ("one", 4), ("other", 5)]) (g := (gTup K 2 (gCons (gName 3) (gCons (gTup K 2 (gCons (gName 4) (gCons (gName 5) gNil))) gNil)))) (tt := (tTest (tOp (rNeU
    K) (tOp (rIx K) (tVar 2) (tVar 4)) (tOp (rIx K) (tVar 2) (tVar 5))))) (te := (tVar 3)) rfl sc_unlike_roads.nd (pi_enumU A.z_enumerate (pa_cons (pe_ix ix_seq (pv 0) pe_int (fun _ _ => rfl)) pa_nil)) (blkOk_by (N :=
    N_unlike_roads) (sc := defScope s_unlike_roads) (by decide +kernel)) (fun _ _ _ _ _ => (pg_tup rfl (pgs_cons (pg_name (i := 3) sc_unlike_roads.nd rfl (Or.inl rfl)) (pgs_cons (pg_tup rfl (pgs_cons (pg_name (i := 4)
    sc_unlike_roads.nd rfl (Or.inl rfl)) (pgs_cons (pg_name (i := 5) sc_unlike_roads.nd rfl (Or.inl rfl)) pgs_nil))) pgs_nil)))) (fun _ _ _ _ _ => (pts_one (pt_cmpR (op_neU hr.units) (pe_ix ix_seq (pv 2) (pv 4) (fun _ _ => rfl))
    (pe_ix ix_seq (pv 2) (pv 5) (fun _ _ => rfl)) (nomark _)))) (fun _ _ _ _ _ => (pv 3))) pa_nil))))), p_unlike_roads h⟩
theorem g__law_pick (A : All K mg F) (hsm : Smb base) (g__law_draw : FnG P w K mg base 1 F.f__law_draw F.d__law_draw ["jar", "many"] (sp__law_draw K)) : FnG P w K mg base 2 F.f__law_pick F.d__law_pick ["jar", "row"] (sp__law_pick K) := by
  refine Fun.okG A.h__law_pick sc__law_pick l__law_pick ?_
  intro cdv Ar o s H vs Q E hG hr h
  have hu := hu_of hr
  have h65 := h65_of hr
  exact ⟨t__law_pick K, (pss_one (ps_ret (pe_ix ix_seq (pv 1) (pe_g g__law_draw hG (hr.mono (by decide)) A.m__law_draw A.k__law_draw A.b__law_draw pass00 (pa_cons (pv 0) (pa_cons (pe_callB cr_len (by rfl) A.z_len boot_len (pa_cons (pv 1) pa_nil))
    pa_nil))) (fun _ _ => rfl)))), p__law_pick h⟩
theorem g__law_mixed (A : All K mg F) (hsm : Smb base) (g__law_draw : FnG P w K mg base 1 F.f__law_draw F.d__law_draw ["jar", "many"] (sp__law_draw K)) : FnG P w K mg base 2 F.f__law_mixed F.d__law_mixed ["jar", "row"] (sp__law_mixed K) := by
  refine Fun.okG A.h__law_mixed sc__law_mixed l__law_mixed ?_
  intro cdv Ar o s H vs Q E hG hr h
  have hu := hu_of hr
  have h65 := h65_of hr
  have hp := passes_of (X := cxOf (L2.CX P w) P w K mg base N__law_mixed "_law_mixed" (defScope s__law_mixed) F.f__law_mixed cdv Ar o s H E) rfl
  exact ⟨t__law_mixed K, (pss_cons (ps_parU (i := 2) (j := 4) rfl sc__law_mixed.nd rfl rfl (by decide) (Or.inl rfl) (Or.inl rfl) (pa_cons (pe_callTy cr_lstOf (by rfl) A.z_list (by decide +kernel) (pa_cons (pv 1) pa_nil)) (pa_cons (pe_lst pa_nil) pa_nil))
    (by rfl)) (pss_cons (ps_for hp rfl (pi_range1 rfl A.z_range (pa_cons (pe_callB cr_len (by rfl) A.z_len boot_len (pa_cons (pv 2) pa_nil)) pa_nil)) (pg_name (i := 3) sc__law_mixed.nd rfl (Or.inl rfl)) (pss_one (ps_expr (pe_bm
    PySem.F.plainAttrs_list PySem.F.slot_list_append PySem.F.type_list_append mt_append (pv 4) (pa_cons (pe_bm PySem.F.plainAttrs_list PySem.F.slot_list_pop PySem.F.type_list_pop mt_popAt (pv 2) (pa_cons (pe_g g__law_draw hG
    (hr.mono (by decide)) A.m__law_draw A.k__law_draw A.b__law_draw pass00 (pa_cons (pv 0) (pa_cons (pe_callB cr_len (by rfl) A.z_len boot_len (pa_cons (pv 2) pa_nil)) pa_nil))) pa_nil)) pa_nil))))) (pss_one (ps_ret (pv 4))))), p__law_mixed h⟩
theorem g__law_tree (A : All K mg F) (hsm : Smb base) (g__law_draw : FnG P w K mg base 1 F.f__law_draw F.d__law_draw ["jar", "many"] (sp__law_draw K)) : FnG P w K mg base 2 F.f__law_tree F.d__law_tree ["jar", "n"] (sp__law_tree K) := by
  refine Fun.okG A.h__law_tree sc__law_tree l__law_tree ?_
  intro cdv Ar o s H vs Q E hG hr h
  have hu := hu_of hr
  have h65 := h65_of hr
  exact ⟨t__law_tree K, (pss_one (ps_ret (pe_lc (own := [("place", 2)]) (g := (gName 2)) (tt := tYes) (te := (tTup (tCons (tG (sp__law_draw K) E00 (tCons (tVar 0) (tCons (tVar 2) tNil))) (tCons (tVar 2) tNil)))) rfl sc__law_tree.nd (pi_range2 rfl
    A.z_range (pa_cons pe_int (pa_cons (pv 1) pa_nil))) (blkOk_by (N := N__law_tree) (sc := defScope s__law_tree) (by decide +kernel)) (fun _ _ _ _ _ => (pg_name (i := 2) sc__law_tree.nd rfl (Or.inl rfl))) (fun _ _ _ _ _ =>
    pts_nil) (fun _ _ _ _ _ => (pe_tup (pa_cons (pe_g g__law_draw hG (hr.mono (by decide)) A.m__law_draw A.k__law_draw A.b__law_draw pass00 (pa_cons (pv 0) (pa_cons (pv 2) pa_nil))) (pa_cons (pv 2) pa_nil))))))), p__law_tree h⟩
theorem g__law_near (A : All K mg F) (hsm : Smb base) (g__law_sums : FnG P w K mg base 1 F.f__law_sums F.d__law_sums ["web", "standing"] (sp__law_sums K)) : FnG P w K mg base 2 F.f__law_near F.d__law_near ["web", "standing"] (sp__law_near K) := by
  refine Fun.okG A.h__law_near sc__law_near l__law_near ?_
  intro cdv Ar o s H vs Q E hG hr h
  have hu := hu_of hr
  have h65 := h65_of hr
  have hp := passes_of (X := cxOf (L2.CX P w) P w K mg base N__law_near "_law_near" (defScope s__law_near) F.f__law_near cdv Ar o s H E) rfl
  exact ⟨t__law_near K, (pss_cons (ps_parU (i := 2) (j := 8) rfl sc__law_near.nd rfl rfl (by decide) (Or.inl rfl) (Or.inl rfl) (pa_cons (pe_g g__law_sums hG (hr.mono (by decide)) A.m__law_sums A.k__law_sums A.b__law_sums pass00 (pa_cons (pv 0) (pa_cons
    (pv 1) pa_nil))) (pa_cons (pe_lst pa_nil) pa_nil)) (by rfl)) (pss_cons (ps_for hp rfl (pi_enumV A.z_enumerate (pa_cons (pe_ix ix_seq (pv 0) pe_int (fun _ _ => rfl)) pa_nil)) (pg_tup rfl (pgs_cons (pg_name (i := 3)
    sc__law_near.nd rfl (Or.inl rfl)) (pgs_cons (pg_tup rfl (pgs_cons (pg_name (i := 4) sc__law_near.nd rfl (Or.inl rfl)) (pgs_cons (pg_name (i := 5) sc__law_near.nd rfl (Or.inl rfl)) pgs_nil))) pgs_nil))) (pss_one (ps_if (pt_cmpR
    (op_neU hr.units) (pe_ix ix_seq (pv 2) (pv 4) (fun _ _ => rfl)) (pe_ix ix_seq (pv 2) (pv 5) (fun _ _ => rfl)) (nomark _)) (pss_one (ps_for hp rfl (pi_seq (pe_tup (pa_cons (pe_un un_neg pe_int) (pa_cons pe_int pa_nil))))
    (pg_name (i := 6) sc__law_near.nd rfl (Or.inl rfl)) (pss_cons (ps_set (i := 7) sc__law_near.nd rfl (Or.inl rfl) (pe_op op_addU (pe_ix ix_seq (pv 1) (pv 3) (fun _ _ => rfl)) (pv 6))) (pss_one (ps_if (pt_chain op_leI op_leI
    pe_int (pv 7) (pe_ix ix_seq (pe_ix ix_seq (pv 0) pe_int (fun _ _ => rfl)) (pv 3) (fun _ _ => rfl))) (pss_one (ps_expr (pe_bm PySem.F.plainAttrs_list PySem.F.slot_list_append PySem.F.type_list_append mt_append (pv 8) (pa_cons
    (pe_tup (pa_cons (pe_tup (pa_cons (pv 3) (pa_cons (pv 6) pa_nil))) (pa_cons (pe_op op_addU (pe_op op_addU (pe_slice sl_U (pv 1) po_none (po_some (pv 3))) (pe_tup (pa_cons (pv 7) pa_nil))) (pe_slice sl_U (pv 1) (po_some (pe_op
    op_addU (pv 3) pe_int)) po_none)) pa_nil))) pa_nil)))) pss_nil))))) pss_nil))) (pss_one (ps_ret (pv 8))))), p__law_near h⟩
theorem g__law_standing (A : All K mg F) (hsm : Smb base) (g__law_draw : FnG P w K mg base 1 F.f__law_draw F.d__law_draw ["jar", "many"] (sp__law_draw K)) : FnG P w K mg base 2 F.f__law_standing F.d__law_standing ["jar", "web"] (sp__law_standing K) := by
  refine Fun.okG A.h__law_standing sc__law_standing l__law_standing ?_
  intro cdv Ar o s H vs Q E hG hr h
  have hu := hu_of hr
  have h65 := h65_of hr
  exact ⟨t__law_standing K, (pss_cons (ps_set (i := 2) sc__law_standing.nd rfl (Or.inr rfl) (pe_g g__law_draw hG (hr.mono (by decide)) A.m__law_draw A.k__law_draw A.b__law_draw pass00 (pa_cons (pv 0) (pa_cons pe_int pa_nil)))) (pss_cons (ps_setLc (i := 3)
    (own := [("most", 5)]) (g := (gName 5)) (tt := tYes) (te := (tG (sp__law_draw K) E00 (tCons (tVar 0) (tCons (tOp (rAddU K) (tVar 5) (tC (.int 1))) tNil)))) rfl sc__law_standing.nd rfl (by rfl) (sw_true (by rfl) (by rfl) (by
    rfl) (by decide +kernel)) (pi_seq (pe_ix ix_seq (pv 1) pe_int (fun _ _ => rfl))) (blkOk_by (N := N__law_standing) (sc := defScope s__law_standing) (by decide +kernel)) (fun _ _ _ _ _ => (pg_name (i := 5) sc__law_standing.nd rfl
    (Or.inl rfl))) (fun _ _ _ _ _ => pts_nil) (fun _ _ _ _ _ => (pe_g g__law_draw hG (hr.mono (by decide)) A.m__law_draw A.k__law_draw A.b__law_draw pass00 (pa_cons (pv 0) (pa_cons (pe_op op_addU (pv 5) pe_int) pa_nil)))))
    (Evl.pss_cut (ps_if (pt_cmpR op_gtI (pv 2) pe_int (nomark _)) (pss_cons (ps_set (i := 4) sc__law_standing.nd rfl (Or.inr rfl) (pe_g g__law_draw hG (hr.mono (by decide)) A.m__law_draw A.k__law_draw A.b__law_draw pass00 (pa_cons
    (pv 0) (pa_cons (pe_callB cr_len (by rfl) A.z_len boot_len (pa_cons (pv 3) pa_nil)) pa_nil)))) (pss_one (ps_setLc (i := 3) (own := [("k", 6), ("own", 7)]) (g := (gTup K 2 (gCons (gName 6) (gCons (gName 7) gNil)))) (tt := tYes)
    (te := (tIf (tTest (tOp (rEqU K) (tVar 6) (tVar 4))) (tVar 7) (tIf (tTest (tOp (rEqU K) (tVar 2) (tC (.int 2)))) (tC (.int 0)) (tOp (rIx K) (tOp (rIx K) (tVar 1) (tC (.int 2))) (tVar 6))))) rfl sc__law_standing.nd rfl (by rfl)
    (sw_true (by rfl) (by rfl) (by rfl) (by decide +kernel)) (pi_enumV A.z_enumerate (pa_cons (pv 3) pa_nil)) (blkOk_by (N := N__law_standing) (sc := defScope s__law_standing) (by decide +kernel)) (fun _ _ _ _ _ => (pg_tup rfl
    (pgs_cons (pg_name (i := 6) sc__law_standing.nd rfl (Or.inl rfl)) (pgs_cons (pg_name (i := 7) sc__law_standing.nd rfl (Or.inl rfl)) pgs_nil)))) (fun _ _ _ _ _ => pts_nil) (fun _ _ _ _ _ => (pe_ifExp (pt_cmpR (op_eqU hr.units)
    (pv 6) (pv 4) (nomark _)) (pv 7) (pe_ifExp (pt_cmpR (op_eqU hr.units) (pv 2) pe_int (nomark _)) pe_int (pe_ix ix_seq (pe_ix ix_seq (pv 1) pe_int (fun _ _ => rfl)) (pv 6) (fun _ _ => rfl)))))))) pss_nil) (pss_one (ps_ret
    (pe_callTy cr_tupOf (by rfl) A.z_tuple (by decide +kernel) (pa_cons (pv 3) pa_nil))))))), p__law_standing h⟩
theorem g_beside (A : All K mg F) (hsm : Smb base) (g_with_load : FnG P w K mg base 1 F.f_with_load F.d_with_load ["standing", "road", "load"] (sp_with_load K)) (g_unlike_roads : FnG P w K mg base 2 F.f_unlike_roads F.d_unlike_roads ["web", "standing"] (sp_unlike_roads K)) : FnG P w K mg base 3 F.f_beside F.d_beside ["web", "standing"] (sp_beside K) := by
  refine Fun.okG A.h_beside sc_beside l_beside ?_
  intro cdv Ar o s H vs Q E hG hr h
  have hu := hu_of hr
  have h65 := h65_of hr
  have hp := passes_of (X := cxOf (L2.CX P w) P w K mg base N_beside "beside" (defScope s_beside) F.f_beside cdv Ar o s H E) rfl
  exact ⟨t_beside K, (pss_cons (ps_asg (pv 0) (pg_tup rfl (pgs_cons (pg_name (i := 2) sc_beside.nd rfl (Or.inl rfl)) (pgs_cons (pg_name (i := 3) sc_beside.nd rfl (Or.inl rfl)) (pgs_cons (pg_name (i := 4) sc_beside.nd rfl (Or.inl rfl)) pgs_nil)))))
    (pss_cons (ps_set (i := 5) sc_beside.nd rfl (Or.inl rfl) (pe_lst pa_nil)) (pss_cons (ps_for hp rfl (pi_seq (pe_g g_unlike_roads hG (hr.mono (by decide)) A.m_unlike_roads A.k_unlike_roads A.b_unlike_roads pass00 (pa_cons (pv 0)
    (pa_cons (pv 1) pa_nil)))) (pg_name (i := 6) sc_beside.nd rfl (Or.inl rfl)) (pss_cons (ps_set (i := 7) sc_beside.nd rfl (Or.inl rfl) (pe_ix ix_seq (pv 1) (pv 6) (fun _ _ => rfl))) (Evl.pss_cut (ps_if (pt_cmpR op_gtI (pv 7)
    pe_int (nomark _)) (pss_one (ps_expr (pe_bm PySem.F.plainAttrs_list PySem.F.slot_list_append PySem.F.type_list_append mt_append (pv 5) (pa_cons (pe_tup (pa_cons (pe_tup (pa_cons (pv 6) (pa_cons (pe_un un_neg pe_int) pa_nil)))
    (pa_cons (pe_g g_with_load hG (hr.mono (by decide)) A.m_with_load A.k_with_load A.b_with_load pass00 (pa_cons (pv 1) (pa_cons (pv 6) (pa_cons (pe_op op_subI (pv 7) pe_int) pa_nil)))) pa_nil))) pa_nil)))) pss_nil) (pss_one
    (ps_if (pt_cmpR (op_ltU hr.units0) (pv 7) (pe_ix ix_seq (pv 4) (pv 6) (fun _ _ => rfl)) (nomark _)) (pss_one (ps_expr (pe_bm PySem.F.plainAttrs_list PySem.F.slot_list_append PySem.F.type_list_append mt_append (pv 5) (pa_cons
    (pe_tup (pa_cons (pe_tup (pa_cons (pv 6) (pa_cons pe_int pa_nil))) (pa_cons (pe_g g_with_load hG (hr.mono (by decide)) A.m_with_load A.k_with_load A.b_with_load pass00 (pa_cons (pv 1) (pa_cons (pv 6) (pa_cons (pe_op op_addU (pv
    7) pe_int) pa_nil)))) pa_nil))) pa_nil)))) pss_nil))))) (pss_one (ps_ret (pv 5)))))), p_beside h⟩
theorem g__law_made (A : All K mg F) (hsm : Smb base) (g__law_mixed : FnG P w K mg base 2 F.f__law_mixed F.d__law_mixed ["jar", "row"] (sp__law_mixed K)) : FnG P w K mg base 3 F.f__law_made F.d__law_made ["jar", "n", "pairs", "loads"] (sp__law_made K) := by
  refine Fun.okG A.h__law_made sc__law_made l__law_made ?_
  intro cdv Ar o s H vs Q E hG hr h
  have hu := hu_of hr
  have h65 := h65_of hr
  have hp := passes_of (X := cxOf (L2.CX P w) P w K mg base N__law_made "_law_made" (defScope s__law_made) F.f__law_made cdv Ar o s H E) rfl
  exact ⟨t__law_made K, (pss_cons (ps_parU (i := 4) (j := 8) rfl sc__law_made.nd rfl rfl (by decide) (Or.inl rfl) (Or.inl rfl) (pa_cons (pe_g g__law_mixed hG (hr.mono (by decide)) A.m__law_mixed A.k__law_mixed A.b__law_mixed pass00 (pa_cons (pv 0)
    (pa_cons (pe_listRg rfl (by rfl) A.z_list (prg_1 (by rfl) A.z_range (pv 1))) pa_nil))) (pa_cons (pe_lst pa_nil) pa_nil)) (by rfl)) (pss_cons (ps_for hp rfl (RZ.pi_zipA rfl A.z_zip (pa_cons (pv 2) (pa_cons (pv 3) pa_nil)))
    (pg_tup rfl (pgs_cons (pg_tup rfl (pgs_cons (pg_name (i := 5) sc__law_made.nd rfl (Or.inl rfl)) (pgs_cons (pg_name (i := 6) sc__law_made.nd rfl (Or.inl rfl)) pgs_nil))) (pgs_cons (pg_name (i := 7) sc__law_made.nd rfl (Or.inl
    rfl)) pgs_nil))) (pss_one (ps_expr (pe_bm PySem.F.plainAttrs_list PySem.F.slot_list_append PySem.F.type_list_append mt_append (pv 8) (pa_cons (pe_tup (pa_cons (pe_callB (cr_min2 rfl) (by rfl) A.z_min (by decide +kernel)
    (pa_cons (pe_ix ix_seq (pv 4) (pv 5) (fun _ _ => rfl)) (pa_cons (pe_ix ix_seq (pv 4) (pv 6) (fun _ _ => rfl)) pa_nil))) (pa_cons (pe_callB (cr_max2 rfl) (by rfl) A.z_max (by decide +kernel) (pa_cons (pe_ix ix_seq (pv 4) (pv 5)
    (fun _ _ => rfl)) (pa_cons (pe_ix ix_seq (pv 4) (pv 6) (fun _ _ => rfl)) pa_nil))) (pa_cons (pv 7) pa_nil)))) pa_nil))))) (pss_cons (ps_set (i := 8) sc__law_made.nd rfl (Or.inl rfl) (pe_callB (cr_sortT (d := 3) (B := 64) (by
    decide)) (by rfl) A.z_sorted (by decide +kernel) (pa_cons (pv 8) pa_nil))) (pss_one (ps_ret (pe_tup (pa_cons (pv 1) (pa_cons (pe_callTy cr_tupOf (by rfl) A.z_tuple (by decide +kernel) (pa_cons (pe_lc (own := [("a", 5), ("b",
    6), ("load", 7)]) (g := (gTup K 3 (gCons (gName 5) (gCons (gName 6) (gCons (gName 7) gNil))))) (tt := tYes) (te := (tTup (tCons (tVar 5) (tCons (tVar 6) tNil)))) rfl sc__law_made.nd (pi_seq (pv 8)) (blkOk_by (N := N__law_made)
    (sc := defScope s__law_made) (by decide +kernel)) (fun _ _ _ _ _ => (pg_tup rfl (pgs_cons (pg_name (i := 5) sc__law_made.nd rfl (Or.inl rfl)) (pgs_cons (pg_name (i := 6) sc__law_made.nd rfl (Or.inl rfl)) (pgs_cons (pg_name (i
    := 7) sc__law_made.nd rfl (Or.inl rfl)) pgs_nil))))) (fun _ _ _ _ _ => pts_nil) (fun _ _ _ _ _ => (pe_tup (pa_cons (pv 5) (pa_cons (pv 6) pa_nil))))) pa_nil)) (pa_cons (pe_callTy cr_tupOf (by rfl) A.z_tuple (by decide +kernel)
    (pa_cons (pe_lc (own := [("a", 5), ("b", 6), ("load", 7)]) (g := (gTup K 3 (gCons (gName 5) (gCons (gName 6) (gCons (gName 7) gNil))))) (tt := tYes) (te := (tVar 7)) rfl sc__law_made.nd (pi_seq (pv 8)) (blkOk_by (N :=
    N__law_made) (sc := defScope s__law_made) (by decide +kernel)) (fun _ _ _ _ _ => (pg_tup rfl (pgs_cons (pg_name (i := 5) sc__law_made.nd rfl (Or.inl rfl)) (pgs_cons (pg_name (i := 6) sc__law_made.nd rfl (Or.inl rfl)) (pgs_cons
    (pg_name (i := 7) sc__law_made.nd rfl (Or.inl rfl)) pgs_nil))))) (fun _ _ _ _ _ => pts_nil) (fun _ _ _ _ _ => (pv 7))) pa_nil)) pa_nil))))))))), p__law_made h⟩
theorem g__law_more (A : All K mg F) (hsm : Smb base) (g__law_mixed : FnG P w K mg base 2 F.f__law_mixed F.d__law_mixed ["jar", "row"] (sp__law_mixed K)) : FnG P w K mg base 3 F.f__law_more F.d__law_more ["jar", "n", "pairs", "many"] (sp__law_more K) := by
  refine Fun.okG A.h__law_more sc__law_more l__law_more ?_
  intro cdv Ar o s H vs Q E hG hr h
  have hu := hu_of hr
  have h65 := h65_of hr
  have hp := passes_of (X := cxOf (L2.CX P w) P w K mg base N__law_more "_law_more" (defScope s__law_more) F.f__law_more cdv Ar o s H E) rfl
  exact ⟨t__law_more K, (pss_cons (ps_set (i := 4) sc__law_more.nd rfl (Or.inl rfl) (pe_lst pa_nil)) (pss_cons (ps_for hp rfl (pi_range1 rfl A.z_range (pa_cons (pv 1) pa_nil)) (pg_name (i := 5) sc__law_more.nd rfl (Or.inr rfl)) (pss_one (ps_set (i := 4)
    sc__law_more.nd rfl (Or.inl rfl) (pe_op op_addU (pv 4) (pe_lc (own := [("b", 6)]) (g := (gName 6)) (tt := (tTest (tOp (rNiU K) (tTup (tCons (tVar 5) (tCons (tVar 6) tNil))) (tVar 2)))) (te := (tTup (tCons (tVar 5) (tCons (tVar
    6) tNil)))) rfl sc__law_more.nd (pi_range2 rfl A.z_range (pa_cons (pe_op op_addU (pv 5) pe_int) (pa_cons (pv 1) pa_nil))) (blkOk_by (N := N__law_more) (sc := defScope s__law_more) (by decide +kernel)) (fun _ _ _ _ _ => (pg_name
    (i := 6) sc__law_more.nd rfl (Or.inl rfl))) (fun _ _ _ _ _ => (pts_one (pt_cmpR (op_niU h65) (pe_tup (pa_cons (pv 5) (pa_cons (pv 6) pa_nil))) (pv 2) rfl))) (fun _ _ _ _ _ => (pe_tup (pa_cons (pv 5) (pa_cons (pv 6)
    pa_nil))))))))) (pss_one (ps_ret (pe_op op_addU (pv 2) (pe_slice sl_U (pe_g g__law_mixed hG (hr.mono (by decide)) A.m__law_mixed A.k__law_mixed A.b__law_mixed pass00 (pa_cons (pv 0) (pa_cons (pv 4) pa_nil))) po_none (po_some
    (pv 3)))))))), p__law_more h⟩
theorem g__law_reach (A : All K mg F) (hsm : Smb base) (g__law_near : FnG P w K mg base 2 F.f__law_near F.d__law_near ["web", "standing"] (sp__law_near K)) : FnG P w K mg base 3 F.f__law_reach F.d__law_reach ["web", "standing", "shut"] (sp__law_reach K) := by
  refine Fun.okG A.h__law_reach sc__law_reach l__law_reach ?_
  intro cdv Ar o s H vs Q E hG hr h
  have hu := hu_of hr
  have h65 := h65_of hr
  have hp := passes_of (X := cxOf (L2.CX P w) P w K mg base N__law_reach "_law_reach" (defScope s__law_reach) F.f__law_reach cdv Ar o s H E) rfl
  exact ⟨t__law_reach K, (pss_cons (ps_parU (i := 3) (j := 4) rfl sc__law_reach.nd rfl rfl (by decide) (Or.inl rfl) (Or.inl rfl) (pa_cons (pe_disp1T hu (pv 1) pe_bl) (pa_cons (pe_lst (pa_cons (pv 1) pa_nil)) pa_nil)) (by rfl)) (pss_cons (ps_while hp
    (pt_cmpR (op_neU hr.units) (pv 4) (pe_lst pa_nil) (nomark _)) (pss_cons (ps_set (i := 5) sc__law_reach.nd rfl (Or.inl rfl) (pe_bm0 PySem.F.plainAttrs_list PySem.F.slot_list_pop PySem.F.type_list_pop mt_pop (pv 4))) (pss_one
    (ps_for hp rfl (pi_seq (pe_g g__law_near hG (hr.mono (by decide)) A.m__law_near A.k__law_near A.b__law_near pass00 (pa_cons (pv 0) (pa_cons (pv 5) pa_nil)))) (pg_tup rfl (pgs_cons (pg_name (i := 6) sc__law_reach.nd rfl (Or.inl
    rfl)) (pgs_cons (pg_name (i := 7) sc__law_reach.nd rfl (Or.inl rfl)) pgs_nil))) (pss_one (ps_if (PW.pt (pw_and (pt_cmpR (op_niU h65) (pe_ix ix_seq (pv 6) pe_int (fun _ _ => rfl)) (pv 2) rfl) (pw_and1 (pt_cmp (pc_dnotin hu (pv
    7) (pv 3)))))) (pss_cons (ps_dput hu (pv 3) (pv 7) pe_bl rfl) (pss_one (ps_expr (pe_bm PySem.F.plainAttrs_list PySem.F.slot_list_append PySem.F.type_list_append mt_append (pv 4) (pa_cons (pv 7) pa_nil))))) pss_nil))))))
    (pss_one (ps_ret (pe_callB (cr_sortK skR h65) (by rfl) A.z_sorted (by decide +kernel) (pa_cons (pe_callTy (cr_lstDT rfl) (by rfl) A.z_list (by decide +kernel) (pa_cons (pv 3) pa_nil)) pa_nil)))))), p__law_reach h⟩
theorem g__law_led (A : All K mg F) (hsm : Smb base) (g__law_near : FnG P w K mg base 2 F.f__law_near F.d__law_near ["web", "standing"] (sp__law_near K)) : FnG P w K mg base 3 F.f__law_led F.d__law_led ["web", "standing", "way", "shut"] (sp__law_led K) := by
  refine Fun.okG A.h__law_led sc__law_led l__law_led ?_
  intro cdv Ar o s H vs Q E hG hr h
  have hu := hu_of hr
  have h65 := h65_of hr
  have hp := passes_of (X := cxOf (L2.CX P w) P w K mg base N__law_led "_law_led" (defScope s__law_led) F.f__law_led cdv Ar o s H E) rfl
  exact ⟨t__law_led K, (pss_cons (ps_set (i := 4) sc__law_led.nd rfl (Or.inl rfl) (pv 1)) (pss_cons (ps_if (pt_not (pt_val (pe_callB call_isi (by rfl) A.z_isinstance (by decide +kernel) (pa_cons (pv 2) (pa_cons (pe_bltn (v := .ty "tuple") (by rfl)
    A.z_tuple (by decide +kernel) rfl) pa_nil))))) (pss_one (ps_ret pe_non)) pss_nil) (pss_cons (ps_for hp rfl (pi_seq (pv 2)) (pg_name (i := 5) sc__law_led.nd rfl (Or.inr rfl)) (pss_cons (ps_if (PW.pt (pw_or (pt_cmpR (op_eqU
    hr.units) (pe_lc (own := [("known", 6), ("further", 7)]) (g := (gTup K 2 (gCons (gName 6) (gCons (gName 7) gNil)))) (tt := (tTest (tOp (rEqU K) (tCB (rReprU K) (tCons (tVar 6) tNil)) (tCB (rReprU K) (tCons (tVar 5) tNil)))))
    (te := (tC (.int 1))) rfl sc__law_led.nd (pi_seq (pe_g g__law_near hG (hr.mono (by decide)) A.m__law_near A.k__law_near A.b__law_near pass00 (pa_cons (pv 0) (pa_cons (pv 4) pa_nil)))) (blkOk_by (N := N__law_led) (sc := defScope
    s__law_led) (by decide +kernel)) (fun _ _ _ _ _ => (pg_tup rfl (pgs_cons (pg_name (i := 6) sc__law_led.nd rfl (Or.inl rfl)) (pgs_cons (pg_name (i := 7) sc__law_led.nd rfl (Or.inl rfl)) pgs_nil)))) (fun _ _ _ _ _ => (pts_one
    (pt_cmpR (op_eqU hr.units) (pe_callB (call_reprU hG hr.units hsm) (by rfl) A.z_repr (by decide +kernel) (pa_cons (pv 6) pa_nil)) (pe_callB (call_reprU hG hr.units hsm) (by rfl) A.z_repr (by decide +kernel) (pa_cons (pv 5)
    pa_nil)) (nomark _)))) (fun _ _ _ _ _ => pe_int)) (pe_lst pa_nil) (nomark _)) (pw_or1 (pt_cmpR (op_inU h65) (pe_ix ix_seq (pv 5) pe_int (fun _ _ => rfl)) (pv 3) rfl)))) (pss_one (ps_ret pe_non)) pss_nil) (pss_one (ps_set (i :=
    4) sc__law_led.nd rfl (Or.inl rfl) (pe_dget hu (pe_callTy (cr_dictT rfl hr.units) (by rfl) A.z_dict (by decide +kernel) (pa_cons (pe_g g__law_near hG (hr.mono (by decide)) A.m__law_near A.k__law_near A.b__law_near pass00
    (pa_cons (pv 0) (pa_cons (pv 4) pa_nil))) pa_nil)) (pv 5) (fun _ _ => rfl)))))) (pss_one (ps_ret (pv 4)))))), p__law_led h⟩
theorem g_reached (A : All K mg F) (hsm : Smb base) (g__TooMany : FnOk P w K mg base (L2.CX P w) 1 F.f__TooMany F.d__TooMany ["self", "limit"] (sp_arg K "limit")) (g_beside : FnG P w K mg base 3 F.f_beside F.d_beside ["web", "standing"] (sp_beside K)) : FnG P w K mg base 4 F.f_reached F.d_reached ["web", "start", "closed", "limit"] (sp_reached K F.cl) := by
  refine Fun.okG A.h_reached sc_reached l_reached ?_
  intro cdv Ar o s H vs Q E hG hr h
  have hu := hu_of hr
  have h65 := h65_of hr
  have hp := passes_of (X := cxOf (L2.CX P w) P w K mg base N_reached "reached" (defScope s_reached) F.f_reached cdv Ar o s H E) rfl
  have tk : Takes (cxOf (L2.CX P w) P w K mg base N_reached "reached" (defScope s_reached) F.f_reached cdv Ar o s H E) (fun c d _ H => E c d H) := takes_of rfl rfl rfl rfl
  exact ⟨t_reached K F.cl (fun c d _ H => E c d H), (pss_cons (ps_par3 (i := 9) (j := 4) (l := 5) rfl sc_reached.nd rfl rfl rfl (by decide) (by decide) (by decide) rfl rfl rfl (pa_cons (pe_disp1T hu (pv 1) pe_non) (pa_cons (pe_lst (pa_cons (pv 1) pa_nil)) (pa_cons pe_int pa_nil)))
    (by rfl)) (pss_cons (ps_while hp (pt_cmpR (op_ltU hr.units0) (pv 5) (pe_callB cr_len (by rfl) A.z_len boot_len (pa_cons (pv 4) pa_nil)) (nomark _)) (pss_cons (ps_set (i := 6) sc_reached.nd rfl (Or.inl rfl) (pe_ix ix_seq (pv 4)
    (pv 5) (fun _ _ => rfl))) (pss_cons (ps_set (i := 5) sc_reached.nd rfl (Or.inl rfl) (pe_op op_addU (pv 5) pe_int)) (pss_one (ps_for hp rfl (pi_seq (pe_g g_beside hG (hr.mono (by decide)) A.m_beside A.k_beside A.b_beside pass00
    (pa_cons (pv 0) (pa_cons (pv 6) pa_nil)))) (pg_tup rfl (pgs_cons (pg_name (i := 7) sc_reached.nd rfl (Or.inl rfl)) (pgs_cons (pg_name (i := 8) sc_reached.nd rfl (Or.inl rfl)) pgs_nil))) (pss_one (ps_if (PW.pt (pw_and (pt_cmpR
    (op_niU h65) (pe_ix ix_seq (pv 7) pe_int (fun _ _ => rfl)) (pv 2) rfl) (pw_and1 (pt_cmp (pc_dnotin hu (pv 8) (pv 9)))))) (pss_cons (ps_if (pt_cmpR (op_eqU hr.units) (pe_callB call_len_dT (by rfl) A.z_len boot_len (pa_cons (pv
    9) pa_nil)) (pv 3) (nomark _)) (pss_one (ps_raise rfl tk (pmk_oex A.o_TooMany A.i_TooMany A.t_TooMany g__TooMany (hr.mono (by decide)) A.b_TooMany .nil passL (by rfl) A.m_TooMany (pa_cons (pv 3) pa_nil)))) pss_nil) (pss_cons
    (ps_dput hu (pv 9) (pv 8) (pe_tup (pa_cons (pv 6) (pa_cons (pv 7) pa_nil))) rfl) (pss_one (ps_expr (pe_bm PySem.F.plainAttrs_list PySem.F.slot_list_append PySem.F.type_list_append mt_append (pv 4) (pa_cons (pv 8) pa_nil))))))
    pss_nil))))))) (pss_one (ps_ret (pv 9))))), p_reached A.x_TooMany h⟩
theorem g__law_web (A : All K mg F) (hsm : Smb base) (g__law_draw : FnG P w K mg base 1 F.f__law_draw F.d__law_draw ["jar", "many"] (sp__law_draw K)) (g__law_pick : FnG P w K mg base 2 F.f__law_pick F.d__law_pick ["jar", "row"] (sp__law_pick K)) (g__law_tree : FnG P w K mg base 2 F.f__law_tree F.d__law_tree ["jar", "n"] (sp__law_tree K)) (g__law_made : FnG P w K mg base 3 F.f__law_made F.d__law_made ["jar", "n", "pairs", "loads"] (sp__law_made K)) (g__law_more : FnG P w K mg base 3 F.f__law_more F.d__law_more ["jar", "n", "pairs", "many"] (sp__law_more K)) : FnG P w K mg base 4 F.f__law_web F.d__law_web ["jar"] (sp__law_web K) := by
  refine Fun.okG A.h__law_web sc__law_web l__law_web ?_
  intro cdv Ar o s H vs Q E hG hr h
  have hu := hu_of hr
  have h65 := h65_of hr
  have hp := passes_of (X := cxOf (L2.CX P w) P w K mg base N__law_web "_law_web" (defScope s__law_web) F.f__law_web cdv Ar o s H E) rfl
  exact ⟨t__law_web K, (pss_cons (ps_parU (i := 1) (j := 2) rfl sc__law_web.nd rfl rfl (by decide) (Or.inl rfl) (Or.inl rfl) (pa_cons (pe_g g__law_draw hG (hr.mono (by decide)) A.m__law_draw A.k__law_draw A.b__law_draw pass00 (pa_cons (pv 0) (pa_cons
    pe_int pa_nil))) (pa_cons (pe_op op_addU pe_int (pe_g g__law_draw hG (hr.mono (by decide)) A.m__law_draw A.k__law_draw A.b__law_draw pass00 (pa_cons (pv 0) (pa_cons pe_int pa_nil)))) pa_nil)) (by rfl)) (pss_cons (ps_parU (i :=
    3) (j := 4) rfl sc__law_web.nd rfl rfl (by decide) (Or.inl rfl) (Or.inl rfl) (pa_cons (pe_lc (own := [("k", 5)]) (g := (gName 5)) (tt := tYes) (te := (tTup (tCons (tVar 5) (tCons (tOp (rAddU K) (tVar 5) (tC (.int 1))) tNil))))
    rfl sc__law_web.nd (pi_range1 rfl A.z_range (pa_cons (pe_op op_subI (pv 2) pe_int) pa_nil)) (blkOk_by (N := N__law_web) (sc := defScope s__law_web) (by decide +kernel)) (fun _ _ _ _ _ => (pg_name (i := 5) sc__law_web.nd rfl
    (Or.inl rfl))) (fun _ _ _ _ _ => pts_nil) (fun _ _ _ _ _ => (pe_tup (pa_cons (pv 5) (pa_cons (pe_op op_addU (pv 5) pe_int) pa_nil))))) (pa_cons (pv 2) pa_nil)) (by rfl)) (Evl.pss_cut (ps_if (pt_cmpR (op_eqU hr.units) (pv 1)
    pe_int (nomark _)) (pss_one (ps_set (i := 3) sc__law_web.nd rfl (Or.inl rfl) (pe_op op_addU (pv 3) (pe_lst (pa_cons (pe_tup (pa_cons pe_int (pa_cons (pe_op op_subI (pv 2) pe_int) pa_nil))) pa_nil))))) (pss_one (ps_if (pt_cmpR
    (op_eqU hr.units) (pv 1) pe_int (nomark _)) (pss_cons (ps_set (i := 4) sc__law_web.nd rfl (Or.inl rfl) (pe_op op_addU pe_int (pe_g g__law_draw hG (hr.mono (by decide)) A.m__law_draw A.k__law_draw A.b__law_draw pass00 (pa_cons
    (pv 0) (pa_cons pe_int pa_nil))))) (pss_one (ps_set (i := 3) sc__law_web.nd rfl (Or.inl rfl) (pe_g g__law_tree hG (hr.mono (by decide)) A.m__law_tree A.k__law_tree A.b__law_tree pass00 (pa_cons (pv 0) (pa_cons (pv 4)
    pa_nil)))))) (pss_one (ps_if (pt_cmpR (op_eqU hr.units) (pv 1) pe_int (nomark _)) (pss_cons (ps_set (i := 4) sc__law_web.nd rfl (Or.inl rfl) (pe_op op_addU pe_int (pe_g g__law_draw hG (hr.mono (by decide)) A.m__law_draw
    A.k__law_draw A.b__law_draw pass00 (pa_cons (pv 0) (pa_cons pe_int pa_nil))))) (pss_one (ps_set (i := 3) sc__law_web.nd rfl (Or.inl rfl) (pe_g g__law_more hG (hr.mono (by decide)) A.m__law_more A.k__law_more A.b__law_more
    pass00 (pa_cons (pv 0) (pa_cons (pv 4) (pa_cons (pe_g g__law_tree hG (hr.mono (by decide)) A.m__law_tree A.k__law_tree A.b__law_tree pass00 (pa_cons (pv 0) (pa_cons (pv 4) pa_nil))) (pa_cons (pe_op op_addU pe_int (pe_g
    g__law_draw hG (hr.mono (by decide)) A.m__law_draw A.k__law_draw A.b__law_draw pass00 (pa_cons (pv 0) (pa_cons pe_int pa_nil)))) pa_nil)))))))) (pss_one (ps_if (pt_cmpR (op_eqU hr.units) (pv 1) pe_int (nomark _)) (pss_cons
    (ps_set (i := 6) sc__law_web.nd rfl (Or.inl rfl) (pe_g g__law_pick hG (hr.mono (by decide)) A.m__law_pick A.k__law_pick A.b__law_pick pass00 (pa_cons (pv 0) (pa_cons (pe_lst (pa_cons (pe_lst (pa_cons (pe_tup (pa_cons pe_int
    (pa_cons pe_int pa_nil))) (pa_cons (pe_tup (pa_cons pe_int (pa_cons pe_int pa_nil))) (pa_cons (pe_tup (pa_cons pe_int (pa_cons pe_int pa_nil))) pa_nil)))) (pa_cons (pe_lst (pa_cons (pe_tup (pa_cons pe_int (pa_cons pe_int
    pa_nil))) (pa_cons (pe_tup (pa_cons pe_int (pa_cons pe_int pa_nil))) (pa_cons (pe_tup (pa_cons pe_int (pa_cons pe_int pa_nil))) pa_nil)))) (pa_cons (pe_lst (pa_cons (pe_tup (pa_cons pe_int (pa_cons pe_int pa_nil))) (pa_cons
    (pe_tup (pa_cons pe_int (pa_cons pe_int pa_nil))) pa_nil))) pa_nil)))) pa_nil)))) (pss_cons (ps_parU (i := 4) (j := 3) rfl sc__law_web.nd rfl rfl (by decide) (Or.inl rfl) (Or.inl rfl) (pa_cons (pe_op op_addU (pe_op op_mulU
    pe_int (pe_callB cr_len (by rfl) A.z_len boot_len (pa_cons (pv 6) pa_nil))) pe_int) (pa_cons (pe_lst pa_nil) pa_nil)) (by rfl)) (pss_one (ps_for hp rfl (pi_enumV A.z_enumerate (pa_cons (pv 6) pa_nil)) (pg_tup rfl (pgs_cons
    (pg_name (i := 5) sc__law_web.nd rfl (Or.inl rfl)) (pgs_cons (pg_tup rfl (pgs_cons (pg_name (i := 7) sc__law_web.nd rfl (Or.inl rfl)) (pgs_cons (pg_name (i := 8) sc__law_web.nd rfl (Or.inl rfl)) pgs_nil))) pgs_nil))) (pss_one
    (ps_set (i := 3) sc__law_web.nd rfl (Or.inl rfl) (pe_op op_addU (pv 3) (pe_lst (pa_cons (pe_tup (pa_cons (pv 7) (pa_cons (pe_op op_addU (pe_op op_addU (pe_callB cr_len (by rfl) A.z_len boot_len (pa_cons (pv 6) pa_nil)) pe_int)
    (pv 5)) pa_nil))) (pa_cons (pe_tup (pa_cons (pv 8) (pa_cons (pe_op op_addU (pe_op op_addU (pe_callB cr_len (by rfl) A.z_len boot_len (pa_cons (pv 6) pa_nil)) pe_int) (pv 5)) pa_nil))) pa_nil)))))))))) (pss_one (ps_if (pt_cmpR
    (op_eqU hr.units) (pv 1) pe_int (nomark _)) (pss_cons (ps_set (i := 4) sc__law_web.nd rfl (Or.inl rfl) (pe_g g__law_pick hG (hr.mono (by decide)) A.m__law_pick A.k__law_pick A.b__law_pick pass00 (pa_cons (pv 0) (pa_cons (pe_lst
    (pa_cons pe_int (pa_cons pe_int (pa_cons pe_int (pa_cons pe_int (pa_cons pe_int (pa_cons pe_int pa_nil))))))) pa_nil)))) (pss_one (ps_set (i := 3) sc__law_web.nd rfl (Or.inl rfl) (pe_g g__law_more hG (hr.mono (by decide))
    A.m__law_more A.k__law_more A.b__law_more pass00 (pa_cons (pv 0) (pa_cons (pv 4) (pa_cons (pe_g g__law_tree hG (hr.mono (by decide)) A.m__law_tree A.k__law_tree A.b__law_tree pass00 (pa_cons (pv 0) (pa_cons (pv 4) pa_nil)))
    (pa_cons (pe_g g__law_draw hG (hr.mono (by decide)) A.m__law_draw A.k__law_draw A.b__law_draw pass00 (pa_cons (pv 0) (pa_cons pe_int pa_nil))) pa_nil)))))))) (pss_one (ps_if (pt_cmpR (op_eqU hr.units) (pv 1) pe_int (nomark _))
    (pss_cons (ps_set (i := 4) sc__law_web.nd rfl (Or.inl rfl) (pe_op op_addU pe_int (pe_g g__law_draw hG (hr.mono (by decide)) A.m__law_draw A.k__law_draw A.b__law_draw pass00 (pa_cons (pv 0) (pa_cons pe_int pa_nil))))) (pss_one
    (ps_set (i := 3) sc__law_web.nd rfl (Or.inl rfl) (pe_g g__law_more hG (hr.mono (by decide)) A.m__law_more A.k__law_more A.b__law_more pass00 (pa_cons (pv 0) (pa_cons (pv 4) (pa_cons (pe_g g__law_tree hG (hr.mono (by decide))
    A.m__law_tree A.k__law_tree A.b__law_tree pass00 (pa_cons (pv 0) (pa_cons (pv 4) pa_nil))) (pa_cons (pe_g g__law_draw hG (hr.mono (by decide)) A.m__law_draw A.k__law_draw A.b__law_draw pass00 (pa_cons (pv 0) (pa_cons pe_int
    pa_nil))) pa_nil)))))))) (pss_one (ps_if (pt_cmpR (op_eqU hr.units) (pv 1) pe_int (nomark _)) (pss_cons (ps_set (i := 4) sc__law_web.nd rfl (Or.inl rfl) (pe_op op_addU pe_int (pe_g g__law_draw hG (hr.mono (by decide))
    A.m__law_draw A.k__law_draw A.b__law_draw pass00 (pa_cons (pv 0) (pa_cons pe_int pa_nil))))) (pss_one (ps_set (i := 3) sc__law_web.nd rfl (Or.inl rfl) (pe_op op_addU (pe_lst (pa_cons (pe_tup (pa_cons pe_int (pa_cons pe_int
    pa_nil))) (pa_cons (pe_tup (pa_cons pe_int (pa_cons pe_int pa_nil))) (pa_cons (pe_tup (pa_cons pe_int (pa_cons pe_int pa_nil))) (pa_cons (pe_tup (pa_cons pe_int (pa_cons pe_int pa_nil))) pa_nil))))) (pe_ifExp (pt_cmpR (op_eqU
    hr.units) (pv 4) pe_int (nomark _)) (pe_lst (pa_cons (pe_tup (pa_cons pe_int (pa_cons pe_int pa_nil))) (pa_cons (pe_tup (pa_cons pe_int (pa_cons pe_int pa_nil))) pa_nil))) (pe_lst (pa_cons (pe_tup (pa_cons pe_int (pa_cons
    pe_int pa_nil))) (pa_cons (pe_tup (pa_cons pe_int (pa_cons pe_int pa_nil))) pa_nil)))))))) pss_nil))))))))))))) (pss_cons (ps_set (i := 9) sc__law_web.nd rfl (Or.inr rfl) (pe_op op_addU (pe_op op_addU pe_int (pe_callTy cr_int
    (by rfl) A.z_int (by decide +kernel) (pa_cons (pe_cmpR (op_eqU hr.units) (pv 1) pe_int (nomark _)) pa_nil))) (pe_callTy cr_int (by rfl) A.z_int (by decide +kernel) (pa_cons (pe_and (pe_cmpR (op_eqU hr.units) (pv 1) pe_int
    (nomark _)) (pe_one (pe_cmpR (op_ltU hr.units0) (pe_callB cr_len (by rfl) A.z_len boot_len (pa_cons (pv 3) pa_nil)) pe_int (nomark _)))) pa_nil)))) (pss_one (ps_ret (pe_g g__law_made hG (hr.mono (by decide)) A.m__law_made
    A.k__law_made A.b__law_made pass00 (pa_cons (pv 0) (pa_cons (pv 4) (pa_cons (pv 3) (pa_cons (pe_lc (own := [("pair", 10)]) (g := (gName 10)) (tt := tYes) (te := (tOp (rAddU K) (tC (.int 1)) (tG (sp__law_draw K) E00 (tCons (tVar
    0) (tCons (tVar 9) tNil))))) rfl sc__law_web.nd (pi_seq (pv 3)) (blkOk_by (N := N__law_web) (sc := defScope s__law_web) (by decide +kernel)) (fun _ _ _ _ _ => (pg_name (i := 10) sc__law_web.nd rfl (Or.inl rfl))) (fun _ _ _ _ _
    => pts_nil) (fun _ _ _ _ _ => (pe_op op_addU pe_int (pe_g g__law_draw hG (hr.mono (by decide)) A.m__law_draw A.k__law_draw A.b__law_draw pass00 (pa_cons (pv 0) (pa_cons (pv 9) pa_nil)))))) pa_nil))))))))))), p__law_web h⟩
theorem g__law_is_right (A : All K mg F) (hsm : Smb base) (g__law_led : FnG P w K mg base 3 F.f__law_led F.d__law_led ["web", "standing", "way", "shut"] (sp__law_led K)) (g__law_reach : FnG P w K mg base 3 F.f__law_reach F.d__law_reach ["web", "standing", "shut"] (sp__law_reach K)) : FnG P w K mg base 4 F.f__law_is_right F.d__law_is_right ["web", "one", "other", "shut", "told"] (sp__law_is_right K) := by
  refine Fun.okG A.h__law_is_right sc__law_is_right l__law_is_right ?_
  intro cdv Ar o s H vs Q E hG hr h
  have hu := hu_of hr
  have h65 := h65_of hr
  exact ⟨t__law_is_right K, (pss_cons (ps_if (pt_cmpR (op_niU h65) (pv 2) (pe_g g__law_reach hG (hr.mono (by decide)) A.m__law_reach A.k__law_reach A.b__law_reach pass00 (pa_cons (pv 0) (pa_cons (pv 1) (pa_cons (pv 3) pa_nil)))) rfl) (pss_one (ps_ret (pe_cmpR
    op_isN1 (pv 4) pe_non (nomark _)))) pss_nil) (pss_cons (ps_if (pt_cmpR (op_eqU hr.units) (pv 1) (pv 2) (nomark _)) (pss_one (ps_ret (pe_cmpR (op_eqU hr.units) (pe_callB (call_reprU hG hr.units hsm) (by rfl) A.z_repr (by
    decide +kernel) (pa_cons (pv 4) pa_nil)) (pe_callB (call_reprU hG hr.units hsm) (by rfl) A.z_repr (by decide +kernel) (pa_cons (pe_tup pa_nil) pa_nil)) (nomark _)))) pss_nil) (pss_one (ps_ret (pe_and (pe_cmpR op_notN1 (pv 4)
    pe_non (nomark _)) (pe_one (pe_cmpR (op_eqU hr.units) (pe_g g__law_led hG (hr.mono (by decide)) A.m__law_led A.k__law_led A.b__law_led pass00 (pa_cons (pv 0) (pa_cons (pv 1) (pa_cons (pv 4) (pa_cons (pv 3) pa_nil))))) (pv 2)
    (nomark _)))))))), p__law_is_right h⟩
theorem g_closed_way (A : All K mg F) (hsm : Smb base) (g__TooMany : FnOk P w K mg base (L2.CX P w) 1 F.f__TooMany F.d__TooMany ["self", "limit"] (sp_arg K "limit")) (g_way_to : FnG P w K mg base 1 F.f_way_to F.d_way_to ["known", "standing"] (sp_way_to K)) (g_reached : FnG P w K mg base 4 F.f_reached F.d_reached ["web", "start", "closed", "limit"] (sp_reached K F.cl)) : FnG P w K mg base 5 F.f_closed_way F.d_closed_way ["web", "one", "other", "closed"] (sp_closed_way K F.cl) := by
  refine Fun.okG A.h_closed_way sc_closed_way l_closed_way ?_
  intro cdv Ar o s H vs Q E hG hr h
  have hu := hu_of hr
  have h65 := h65_of hr
  have tk : Takes (cxOf (L2.CX P w) P w K mg base N_closed_way "closed_way" (defScope s_closed_way) F.f_closed_way cdv Ar o s H E) (fun c d _ H => E c d H) := takes_of rfl rfl rfl rfl
  exact ⟨t_closed_way K F.cl (fun c d _ H => E c d H), (pss_cons (ps_set (i := 4) sc_closed_way.nd rfl (Or.inl rfl) (pe_g g_reached hG (hr.mono (by decide)) A.m_reached A.k_reached A.b_reached (fun σ => passAt tk σ) (pa_cons (pv 0) (pa_cons (pv 1) (pa_cons (pv 3) (pa_cons (pe_glob rfl
    A.c_MAX_SEEN.choose_spec ⟨_, rfl⟩) pa_nil)))))) (pss_one (ps_ret (pe_ifExp (pt_cmp (pc_din hu (pv 2) (pv 4))) (pe_g g_way_to hG (hr.mono (by decide)) A.m_way_to A.k_way_to A.b_way_to pass00 (pa_cons (pv 4) (pa_cons (pv 2)
    pa_nil))) pe_non)))), p_closed_way h⟩
theorem g_law (A : All K mg F) (hsm : Smb base) (g__TooMany : FnOk P w K mg base (L2.CX P w) 1 F.f__TooMany F.d__TooMany ["self", "limit"] (sp_arg K "limit")) (g__law_draw : FnG P w K mg base 1 F.f__law_draw F.d__law_draw ["jar", "many"] (sp__law_draw K)) (g__law_jar : FnG P w K mg base 1 F.f__law_jar F.d__law_jar ["script"] (sp__law_jar K)) (g__law_pick : FnG P w K mg base 2 F.f__law_pick F.d__law_pick ["jar", "row"] (sp__law_pick K)) (g__law_standing : FnG P w K mg base 2 F.f__law_standing F.d__law_standing ["jar", "web"] (sp__law_standing K)) (g__law_reach : FnG P w K mg base 3 F.f__law_reach F.d__law_reach ["web", "standing", "shut"] (sp__law_reach K)) (g__law_is_right : FnG P w K mg base 4 F.f__law_is_right F.d__law_is_right ["web", "one", "other", "shut", "told"] (sp__law_is_right K)) (g__law_web : FnG P w K mg base 4 F.f__law_web F.d__law_web ["jar"] (sp__law_web K)) (g_closed_way : FnG P w K mg base 5 F.f_closed_way F.d_closed_way ["web", "one", "other", "closed"] (sp_closed_way K F.cl)) : FnG P w K mg base 6 F.f_law F.d_law ["script"] (sp_law K) := by
  refine Fun.okG A.h_law sc_law l_law ?_
  intro cdv Ar o s H vs Q E hG hr h
  have hu := hu_of hr
  have h65 := h65_of hr
  have hp := passes_of (X := cxOf (L2.CX P w) P w K mg base N_law "law" (defScope s_law) F.f_law cdv Ar o s H E) rfl
  have tk : Takes (cxOf (L2.CX P w) P w K mg base N_law "law" (defScope s_law) F.f_law cdv Ar o s H E) (fun c d _ H => E c d H) := takes_of rfl rfl rfl rfl
  exact ⟨t_law K F.cl (fun c d _ H => E c d H), (pss_cons (ps_set (i := 1) sc_law.nd rfl (Or.inr rfl) (pe_g g__law_jar hG (hr.mono (by decide)) A.m__law_jar A.k__law_jar A.b__law_jar pass00 (pa_cons (pv 0) pa_nil))) (pss_cons (ps_for hp rfl (pi_range1 rfl A.z_range (pa_cons
    pe_int pa_nil)) (pg_name (i := 2) sc_law.nd rfl (Or.inl rfl)) (pss_cons (ps_set (i := 3) sc_law.nd rfl (Or.inl rfl) (pe_g g__law_web hG (hr.mono (by decide)) A.m__law_web A.k__law_web A.b__law_web pass00 (pa_cons (pv 1)
    pa_nil))) (pss_cons (ps_set (i := 4) sc_law.nd rfl (Or.inl rfl) (pe_g g__law_standing hG (hr.mono (by decide)) A.m__law_standing A.k__law_standing A.b__law_standing pass00 (pa_cons (pv 1) (pa_cons (pv 3) pa_nil)))) (pss_cons
    (ps_set (i := 5) sc_law.nd rfl (Or.inl rfl) (pe_callB cr_len (by rfl) A.z_len boot_len (pa_cons (pe_ix ix_seq (pv 3) pe_int (fun _ _ => rfl)) pa_nil))) (pss_cons (ps_for hp rfl (pi_range1 rfl A.z_range (pa_cons (pe_ifExp
    (pt_cmpR (op_ltU hr.units0) (pv 5) pe_int (nomark _)) pe_int pe_int) pa_nil)) (pg_name (i := 6) sc_law.nd rfl (Or.inr rfl)) (pss_cons (ps_set (i := 7) sc_law.nd rfl (Or.inl rfl) (pe_callTy cr_tupOf (by rfl) A.z_tuple (by
    decide +kernel) (pa_cons (pe_lc (own := [("road", 15)]) (g := (gName 15)) (tt := (tTest (tOp (rEqU K) (tG (sp__law_draw K) E00 (tCons (tVar 1) (tCons (tOp (rIx K) (tLst (tCons (tC (.int 9)) (tCons (tC (.int 4)) (tCons (tC (.int
    2)) tNil)))) (tVar 6)) tNil))) (tC (.int 0))))) (te := (tVar 15)) rfl sc_law.nd (pi_range1 rfl A.z_range (pa_cons (pv 5) pa_nil)) (blkOk_by (N := N_law) (sc := defScope s_law) (by decide +kernel)) (fun _ _ _ _ _ => (pg_name (i
    := 15) sc_law.nd rfl (Or.inl rfl))) (fun _ _ _ _ _ => (pts_one (pt_cmpR (op_eqU hr.units) (pe_g g__law_draw hG (hr.mono (by decide)) A.m__law_draw A.k__law_draw A.b__law_draw pass00 (pa_cons (pv 1) (pa_cons (pe_ix ix_seq
    (pe_lst (pa_cons pe_int (pa_cons pe_int (pa_cons pe_int pa_nil)))) (pv 6) (fun _ _ => rfl)) pa_nil))) pe_int (nomark _)))) (fun _ _ _ _ _ => (pv 15))) pa_nil))) (pss_cons (ps_set (i := 8) sc_law.nd rfl (Or.inl rfl) (pe_g
    g__law_reach hG (hr.mono (by decide)) A.m__law_reach A.k__law_reach A.b__law_reach pass00 (pa_cons (pv 3) (pa_cons (pv 4) (pa_cons (pe_ifExp (pt_cmpR op_gtI (pe_g g__law_draw hG (hr.mono (by decide)) A.m__law_draw A.k__law_draw
    A.b__law_draw pass00 (pa_cons (pv 1) (pa_cons pe_int pa_nil))) pe_int (nomark _)) (pv 7) (pe_tup pa_nil)) pa_nil))))) (pss_cons (ps_set (i := 9) sc_law.nd rfl (Or.inl rfl) (pe_ifExp (pt_cmpR op_gtI (pe_g g__law_draw hG (hr.mono
    (by decide)) A.m__law_draw A.k__law_draw A.b__law_draw pass00 (pa_cons (pv 1) (pa_cons pe_int pa_nil))) pe_int (nomark _)) (pe_g g__law_pick hG (hr.mono (by decide)) A.m__law_pick A.k__law_pick A.b__law_pick pass00 (pa_cons (pv
    1) (pa_cons (pv 8) pa_nil))) (pe_g g__law_standing hG (hr.mono (by decide)) A.m__law_standing A.k__law_standing A.b__law_standing pass00 (pa_cons (pv 1) (pa_cons (pv 3) pa_nil))))) (pss_cons (ps_set (i := 10) sc_law.nd rfl
    (Or.inl rfl) (pe_callB (call_reprU hG hr.units hsm) (by rfl) A.z_repr (by decide +kernel) (pa_cons (pe_lst (pa_cons (pv 3) (pa_cons (pv 4) (pa_cons (pv 9) (pa_cons (pv 7) pa_nil))))) pa_nil))) (pss_cons (ps_set (i := 11)
    sc_law.nd rfl (Or.inl rfl) (pe_g g_closed_way hG (hr.mono (by decide)) A.m_closed_way A.k_closed_way A.b_closed_way (fun σ => passAt tk σ) (pa_cons (pv 3) (pa_cons (pv 4) (pa_cons (pv 9) (pa_cons (pv 7) pa_nil)))))) (pss_cons
    (ps_set (i := 12) sc_law.nd rfl (Or.inl rfl) (pe_gk g_closed_way hG (hr.mono (by decide)) A.m_closed_way A.k_closed_way (kb_closed_way_closed_other_one_web A) (fun σ => passAt tk σ) (pk_cons (pv 7) (pk_cons (pv 9) (pk_cons (pv
    4) (pk_cons (pv 3) pk_nil)))))) (pss_cons (ps_if (PW.pt (pw_or (pt_cmpR (op_neU hr.units) (pe_callB (call_reprU hG hr.units hsm) (by rfl) A.z_repr (by decide +kernel) (pa_cons (pv 12) pa_nil)) (pe_callB (call_reprU hG hr.units
    hsm) (by rfl) A.z_repr (by decide +kernel) (pa_cons (pv 11) pa_nil)) (nomark _)) (pw_or1 (pt_cmpR (op_neU hr.units) (pe_callB (call_reprU hG hr.units hsm) (by rfl) A.z_repr (by decide +kernel) (pa_cons (pe_lst (pa_cons (pv 3)
    (pa_cons (pv 4) (pa_cons (pv 9) (pa_cons (pv 7) pa_nil))))) pa_nil)) (pv 10) (nomark _))))) (pss_one (ps_ret pe_bl)) pss_nil) (pss_cons (ps_if (pt_not (pt_val (pe_g g__law_is_right hG (hr.mono (by decide)) A.m__law_is_right
    A.k__law_is_right A.b__law_is_right pass00 (pa_cons (pv 3) (pa_cons (pv 4) (pa_cons (pv 9) (pa_cons (pv 7) (pa_cons (pv 11) pa_nil)))))))) (pss_one (ps_ret pe_bl)) pss_nil) (pss_one (ps_if (pt_not (pt_val (pe_g g__law_is_right
    hG (hr.mono (by decide)) A.m__law_is_right A.k__law_is_right A.b__law_is_right pass00 (pa_cons (pv 3) (pa_cons (pv 9) (pa_cons (pv 4) (pa_cons (pv 7) (pa_cons (pe_g g_closed_way hG (hr.mono (by decide)) A.m_closed_way
    A.k_closed_way A.b_closed_way (fun σ => passAt tk σ) (pa_cons (pv 3) (pa_cons (pv 9) (pa_cons (pv 4) (pa_cons (pv 7) pa_nil))))) pa_nil)))))))) (pss_one (ps_ret pe_bl)) pss_nil))))))))))) (pss_cons (ps_set (i := 13) sc_law.nd
    rfl (Or.inl rfl) (pe_callTy cr_tupOf (by rfl) A.z_tuple (by decide +kernel) (pa_cons (pe_listRg rfl (by rfl) A.z_list (prg_1 (by rfl) A.z_range (pv 5))) pa_nil))) (pss_one (ps_if (pt_not (pt_val (pe_g g__law_is_right hG
    (hr.mono (by decide)) A.m__law_is_right A.k__law_is_right A.b__law_is_right pass00 (pa_cons (pv 3) (pa_cons (pv 4) (pa_cons (pv 4) (pa_cons (pv 13) (pa_cons (pe_g g_closed_way hG (hr.mono (by decide)) A.m_closed_way
    A.k_closed_way A.b_closed_way (fun σ => passAt tk σ) (pa_cons (pv 3) (pa_cons (pv 4) (pa_cons (pv 4) (pa_cons (pv 13) pa_nil))))) pa_nil)))))))) (pss_one (ps_ret pe_bl)) pss_nil)))))))) (pss_cons (ps_set (i := 14) sc_law.nd rfl
    (Or.inl rfl) (pe_tup (pa_cons pe_int (pa_cons (pe_tup (pa_cons (pe_tup (pa_cons pe_int (pa_cons pe_int pa_nil))) (pa_cons (pe_tup (pa_cons pe_int (pa_cons pe_int pa_nil))) (pa_cons (pe_tup (pa_cons pe_int (pa_cons pe_int
    pa_nil))) (pa_cons (pe_tup (pa_cons pe_int (pa_cons pe_int pa_nil))) pa_nil))))) (pa_cons (pe_tup (pa_cons pe_int (pa_cons pe_int (pa_cons pe_int (pa_cons pe_int pa_nil))))) pa_nil))))) (pss_one (ps_ret (pe_cmpR op_isN1 (pe_g
    g_closed_way hG (hr.mono (by decide)) A.m_closed_way A.k_closed_way A.b_closed_way (fun σ => passAt tk σ) (pa_cons (pv 14) (pa_cons (pe_tup (pa_cons pe_int (pa_cons pe_int (pa_cons pe_int (pa_cons pe_int pa_nil))))) (pa_cons
    (pe_tup (pa_cons pe_int (pa_cons pe_int (pa_cons pe_int (pa_cons pe_int pa_nil))))) (pa_cons (pe_tup (pa_cons pe_int pa_nil)) pa_nil))))) pe_non (nomark _))))))), p_law h⟩
end UW.Ja.D83
namespace UW.Ja.D83
open PySem PySem.Spec PyProof.Rows L2 UW
theorem run_all {P : Program} {w : World} {K : Fg} {mg : Str → Option Value} {base : Heap} {F : Fs} (A : All K mg F) (hsm : Smb base) : FnG P w K mg base 6 F.f_law F.d_law ["script"] (sp_law K) := by
  have q__TooMany := g__TooMany (P := P) (w := w) (base := base) A
  have q_sums_of := g_sums_of (P := P) (w := w) (base := base) A hsm
  have q_with_load := g_with_load (P := P) (w := w) (base := base) A hsm
  have q_way_to := g_way_to (P := P) (w := w) (base := base) A hsm
  have q__law_jar := g__law_jar (P := P) (w := w) (base := base) A hsm
  have q__law_draw := g__law_draw (P := P) (w := w) (base := base) A hsm
  have q__law_sums := g__law_sums (P := P) (w := w) (base := base) A hsm
  have q_unlike_roads := g_unlike_roads (P := P) (w := w) (base := base) A hsm q_sums_of
  have q__law_pick := g__law_pick (P := P) (w := w) (base := base) A hsm q__law_draw
  have q__law_mixed := g__law_mixed (P := P) (w := w) (base := base) A hsm q__law_draw
  have q__law_tree := g__law_tree (P := P) (w := w) (base := base) A hsm q__law_draw
  have q__law_near := g__law_near (P := P) (w := w) (base := base) A hsm q__law_sums
  have q__law_standing := g__law_standing (P := P) (w := w) (base := base) A hsm q__law_draw
  have q_beside := g_beside (P := P) (w := w) (base := base) A hsm q_with_load q_unlike_roads
  have q__law_made := g__law_made (P := P) (w := w) (base := base) A hsm q__law_mixed
  have q__law_more := g__law_more (P := P) (w := w) (base := base) A hsm q__law_mixed
  have q__law_reach := g__law_reach (P := P) (w := w) (base := base) A hsm q__law_near
  have q__law_led := g__law_led (P := P) (w := w) (base := base) A hsm q__law_near
  have q_reached := g_reached (P := P) (w := w) (base := base) A hsm q__TooMany q_beside
  have q__law_web := g__law_web (P := P) (w := w) (base := base) A hsm q__law_draw q__law_pick q__law_tree q__law_made q__law_more
  have q__law_is_right := g__law_is_right (P := P) (w := w) (base := base) A hsm q__law_led q__law_reach
  have q_closed_way := g_closed_way (P := P) (w := w) (base := base) A hsm q__TooMany q_way_to q_reached
  exact g_law (P := P) (w := w) (base := base) A hsm q__TooMany q__law_draw q__law_jar q__law_pick q__law_standing q__law_reach q__law_is_right q__law_web q_closed_way
theorem all_mk {l : PySem.W.OpenLaw} {w : World} {K : Fg} {h : Heap} {mg : Str → Option Value} {fa : Addr} (X : K.In h) (G : h.Ns mainGlobals mg) (hfa : mg "law" = some (.ref fa))
    {f1 f2 f3 f4 f5 f6 f7 f8 f9 f10 f11 f12 f13 f14 f15 f16 f17 f18 f19 f20 f21 f22 f23 : Addr} {od1 an1 od2 an2 od3 an3 od4 an4 od5 an5 od6 an6 od7 an7 od8 an8 od9 an9 od10 an10 od11 an11 od12 an12 od13 an13 od14 an14 od15 an15 od16 an16 od17 an17 od18 an18 od19 an19 od20 an20 od21 an21 od22 an22 od23 an23 : Option Addr} {sl1 sl2 sl3 sl4 sl5 sl6 sl7 sl8 sl9 sl10 sl11 sl12 sl13 sl14 sl15 sl16 sl17 sl18 sl19 sl20 sl21 sl22 sl23 : Array (Option Value)} {oc1 kV1 dc1 pm1 cd1 ct1 oc2 kV2 dc2 pm2 cd2 ct2 oc3 kV3 dc3 pm3 cd3 ct3 oc4 kV4 dc4 pm4 cd4 ct4 oc5 kV5 dc5 pm5 cd5 ct5 oc6 kV6 dc6 pm6 cd6 ct6 oc7 kV7 dc7 pm7 cd7 ct7 oc8 kV8 dc8 pm8 cd8 ct8 oc9 kV9 dc9 pm9 cd9 ct9 oc10 kV10 dc10 pm10 cd10 ct10 oc11 kV11 dc11 pm11 cd11 ct11 oc12 kV12 dc12 pm12 cd12 ct12 oc13 kV13 dc13 pm13 cd13 ct13 oc14 kV14 dc14 pm14 cd14 ct14 oc15 kV15 dc15 pm15 cd15 ct15 oc16 kV16 dc16 pm16 cd16 ct16 oc17 kV17 dc17 pm17 cd17 ct17 oc18 kV18 dc18 pm18 cd18 ct18 oc19 kV19 dc19 pm19 cd19 ct19 oc20 kV20 dc20 pm20 cd20 ct20 oc21 kV21 dc21 pm21 cd21 ct21 oc22 kV22 dc22 pm22 cd22 ct22 oc23 kV23 dc23 pm23 cd23 ct23 : Value}
    (a1 : PySem.W.nsIn K mainGlobals "sums_of" = some (some (.ref f1)))
    (l1 : K.lookup f1 = some ⟨oc1, od1, .func (PySem.W.fnOf "sums_of" "sums_of" (defArgs s_sums_of) (defBody s_sums_of) (defScope s_sums_of) .none kV1 dc1 pm1 an1 cd1 ct1), sl1⟩)
    (c1 : PySem.W.codeIn K cd1 "sums_of" = true)
    (k1 : PySem.W.keepIn K (.ref f1) = true)
    (a2 : PySem.W.nsIn K mainGlobals "unlike_roads" = some (some (.ref f2)))
    (l2 : K.lookup f2 = some ⟨oc2, od2, .func (PySem.W.fnOf "unlike_roads" "unlike_roads" (defArgs s_unlike_roads) (defBody s_unlike_roads) (defScope s_unlike_roads) .none kV2 dc2 pm2 an2 cd2 ct2), sl2⟩)
    (c2 : PySem.W.codeIn K cd2 "unlike_roads" = true)
    (k2 : PySem.W.keepIn K (.ref f2) = true)
    (a3 : PySem.W.nsIn K mainGlobals "with_load" = some (some (.ref f3)))
    (l3 : K.lookup f3 = some ⟨oc3, od3, .func (PySem.W.fnOf "with_load" "with_load" (defArgs s_with_load) (defBody s_with_load) (defScope s_with_load) .none kV3 dc3 pm3 an3 cd3 ct3), sl3⟩)
    (c3 : PySem.W.codeIn K cd3 "with_load" = true)
    (k3 : PySem.W.keepIn K (.ref f3) = true)
    (a4 : PySem.W.nsIn K mainGlobals "beside" = some (some (.ref f4)))
    (l4 : K.lookup f4 = some ⟨oc4, od4, .func (PySem.W.fnOf "beside" "beside" (defArgs s_beside) (defBody s_beside) (defScope s_beside) .none kV4 dc4 pm4 an4 cd4 ct4), sl4⟩)
    (c4 : PySem.W.codeIn K cd4 "beside" = true)
    (k4 : PySem.W.keepIn K (.ref f4) = true)
    (a5 : PySem.W.nsIn K mainGlobals "reached" = some (some (.ref f5)))
    (l5 : K.lookup f5 = some ⟨oc5, od5, .func (PySem.W.fnOf "reached" "reached" (defArgs s_reached) (defBody s_reached) (defScope s_reached) .none kV5 dc5 pm5 an5 cd5 ct5), sl5⟩)
    (c5 : PySem.W.codeIn K cd5 "reached" = true)
    (k5 : PySem.W.keepIn K (.ref f5) = true)
    (a6 : PySem.W.nsIn K mainGlobals "way_to" = some (some (.ref f6)))
    (l6 : K.lookup f6 = some ⟨oc6, od6, .func (PySem.W.fnOf "way_to" "way_to" (defArgs s_way_to) (defBody s_way_to) (defScope s_way_to) .none kV6 dc6 pm6 an6 cd6 ct6), sl6⟩)
    (c6 : PySem.W.codeIn K cd6 "way_to" = true)
    (k6 : PySem.W.keepIn K (.ref f6) = true)
    (a7 : PySem.W.nsIn K mainGlobals "closed_way" = some (some (.ref f7)))
    (l7 : K.lookup f7 = some ⟨oc7, od7, .func (PySem.W.fnOf "closed_way" "closed_way" (defArgs s_closed_way) (defBody s_closed_way) (defScope s_closed_way) .none kV7 dc7 pm7 an7 cd7 ct7), sl7⟩)
    (c7 : PySem.W.codeIn K cd7 "closed_way" = true)
    (k7 : PySem.W.keepIn K (.ref f7) = true)
    (a8 : PySem.W.nsIn K mainGlobals "_law_jar" = some (some (.ref f8)))
    (l8 : K.lookup f8 = some ⟨oc8, od8, .func (PySem.W.fnOf "_law_jar" "_law_jar" (defArgs s__law_jar) (defBody s__law_jar) (defScope s__law_jar) .none kV8 dc8 pm8 an8 cd8 ct8), sl8⟩)
    (c8 : PySem.W.codeIn K cd8 "_law_jar" = true)
    (k8 : PySem.W.keepIn K (.ref f8) = true)
    (a9 : PySem.W.nsIn K mainGlobals "_law_draw" = some (some (.ref f9)))
    (l9 : K.lookup f9 = some ⟨oc9, od9, .func (PySem.W.fnOf "_law_draw" "_law_draw" (defArgs s__law_draw) (defBody s__law_draw) (defScope s__law_draw) .none kV9 dc9 pm9 an9 cd9 ct9), sl9⟩)
    (c9 : PySem.W.codeIn K cd9 "_law_draw" = true)
    (k9 : PySem.W.keepIn K (.ref f9) = true)
    (a10 : PySem.W.nsIn K mainGlobals "_law_pick" = some (some (.ref f10)))
    (l10 : K.lookup f10 = some ⟨oc10, od10, .func (PySem.W.fnOf "_law_pick" "_law_pick" (defArgs s__law_pick) (defBody s__law_pick) (defScope s__law_pick) .none kV10 dc10 pm10 an10 cd10 ct10), sl10⟩)
    (c10 : PySem.W.codeIn K cd10 "_law_pick" = true)
    (k10 : PySem.W.keepIn K (.ref f10) = true)
    (a11 : PySem.W.nsIn K mainGlobals "_law_mixed" = some (some (.ref f11)))
    (l11 : K.lookup f11 = some ⟨oc11, od11, .func (PySem.W.fnOf "_law_mixed" "_law_mixed" (defArgs s__law_mixed) (defBody s__law_mixed) (defScope s__law_mixed) .none kV11 dc11 pm11 an11 cd11 ct11), sl11⟩)
    (c11 : PySem.W.codeIn K cd11 "_law_mixed" = true)
    (k11 : PySem.W.keepIn K (.ref f11) = true)
    (a12 : PySem.W.nsIn K mainGlobals "_law_made" = some (some (.ref f12)))
    (l12 : K.lookup f12 = some ⟨oc12, od12, .func (PySem.W.fnOf "_law_made" "_law_made" (defArgs s__law_made) (defBody s__law_made) (defScope s__law_made) .none kV12 dc12 pm12 an12 cd12 ct12), sl12⟩)
    (c12 : PySem.W.codeIn K cd12 "_law_made" = true)
    (k12 : PySem.W.keepIn K (.ref f12) = true)
    (a13 : PySem.W.nsIn K mainGlobals "_law_tree" = some (some (.ref f13)))
    (l13 : K.lookup f13 = some ⟨oc13, od13, .func (PySem.W.fnOf "_law_tree" "_law_tree" (defArgs s__law_tree) (defBody s__law_tree) (defScope s__law_tree) .none kV13 dc13 pm13 an13 cd13 ct13), sl13⟩)
    (c13 : PySem.W.codeIn K cd13 "_law_tree" = true)
    (k13 : PySem.W.keepIn K (.ref f13) = true)
    (a14 : PySem.W.nsIn K mainGlobals "_law_more" = some (some (.ref f14)))
    (l14 : K.lookup f14 = some ⟨oc14, od14, .func (PySem.W.fnOf "_law_more" "_law_more" (defArgs s__law_more) (defBody s__law_more) (defScope s__law_more) .none kV14 dc14 pm14 an14 cd14 ct14), sl14⟩)
    (c14 : PySem.W.codeIn K cd14 "_law_more" = true)
    (k14 : PySem.W.keepIn K (.ref f14) = true)
    (a15 : PySem.W.nsIn K mainGlobals "_law_web" = some (some (.ref f15)))
    (l15 : K.lookup f15 = some ⟨oc15, od15, .func (PySem.W.fnOf "_law_web" "_law_web" (defArgs s__law_web) (defBody s__law_web) (defScope s__law_web) .none kV15 dc15 pm15 an15 cd15 ct15), sl15⟩)
    (c15 : PySem.W.codeIn K cd15 "_law_web" = true)
    (k15 : PySem.W.keepIn K (.ref f15) = true)
    (a16 : PySem.W.nsIn K mainGlobals "_law_sums" = some (some (.ref f16)))
    (l16 : K.lookup f16 = some ⟨oc16, od16, .func (PySem.W.fnOf "_law_sums" "_law_sums" (defArgs s__law_sums) (defBody s__law_sums) (defScope s__law_sums) .none kV16 dc16 pm16 an16 cd16 ct16), sl16⟩)
    (c16 : PySem.W.codeIn K cd16 "_law_sums" = true)
    (k16 : PySem.W.keepIn K (.ref f16) = true)
    (a17 : PySem.W.nsIn K mainGlobals "_law_near" = some (some (.ref f17)))
    (l17 : K.lookup f17 = some ⟨oc17, od17, .func (PySem.W.fnOf "_law_near" "_law_near" (defArgs s__law_near) (defBody s__law_near) (defScope s__law_near) .none kV17 dc17 pm17 an17 cd17 ct17), sl17⟩)
    (c17 : PySem.W.codeIn K cd17 "_law_near" = true)
    (k17 : PySem.W.keepIn K (.ref f17) = true)
    (a18 : PySem.W.nsIn K mainGlobals "_law_standing" = some (some (.ref f18)))
    (l18 : K.lookup f18 = some ⟨oc18, od18, .func (PySem.W.fnOf "_law_standing" "_law_standing" (defArgs s__law_standing) (defBody s__law_standing) (defScope s__law_standing) .none kV18 dc18 pm18 an18 cd18 ct18), sl18⟩)
    (c18 : PySem.W.codeIn K cd18 "_law_standing" = true)
    (k18 : PySem.W.keepIn K (.ref f18) = true)
    (a19 : PySem.W.nsIn K mainGlobals "_law_reach" = some (some (.ref f19)))
    (l19 : K.lookup f19 = some ⟨oc19, od19, .func (PySem.W.fnOf "_law_reach" "_law_reach" (defArgs s__law_reach) (defBody s__law_reach) (defScope s__law_reach) .none kV19 dc19 pm19 an19 cd19 ct19), sl19⟩)
    (c19 : PySem.W.codeIn K cd19 "_law_reach" = true)
    (k19 : PySem.W.keepIn K (.ref f19) = true)
    (a20 : PySem.W.nsIn K mainGlobals "_law_led" = some (some (.ref f20)))
    (l20 : K.lookup f20 = some ⟨oc20, od20, .func (PySem.W.fnOf "_law_led" "_law_led" (defArgs s__law_led) (defBody s__law_led) (defScope s__law_led) .none kV20 dc20 pm20 an20 cd20 ct20), sl20⟩)
    (c20 : PySem.W.codeIn K cd20 "_law_led" = true)
    (k20 : PySem.W.keepIn K (.ref f20) = true)
    (a21 : PySem.W.nsIn K mainGlobals "_law_is_right" = some (some (.ref f21)))
    (l21 : K.lookup f21 = some ⟨oc21, od21, .func (PySem.W.fnOf "_law_is_right" "_law_is_right" (defArgs s__law_is_right) (defBody s__law_is_right) (defScope s__law_is_right) .none kV21 dc21 pm21 an21 cd21 ct21), sl21⟩)
    (c21 : PySem.W.codeIn K cd21 "_law_is_right" = true)
    (k21 : PySem.W.keepIn K (.ref f21) = true)
    (a22 : PySem.W.nsIn K mainGlobals "law" = some (some (.ref f22)))
    (l22 : K.lookup f22 = some ⟨oc22, od22, .func (PySem.W.fnOf "law" "law" (defArgs s_law) (defBody s_law) (defScope s_law) .none kV22 dc22 pm22 an22 cd22 ct22), sl22⟩)
    (c22 : PySem.W.codeIn K cd22 "law" = true)
    (k22 : PySem.W.keepIn K (.ref f22) = true)
    {C0 : Addr}
    (aU : PySem.W.nsIn K mainGlobals "UnevenError" = some (some (.ref C0)))
    (sU : PySem.W.specialIn K (.ref C0) "__getattribute__" = some (some (.builtin "type.__getattribute__")))
    (tU : PySem.W.typeIn K (.ref C0) = some (.type "type"))
    (rU : PySem.W.readsIn K C0 (.type "type") = true)
    (fU : PySem.W.findCls K (.ref C0) (.type "type") "__init__" = some (.val (.builtin "ValueError.__init__")))
    {C23 N23 : Addr} {nm23 q23 : Str} {bs23 : List Value} {sn23 : List Str} {sub23 : List Value} {ab23 : Bool} {col23 : Option Bool} {dd23 : Option Addr} {w23 x23 y23 z23 v23 : Option Value}
    (b23 : PySem.W.nsIn K mainGlobals "TooMany" = some (some (.ref C23)))
    (e23 : K.lookup C23 = some (excClassObj nm23 q23 C23 N23 bs23 [.ref C0, .type "ValueError", .type "Exception", .type "BaseException", .type "object"] true sn23 sub23 ab23 col23 dd23 w23 x23 y23 z23 v23 "ValueError.__new__"))
    (sa23 : PySem.W.findIn K (.ref C23) "__setattr__" = some (some (.builtin "object.__setattr__")))
    (ga23 : PySem.W.findIn K (.ref C23) "__getattribute__" = some (some (.builtin "BaseException.__getattribute__")))
    (gg23 : PySem.W.findIn K (.ref C23) "__getattr__" = some none)
    (i23 : PySem.W.findIn K (.ref C23) "__init__" = some (some (.ref f23)))
    (ti23 : PySem.W.typeIn K (.ref f23) = some (.type "function"))
    (l23 : K.lookup f23 = some ⟨oc23, od23, .func (PySem.W.fnOf "__init__" "TooMany.__init__" (defArgs s__TooMany) (defBody s__TooMany) (defScope s__TooMany) .none kV23 dc23 pm23 an23 cd23 ct23), sl23⟩)
    (c23 : PySem.W.codeIn K cd23 "TooMany.__init__" = true)
    (k23 : PySem.W.keepIn K (.ref f23) = true)
    (kc23 : PySem.W.keepIn K (.ref C23) = true)
    (ec23 : PySem.W.subIn K (.ref C23) (.type "BaseException") = some true)
    (tc23 : PySem.W.typeIn K (.ref C23) = some (.type "type"))
    (hc23 : PySem.W.hasDictIn K C23 = true)
    (sc23 : PySem.W.subIn K (.ref C23) (.ref C23) = some true)
    (ha23 : PySem.W.findIn K (.ref C23) "__class__" = some (some (.builtin "object.__class__")))
    (hn23 : PySem.W.specialIn K (.builtin "object.__class__") "__get__" = some (some (.builtin "getset_descriptor.__get__")))
    (ht23 : PySem.W.takesIn K (.builtin "object.__class__") = some true)
    (hm23 : PySem.W.mroIn K C23 (.type "object") = some true)
    (qk23 : PySem.W.kitOne K (.ref C23) (.ref C0) = some true)
    (nf23 : PySem.W.findIn K (.ref C23) "limit" = some none)
    (z_dict : PySem.W.nsIn K mainGlobals "dict" = some none)
    (z_enumerate : PySem.W.nsIn K mainGlobals "enumerate" = some none)
    (z_int : PySem.W.nsIn K mainGlobals "int" = some none)
    (z_isinstance : PySem.W.nsIn K mainGlobals "isinstance" = some none)
    (z_len : PySem.W.nsIn K mainGlobals "len" = some none)
    (z_list : PySem.W.nsIn K mainGlobals "list" = some none)
    (z_max : PySem.W.nsIn K mainGlobals "max" = some none)
    (z_min : PySem.W.nsIn K mainGlobals "min" = some none)
    (z_range : PySem.W.nsIn K mainGlobals "range" = some none)
    (z_repr : PySem.W.nsIn K mainGlobals "repr" = some none)
    (z_sorted : PySem.W.nsIn K mainGlobals "sorted" = some none)
    (z_tuple : PySem.W.nsIn K mainGlobals "tuple" = some none)
    (z_zip : PySem.W.nsIn K mainGlobals "zip" = some none)
    {t_MAX_SEEN : Nat}
    (c_MAX_SEEN : PySem.W.nsIn K mainGlobals "MAX_SEEN" = some (some (.int 2000 t_MAX_SEEN)))
    : ∃ (fd : FuncData) (sp : Sp), (∀ (s : Shared) (v : Value), BindsTo s fd ⟨[v], []⟩ [("script", v)]) ∧ (∀ base : Heap, K.In base → base.Ns mainGlobals mg → Smb base → FnG l.prog w K mg base 6 fa fd ["script"] sp) ∧
      ∀ (H : Hp) (a : Addr) (ns : List Int), ns.length ≤ 63 → SqL K H a (ns.map V.int) → sp [.ref a] H (fun v _ => v = .bl true) fun _ _ _ => False := by
  have e := hfa.symm.trans (PySem.W.mg_of X G a22)
  cases e
  have F1 := fun_mk (st := s_sums_of) l1 c1 k1
  have F2 := fun_mk (st := s_unlike_roads) l2 c2 k2
  have F3 := fun_mk (st := s_with_load) l3 c3 k3
  have F4 := fun_mk (st := s_beside) l4 c4 k4
  have F5 := fun_mk (st := s_reached) l5 c5 k5
  have F6 := fun_mk (st := s_way_to) l6 c6 k6
  have F7 := fun_mk (st := s_closed_way) l7 c7 k7
  have F8 := fun_mk (st := s__law_jar) l8 c8 k8
  have F9 := fun_mk (st := s__law_draw) l9 c9 k9
  have F10 := fun_mk (st := s__law_pick) l10 c10 k10
  have F11 := fun_mk (st := s__law_mixed) l11 c11 k11
  have F12 := fun_mk (st := s__law_made) l12 c12 k12
  have F13 := fun_mk (st := s__law_tree) l13 c13 k13
  have F14 := fun_mk (st := s__law_more) l14 c14 k14
  have F15 := fun_mk (st := s__law_web) l15 c15 k15
  have F16 := fun_mk (st := s__law_sums) l16 c16 k16
  have F17 := fun_mk (st := s__law_near) l17 c17 k17
  have F18 := fun_mk (st := s__law_standing) l18 c18 k18
  have F19 := fun_mk (st := s__law_reach) l19 c19 k19
  have F20 := fun_mk (st := s__law_led) l20 c20 k20
  have F21 := fun_mk (st := s__law_is_right) l21 c21 k21
  have F22 := fun_mk (st := s_law) l22 c22 k22
  have F23 := fun_mk (st := s__TooMany) l23 c23 k23
  have b'1 := F1.binds (ps := ["web", "standing"]) fun _ _ _ _ _ _ us hl => match us, hl with | [_, _], _ => rfl
  have b'2 := F2.binds (ps := ["web", "standing"]) fun _ _ _ _ _ _ us hl => match us, hl with | [_, _], _ => rfl
  have b'3 := F3.binds (ps := ["standing", "road", "load"]) fun _ _ _ _ _ _ us hl => match us, hl with | [_, _, _], _ => rfl
  have b'4 := F4.binds (ps := ["web", "standing"]) fun _ _ _ _ _ _ us hl => match us, hl with | [_, _], _ => rfl
  have b'5 := F5.binds (ps := ["web", "start", "closed", "limit"]) fun _ _ _ _ _ _ us hl => match us, hl with | [_, _, _, _], _ => rfl
  have b'6 := F6.binds (ps := ["known", "standing"]) fun _ _ _ _ _ _ us hl => match us, hl with | [_, _], _ => rfl
  have b'7 := F7.binds (ps := ["web", "one", "other", "closed"]) fun _ _ _ _ _ _ us hl => match us, hl with | [_, _, _, _], _ => rfl
  have b'8 := F8.binds (ps := ["script"]) fun _ _ _ _ _ _ us hl => match us, hl with | [_], _ => rfl
  have b'9 := F9.binds (ps := ["jar", "many"]) fun _ _ _ _ _ _ us hl => match us, hl with | [_, _], _ => rfl
  have b'10 := F10.binds (ps := ["jar", "row"]) fun _ _ _ _ _ _ us hl => match us, hl with | [_, _], _ => rfl
  have b'11 := F11.binds (ps := ["jar", "row"]) fun _ _ _ _ _ _ us hl => match us, hl with | [_, _], _ => rfl
  have b'12 := F12.binds (ps := ["jar", "n", "pairs", "loads"]) fun _ _ _ _ _ _ us hl => match us, hl with | [_, _, _, _], _ => rfl
  have b'13 := F13.binds (ps := ["jar", "n"]) fun _ _ _ _ _ _ us hl => match us, hl with | [_, _], _ => rfl
  have b'14 := F14.binds (ps := ["jar", "n", "pairs", "many"]) fun _ _ _ _ _ _ us hl => match us, hl with | [_, _, _, _], _ => rfl
  have b'15 := F15.binds (ps := ["jar"]) fun _ _ _ _ _ _ us hl => match us, hl with | [_], _ => rfl
  have b'16 := F16.binds (ps := ["web", "standing"]) fun _ _ _ _ _ _ us hl => match us, hl with | [_, _], _ => rfl
  have b'17 := F17.binds (ps := ["web", "standing"]) fun _ _ _ _ _ _ us hl => match us, hl with | [_, _], _ => rfl
  have b'18 := F18.binds (ps := ["jar", "web"]) fun _ _ _ _ _ _ us hl => match us, hl with | [_, _], _ => rfl
  have b'19 := F19.binds (ps := ["web", "standing", "shut"]) fun _ _ _ _ _ _ us hl => match us, hl with | [_, _, _], _ => rfl
  have b'20 := F20.binds (ps := ["web", "standing", "way", "shut"]) fun _ _ _ _ _ _ us hl => match us, hl with | [_, _, _, _], _ => rfl
  have b'21 := F21.binds (ps := ["web", "one", "other", "shut", "told"]) fun _ _ _ _ _ _ us hl => match us, hl with | [_, _, _, _, _], _ => rfl
  have b'22 := F22.binds (ps := ["script"]) fun _ _ _ _ _ _ us hl => match us, hl with | [_], _ => rfl
  have b'23 := F23.binds (ps := ["self", "limit"]) fun _ _ _ _ _ _ us hl => match us, hl with | [_, _], _ => rfl
  have O23 : OexC K C23 := ⟨⟨_, _, _, _, _, _, _, _, _, _, _, _, _, _, _, e23, by first | rfl | simp [PySem.HandSPX.refsVE]⟩, sa23, ec23, tc23, kc23⟩
  have T23 : ExT K C23 C0 := ⟨O23, ⟨ga23, gg23, ec23, hc23, ha23, hn23, ht23, hm23⟩, PySem.W.exm_ref ec23 hc23 tc23 sc23, qk23⟩
  have A : All K mg ⟨f1, PySem.W.fnOf "sums_of" "sums_of" (defArgs s_sums_of) (defBody s_sums_of) (defScope s_sums_of) .none kV1 dc1 pm1 an1 cd1 ct1, f2, PySem.W.fnOf "unlike_roads" "unlike_roads" (defArgs s_unlike_roads) (defBody s_unlike_roads) (defScope s_unlike_roads) .none kV2 dc2 pm2 an2 cd2 ct2, f3, PySem.W.fnOf "with_load" "with_load" (defArgs s_with_load) (defBody s_with_load) (defScope s_with_load) .none kV3 dc3 pm3 an3 cd3 ct3, f4, PySem.W.fnOf "beside" "beside" (defArgs s_beside) (defBody s_beside) (defScope s_beside) .none kV4 dc4 pm4 an4 cd4 ct4, f5, PySem.W.fnOf "reached" "reached" (defArgs s_reached) (defBody s_reached) (defScope s_reached) .none kV5 dc5 pm5 an5 cd5 ct5, f6, PySem.W.fnOf "way_to" "way_to" (defArgs s_way_to) (defBody s_way_to) (defScope s_way_to) .none kV6 dc6 pm6 an6 cd6 ct6, f7, PySem.W.fnOf "closed_way" "closed_way" (defArgs s_closed_way) (defBody s_closed_way) (defScope s_closed_way) .none kV7 dc7 pm7 an7 cd7 ct7, f8, PySem.W.fnOf "_law_jar" "_law_jar" (defArgs s__law_jar) (defBody s__law_jar) (defScope s__law_jar) .none kV8 dc8 pm8 an8 cd8 ct8, f9, PySem.W.fnOf "_law_draw" "_law_draw" (defArgs s__law_draw) (defBody s__law_draw) (defScope s__law_draw) .none kV9 dc9 pm9 an9 cd9 ct9, f10, PySem.W.fnOf "_law_pick" "_law_pick" (defArgs s__law_pick) (defBody s__law_pick) (defScope s__law_pick) .none kV10 dc10 pm10 an10 cd10 ct10, f11, PySem.W.fnOf "_law_mixed" "_law_mixed" (defArgs s__law_mixed) (defBody s__law_mixed) (defScope s__law_mixed) .none kV11 dc11 pm11 an11 cd11 ct11, f12, PySem.W.fnOf "_law_made" "_law_made" (defArgs s__law_made) (defBody s__law_made) (defScope s__law_made) .none kV12 dc12 pm12 an12 cd12 ct12, f13, PySem.W.fnOf "_law_tree" "_law_tree" (defArgs s__law_tree) (defBody s__law_tree) (defScope s__law_tree) .none kV13 dc13 pm13 an13 cd13 ct13, f14, PySem.W.fnOf "_law_more" "_law_more" (defArgs s__law_more) (defBody s__law_more) (defScope s__law_more) .none kV14 dc14 pm14 an14 cd14 ct14, f15, PySem.W.fnOf "_law_web" "_law_web" (defArgs s__law_web) (defBody s__law_web) (defScope s__law_web) .none kV15 dc15 pm15 an15 cd15 ct15, f16, PySem.W.fnOf "_law_sums" "_law_sums" (defArgs s__law_sums) (defBody s__law_sums) (defScope s__law_sums) .none kV16 dc16 pm16 an16 cd16 ct16, f17, PySem.W.fnOf "_law_near" "_law_near" (defArgs s__law_near) (defBody s__law_near) (defScope s__law_near) .none kV17 dc17 pm17 an17 cd17 ct17, f18, PySem.W.fnOf "_law_standing" "_law_standing" (defArgs s__law_standing) (defBody s__law_standing) (defScope s__law_standing) .none kV18 dc18 pm18 an18 cd18 ct18, f19, PySem.W.fnOf "_law_reach" "_law_reach" (defArgs s__law_reach) (defBody s__law_reach) (defScope s__law_reach) .none kV19 dc19 pm19 an19 cd19 ct19, f20, PySem.W.fnOf "_law_led" "_law_led" (defArgs s__law_led) (defBody s__law_led) (defScope s__law_led) .none kV20 dc20 pm20 an20 cd20 ct20, f21, PySem.W.fnOf "_law_is_right" "_law_is_right" (defArgs s__law_is_right) (defBody s__law_is_right) (defScope s__law_is_right) .none kV21 dc21 pm21 an21 cd21 ct21, fa, PySem.W.fnOf "law" "law" (defArgs s_law) (defBody s_law) (defScope s_law) .none kV22 dc22 pm22 an22 cd22 ct22, f23, PySem.W.fnOf "__init__" "TooMany.__init__" (defArgs s__TooMany) (defBody s__TooMany) (defScope s__TooMany) .none kV23 dc23 pm23 an23 cd23 ct23, ⟨C0, C0, C0, C0, C0, C0, C23, C0, C0, C0, C0, C0, C0, C0, C0, C0⟩⟩ := { h_sums_of := F1, b_sums_of := b'1, m_sums_of := PySem.W.mg_of X G a1, k_sums_of := k1, h_unlike_roads := F2, b_unlike_roads := b'2, m_unlike_roads := PySem.W.mg_of X G a2, k_unlike_roads := k2, h_with_load := F3, b_with_load := b'3, m_with_load := PySem.W.mg_of X G a3, k_with_load := k3, h_beside := F4, b_beside := b'4, m_beside := PySem.W.mg_of X G a4, k_beside := k4, h_reached := F5, b_reached := b'5, m_reached := PySem.W.mg_of X G a5, k_reached := k5, h_way_to := F6, b_way_to := b'6, m_way_to := PySem.W.mg_of X G a6, k_way_to := k6, h_closed_way := F7, b_closed_way := b'7, m_closed_way := PySem.W.mg_of X G a7, k_closed_way := k7, h__law_jar := F8, b__law_jar := b'8, m__law_jar := PySem.W.mg_of X G a8, k__law_jar := k8, h__law_draw := F9, b__law_draw := b'9, m__law_draw := PySem.W.mg_of X G a9, k__law_draw := k9, h__law_pick := F10, b__law_pick := b'10, m__law_pick := PySem.W.mg_of X G a10, k__law_pick := k10, h__law_mixed := F11, b__law_mixed := b'11, m__law_mixed := PySem.W.mg_of X G a11, k__law_mixed := k11, h__law_made := F12, b__law_made := b'12, m__law_made := PySem.W.mg_of X G a12, k__law_made := k12, h__law_tree := F13, b__law_tree := b'13, m__law_tree := PySem.W.mg_of X G a13, k__law_tree := k13, h__law_more := F14, b__law_more := b'14, m__law_more := PySem.W.mg_of X G a14, k__law_more := k14, h__law_web := F15, b__law_web := b'15, m__law_web := PySem.W.mg_of X G a15, k__law_web := k15, h__law_sums := F16, b__law_sums := b'16, m__law_sums := PySem.W.mg_of X G a16, k__law_sums := k16, h__law_near := F17, b__law_near := b'17, m__law_near := PySem.W.mg_of X G a17, k__law_near := k17, h__law_standing := F18, b__law_standing := b'18, m__law_standing := PySem.W.mg_of X G a18, k__law_standing := k18, h__law_reach := F19, b__law_reach := b'19, m__law_reach := PySem.W.mg_of X G a19, k__law_reach := k19, h__law_led := F20, b__law_led := b'20, m__law_led := PySem.W.mg_of X G a20, k__law_led := k20, h__law_is_right := F21, b__law_is_right := b'21, m__law_is_right := PySem.W.mg_of X G a21, k__law_is_right := k21, h_law := F22, b_law := b'22, m_law := PySem.W.mg_of X G a22, k_law := k22, z_dict := PySem.W.mg_none_of X G z_dict, z_enumerate := PySem.W.mg_none_of X G z_enumerate, z_int := PySem.W.mg_none_of X G z_int, z_isinstance := PySem.W.mg_none_of X G z_isinstance, z_len := PySem.W.mg_none_of X G z_len, z_list := PySem.W.mg_none_of X G z_list, z_max := PySem.W.mg_none_of X G z_max, z_min := PySem.W.mg_none_of X G z_min, z_range := PySem.W.mg_none_of X G z_range, z_repr := PySem.W.mg_none_of X G z_repr, z_sorted := PySem.W.mg_none_of X G z_sorted, z_tuple := PySem.W.mg_none_of X G z_tuple, z_zip := PySem.W.mg_none_of X G z_zip, c_MAX_SEEN := ⟨_, PySem.W.mg_of X G c_MAX_SEEN⟩, m_TooMany := PySem.W.mg_of X G b23, o_TooMany := O23, i_TooMany := i23, t_TooMany := ti23, h__TooMany := F23, b_TooMany := b'23, x_TooMany := ⟨T23, nf23⟩, m_UnevenError := PySem.W.mg_of X G aU, u_UnevenError := ⟨sU, tU, rU, fU⟩ }
  exact ⟨PySem.W.fnOf "law" "law" (defArgs s_law) (defBody s_law) (defScope s_law) .none kV22 dc22 pm22 an22 cd22 ct22, sp_law K, fun s v => .of_eq rfl, fun base _ _ hsm => run_all A hsm, fun H a ns hl hS => ⟨a, ns, rfl, hS, hl, fun _ => rfl⟩⟩
end UW.Ja.D83

open PySem PySem.W PyProof.Rows in
set_option maxRecDepth 100000 in
set_option maxHeartbeats 0 in
theorem PySem.Challenge.cw_unevenroads_k83_whole_ways_past_closed_r_holds : PySem.Challenge.rw_unevenroads_k83_whole_ways_past_closed_r.Holds := by
  w_on; o_law; k_head; (case hw => w_witness2)
  k_fill
  refine UW.walk_GM (l := PySem.Challenge.rw_unevenroads_k83_whole_ways_past_closed_r) (n := 63) (k := 6) (x := "script") rfl (by decide) rfl ⟨rfl, by decide, by decide⟩ (by decide +kernel) (fun w h Y => PySem.W.kIn_of Y) ?F
  case F =>
    intro w mg fa h KX G hmg
    refine' UW.Ja.D83.all_mk KX G hmg ?a1 ?l1 ?c1 ?k1 ?a2 ?l2 ?c2 ?k2 ?a3 ?l3 ?c3 ?k3 ?a4 ?l4 ?c4 ?k4 ?a5 ?l5 ?c5 ?k5 ?a6 ?l6 ?c6 ?k6 ?a7 ?l7 ?c7 ?k7 ?a8 ?l8 ?c8 ?k8 ?a9 ?l9 ?c9 ?k9 ?a10 ?l10 ?c10 ?k10 ?a11 ?l11 ?c11 ?k11 ?a12 ?l12 ?c12 ?k12 ?a13 ?l13 ?c13 ?k13 ?a14 ?l14 ?c14 ?k14 ?a15 ?l15 ?c15 ?k15 ?a16 ?l16 ?c16 ?k16 ?a17 ?l17 ?c17 ?k17 ?a18 ?l18 ?c18 ?k18 ?a19 ?l19 ?c19 ?k19 ?a20 ?l20 ?c20 ?k20 ?a21 ?l21 ?c21 ?k21 ?a22 ?l22 ?c22 ?k22 ?aU ?sU ?tU ?rU ?fU ?b23 ?e23 ?sa23 ?ga23 ?gg23 ?i23 ?ti23 ?l23 ?c23 ?k23 ?kc23 ?ec23 ?tc23 ?hc23 ?sc23 ?ha23 ?hn23 ?ht23 ?hm23 ?qk23 ?nf23 ?z_dict ?z_enumerate ?z_int ?z_isinstance ?z_len ?z_list ?z_max ?z_min ?z_range ?z_repr ?z_sorted ?z_tuple ?z_zip ?c_MAX_SEEN
    (case a1 => first | k_is | rfl)
    (case l1 => first | k_is | rfl)
    (case c1 => first | k_is | rfl)
    (case k1 => first | k_is | rfl)
    (case a2 => first | k_is | rfl)
    (case l2 => first | k_is | rfl)
    (case c2 => first | k_is | rfl)
    (case k2 => first | k_is | rfl)
    (case a3 => first | k_is | rfl)
    (case l3 => first | k_is | rfl)
    (case c3 => first | k_is | rfl)
    (case k3 => first | k_is | rfl)
    (case a4 => first | k_is | rfl)
    (case l4 => first | k_is | rfl)
    (case c4 => first | k_is | rfl)
    (case k4 => first | k_is | rfl)
    (case a5 => first | k_is | rfl)
    (case l5 => first | k_is | rfl)
    (case c5 => first | k_is | rfl)
    (case k5 => first | k_is | rfl)
    (case a6 => first | k_is | rfl)
    (case l6 => first | k_is | rfl)
    (case c6 => first | k_is | rfl)
    (case k6 => first | k_is | rfl)
    (case a7 => first | k_is | rfl)
    (case l7 => first | k_is | rfl)
    (case c7 => first | k_is | rfl)
    (case k7 => first | k_is | rfl)
    (case a8 => first | k_is | rfl)
    (case l8 => first | k_is | rfl)
    (case c8 => first | k_is | rfl)
    (case k8 => first | k_is | rfl)
    (case a9 => first | k_is | rfl)
    (case l9 => first | k_is | rfl)
    (case c9 => first | k_is | rfl)
    (case k9 => first | k_is | rfl)
    (case a10 => first | k_is | rfl)
    (case l10 => first | k_is | rfl)
    (case c10 => first | k_is | rfl)
    (case k10 => first | k_is | rfl)
    (case a11 => first | k_is | rfl)
    (case l11 => first | k_is | rfl)
    (case c11 => first | k_is | rfl)
    (case k11 => first | k_is | rfl)
    (case a12 => first | k_is | rfl)
    (case l12 => first | k_is | rfl)
    (case c12 => first | k_is | rfl)
    (case k12 => first | k_is | rfl)
    (case a13 => first | k_is | rfl)
    (case l13 => first | k_is | rfl)
    (case c13 => first | k_is | rfl)
    (case k13 => first | k_is | rfl)
    (case a14 => first | k_is | rfl)
    (case l14 => first | k_is | rfl)
    (case c14 => first | k_is | rfl)
    (case k14 => first | k_is | rfl)
    (case a15 => first | k_is | rfl)
    (case l15 => first | k_is | rfl)
    (case c15 => first | k_is | rfl)
    (case k15 => first | k_is | rfl)
    (case a16 => first | k_is | rfl)
    (case l16 => first | k_is | rfl)
    (case c16 => first | k_is | rfl)
    (case k16 => first | k_is | rfl)
    (case a17 => first | k_is | rfl)
    (case l17 => first | k_is | rfl)
    (case c17 => first | k_is | rfl)
    (case k17 => first | k_is | rfl)
    (case a18 => first | k_is | rfl)
    (case l18 => first | k_is | rfl)
    (case c18 => first | k_is | rfl)
    (case k18 => first | k_is | rfl)
    (case a19 => first | k_is | rfl)
    (case l19 => first | k_is | rfl)
    (case c19 => first | k_is | rfl)
    (case k19 => first | k_is | rfl)
    (case a20 => first | k_is | rfl)
    (case l20 => first | k_is | rfl)
    (case c20 => first | k_is | rfl)
    (case k20 => first | k_is | rfl)
    (case a21 => first | k_is | rfl)
    (case l21 => first | k_is | rfl)
    (case c21 => first | k_is | rfl)
    (case k21 => first | k_is | rfl)
    (case a22 => first | k_is | rfl)
    (case l22 => first | k_is | rfl)
    (case c22 => first | k_is | rfl)
    (case k22 => first | k_is | rfl)
    (case aU => first | k_is | rfl)
    (case sU => first | k_is | rfl)
    (case tU => first | k_is | rfl)
    (case rU => first | k_is | rfl)
    (case fU => first | k_is | rfl)
    (case b23 => first | k_is | rfl)
    (case e23 => first | k_is | rfl)
    (case sa23 => first | k_is | rfl)
    (case ga23 => first | k_is | rfl)
    (case gg23 => first | k_is | rfl)
    (case i23 => first | k_is | rfl)
    (case ti23 => first | k_is | rfl)
    (case l23 => first | k_is | rfl)
    (case c23 => first | k_is | rfl)
    (case k23 => first | k_is | rfl)
    (case kc23 => first | k_is | rfl)
    (case ec23 => first | k_is | rfl)
    (case tc23 => first | k_is | rfl)
    (case hc23 => first | k_is | rfl)
    (case sc23 => first | k_is | rfl)
    (case ha23 => first | k_is | rfl)
    (case hn23 => first | k_is | rfl)
    (case ht23 => first | k_is | rfl)
    (case hm23 => first | k_is | rfl)
    (case qk23 => first | k_is | rfl)
    (case nf23 => first | k_is | rfl)
    (case z_dict => first | k_is | rfl)
    (case z_enumerate => first | k_is | rfl)
    (case z_int => first | k_is | rfl)
    (case z_isinstance => first | k_is | rfl)
    (case z_len => first | k_is | rfl)
    (case z_list => first | k_is | rfl)
    (case z_max => first | k_is | rfl)
    (case z_min => first | k_is | rfl)
    (case z_range => first | k_is | rfl)
    (case z_repr => first | k_is | rfl)
    (case z_sorted => first | k_is | rfl)
    (case z_tuple => first | k_is | rfl)
    (case z_zip => first | k_is | rfl)
    (case c_MAX_SEEN => first | k_is | rfl)

