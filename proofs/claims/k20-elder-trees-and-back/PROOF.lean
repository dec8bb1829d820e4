import PyProof.Rows.All
import Wide.All
import OpenK.AllK
import Wide.FinOn
import PyProof.EqAt
import PyProof.EqKinds
import PyProof.TupleCall
import PyProof.ReprRoads
import PyProof.ReprText
import HandS.ForMost
import HandS.Exc
import HandS.ExcOwn
import HandS.WordsExc
import HandS.TryOnly
import HandS.Deep
import HandS.Conv
import HandS.Zip
import HandS.TupMul
import HandS.TupAny
import HandS.SortRule
import HandS.SortInts
import HandS.EndBits
import HandS.IsInst
import HandS.ExcInit
import HandS.Walk
import KE.GoesEnum
import HandS.FStrTup
import PyProof.P3In
import HandS.Evl
import HandS.Style
import PyProof.Rows.SumAny
import KE.OsSetLaws
import HandS.ExcIs
import HandS.TupLe
import HandS.TryMany
import HandS.SortOrd
import HandS.Small
import KE.KDictSum
import KE.KDictCopyH
import HandS.TupSets
import PyProof.Rows.ReprOcc
import PyProof.StrLawsRepr
import PySem.Challenge.RW_unevenroads_k20_whole_elder_trees_and_ba
set_option Elab.async false
set_option linter.all false
set_option maxRecDepth 100000
set_option maxHeartbeats 8000000
namespace UW
open PySem PySem.Spec PyProof.Rows L2
/-- a def's promise, called where no repr is under way -/
structure FnG (P : Program) (w : World) (K : PySem.W.Frag) (mg : Str → Option Value) (base : Heap) (k : Nat) (f : Addr) (fd : FuncData) (ps : List Str) (sp : Sp) : Prop where
  len : ∀ vs H Q E, sp vs H Q E → vs.length = ps.length
  go : ∀ (A : Around) (o : List Env) (s : Shared) (H : Hp) (ar : Args) (us : List Value) (vs : List V) (Q : VK) (E : XK), A.guards = some [] → Room k A →
    Env0 P w K mg base A o s H → BindsTo s fd ar (ps.zip us) → Vals vs us → sp vs H Q E → codeAny (model P w) A (.call (.ref f) ar) (CR (L2.CX P w) o P w H s Q E) s
section
variable {P : Program} {w : World} {K : PySem.W.Frag} {mg : Str → Option Value} {base : Heap} {k j : Nat} {f : Addr} {fd : FuncData} {ps : List Str} {sp : Sp}
theorem FnG.of (F : FnOk P w K mg base (L2.CX P w) k f fd ps sp) : FnG P w K mg base k f fd ps sp :=
  ⟨F.len, fun A o s H ar us vs Q E _ hr he hb hv hs => F.run A o s H ar us vs Q E hr he hb hv hs⟩
theorem FnG.up (F : FnG P w K mg base j f fd ps sp) (h : j ≤ k) : FnG P w K mg base k f fd ps sp :=
  ⟨F.len, fun A o s H ar us vs Q E g hr he hb hv hs => F.go A o s H ar us vs Q E g (hr.mono h) he hb hv hs⟩
theorem FnG.as (F : FnG P w K mg base k f fd ps sp) {sp' : Sp} (h : ∀ vs H Q E, sp' vs H Q E → sp vs H Q E) : FnG P w K mg base k f fd ps sp' :=
  ⟨fun vs H Q E q => F.len vs H Q E (h _ _ _ _ q), fun A o s H ar us vs Q E g hr he hb hv hs => F.go A o s H ar us vs Q E g hr he hb hv (h _ _ _ _ hs)⟩
theorem bound_kind {scope : Scope} {N : List Str} {us : List Value} {n : Nat} (S : FnScope N ps scope) :
    ∀ y ∈ ps.zip us, scope.names.lookup y.1 = some .local ∨ (scope.names.lookup y.1 = some .cell ∧ ((cellsFrom n scope.names []).lookup y.1).isSome = true) := by
  rintro ⟨a, v⟩ hy
  have q := S.par a (List.of_mem_zip hy).1
  cases q with
  | inl q => exact Or.inl q
  | inr q => exact Or.inr ⟨q, PySem.W.cellsFrom_some _ _ _ (Or.inl q)⟩
/-- the rule for a def by its body, where no repr is under way -/
theorem Fun.okG {x qual : Str} {st : Stmt} {N : List Str} (F : Fun K x qual st f fd) (S : FnScope N ps (defScope st)) (ln : ∀ vs H Q E, sp vs H Q E → vs.length = ps.length)
    (hb : ∀ (cdv : Value) (A : Around) (o : List Env) (s : Shared) (H : Hp) (vs : List V) (Q : VK) (E : XK), A.guards = some [] → Room k (A.deeper (envOfC qual (defScope st) s.heap.objs.size f cdv)) → sp vs H Q E →
      ∃ t, PSs (cxOf (L2.CX P w) P w K mg base N qual (defScope st) f cdv A o s H E) (defBody st) t ∧ t { nx := fun _ H' => Q .non H', rt := Q } (start N vs) H) :
    FnG P w K mg base (k + 1) f fd ps sp := by
  obtain ⟨oc, od, kV, doc, pm, an, cdv, ct, osl, rfl, lk, hcd⟩ := F.ex
  refine ⟨ln, ?_⟩
  intro A o s H ar us vs Q E hg hr e0 hbd r hsp
  have hl := ln _ _ _ _ hsp
  have old : ∀ b ob, base.get? b = some ob → s.heap.get? b = some ob := fun b ob e => (e0.bs b ob e).1
  have KX : K.In s.heap := e0.mod.kin.keeps old
  have lim : s.heap.NoLimit := e0.mod.nolimit.keeps old
  refine codeAny_call_function hr.depth (KX _ _ lk) rfl S.co S.gen rfl (PySem.W.codeRec_of KX hcd) (hbd _ _ _ _ ?_)
  refine wpAny_newFunctionEnv_cells S.kind (bound_kind S) fun env he s1 x1 => ?_
  subst he
  refine ⟨lim.keeps x1.toInCall.keep, codeAny_func ?_⟩
  obtain ⟨t, ht, hq⟩ := hb cdv A o s H vs Q E hg (hr.deeper _) hsp
  have I : Inv (cxOf (L2.CX P w) P w K mg base N qual (defScope st) f cdv A o s H E) [] (start N vs) H s1 := inv_start S hr.hd e0 hl r x1
  refine wpAny_mono (ht.run [] s1 (start N vs) H _ I hq) ?_ (fun _ _ z => z)
  intro fl s' hs
  have ce : ∀ {σ' : L2.St} {H' : Hp} {v : V} {u : Value}, Inv (cxOf (L2.CX P w) P w K mg base N qual (defScope st) f cdv A o s H E) [] σ' H' s' → RelV v u → Q v H' → CE o P w H s Q u s' := by
    intro σ' H' v u J rv q
    exact ⟨v, H', J.os, J.bare, J.base, J.hok, rv, q⟩
  cases fl with
  | next => exact let ⟨_, _, J, q⟩ := hs; ce (v := V.non) (u := Value.none) J rfl q
  | ret u => exact let ⟨_, _, _, J, rv, q⟩ := hs; ce J rv q
  | brk => exact let ⟨_, _, _, q⟩ := hs; (q : False).elim
  | cont => exact let ⟨_, _, _, q⟩ := hs; (q : False).elim
end
section
variable {X : Cx} {k : Nat} {f : Addr} {fd : FuncData} {ps : List Str} {sp : Sp} {E : XK} {x : Str} {p pos : Pos} {e : Expr} {es : List Expr} {t : TA}
theorem run_g {pins : List (Addr × Obj)} {σ : L2.St} {H : Hp} {s : Shared} {Q : VK} {us : List Value} {vs : List V} {ar : Args} (F : FnG X.prog X.w X.K X.mg X.base k f fd ps sp) (hG : X.A.guards = some []) (hr : Room k X.A) (hb : BindsTo s fd ar (ps.zip us))
    (hx : ∀ e s', L2.CX X.prog X.w X.stack H s E e s' → X.xe e s') (I : Inv X pins σ H s) (r : Vals vs us) (h : sp vs H Q E) : codeAny (model X.prog X.w) X.A (.call (.ref f) ar) (fun r s' => match r with | .ok (.ret v) => EP X pins σ Q v s' | .ok _ => False | .error e => X.xe e s') s := by
  refine codeAny_mono (F.go X.A X.stack s H ar us vs Q E hG hr I.env0 hb r h) ?_
  intro r s' hq
  cases r with
  | error e => exact hx e s' hq
  | ok fl =>
    cases fl with
    | ret u => exact I.after hq
    | next => exact False.elim hq
    | brk => exact False.elim hq
    | cont => exact False.elim hq
/-- the reading of a call; the wish about errors by the slots -/
def tG (sp : Sp) (E : L2.St → XK) (t : TA) : TE := fun σ H Q => t σ H fun vs H1 => sp vs H1 Q (E σ)
/-- no error is let out -/
def E00 : L2.St → XK := fun _ _ _ _ => False
theorem pass00 (σ : L2.St) : PassesAt (L2.CX X.prog X.w) X σ (E00 σ) := by
  intro pins H s e s' I h
  obtain ⟨_, _, _, _, _, _, _, _, _, _, _, _, z⟩ := h
  exact (z : False).elim
theorem pe_g {E : L2.St → XK} (F : FnG X.prog X.w X.K X.mg X.base k f fd ps sp) (hG : X.A.guards = some []) (hr : Room k X.A) (hm : X.mg x = some (.ref f)) (hk : PySem.W.keepIn X.K (.ref f) = true) (hb : Binds X.K fd ps [])
    (hx : ∀ σ, PassesAt (L2.CX X.prog X.w) X σ (E σ)) (ha : PA X (e :: es) t) (hg : Gl X x := by rfl) (hdb : (x == ("__debug__" : Str)) = false := by decide)
    (he : starEach (e :: es) X.env = (false, eval e X.env) :: starEach es X.env := by rfl) (hpl : (backTo pos (starEach es X.env)).any (·.1) = false := by rfl) : PE X (.Call (.Name x p) (e :: es) [] pos) (tG sp E t) := by
  refine ⟨?_⟩
  intro pins s σ H Q I h
  refine wpAny_Call_Name_kw (ld_glob I hg hm ?_ hdb)
  refine PySem.W.callWith_K (h₀ := X.base) I.ok.mod.kin hk (thn (ha.run pos pins s σ H _ I h) ?_) he hpl
  intro us s1 ⟨vs, H1, I1, r, q⟩
  refine ⟨I1.kIn, ?_⟩
  have hl : (us ++ []).length = ps.length := by
    rw [List.append_nil, ← r.length]
    exact F.len _ _ _ _ q
  have hbd := hb s1 us I1.kIn hl
  rw [List.append_nil] at hbd
  exact wpAny_call (run_g F hG hr hbd (fun e s' c => hx σ pins H1 s1 e s' I1 c) I1 r q)
end
section
variable {X : Cx} {k : Nat} {f : Addr} {fd : FuncData} {ps ks : List Str} {sp : Sp} {x : Str} {p pos : Pos} {e : Expr} {es : List Expr} {kws : List Keyword} {t tk : TA}
/-- how keywords alone bind: g puts the values in the parameters' order -/
structure KOnly (K : PySem.W.Frag) (fd : FuncData) (ps ks : List Str) (g : {α : Type} → List α → List α) : Prop where
  to : ∀ (s : Shared) (ws : List Value), K.In s.heap → ws.length = ks.length → BindsTo s fd ⟨[], ks.zip ws⟩ (ps.zip (g ws))
  rel : ∀ {zs : List V} {ws : List Value}, Vals zs ws → Vals (g zs) (g ws)
def tKw (sp : Sp) (n : Nat) (g : List V → List V) (E : L2.St → XK) (tk : TA) : TE := fun σ H Q => tk σ H fun zs H1 => zs.length = n ∧ sp (g zs) H1 Q (E σ)
theorem pe_gk {E : L2.St → XK} {g : {α : Type} → List α → List α} (F : FnG X.prog X.w X.K X.mg X.base k f fd ps sp) (hG : X.A.guards = some []) (hr : Room k X.A) (hm : X.mg x = some (.ref f)) (hk : PySem.W.keepIn X.K (.ref f) = true)
    (hb : KOnly X.K fd ps ks g) (hx : ∀ σ, PassesAt (L2.CX X.prog X.w) X σ (E σ)) (ha : PK X kws tk) (hg : Gl X x := by rfl) (hdb : (x == ("__debug__" : Str)) = false := by decide)
    (hall : (backToKw pos (keywordEach kws X.env)).all (·.1.isSome) = true := by rfl) (hks : (backToKw pos (keywordEach kws X.env)).filterMap (·.1) = ks := by rfl)
    (hpl : (backToKw pos (keywordEach kws X.env)).any (·.1.isNone) = false := by rfl) : PE X (.Call (.Name x p) [] kws pos) (tKw sp ks.length g E tk) := by
  refine ⟨?_⟩
  intro pins s σ H Q I h
  refine wpAny_Call_Name_kw (ld_glob I hg hm ?_ hdb)
  refine PySem.W.callWith_KW0 (h₀ := X.base) I.ok.mod.kin hk hall (thn (ha.run pos pins s σ H _ I h) ?_) hpl
  intro ws s1 ⟨zs, H1, I1, r, hn, q⟩
  rw [hks]
  have hw : ws.length = ks.length := by rw [← r.length]; exact hn
  exact ⟨I1.kIn, wpAny_call (run_g F hG hr (hb.to s1 ws I1.kIn hw) (fun e s' c => hx σ pins H1 s1 e s' I1 c) I1 (hb.rel r) q)⟩
end
/-- nothing but the script is known, or nothing -/
def scrH (a : Addr) (o : Obj) (u : HO) : Hp := fun b => if b = a then some (.frz o u) else none
section
variable {X : Cx}
/-- repr(x), x data without dicts; the text is a function of the data -/
def rRepr (K : PySem.W.Frag) : List V → Hp → VK → Prop := fun xs H Q => ∃ (a : Addr) (d : PyData), xs = [.ref a] ∧ Dp K H (.ref a) d ∧ d.showable = true ∧ d.hasDict = false ∧ d.depth ≤ 60 ∧ d.shown.length ≤ sizeLine ∧ Q (.str d.shown) H
theorem call_repr (hG : X.A.guards = some []) (hu : X.A.units + 64 < cLine) : CallR X (.builtin "repr") (rRepr X.K) := by
  intro pins s σ H xs us Q I r h
  obtain ⟨a, d, rfl, hd, h1, h2, h3, h4, q⟩ := h
  cases r with
  | cons ra rn =>
    rename_i u ur
    cases rn
    obtain rfl : u = Value.ref a := ra
    obtain ⟨as, rd⟩ := Dp.reads I d (.ref a) _ hd rfl
    refine repr_of_reads' rd h1 (fun z => by rw [h2] at z; cases z) hG (by omega) (fun _ _ e => e) ?_ h4
    intro h' u tk hk
    exact ⟨.str d.shown, H, I.kept hk, ⟨_, rfl⟩, q⟩
end
end UW
namespace UW
open PySem PySem.Spec PyProof.Rows L2
section
variable {prog : Program} {w : World} {A : Around} {E : Value → Shared → Prop} {s : Shared}
set_option maxHeartbeats 1000000 in
theorem meets_enum1 {v : Value} {o : Obj} {J : Heap → Prop} (B : Begins v o J) :
    Meets (Builtin.«enumerate.__new__» ⟨[.type "enumerate", v], []⟩) (fun _ R s => J s.heap ∧
      R (.ok (.ret (.ref (s.heap.push o).objs.size))) { s with heap := (s.heap.push o).push { cls := .type "enumerate", data := .fields #[.none, .bool false, .ref s.heap.objs.size, rawInt 0, .none, .none] } }) := by
  refine .of_wp fun prog w A R s h => ?_
  obtain ⟨hp, g, d, tk, os⟩ := s
  obtain ⟨h1, h⟩ := h
  have hsub := sub_enumerate
  have it : ∀ {A' : Around} {E : Value → Shared → Prop} {Q : Value → Shared → Prop}, Q (.ref hp.objs.size) ⟨hp.push o, g, d, tk, os⟩ → wpAny (model prog w) A' (pyIter v) Q E ⟨hp, g, d, tk, os⟩ :=
    fun q => B.iter prog w _ _ ⟨hp, g, d, tk, os⟩ _ h1 q
  wp_walk using it
  refine wpAny_stack_any fun st => wpAny_pure ?_
  split
  · rename_i c _ _ _ _ _
    cases (c == Value.type "enumerate")
    all_goals (wp_walk using it)
    all_goals exact ⟨_, rfl, h⟩
  · wp_walk using it
    exact ⟨_, rfl, h⟩
theorem enum_one {v : Value} {o : Obj} {J : Heap → Prop} {Q : Value → Shared → Prop} (B : Begins v o J) (h1 : J s.heap)
    (h : ∀ h', IsEnum h' (s.heap.objs.size + 1) s.heap.objs.size 0 .none → h'.get? s.heap.objs.size = some o → (∀ b u, s.heap.get? b = some u → h'.get? b = some u) → Q (.ref (s.heap.objs.size + 1)) { s with heap := h' }) :
    wpAny (model prog w) A (call (.type "enumerate") [v]) Q E s := by
  refine callType_new F.called_enumerate (by decide) (F.typeCall_enumerate_1 _) (F.newCall_enumerate_1 _) (fun obj => F.args_object_init_2 obj _) F.entry_enumerate_new (meets_enum1 B) ⟨h1, ?_⟩
  have hz : (s.heap.push o).objs.size = s.heap.objs.size + 1 := Heap.size_push ..
  show _ ∧ _
  rw [hz]
  have he : IsEnum ((s.heap.push o).push { cls := .type "enumerate", data := .fields #[.none, .bool false, .ref s.heap.objs.size, rawInt 0, .none, .none] }) (s.heap.objs.size + 1) s.heap.objs.size 0 .none := by
    have q := Heap.get?_push_size (s.heap.push o) (o := { cls := .type "enumerate", data := .fields #[.none, .bool false, .ref s.heap.objs.size, rawInt 0, .none, .none] }) rfl
    rw [hz] at q
    exact q
  exact ⟨⟨_, he, rfl⟩, h _ he (Heap.get?_push_of_some _ (Heap.get?_push_size _ B.free)) fun b u z => Heap.get?_push_of_some _ (Heap.get?_push_of_some _ z)⟩
end
/-- the tuple at a, each item in a new pair -/
def IteT (K : PySem.W.Frag) (a : Addr) : It :=
  ⟨fun i H => ∃ (xs : List V) (x : V), SqT K H a xs ∧ xs[i]? = some x,
   fun i H v H' => ∃ T x, v = .ref T ∧ H T = none ∧ H' = upd H T (.tup [.int (i : Nat), x]) ∧ ∀ xs, SqT K H a xs → xs[i]? = some x,
   fun i H => ∃ xs : List V, SqT K H a xs ∧ xs.length ≤ i⟩
theorem turn_enumT {P : Program} {w : World} {K : PySem.W.Frag} {elts : List Expr} {kk : Nat} {tpos : Pos} (a e it : Addr) :
    Turn P w K (.Tuple elts kk tpos) (IteT K a) [e, it] e (fun i h => (∃ old, IsEnum h e it ((i : Nat) : Int) old) ∧ h.IsTupleIter it a i ∧ e ≠ it ∧ a ≠ e ∧ a ≠ it) where
  mem := by simp
  obj := fun i h st b hb => by
    obtain ⟨⟨old, he⟩, ⟨o, ho, hc, hd⟩, _⟩ := st
    rcases (show b = e ∨ b = it by simpa using hb) with z | z
    · rw [z]
      exact ⟨_, he, fun v q => nomatch q⟩
    · rw [z]
      exact ⟨o, ho, fun v q => by rw [hd] at q; cases q⟩
  keep := fun i h h' st k => by
    obtain ⟨⟨old, he⟩, hi, hne⟩ := st
    exact ⟨⟨old, k e (by simp) _ he⟩, hi.at fun o q => k it (by simp) o q, hne⟩
  item := by
    intro X hP hw hK hc i pins s σ H E I hf st hg
    subst hP hw hK
    obtain ⟨⟨old, he⟩, hit, hne, hae, hai⟩ := st
    obtain ⟨xs, x, hq, hx⟩ := hg
    obtain ⟨its, rv, p, hz⟩ := I.tuple hq
    obtain ⟨u, hu, ru⟩ := rv.get hx
    have hel : e < s.heap.objs.size := Heap.lt_size he
    have hil : it < s.heap.objs.size := by
      obtain ⟨_, q, _⟩ := hit
      exact Heap.lt_size q
    have hi : i < its.toArray.size := by
      have := (List.getElem?_eq_some_iff.mp hu).1
      simpa using this
    refine wpAny_pyNext_enum_itemD (Draws.tuple (A := X.A.in1) (I.ok.hd hc) it a hai its.toArray) he ⟨hit, p⟩ hi hne (by simp [hne, Ne.symm hae]) ?_
    intro u' h' tk hu' ho hst hT hsz hk
    have eu : u' = u := by
      have q : its.toArray[i]? = some u' := hu'
      rw [List.getElem?_toArray, hu] at q
      exact (Option.some.inj q).symm
    subst eu
    refine ⟨_, rfl, wpAny_letOwnedTupleGo_enum (s := { s with heap := h', toks := tk + 1 }) ho fun h'' he' sb => ?_⟩
    have hT2 : h''.get? s.heap.objs.size = some { cls := .type "tuple", data := .seq #[.int i tk, u'] } := (sb.2 _ (Nat.ne_of_gt hel)).trans hT
    have new : ObjOk X.prog X.w (upd H s.heap.objs.size (.tup [.int (i : Nat), x])) h'' s.heap.objs.size (.tup [.int (i : Nat), x]) :=
      ⟨by show 2 ≤ sizeLine; decide, [.int i tk, u'], .cons ⟨_, rfl⟩ (.cons ru .nil), ⟨_, hT2, rfl, _, rfl⟩⟩
    have I1 : Inv X pins σ (upd H s.heap.objs.size (.tup [.int (i : Nat), x])) { s with heap := h'', toks := tk + 1 } := by
      refine I.turnedNew (ch := [e, it]) ?_ hf (Nat.le_refl _) new
      intro b ob hb q
      exact (sb.2 b (fun z => hb (by simp [z]))).trans (hk b ob (fun z => hb (by simp [z])) (fun z => hb (by simp [z])) q)
    refine ⟨.ref s.heap.objs.size, _, I1, rfl, ⟨_, x, rfl, I.hok.fresh (Nat.le_refl _), rfl, fun ys hy => by rw [I.tuple_inj hy hq]; exact hx⟩, ⟨⟨u', ?_⟩, hst.1.at fun o q => (sb.2 it (Ne.symm hne)).trans q, hne, hae, hai⟩, ?_⟩
    · have e1 : ((i + 1 : Nat) : Int) = (i : Int) + 1 := by omega
      rw [e1]
      exact he'
    · intro b hb
      have hb' : b < s.heap.objs.size := by
        rcases (show b = e ∨ b = it by simpa using hb) with z | z
        · rw [z]; exact hel
        · rw [z]; exact hil
      rw [upd_ne (Nat.ne_of_lt hb')]
      exact (hf b hb).1
  done := by
    intro X hP hw hK hc i pins s σ H E I hf st hg
    subst hP hw hK
    obtain ⟨⟨old, he⟩, hit, hne, hae, hai⟩ := st
    obtain ⟨xs, hq, hx⟩ := hg
    obtain ⟨its, rv, p, hz⟩ := I.tuple hq
    obtain ⟨f0, f1, f2, f3, f4, f5⟩ := hf it (by simp)
    have hl := rv.length
    obtain ⟨oi, ei, _, di⟩ := id hit
    have hend : its.toArray[i]? = none := by simp; omega
    have hT : s.TypeIs (.ref e) "enumerate" := ⟨_, he, rfl⟩
    unfold pyNext
    refine wpAny_bind (wpAny_attempt (wpAny_callSpecial?_slot (name := Str.ofString "__next__") hT F.slot_enumerate_next (wpAny_call_entry F.slot_enumerate_next hT F.entry_enumerate_next ?_ (F.args_enumerate_next_1 _))))
    show wpAny _ _ (field (.ref e) 2 >>= _) _ _ _
    refine wpAny_bind (wpAny_field he rfl (x := .ref it) rfl ?_)
    refine wpAny_bind (wpAny_nextOf_tuple_end (I.ok.hd hc) hit (show s.heap.IsTuple a its.toArray from p) hend fun h' x he' hx' => ?_)
    obtain ⟨o, ho, hcl⟩ := hx'
    refine wpAny_bind (wpAny_isInstance (T := "StopIteration") (b := true) ⟨o, ho, hcl⟩ isSubtype_stop ?_)
    exact wpAny_pure ⟨rfl, I.turned (t' := s.toks) (fun b o hb q => he' b o hb q) f0 f1 f3 f4 f5⟩
  self := fun A i s Q E st h => let ⟨⟨_, he⟩, _⟩ := st; wpAny_pyIter_enum he h
end UW
namespace UW
open PySem PySem.Spec PyProof.Rows L2
abbrev Fg := PySem.W.Frag
/-- a tuple that is tracked -/
def SqT (K : Fg) (H : Hp) (a : Addr) (xs : List V) : Prop := H a = some (.tup xs)
theorem SqT.of {K : Fg} {H : Hp} {a : Addr} {xs : List V} (h : H a = some (.tup xs)) : SqT K H a xs := h
theorem SqT.up {K : Fg} {H : Hp} {a : Addr} {xs : List V} (h : SqT K H a xs) : L2.SqT K H a xs := .inl (.inl h)
def Tm (H H' : Hp) : Prop := ∀ a xs, H a = some (.tup xs) → H' a = some (.tup xs)
theorem Tm.refl (H : Hp) : Tm H H := fun _ _ h => h
theorem Tm.trans {H H1 H2 : Hp} (a : Tm H H1) (b : Tm H1 H2) : Tm H H2 := fun x xs h => b x xs (a x xs h)
theorem Tm.same {H H' : Hp} (e : Same H H') : Tm H H' := fun a xs h => e _ _ h
theorem Same.new {H : Hp} {p : Addr} {o : HO} (h : H p = none) : Same H (upd H p o) := fun a u e => by
  rw [upd_ne (ne_of_none e h)]
  exact e
theorem Tm.lst {H : Hp} {l : Addr} {xs ys : List V} (h : H l = some (.lst xs)) : Tm H (upd H l (.lst ys)) := fun a zs q => by rw [upd_ne (ne_of q h (fun z => by cases z))]; exact q
theorem Tm.sq {K : Fg} {H H' : Hp} {a : Addr} {xs : List V} (e : Tm H H') (h : SqT K H a xs) : SqT K H' a xs := e _ _ h
mutual
inductive Tp (K : Fg) (H : Hp) : V → PyData → Prop
  | non : Tp K H .non .none
  | bl (b : Bool) : Tp K H (.bl b) (.bool b)
  | int (i : Int) : Tp K H (.int i) (.int i)
  | str (x : Str) : Tp K H (.str x) (.str x)
  | tup {a : Addr} {xs : List V} {ds : List PyData} : SqT K H a xs → Tps K H xs ds → Tp K H (.ref a) (.tuple ds)
inductive Tps (K : Fg) (H : Hp) : List V → List PyData → Prop
  | nil : Tps K H [] []
  | cons {v : V} {vs : List V} {d : PyData} {ds : List PyData} : Tp K H v d → Tps K H vs ds → Tps K H (v :: vs) (d :: ds)
end
section
variable {K : Fg} {H H' : Hp}
mutual
theorem Tp.tm (e : Tm H H') : ∀ {v : V} {d : PyData}, Tp K H v d → Tp K H' v d
  | _, _, .non => .non
  | _, _, .bl b => .bl b
  | _, _, .int i => .int i
  | _, _, .str x => .str x
  | _, _, .tup h hs => .tup (e.sq h) (Tps.tm e hs)
theorem Tps.tm (e : Tm H H') : ∀ {vs : List V} {ds : List PyData}, Tps K H vs ds → Tps K H' vs ds
  | _, _, .nil => .nil
  | _, _, .cons h hs => .cons (Tp.tm e h) (Tps.tm e hs)
end
theorem Tp.same (e : Same H H') {v : V} {d : PyData} (h : Tp K H v d) : Tp K H' v d := h.tm (Tm.same e)
theorem Tps.same (e : Same H H') {v : List V} {d : List PyData} (h : Tps K H v d) : Tps K H' v d := h.tm (Tm.same e)
mutual
theorem Tp.dp : ∀ {v : V} {d : PyData}, Tp K H v d → Dp K H v d
  | _, _, .non => .non
  | _, _, .bl b => .bl b
  | _, _, .int i => .int i
  | _, _, .str x => .str x
  | _, _, .tup h hs => .tup h.up (Tps.dp hs)
theorem Tps.dp : ∀ {vs : List V} {ds : List PyData}, Tps K H vs ds → DpAll K H vs ds
  | _, _, .nil => .nil
  | _, _, .cons h hs => .cons (Tp.dp h) (Tps.dp hs)
end
theorem Tp.int_inv {v : V} {i : Int} (h : Tp K H v (.int i)) : v = .int i := by cases h; rfl
theorem Tp.non_inv {v : V} (h : Tp K H v .none) : v = .non := by cases h; rfl
theorem Tp.str_inv {v : V} {x : Str} (h : Tp K H v (.str x)) : v = .str x := by cases h; rfl
theorem Tp.tup_inv {v : V} {ds : List PyData} (h : Tp K H v (.tuple ds)) : ∃ a xs, v = .ref a ∧ SqT K H a xs ∧ Tps K H xs ds := by
  cases h with
  | tup h hs => exact ⟨_, _, rfl, h, hs⟩
theorem Tps.nil_inv {xs : List V} (h : Tps K H xs []) : xs = [] := by cases h; rfl
theorem Tps.cons_inv {xs : List V} {d : PyData} {ds : List PyData} (h : Tps K H xs (d :: ds)) : ∃ v vs, xs = v :: vs ∧ Tp K H v d ∧ Tps K H vs ds := by
  cases h with
  | cons h hs => exact ⟨_, _, rfl, h, hs⟩
theorem Tps.length : ∀ {xs : List V} {ds : List PyData}, Tps K H xs ds → xs.length = ds.length
  | _, _, .nil => rfl
  | _, _, .cons _ h => by rw [List.length_cons, List.length_cons, Tps.length h]
theorem Tps.get : ∀ {xs : List V} {ds : List PyData} {i : Nat} {x : V}, Tps K H xs ds → xs[i]? = some x → ∃ d, ds[i]? = some d ∧ Tp K H x d
  | _, _, _, _, .nil, e => by simp at e
  | _, _, 0, _, .cons h _, e => by simp at e; subst e; exact ⟨_, rfl, h⟩
  | _, _, i + 1, x, .cons _ t, e => by
    obtain ⟨d, h1, h2⟩ := Tps.get (i := i) t (by simpa using e)
    exact ⟨d, by simpa using h1, h2⟩
theorem Tps.at : ∀ {xs : List V} {ds : List PyData} {i : Nat} {d : PyData}, Tps K H xs ds → ds[i]? = some d → ∃ x, xs[i]? = some x ∧ Tp K H x d
  | _, _, _, _, .nil, e => by simp at e
  | _, _, 0, _, .cons h _, e => by simp at e; subst e; exact ⟨_, rfl, h⟩
  | _, _, i + 1, x, .cons _ t, e => by
    obtain ⟨d, h1, h2⟩ := Tps.at (i := i) t (by simpa using e)
    exact ⟨d, by simpa using h1, h2⟩
theorem Tps.append : ∀ {xs ys : List V} {ds es : List PyData}, Tps K H xs ds → Tps K H ys es → Tps K H (xs ++ ys) (ds ++ es)
  | _, _, _, _, .nil, s => s
  | _, _, _, _, .cons r t, s => .cons r (Tps.append t s)
theorem Tps.snoc {xs : List V} {ds : List PyData} {v : V} {d : PyData} (h : Tps K H xs ds) (q : Tp K H v d) : Tps K H (xs ++ [v]) (ds ++ [d]) := h.append (.cons q .nil)
theorem Tps.ints : ∀ {xs : List V} {ns : List Int}, Tps K H xs (ns.map PyData.int) → xs = ns.map V.int
  | _, [], h => h.nil_inv
  | _, n :: ns, h => by
    obtain ⟨v, vs, rfl, h1, h2⟩ := Tps.cons_inv h
    rw [h1.int_inv, Tps.ints h2]
    rfl
theorem Tps.of_ints : ∀ (ns : List Int), Tps K H (ns.map V.int) (ns.map PyData.int)
  | [] => .nil
  | n :: ns => .cons (.int n) (Tps.of_ints ns)
def dP (p : Int × Int) : PyData := .tuple [.int p.1, .int p.2]
def dIs (l : List Int) : PyData := .tuple (l.map .int)
def dPs (l : List (Int × Int)) : PyData := .tuple (l.map dP)
def dWeb (n : Int) (rs : List (Int × Int)) (ms : List Int) : PyData := .tuple [.int n, dPs rs, dIs ms]
theorem Tp.pair {v : V} {p : Int × Int} (h : Tp K H v (dP p)) : ∃ a, v = .ref a ∧ SqT K H a [.int p.1, .int p.2] := by
  obtain ⟨a, xs, rfl, h1, h2⟩ := Tp.tup_inv h
  obtain ⟨v1, vs, rfl, q1, h2⟩ := h2.cons_inv
  obtain ⟨v2, vs, rfl, q2, h2⟩ := h2.cons_inv
  rw [h2.nil_inv, q1.int_inv, q2.int_inv] at h1
  exact ⟨a, rfl, h1⟩
theorem Tp.mkpair {a : Addr} {i j : Int} (h : SqT K H a [.int i, .int j]) : Tp K H (.ref a) (dP (i, j)) := .tup h (.cons (.int i) (.cons (.int j) .nil))
theorem Tp.ints {v : V} {l : List Int} (h : Tp K H v (dIs l)) : ∃ a, v = .ref a ∧ SqT K H a (l.map V.int) := by
  obtain ⟨a, xs, rfl, h1, h2⟩ := Tp.tup_inv h
  rw [h2.ints] at h1
  exact ⟨a, rfl, h1⟩
theorem Tp.pairs {v : V} {l : List (Int × Int)} (h : Tp K H v (dPs l)) : ∃ a xs, v = .ref a ∧ SqT K H a xs ∧ Tps K H xs (l.map dP) := Tp.tup_inv h
theorem Tp.web {v : V} {n : Int} {rs : List (Int × Int)} {ms : List Int} (h : Tp K H v (dWeb n rs ms)) :
    ∃ a ar xs am, v = .ref a ∧ SqT K H a [.int n, .ref ar, .ref am] ∧ SqT K H ar xs ∧ Tps K H xs (rs.map dP) ∧ SqT K H am (ms.map V.int) ∧ Tp K H (.ref ar) (dPs rs) ∧ Tp K H (.ref am) (dIs ms) := by
  obtain ⟨a, xs, rfl, h1, h2⟩ := Tp.tup_inv h
  obtain ⟨v1, w1, rfl, q1, h3⟩ := h2.cons_inv
  obtain ⟨v2, w2, rfl, q2, h4⟩ := h3.cons_inv
  obtain ⟨v3, w3, rfl, q3, h5⟩ := h4.cons_inv
  have e := h5.nil_inv
  subst e
  obtain ⟨ar, xs, rfl, r1, r2⟩ := q2.pairs
  obtain ⟨am, rfl, m1⟩ := q3.ints
  have e1 := q1.int_inv
  subst e1
  exact ⟨a, ar, xs, am, rfl, h1, r1, r2, m1, q2, q3⟩
theorem Tps.pair_at {xs : List V} {rs : List (Int × Int)} {i : Nat} {x : V} (h : Tps K H xs (rs.map dP)) (e : xs[i]? = some x) : ∃ p a, rs[i]? = some p ∧ x = .ref a ∧ SqT K H a [.int p.1, .int p.2] := by
  obtain ⟨d, h1, h2⟩ := h.get e
  rw [List.getElem?_map] at h1
  cases q : rs[i]? with
  | none => rw [q] at h1; cases h1
  | some p =>
    rw [q] at h1
    cases h1
    obtain ⟨a, rfl, h3⟩ := h2.pair
    exact ⟨p, a, rfl, rfl, h3⟩
structure Okd (d : PyData) (k n : Nat) : Prop where
  sh : d.showable = true
  nd : d.hasDict = false
  dp : d.depth ≤ k
  ln : d.shown.length ≤ n
theorem Okd.mono {d : PyData} {k n k' n' : Nat} (h : Okd d k n) (hk : k ≤ k') (hn : n ≤ n') : Okd d k' n' := ⟨h.sh, h.nd, Nat.le_trans h.dp hk, Nat.le_trans h.ln hn⟩
theorem Okd.non : Okd .none 0 4 := ⟨by simp only [PyData.showable], by simp only [PyData.hasDict], by simp only [PyData.depth]; omega, by rw [PyData.shown_none]; decide +kernel⟩
theorem Okd.bl (b : Bool) : Okd (.bool b) 0 5 := ⟨by simp only [PyData.showable], by simp only [PyData.hasDict], by simp only [PyData.depth]; omega, by
  rw [PyData.shown_bool]
  cases b <;> decide +kernel⟩
theorem Okd.int {i : Int} (h : i.natAbs < 2 ^ 120) : Okd (.int i) 0 121 := by
  refine ⟨?_, by simp only [PyData.hasDict], by simp only [PyData.depth]; omega, ?_⟩
  · simp only [PyData.showable]
    refine decide_eq_true ?_
    by_cases z : i.natAbs = 0
    · rw [z]; decide
    · have := (Nat.log2_lt z).mpr h
      omega
  · rw [PyData.shown_int]
    show (Str.ofString (toString i)).length ≤ 121
    rw [PySem.ofString_length]
    cases i with
    | ofNat n =>
      have := nat_repr_length_le (n := n) (k := 120) (by decide) h
      show (Nat.repr n).length ≤ 121
      omega
    | negSucc n =>
      have := nat_repr_length_le (n := n + 1) (k := 120) (by decide) h
      show ("-" ++ Nat.repr (n + 1)).length ≤ 121
      rw [String.length_append]
      have : ("-" : String).length = 1 := rfl
      omega
theorem Okd.str {x : Str} {n : Nat} (h : (reprText x).length ≤ n) : Okd (.str x) 0 n := ⟨by simp only [PyData.showable], by simp only [PyData.hasDict], by simp only [PyData.depth]; omega, by rw [PyData.shown_str]; exact h⟩
theorem okd_all {ds : List PyData} {k n : Nat} (h : ∀ d ∈ ds, Okd d k n) : PyData.showableAll ds = true ∧ PyData.hasDictAll ds = false ∧ PyData.depthAll ds ≤ k ∧ piled (PyData.shownAll ds) ≤ ds.length * (n + 2) := by
  induction ds with
  | nil => exact ⟨by simp only [PyData.showableAll], by simp only [PyData.hasDictAll], by simp only [PyData.depthAll]; omega, by simp only [PyData.shownAll]; simp [piled]⟩
  | cons d ds ih =>
    obtain ⟨a, b, c, e⟩ := ih fun x hx => h x (List.mem_cons_of_mem _ hx)
    have q := h d (List.mem_cons_self ..)
    refine ⟨by simp only [PyData.showableAll]; rw [q.sh, a]; rfl, by simp only [PyData.hasDictAll]; rw [q.nd, b]; rfl, by simp only [PyData.depthAll]; have := q.dp; omega, ?_⟩
    simp only [PyData.shownAll]
    rw [piled_cons, List.length_cons]
    have := q.ln
    have e2 : (ds.length + 1) * (n + 2) = ds.length * (n + 2) + (n + 2) := Nat.succ_mul _ _
    omega
theorem tupText_le (ts : List Str) : (tupleText ts).length ≤ piled ts + 2 := fmt_text ts
theorem lstText_le (ts : List Str) : (listText ts).length ≤ piled ts + 2 := by
  rw [listText_eq_join, strLen_append, strLen_append]
  have e1 : ((("[" : String) : Str)).length = 1 := by decide +kernel
  have e2 : ((("]" : String) : Str)).length = 1 := by decide +kernel
  rw [e1, e2]
  by_cases h : ts = []
  · subst h
    have : (Str.join ", " []).length = 0 := by decide +kernel
    omega
  · have := join_length_add ts h
    omega
theorem Okd.tup {ds : List PyData} {k n m : Nat} (h : ∀ d ∈ ds, Okd d k n) (hl : ds.length ≤ m) : Okd (.tuple ds) (k + 1) (m * (n + 2) + 2) := by
  obtain ⟨a, b, c, e⟩ := okd_all h
  refine ⟨by simp only [PyData.showable]; exact a, by simp only [PyData.hasDict]; exact b, by simp only [PyData.depth]; omega, ?_⟩
  simp only [PyData.shown]
  refine Nat.le_trans (tupText_le _) ?_
  have := Nat.mul_le_mul_right (n + 2) hl
  omega
theorem Okd.lst {ds : List PyData} {k n m : Nat} (h : ∀ d ∈ ds, Okd d k n) (hl : ds.length ≤ m) : Okd (.list ds) (k + 1) (m * (n + 2) + 2) := by
  obtain ⟨a, b, c, e⟩ := okd_all h
  refine ⟨by simp only [PyData.showable]; exact a, by simp only [PyData.hasDict]; exact b, by simp only [PyData.depth]; omega, ?_⟩
  simp only [PyData.shown]
  refine Nat.le_trans (lstText_le _) ?_
  have := Nat.mul_le_mul_right (n + 2) hl
  omega
end
end UW
namespace UW
open PySem PySem.Spec PyProof.Rows L2
section
variable {X : Cx}
theorem OpR.u {f : Value → Value → Sem Value} {r q : R2} (a : OpR X f r) (b : OpR X f q) : OpR X f (fun x y H Q => r x y H Q ∨ q x y H Q) := by
  intro pins s σ H x y v u Q I rx ry h
  rcases h with h | h
  · exact a pins s σ H x y v u Q I rx ry h
  · exact b pins s σ H x y v u Q I rx ry h
def rAddI : R2 := rI0 fun i j => .int (i + j)
def rAddS : R2 := fun x y H Q => ∃ i j, x = .str i ∧ y = .str j ∧ i.length + j.length ≤ sizeLine ∧ Q (.str (i ++ j)) H
def rAddU (K : Fg) : R2 := fun x y H Q => rAddI x y H Q ∨ (rCat x y H Q ∨ (rCatA K x y H Q ∨ rAddS x y H Q))
theorem op_addU : OpR X (binaryOp .Add) (rAddU X.K) := OpR.u op_add (OpR.u op_cat (OpR.u op_catA op_add_str))
def rSubI : R2 := rI0 fun i j => .int (i - j)
theorem op_subI : OpR X (binaryOp .Sub) rSubI := op_sub
def rMulI : R2 := rI CMul fun i j => .int (i * j)
def rMulU (K : Fg) : R2 := fun x y H Q => rMulI x y H Q ∨ (rRep x y H Q ∨ rRepT K x y H Q)
theorem op_mulU : OpR X (binaryOp .Mult) (rMulU X.K) := OpR.u op_mul (OpR.u op_rep op_repT)
def rDivI : R2 := rI CDivN fun i j => .int (i.fdiv j)
theorem op_divI : OpR X (binaryOp .FloorDiv) rDivI := op_fdivN
def rModI : R2 := rI (fun _ j => j ≠ 0) fun i j => .int (i.fmod j)
theorem op_modI : OpR X (binaryOp .Mod) rModI := op_modN
def rPowI : R2 := rI CPow fun i j => .int (i ^ j.toNat)
theorem op_powI : OpR X (binaryOp .Pow) rPowI := op_pow
def rEqU (K : Fg) : R2 := fun x y H Q => rEq x y H Q ∨ rEqD K x y H Q
def rNeU (K : Fg) : R2 := fun x y H Q => rNe x y H Q ∨ rNeD K x y H Q
theorem op_eqU (hu : X.A.units + 64 < cLine) : OpR X (compareOp .Eq) (rEqU X.K) := OpR.u op_eq (op_eqD hu)
theorem op_neU (hu : X.A.units + 64 < cLine) : OpR X (compareOp .NotEq) (rNeU X.K) := OpR.u op_ne (op_neD hu)
def rLtI : R2 := rI0 fun i j => .bl (decide (i < j))
def rLeI : R2 := rI0 fun i j => .bl (decide (i ≤ j))
def rGtI : R2 := rI0 fun i j => .bl (decide (j < i))
def rGeI : R2 := rI0 fun i j => .bl (decide (j ≤ i))
def rLtU (K : Fg) : R2 := fun x y H Q => rLtI x y H Q ∨ rLtT K x y H Q
theorem op_ltU (hu : X.A.units < cLine) : OpR X (compareOp .Lt) (rLtU X.K) := OpR.u op_lt (op_ltT hu)
theorem op_leI : OpR X (compareOp .LtE) rLeI := op_le
theorem op_gtI : OpR X (compareOp .Gt) rGtI := op_gt
theorem op_geI : OpR X (compareOp .GtE) rGeI := op_ge
/-- x in a tuple of data -/
def rInDT (K : Fg) : R2 := fun x y H Q => ∃ d ds, Dp K H x d ∧ Dp K H y (.tuple ds) ∧ SeqAt.shaped d = true ∧ SeqAt.shaped (.tuple ds) = true ∧ Q (.bl (ds.any fun z => PyData.eqv z d)) H
def rNiDT (K : Fg) : R2 := fun x y H Q => ∃ d ds, Dp K H x d ∧ Dp K H y (.tuple ds) ∧ SeqAt.shaped d = true ∧ SeqAt.shaped (.tuple ds) = true ∧ Q (.bl (!ds.any fun z => PyData.eqv z d)) H
theorem op_inDT (hu : X.A.units + 65 < cLine) : OpR X (compareOp .In) (rInDT X.K) := by
  intro pins s σ H x y v u Q I rx ry h
  obtain ⟨d, ds, hd, he, sd, se, q⟩ := h
  obtain ⟨as, rd⟩ := Dp.reads I d x v hd rx
  obtain ⟨bs, rs⟩ := Dp.reads I (.tuple ds) y u he ry
  exact SeqAt.in_tuple_reads rs rd (SeqAt.canLay_of_shaped se) (SeqAt.canLay_of_shaped sd) (room_in_shaped sd hu) ⟨.bl _, H, I, rfl, q⟩
theorem op_niDT (hu : X.A.units + 65 < cLine) : OpR X (compareOp .NotIn) (rNiDT X.K) := by
  intro pins s σ H x y v u Q I rx ry h
  obtain ⟨d, ds, hd, he, sd, se, q⟩ := h
  obtain ⟨as, rd⟩ := Dp.reads I d x v hd rx
  obtain ⟨bs, rs⟩ := Dp.reads I (.tuple ds) y u he ry
  exact SeqAt.notIn_tuple_reads rs rd (SeqAt.canLay_of_shaped se) (SeqAt.canLay_of_shaped sd) (room_in_shaped sd hu) ⟨.bl _, H, I, rfl, q⟩
def rInU (K : Fg) : R2 := fun x y H Q => rIn K false x y H Q ∨ (rInD K x y H Q ∨ rInDT K x y H Q)
def rNiU (K : Fg) : R2 := fun x y H Q => rIn K true x y H Q ∨ (rNotInD K x y H Q ∨ rNiDT K x y H Q)
theorem op_inU (hu : X.A.units + 65 < cLine) : OpR X (compareOp .In) (rInU X.K) := OpR.u op_in_seq (OpR.u (op_inD hu) (op_inDT hu))
theorem op_niU (hu : X.A.units + 65 < cLine) : OpR X (compareOp .NotIn) (rNiU X.K) := OpR.u op_notIn_seq (OpR.u (op_notInD hu) (op_niDT hu))
def rIsN : R2 := fun x y H Q => y = .non ∧ Q (.bl (decide (x = .non))) H
def rNotN : R2 := fun x y H Q => y = .non ∧ Q (.bl (!decide (x = .non))) H
theorem op_isN1 : OpR X (compareOp .Is) rIsN := op_isN
theorem op_notN1 : OpR X (compareOp .IsNot) rNotN := op_notN
def rSlU (K : Fg) : V → Option Int → Option Int → Hp → VK → Prop := fun x lo hi H Q => rSlA K x lo hi H Q ∨ rSlL K x lo hi H Q
theorem sl_U : SlR X (rSlU X.K) := SlR.or sl_tupA sl_list
def rLenU (K : Fg) : List V → Hp → VK → Prop := fun xs H Q => ∃ p ys, xs = [.ref p] ∧ (SqL K H p ys ∨ L2.SqT K H p ys) ∧ Q (.int ys.length) H
theorem cr_len : CallR X (.builtin "len") (rLenU X.K) := call_len_seq
def rAbs : List V → Hp → VK → Prop := fun xs H Q => ∃ i, xs = [.int i] ∧ Q (.int (if i < 0 then -i else i)) H
def rInt : List V → Hp → VK → Prop := fun xs H Q => (∃ i, xs = [.int i] ∧ Q (.int i) H) ∨ ∃ k, xs = [.bl k] ∧ Q (.int (b2i k)) H
theorem cr_int : CallR X (.type "int") rInt := call_int1
def rMax2 : List V → Hp → VK → Prop := fun xs H Q => ∃ i j, xs = [.int i, .int j] ∧ Q (.int (if j > i then j else i)) H
def rMin2 : List V → Hp → VK → Prop := fun xs H Q => ∃ i j, xs = [.int i, .int j] ∧ Q (.int (if j < i then j else i)) H
theorem cr_max2 (hc : X.calm = true) : CallR X (.builtin "max") rMax2 := call_max2 hc
theorem cr_min2 (hc : X.calm = true) : CallR X (.builtin "min") rMin2 := call_min2 hc
def rTupOf (K : Fg) : List V → Hp → VK → Prop := fun xs H Q => ∃ p ys, xs = [.ref p] ∧ ((SqL K H p ys ∧ ∀ l, H l = none → Q (.ref l) (upd H l (.tup ys))) ∨ (L2.SqT K H p ys ∧ Q (.ref p) H))
theorem cr_tupOf : CallR X (.type "tuple") (rTupOf X.K) := call_tuple_of
def rLstOf (K : Fg) : List V → Hp → VK → Prop := fun xs H Q => ∃ p ys, xs = [.ref p] ∧ (SqL K H p ys ∨ L2.SqT K H p ys) ∧ ∀ l, H l = none → Q (.ref l) (upd H l (.lst ys))
theorem cr_lstOf : CallR X (.type "list") (rLstOf X.K) := call_list_of
end
section
variable {σ : L2.St} {H : Hp} {Q : VK} {K : Fg} {ta tb tc te : TE} {t u : TT} {D : Ends} {ts us : TS} {x y v : V} {i j : Int}
theorem s_seq (k : ts { D with nx := us D } σ H) : tSeq ts us D σ H := k
theorem s_next (k : D.nx σ H) : tNext D σ H := k
theorem s_asg {g : TG} (k : te σ H fun x H1 => g x σ H1 D.nx) : tAsg te g D σ H := k
theorem s_gname {n : Nat} {R : L2.St → Hp → Prop} (k : R (σ.set n (some v)) H) : gName n v σ H R := k
theorem s_ret (k : te σ H D.rt) : tRet te D σ H := k
theorem s_drop (k : te σ H fun _ H1 => D.nx σ H1) : tDrop te D σ H := k
theorem s_ifs (k : t σ H fun b H1 => if b = true then ts D σ H1 else us D σ H1) : tIfS t ts us D σ H := k
theorem s_var {n : Nat} (h : σ[n]? = some (some v)) (k : Q v H) : tVar n σ H Q := ⟨v, h, k⟩
theorem s_c (k : Q v H) : tC v σ H Q := k
theorem s_op {r : R2} (k : ta σ H fun x H1 => tb σ H1 fun y H2 => r x y H2 Q) : tOp r ta tb σ H Q := k
theorem s_un {r : V → Hp → VK → Prop} (k : ta σ H fun x H1 => r x H1 Q) : tUn r ta σ H Q := k
theorem s_neg (k : Q (.int (-i)) H) : rU (fun i => .int (-i)) (.int i) H Q := ⟨i, rfl, k⟩
theorem s_yes {P : Bool → Hp → Prop} (k : P true H) : tYes σ H P := k
theorem s_test {P : Bool → Hp → Prop} (k : te σ H fun x H' => ∃ b, x = .bl b ∧ P b H') : tTest te σ H P := k
theorem s_tB {P : Bool → Hp → Prop} (k : te σ H fun x H' => ∃ b, x = .bl b ∧ P b H') : tB te σ H P := k
theorem s_bl {P : Bool → Prop} {b : Bool} (k : P b) : ∃ c, V.bl b = .bl c ∧ P c := ⟨b, rfl, k⟩
theorem s_not {P : Bool → Hp → Prop} (k : t σ H fun c H1 => P (!c) H1) : tNot t σ H P := k
theorem s_and {P : Bool → Hp → Prop} (k : t σ H fun c H1 => if c = true then u σ H1 P else P false H1) : tAnd t u σ H P := k
theorem s_or {P : Bool → Hp → Prop} (k : t σ H fun c H1 => if c = true then P true H1 else u σ H1 P) : tOr t u σ H P := k
theorem s_andV (k : ta σ H fun x H1 => ∃ c, x = .bl c ∧ if c = true then tb σ H1 Q else Q (.bl false) H1) : tAndV ta tb σ H Q := k
theorem s_orV (k : ta σ H fun x H1 => ∃ c, x = .bl c ∧ if c = true then Q (.bl true) H1 else tb σ H1 Q) : tOrV ta tb σ H Q := k
theorem s_notV (k : ta σ H fun x H1 => ∃ c, x = .bl c ∧ Q (.bl (!c)) H1) : tNotV ta σ H Q := k
theorem s_chain {r r' : R2} (k : ta σ H fun x H1 => tb σ H1 fun y H2 => r x y H2 fun z H3 => ∃ k, z = .bl k ∧ (if k = true then tc σ H3 fun w' H4 => r' y w' H4 Q else Q (.bl false) H3)) : tChain r r' ta tb tc σ H Q := k
theorem s_blx {b : Bool} {A B : Prop} (k : if b = true then A else B) : ∃ c, V.bl b = .bl c ∧ (if c = true then A else B) := ⟨b, rfl, k⟩
theorem s_nil {R : List V → Hp → Prop} (k : R [] H) : tNil σ H R := k
theorem s_cons {tr : TA} {R : List V → Hp → Prop} (k : te σ H fun x H1 => tr σ H1 fun xs H2 => R (x :: xs) H2) : tCons te tr σ H R := k
/-- a new object goes on as Q says -/
def New (Q : VK) (H : Hp) (o : HO) : Prop := ∀ p, H p = none → Q (.ref p) (upd H p o)
theorem s_tup {ta : TA} (k : ta σ H fun xs H1 => xs.length ≤ sizeLine ∧ New Q H1 (.tup xs)) : tTup ta σ H Q := k
theorem s_lst {ta : TA} (k : ta σ H fun xs H1 => xs.length ≤ sizeLine ∧ New Q H1 (.lst xs)) : tLst ta σ H Q := k
/-- the heap by a name -/
theorem n_new {o : HO} (k : ∀ p H2, H p = none → Same H H2 → H2 p = some o → (∀ b, b ≠ p → H2 b = H b) → Q (.ref p) H2) : New Q H o := fun p hp => k p _ hp (Same.new hp) upd_same fun _ hb => upd_ne hb
theorem n_of {o : HO} {m : Nat} (h : Nat.ble m 1000 = true) (k : ∀ p H2, H p = none → Same H H2 → H2 p = some o → (∀ b, b ≠ p → H2 b = H b) → Q (.ref p) H2) : m ≤ sizeLine ∧ New Q H o := ⟨Nat.le_trans (Nat.le_of_ble_eq_true h) (by decide), n_new k⟩
theorem s_call {sp : Sp} {E : L2.St → XK} {ta : TA} (k : ta σ H fun vs H1 => sp vs H1 Q (E σ)) : tG sp E ta σ H Q := k
theorem s_cb {r : List V → Hp → VK → Prop} {ta : TA} (k : ta σ H fun vs H1 => r vs H1 Q) : tCB r ta σ H Q := k
theorem s_part {P : Option Int → Hp → Prop} (k : te σ H fun x H1 => ∃ i, x = .int i ∧ P (some i) H1) : tPart te σ H P := k
theorem s_nopart {P : Option Int → Hp → Prop} (k : P none H) : tNoPart σ H P := k
theorem s_ii {P : Int → Prop} (k : P i) : ∃ j, V.int i = .int j ∧ P j := ⟨i, rfl, k⟩
theorem s_sl {r : V → Option Int → Option Int → Hp → VK → Prop} {tl th : TO} (k : te σ H fun x H1 => tl σ H1 fun l H2 => th σ H2 fun u H3 => r x l u H3 Q) : tSl r te tl th σ H Q := k
theorem s_par {m n : Nat} {ta : TA} (k : ta σ H fun vs H1 => ∃ v w, vs = [v, w] ∧ D.nx ((σ.set m (some v)).set n (some w)) H1) : tPar m n ta D σ H := k
theorem s_par2 {P : V → V → Prop} (k : P x y) : ∃ v w, [x, y] = [v, w] ∧ P v w := ⟨x, y, rfl, k⟩
theorem s_bm {T : String} {r : V → List V → Hp → VK → Prop} {to : TE} {ta : TA} (k : to σ H fun x H1 => tyV K T x H1 ∧ ta σ H1 fun xs H2 => r x xs H2 Q) : tBM K T r to ta σ H Q := k
theorem s_gcons {g : TG} {gs : TGs} {vs : List V} {R : L2.St → Hp → Prop} (k : g v σ H fun σ' H' => gs vs σ' H' R) : gCons g gs (v :: vs) σ H R := ⟨v, vs, rfl, k⟩
theorem s_gnil {R : L2.St → Hp → Prop} (k : R σ H) : gNil [] σ H R := ⟨rfl, k⟩
theorem s_gsub {to ti : TE} {ts : TSet} {R : L2.St → Hp → Prop} (k : to σ H fun o H1 => ti σ H1 fun i H2 => ts o i v H2 fun H3 => R σ H3) : gSub to ti ts v σ H R := k
theorem o_addI (k : Q (.int (i + j)) H) : rAddU K (.int i) (.int j) H Q := .inl ⟨i, j, rfl, rfl, k⟩
theorem o_sub (k : Q (.int (i - j)) H) : rSubI (.int i) (.int j) H Q := ⟨i, j, rfl, rfl, k⟩
theorem o_mulI (h : (-(2 ^ 64) < i ∧ i < 2 ^ 64) ∨ (-(2 ^ 64) < j ∧ j < 2 ^ 64)) (k : Q (.int (i * j)) H) : rMulU K (.int i) (.int j) H Q := .inl ⟨i, j, rfl, rfl, h, k⟩
theorem o_div (h : 0 < j) (h2 : j < 1073741824) (k : Q (.int (i / j)) H) : rDivI (.int i) (.int j) H Q := ⟨i, j, rfl, rfl, ⟨by omega, by omega⟩, by
  show Q (.int (i.fdiv j)) H
  rw [Int.fdiv_eq_ediv_of_nonneg _ (Int.le_of_lt h)]
  exact k⟩
theorem o_mod (h : 0 < j) (k : Q (.int (i % j)) H) : rModI (.int i) (.int j) H Q := ⟨i, j, rfl, rfl, by omega, by
  show Q (.int (i.fmod j)) H
  rw [Int.fmod_eq_emod_of_nonneg _ (Int.le_of_lt h)]
  exact k⟩
theorem o_eqS (h : scal x y = true) (k : Q (.bl (decide (x = y))) H) : rEqU K x y H Q := .inl ⟨h, k⟩
theorem o_neS (h : scal x y = true) (k : Q (.bl (!decide (x = y))) H) : rNeU K x y H Q := .inl ⟨h, k⟩
theorem o_eqI (k : Q (.bl (decide (i = j))) H) : rEqU K (.int i) (.int j) H Q := .inl ⟨rfl, by rw [show decide (V.int i = V.int j) = decide (i = j) from by simp]; exact k⟩
theorem o_neI (k : Q (.bl (!decide (i = j))) H) : rNeU K (.int i) (.int j) H Q := .inl ⟨rfl, by rw [show decide (V.int i = V.int j) = decide (i = j) from by simp]; exact k⟩
theorem o_ltI (k : Q (.bl (decide (i < j))) H) : rLtU K (.int i) (.int j) H Q := .inl ⟨i, j, rfl, rfl, k⟩
theorem o_le (k : Q (.bl (decide (i ≤ j))) H) : rLeI (.int i) (.int j) H Q := ⟨i, j, rfl, rfl, k⟩
theorem o_gt (k : Q (.bl (decide (j < i))) H) : rGtI (.int i) (.int j) H Q := ⟨i, j, rfl, rfl, k⟩
theorem o_ge (k : Q (.bl (decide (j ≤ i))) H) : rGeI (.int i) (.int j) H Q := ⟨i, j, rfl, rfl, k⟩
theorem o_isN (k : Q (.bl (decide (x = .non))) H) : rIsN x .non H Q := ⟨rfl, k⟩
theorem o_notN (k : Q (.bl (!decide (x = .non))) H) : rNotN x .non H Q := ⟨rfl, k⟩
theorem o_ixT {p : Addr} {xs : List V} (h : SqT K H p xs) (ha : atI xs i = some v) (k : Q v H) : rIx K (.ref p) (.int i) H Q := .inr (.inl ⟨p, xs, i, v, rfl, rfl, h.up, ha, k⟩)
theorem o_ixL {p : Addr} {xs : List V} (h : SqL K H p xs) (ha : atI xs i = some v) (k : Q v H) : rIx K (.ref p) (.int i) H Q := .inl ⟨p, xs, i, v, rfl, rfl, h, ha, k⟩
theorem o_eqD {d e : PyData} (h1 : Dp K H x d) (h2 : Dp K H y e) (s1 : SeqAt.shaped d = true) (s2 : SeqAt.shaped e = true) (k : Q (.bl (PyData.eqv d e)) H) : rEqU K x y H Q := .inr ⟨d, e, h1, h2, s1, s2, k⟩
theorem o_neD {d e : PyData} (h1 : Dp K H x d) (h2 : Dp K H y e) (s1 : SeqAt.shaped d = true) (s2 : SeqAt.shaped e = true) (k : Q (.bl (!PyData.eqv d e)) H) : rNeU K x y H Q := .inr ⟨d, e, h1, h2, s1, s2, k⟩
theorem o_lenL {p : Addr} {xs : List V} (h : SqL K H p xs) (k : Q (.int xs.length) H) : rLenU K [.ref p] H Q := ⟨p, xs, rfl, .inl h, k⟩
theorem o_lenT {p : Addr} {xs : List V} (h : SqT K H p xs) (k : Q (.int xs.length) H) : rLenU K [.ref p] H Q := ⟨p, xs, rfl, .inr h.up, k⟩
theorem o_int (k : Q (.int i) H) : rInt [.int i] H Q := .inl ⟨i, rfl, k⟩
theorem o_intB {b : Bool} (k : Q (.int (b2i b)) H) : rInt [.bl b] H Q := .inr ⟨b, rfl, k⟩
theorem o_abs (k : Q (.int (if i < 0 then -i else i)) H) : rAbs [.int i] H Q := ⟨i, rfl, k⟩
theorem o_max2 (k : Q (.int (if j > i then j else i)) H) : rMax2 [.int i, .int j] H Q := ⟨i, j, rfl, k⟩
theorem o_min2 (k : Q (.int (if j < i then j else i)) H) : rMin2 [.int i, .int j] H Q := ⟨i, j, rfl, k⟩
end
end UW
namespace UW
open PySem PySem.Spec PyProof.Rows L2
section
variable {X : Cx}
theorem ps_parU {i j : Nat} {x y : Str} {a b : Expr} {ta : TA} {px py pt pos : Pos} {kt k2 pt2} (hc : X.calm = true) (hN : X.N.Nodup) (hi : X.N[i]? = some x) (hj : X.N[j]? = some y) (hij : i ≠ j)
    (hx : Loc X.env.scope x) (hy : Loc X.env.scope y) (ha : PA X [a, b] ta)
    (hw : swappedStores [.Tuple [.Name x px, .Name y py] kt pt] (.Tuple [a, b] k2 pt2) X.env = pure (some [x, y]))
    (hs : swapsWithSole [.Tuple [.Name x px, .Name y py] kt pt] (.Tuple [a, b] k2 pt2) pos.line X.env = pure false := by rfl)
    (fx : X.fn x = true ∨ X.env.scope.names.lookup x = some .local := by first | exact .inl rfl | exact .inr rfl) (fy : X.fn y = true ∨ X.env.scope.names.lookup y = some .local := by first | exact .inl rfl | exact .inr rfl) :
    PS X (.Assign [.Tuple [.Name x px, .Name y py] kt pt] (.Tuple [a, b] k2 pt2) pos) (tPar i j ta) := by
  refine ⟨?_⟩
  intro pins s σ H D I h
  rw [exec_Assign_arm]
  refine wpAny_bind (wpAny_standAt ?_)
  rw [hs]
  refine wpAny_bind (wpAny_pure ?_)
  rw [if_neg (by decide)]
  refine wpAny_bind (Tuple_ (thn (ha.run _ pins s σ H _ I h) ?_))
  intro us s1 ⟨vs, H1, I1, r1, v, w, e1, q1⟩
  subst e1
  cases r1 with
  | @cons _ u1 _ ur rv r2 =>
    cases r2 with
    | @cons _ u2 _ ur2 rw' r3 =>
      cases r3
      refine wpAny_newObj_type ?_ (by show 2 ≤ sizeLine; decide)
      have I2 : Inv X pins σ H1 { s1 with heap := s1.heap.push { cls := .type "tuple", data := .seq [u1, u2].toArray } } := I1.kept (t' := s1.toks) fun b o e => Heap.get?_push_of_some _ e
      rw [hw]
      refine wpAny_bind (wpAny_pure ?_)
      show wpAny (model X.prog X.w) X.A (do rule "assign.swapped-stores"; let its ← unpackItems (.ref s1.heap.objs.size) 2 none; assignInOrder [fun v => bindName X.env y v, fun v => bindName X.env x v] its.reverse; pure Flow.next) _ _ _
      refine wpAny_bind (wpAny_rule (wpAny_bind (unpackItems_tuple (items := #[u1, u2]) (I.ok.hd hc) (IsTup.new s1.heap _) ?_)))
      intro h' hx'
      have I3 := I2.kept (h' := h') (t' := s1.toks) fun b o e => hx' b o (Nat.ne_of_lt (Heap.lt_size e)) e
      show wpAny _ _ (assignInOrder [fun v => bindName X.env y v, fun v => bindName X.env x v] [u2, u1] >>= fun _ => pure Flow.next) _ _ _
      refine wpAny_bind (assignInOrder_cons (wpAny_bindName (store_ok I3 hN hj hy rw' ?_ fy)))
      intro s2 I4
      refine assignInOrder_cons (wpAny_bindName (store_ok I4 hN hi hx rv ?_ fx))
      intro s3 I5
      refine assignInOrder_nil (wpAny_pure ?_)
      rw [List.set_comm _ _ (Ne.symm hij)] at I5
      exact ⟨_, H1, I5, q1⟩
/-- a walk, whichever of two -/
def iSeq (K : Fg) (tl : TE) : TI := fun σ H R => tl σ H fun x H1 => ∃ a, x = .ref a ∧ ((∃ xs, SqL K H1 a xs ∧ R (Itl K a) H1) ∨ (∃ xs, L2.SqT K H1 a xs ∧ R (Itt K a) H1))
theorem pi_seq {tg l : Expr} {tl : TE} (hl : PE X l tl) : PI X tg l (iSeq X.K tl) := by
  refine ⟨?_⟩
  intro pins s σ H R I h
  refine thn (hl.run pins s σ H _ I h) ?_
  intro v s1 ⟨x, H1, I1, r1, a, e, q⟩
  subst e
  cases r1
  have fp : ∀ b ∈ [s1.heap.objs.size], FpOk X pins H1 b := by
    intro b hb
    have e : b = s1.heap.objs.size := by simpa using hb
    subst e
    exact I1.fpOk (Nat.le_refl _) (I1.hok.fresh (Nat.le_refl _))
  rcases q with ⟨xs, hq, q⟩ | ⟨xs, hq, q⟩
  · obtain ⟨its, rv, p, hz⟩ := I1.list hq
    exact wpAny_pyIter_list p.isList ⟨s1.heap.objs.size, [s1.heap.objs.size], _, _, H1, rfl, I1.kept (t' := s1.toks) fun b o e => Heap.get?_push_of_some _ e, turn_list a _, ⟨_, Heap.get?_push_size _ rfl, rfl, rfl⟩, fp, q⟩
  · obtain ⟨its, rv, p, hz⟩ := I1.tuple hq
    exact wpAny_pyIter_tuple (show s1.heap.IsTuple a its.toArray from p) ⟨s1.heap.objs.size, [s1.heap.objs.size], _, _, H1, rfl, I1.kept (t' := s1.toks) fun b o e => Heap.get?_push_of_some _ e, turn_tuple a _, ⟨_, Heap.get?_push_size _ rfl, rfl, rfl⟩, fp, q⟩
theorem PI.u {tg l : Expr} {w1 w2 : TI} (a : PI X tg l w1) (b : PI X tg l w2) : PI X tg l (fun σ H R => w1 σ H R ∨ w2 σ H R) := by
  refine ⟨?_⟩
  intro pins s σ H R I h
  rcases h with h | h
  · exact a.run pins s σ H R I h
  · exact b.run pins s σ H R I h
end
end UW
namespace UW
open PySem PySem.Spec PyProof.Rows L2
section
variable {prog : Program} {w : World} {A : Around} {E : Value → Shared → Prop} {s : Shared}
end
end UW
namespace UW
open PySem PySem.Spec PyProof.Rows L2
section
variable {prog : Program} {w : World} {A : Around} {E : Value → Shared → Prop} {s : Shared} {t : Addr} {its : List Value} {ns : List Int} {Q : Value → Shared → Prop}
theorem kept_push {h h' : Heap} {o : Obj} (k : ∀ b u, b ∉ [h.objs.size] → (h.push o).get? b = some u → h'.get? b = some u) : ∀ b u, h.get? b = some u → h'.get? b = some u := by
  intro b u e
  have lt := Heap.lt_size e
  exact k b u (fun m => absurd (List.mem_singleton.mp m) (Nat.ne_of_lt lt)) (Heap.get?_push_of_some _ e)
theorem tup_st {xs : Array Value} (ht : s.heap.IsTuple t xs) {o : Obj} : (s.heap.push o).IsTuple t xs ∧ t ≠ s.heap.objs.size ∧ ∀ b ∈ [s.heap.objs.size, t], b < (s.heap.push o).objs.size := by
  obtain ⟨u, e, r⟩ := ht
  have lt := Heap.lt_size e
  refine ⟨⟨u, Heap.get?_push_of_some _ e, r⟩, Nat.ne_of_lt lt, fun b hb => ?_⟩
  rw [Heap.size_push]
  have : b = s.heap.objs.size ∨ b = t := by simpa using hb
  rcases this with e | e
  · rw [e]
    exact Nat.lt_succ_self _
  · rw [e]
    exact Nat.lt_succ_of_lt lt
theorem max_tupI (hh : A.handled = none) (ht : s.heap.IsTuple t its.toArray) (hi : IntsAre its ns) (hne : 0 < ns.length)
    (k : ∀ h' tk m t', (∀ b u, s.heap.get? b = some u → h'.get? b = some u) → m ∈ ns → (∀ y ∈ ns, y ≤ m) → Q (.int m t') { s with heap := h', toks := tk }) : wpAny (model prog w) A (call (.builtin "max") [.ref t]) Q E s := by
  obtain ⟨xs, e⟩ := hi.allInts.items
  have hn : numsOf (intItems xs).toList = ns := by
    rw [← e]
    exact hi.numsOf
  rw [nums_intItems] at hn
  subst hn
  rw [e] at ht
  have hz : 0 < xs.size := by simpa using hne
  obtain ⟨h1, h2, h3⟩ := tup_st ht (o := { cls := .type "tuple_iterator", data := .fields #[.ref t, .int 0 0] })
  refine call_max_walk (wpAny_pyIter_tuple ht ?_)
  refine ⟨_, _, _, _, _, _, _, rfl, Walks.tuple (A := A.in1) hh _ t h2 (intItems xs), ⟨⟨_, Heap.get?_push_size _ rfl, rfl, rfl⟩, h1⟩, h3, by simpa [intItems] using hz, CmpOf.ints_gt (numAt xs) (fun _ _ => intItems_at), fun v h' tk hP hk => ?_⟩
  have hv : (intItems xs)[argBest (fun i j => decide (numAt xs i > numAt xs j)) (xs.size - 1)]? = some v := by simpa [intItems] using hP
  obtain ⟨t', rfl⟩ := intItems_at hv
  obtain ⟨b1, b2⟩ := argBest_gt (numAt xs) (xs.size - 1)
  refine k h' tk _ t' (kept_push hk) ?_ fun y hy => ?_
  · rw [numAt_eq]
    exact PySem.getD_mem (by rw [List.length_map, Array.length_toList]; omega)
  · obtain ⟨j, hj, rfl⟩ := mem_getD hy
    rw [List.length_map, Array.length_toList] at hj
    rw [← numAt_eq]
    exact b2 j (by omega)
theorem min_tupI (hh : A.handled = none) (ht : s.heap.IsTuple t its.toArray) (hi : IntsAre its ns) (hne : 0 < ns.length)
    (k : ∀ h' tk m t', (∀ b u, s.heap.get? b = some u → h'.get? b = some u) → m ∈ ns → (∀ y ∈ ns, m ≤ y) → Q (.int m t') { s with heap := h', toks := tk }) : wpAny (model prog w) A (call (.builtin "min") [.ref t]) Q E s := by
  obtain ⟨xs, e⟩ := hi.allInts.items
  have hn : numsOf (intItems xs).toList = ns := by
    rw [← e]
    exact hi.numsOf
  rw [nums_intItems] at hn
  subst hn
  rw [e] at ht
  have hz : 0 < xs.size := by simpa using hne
  obtain ⟨h1, h2, h3⟩ := tup_st ht (o := { cls := .type "tuple_iterator", data := .fields #[.ref t, .int 0 0] })
  refine call_min_walk (wpAny_pyIter_tuple ht ?_)
  refine ⟨_, _, _, _, _, _, _, rfl, Walks.tuple (A := A.in1) hh _ t h2 (intItems xs), ⟨⟨_, Heap.get?_push_size _ rfl, rfl, rfl⟩, h1⟩, h3, by simpa [intItems] using hz, CmpOf.ints_lt (numAt xs) (fun _ _ => intItems_at), fun v h' tk hP hk => ?_⟩
  have hv : (intItems xs)[argBest (fun i j => decide (numAt xs i < numAt xs j)) (xs.size - 1)]? = some v := by simpa [intItems] using hP
  obtain ⟨t', rfl⟩ := intItems_at hv
  obtain ⟨b1, b2⟩ := argBest_lt (numAt xs) (xs.size - 1)
  refine k h' tk _ t' (kept_push hk) ?_ fun y hy => ?_
  · rw [numAt_eq]
    exact PySem.getD_mem (by rw [List.length_map, Array.length_toList]; omega)
  · obtain ⟨j, hj, rfl⟩ := mem_getD hy
    rw [List.length_map, Array.length_toList] at hj
    rw [← numAt_eq]
    exact b2 j (by omega)
end
/-- a list or a tuple -/
def SqU (K : Fg) (H : Hp) (p : Addr) (xs : List V) : Prop := SqL K H p xs ∨ L2.SqT K H p xs
def rMaxU (K : Fg) : List V → Hp → VK → Prop := fun vs H Q => ∃ (a : Addr) (ns : List Int), vs = [V.ref a] ∧ SqU K H a (ns.map V.int) ∧ ns ≠ [] ∧ ∀ m, m ∈ ns → (∀ y ∈ ns, y ≤ m) → Q (.int m) H
def rMinU (K : Fg) : List V → Hp → VK → Prop := fun vs H Q => ∃ (a : Addr) (ns : List Int), vs = [V.ref a] ∧ SqU K H a (ns.map V.int) ∧ ns ≠ [] ∧ ∀ m, m ∈ ns → (∀ y ∈ ns, m ≤ y) → Q (.int m) H
section
variable {X : Cx}
theorem cr_maxU (hc : X.calm = true) : CallR X (.builtin "max") (rMaxU X.K) := by
  intro pins s σ H vs us Q I r h
  obtain ⟨a, ns, rfl, hs | hs, hne, q⟩ := h
  · exact cr_max hc pins s σ H _ us Q I r ⟨a, ns, rfl, hs, List.length_pos_iff.mpr hne, q⟩
  · obtain ⟨its, rv, ht, _⟩ := I.tuple hs
    rw [Vals.ref1 r]
    exact max_tupI (I.ok.hd hc) ht rv.ints (List.length_pos_iff.mpr hne) fun h' tk m t' hk h1 h2 => ⟨.int _, H, I.kept hk, ⟨_, rfl⟩, q m h1 h2⟩
theorem cr_minU (hc : X.calm = true) : CallR X (.builtin "min") (rMinU X.K) := by
  intro pins s σ H vs us Q I r h
  obtain ⟨a, ns, rfl, hs | hs, hne, q⟩ := h
  · exact cr_min hc pins s σ H _ us Q I r ⟨a, ns, rfl, hs, List.length_pos_iff.mpr hne, q⟩
  · obtain ⟨its, rv, ht, _⟩ := I.tuple hs
    rw [Vals.ref1 r]
    exact min_tupI (I.ok.hd hc) ht rv.ints (List.length_pos_iff.mpr hne) fun h' tk m t' hk h1 h2 => ⟨.int _, H, I.kept hk, ⟨_, rfl⟩, q m h1 h2⟩
end
end UW
namespace UW
open PySem PySem.Spec PyProof.Rows L2
theorem h65_of {A : Around} {k : Nat} (hr : Room k A) : A.units + 65 < cLine := by have := hr.un; omega
theorem Same.lst {H H' : Hp} {a : Addr} {o : HO} (e : Same H H') (h : H a = some o) : H' a = some o := e _ _ h
section
variable {H : Hp} {Q : VK} {K : Fg} {R : L2.St → Hp → Prop} {i j : Int} {v x y : V}
/-- the heap behind a store at p, by a name -/
def At (p : Addr) (o : HO) (H H2 : Hp) : Prop := H2 p = some o ∧ ∀ b, b ≠ p → H2 b = H b
theorem At.upd (p : Addr) (o : HO) (H : Hp) : At p o H (upd H p o) := ⟨upd_same, fun _ h => upd_ne h⟩
theorem At.ne {p b : Addr} {o u : HO} {H H2 : Hp} (e : At p o H H2) (h : H b = some u) (n : b ≠ p) : H2 b = some u := (e.2 b n).trans h
theorem At.tm {p : Addr} {xs ys : List V} {H H2 : Hp} (e : At p (.lst ys) H H2) (h : H p = some (.lst xs)) : Tm H H2 := fun a zs q => e.ne q (ne_of q h (fun z => by cases z))
theorem At.same {p : Addr} {o : HO} {H0 H H2 : Hp} (e : At p o H H2) (s : Same H0 H) (n : H0 p = none) : Same H0 H2 := fun b u h => e.ne (s b u h) (ne_of_none h n)
theorem o_setL {p : Addr} {xs : List V} {n : Nat} (h : H p = some (.lst xs)) (hi : ixN xs.length i = some n) {P : Hp → Prop} (k : ∀ H2, At p (.lst (xs.set n v)) H H2 → P H2) : rSetL (.ref p) (.int i) v H P := ⟨p, xs, i, n, rfl, rfl, h, hi, k _ (At.upd _ _ _)⟩
theorem o_append {p : Addr} {xs : List V} (h : H p = some (.lst xs)) (hl : xs.length < 100000) (k : ∀ H2, At p (.lst (xs ++ [y])) H H2 → Q .non H2) : rAppend (.ref p) [y] H Q := ⟨p, xs, y, rfl, rfl, h, Nat.lt_of_lt_of_le hl (by decide), k _ (At.upd _ _ _)⟩
theorem o_popAt {p : Addr} {xs : List V} {n : Nat} (h : H p = some (.lst xs)) (hi : i = (n : Int)) (hn : xs[n]? = some y) (hs : n < 100000) (k : ∀ H2, At p (.lst (xs.eraseIdx n)) H H2 → Q y H2) : rPopAt (.ref p) [.int i] H Q := by
  subst hi
  have hlt := (List.getElem?_eq_some_iff.mp hn).1
  refine ⟨p, xs, (n : Int), n, y, rfl, rfl, h, by omega, by omega, ?_, hn, k _ (At.upd _ _ _)⟩
  unfold seqIndex?
  simp
  omega
theorem o_tyL {p : Addr} {xs : List V} (h : H p = some (.lst xs)) {A : Prop} (k : A) : tyV K "list" (.ref p) H ∧ A := ⟨.inl ⟨rfl, _, SqL.of h⟩, k⟩
theorem s_cut {t u : TS} {D : Ends} {σ : L2.St} (M : L2.St → Hp → Prop) (h : t { D with nx := M } σ H) (k : ∀ σ' H', M σ' H' → u D σ' H') : Evl.tCut t u D σ H := ⟨M, h, k⟩
theorem s_i1 {A B : Prop} (c : Bool) (h1 : c = true → A) (h2 : c = false → B) : if c = true then A else B := by
  cases c with
  | true => exact iteT (h1 rfl)
  | false => exact iteF (h2 rfl)
theorem s_dec {p : Prop} [Decidable p] {A B : Prop} (h1 : p → A) (h2 : ¬ p → B) : if decide p = true then A else B := by
  by_cases h : p
  · rw [decide_eq_true h]; exact iteT (h1 h)
  · rw [decide_eq_false h]; exact iteF (h2 h)
theorem s_ndec {p : Prop} [Decidable p] {A B : Prop} (h1 : ¬ p → A) (h2 : p → B) : if (!decide p) = true then A else B := by
  by_cases h : p
  · rw [decide_eq_true h]; exact iteF (h2 h)
  · rw [decide_eq_false h]; exact iteT (h1 h)
end
theorem at_zero {α : Type} (x : α) (xs : List α) : atI (x :: xs) 0 = some x := atI_nat (j := 0) rfl
theorem ix_nat {n j : Nat} (h : j < n) : ixN n (j : Int) = some j := by
  unfold ixN
  rw [if_pos (by omega), if_pos (by omega)]
  simp
theorem ix_zero {n : Nat} (h : 0 < n) : ixN n 0 = some 0 := ix_nat (j := 0) h
section
variable {K : Fg} {a b : Addr} {xs ys : List V} {J : It} {n : Nat} {G : Hp → Prop} {Y : Nat → Hp → V → Hp → Prop} {g : TG} {tt : TT} {te : TE} {vs : List Nat} {σ : L2.St} {H H1 : Hp} {Q : VK} {wi : TI} {tb : TS} {D : Ends} {tl : TE} {ta : TA}
theorem walk_enumT0 : Walk (IteT K a) xs.length (fun H => L2.SqT K H a xs) (YPair (fun i => some (.int (i : Nat))) (fun i => xs[i]?)) := by
  refine ⟨fun i _ hi q => ⟨xs, xs[i], q, by simp [hi]⟩, fun _ q => ⟨xs, q, Nat.le_refl _⟩, ?_⟩
  rintro i H v H' _ q ⟨T, x, h1, h2, h3, h4⟩
  exact ⟨T, .int (i : Nat), x, h1, h2, h3, rfl, h4 xs q⟩
theorem walk_tup : Walk (Itt K a) xs.length (fun H => SqT K H a xs) (YAt xs) := L2.walk_tup.mono (fun _ h => h.up) fun _ _ _ _ _ _ y => y
theorem walk_enumT : Walk (IteT K a) xs.length (fun H => SqT K H a xs) (YPair (fun i => some (.int (i : Nat))) (fun i => xs[i]?)) := walk_enumT0.mono (fun _ h => h.up) fun _ _ _ _ _ _ y => y
def SeqGo (K : Fg) (x : V) (H : Hp) (R : It → Hp → Prop) : Prop := ∃ a, x = .ref a ∧ ((∃ xs, SqL K H a xs ∧ R (Itl K a) H) ∨ (∃ xs, L2.SqT K H a xs ∧ R (Itt K a) H))
theorem w_seq {R : It → Hp → Prop} (k : tl σ H fun x H1 => SeqGo K x H1 R) : iSeq K tl σ H R := k
theorem w_seqL {R : It → Hp → Prop} (h : SqL K H a xs) (k : R (Itl K a) H) : SeqGo K (.ref a) H R := ⟨a, rfl, .inl ⟨xs, h, k⟩⟩
theorem w_seqT {R : It → Hp → Prop} (h : SqT K H a xs) (k : R (Itt K a) H) : SeqGo K (.ref a) H R := ⟨a, rfl, .inr ⟨xs, h.up, k⟩⟩
def RngGo (vs : List V) (H : Hp) (R : It → Hp → Prop) : Prop := ∃ j : Int, vs = [.int j] ∧ -(2 ^ 62) ≤ j ∧ j < 2 ^ 62 ∧ R (Itr 0 j.toNat) H
theorem w_rng1 {R : It → Hp → Prop} (k : ta σ H fun vs H1 => RngGo vs H1 R) : iRng1 ta σ H R := k
theorem w_rng {R : It → Hp → Prop} {j : Int} (h : -(2 ^ 62) ≤ j ∧ j < 2 ^ 62) (k : R (Itr 0 j.toNat) H) : RngGo [.int j] H R := ⟨j, rfl, h.1, h.2, k⟩
def Rng2Go (vs : List V) (H : Hp) (R : It → Hp → Prop) : Prop := ∃ i j : Int, vs = [.int i, .int j] ∧ (-(2 ^ 62) ≤ i ∧ i < 2 ^ 62 ∧ -(2 ^ 62) ≤ j ∧ j < 2 ^ 62) ∧ R (Itr i (j - i).toNat) H
theorem w_rng2 {R : It → Hp → Prop} (k : ta σ H fun vs H1 => Rng2Go vs H1 R) : iRng2 ta σ H R := k
theorem w_rngB {R : It → Hp → Prop} {i j : Int} (h : -(2 ^ 62) ≤ i ∧ i < 2 ^ 62 ∧ -(2 ^ 62) ≤ j ∧ j < 2 ^ 62) (k : R (Itr i (j - i).toNat) H) : Rng2Go [.int i, .int j] H R := ⟨i, j, rfl, h, k⟩
def ZipGo (K : Fg) (vs : List V) (H : Hp) (R : It → Hp → Prop) : Prop := ∃ a b xs ys, vs = [.ref a, .ref b] ∧ ((SqL K H a xs ∧ SqL K H b ys ∧ R (Itz K a b) H) ∨ (L2.SqT K H a xs ∧ L2.SqT K H b ys ∧ R (RZ.ItzT K a b) H))
theorem w_zip {R : It → Hp → Prop} (k : ta σ H fun vs H1 => ZipGo K vs H1 R) : RZ.iZipA K ta σ H R := k
def ForGo (J : It) (g : TG) (tb : TS) (D : Ends) (σ : L2.St) (H : Hp) : Prop := ∃ W : Nat → Nat → L2.St → Hp → Prop, (∃ m, W 0 m σ H) ∧ ∀ i m σ H, W i m σ H →
  (J.stop i H ∧ D.nx σ H) ∨ (J.go i H ∧ ∃ N : L2.St → Hp → Prop, (∀ σ' H', N σ' H' → ∃ m', m' < m ∧ W (i + 1) m' σ' H') ∧ ∀ x H', J.yld i H x H' → g x σ H' fun σ2 H2 => tb { D with nx := N, ct := N, bk := D.nx } σ2 H2)
theorem s_for (k : wi σ H fun J H1 => ForGo J g tb D σ H1) : tFor wi g tb D σ H := k
theorem f_go (w : Walk J n G Y) (Pv : Nat → L2.St → Hp → Prop) (h0 : Pv 0 σ H) (hG : ∀ i σ H, i ≤ n → Pv i σ H → G H)
    (hs : ∀ i x σ H H', i < n → Pv i σ H → Y i H x H' → g x σ H' fun σ2 H2 => tb { D with nx := Pv (i + 1), ct := Pv (i + 1), bk := D.nx } σ2 H2) (hd : ∀ σ H, Pv n σ H → D.nx σ H) : ForGo J g tb D σ H := for_it w Pv h0 hG hs hd
def LcGo (J : It) (g : TG) (tt : TT) (te : TE) (vs : List Nat) (σ : L2.St) (H1 : Hp) (Q : VK) : Prop := ∀ D, H1 D = none → ∃ W : Nat → Nat → Hp → Prop, (∃ m, W 0 m (upd H1 D (.lst []))) ∧ ∀ i m H, W i m H →
  (J.stop i H ∧ Q (.ref D) H) ∨ (J.go i H ∧ ∃ Nx : Hp → Prop, (∀ H', Nx H' → ∃ m', m' < m ∧ W (i + 1) m' H') ∧ ∀ x H', J.yld i H x H' → g x (wipe σ vs) H' fun σ2 H2 => wipe σ2 vs = wipe σ vs ∧ tt σ2 H2 fun b H3 =>
    if b = true then te σ2 H3 fun y H4 => ∃ acc, H4 D = some (.lst acc) ∧ acc.length < sizeLine ∧ Nx (upd H4 D (.lst (acc ++ [y]))) else Nx H3)
theorem s_lc (k : wi σ H fun J H1 => LcGo J g tt te vs σ H1 Q) : tLc wi g tt te vs σ H Q := k
/-- by an invariant: D the new list, ys what it holds -/
theorem lc_inv (w : Walk J n G Y) (Pv : Addr → Nat → List V → Hp → Prop) (hz : n < 100000) (h0 : ∀ D H', H1 D = none → Same H1 H' → At D (.lst []) H1 H' → Pv D 0 [] H') (hG : ∀ D i ys H, i ≤ n → Pv D i ys H → G H)
    (hs : ∀ D i ys x H H', H1 D = none → i < n → Pv D i ys H → H D = some (.lst ys) → Y i H x H' → ∀ (Yes : V → Hp → Prop) (No : Hp → Prop),
      (∀ y H5, H5 D = some (.lst ys) → (∀ H6, At D (.lst (ys ++ [y])) H5 H6 → Pv D (i + 1) (ys ++ [y]) H6) → Yes y H5) → (∀ H5, H5 D = some (.lst ys) → Pv D (i + 1) ys H5 → No H5) →
      g x (wipe σ vs) H' fun σ2 H2 => wipe σ2 vs = wipe σ vs ∧ tt σ2 H2 fun b H3 => if b = true then te σ2 H3 Yes else No H3)
    (hd : ∀ D ys H, H1 D = none → Pv D n ys H → H D = some (.lst ys) → ys.length ≤ n → Q (.ref D) H) : LcGo J g tt te vs σ H1 Q := by
  intro D hD
  refine lc_it (Qd := fun H => Q (.ref D) H) w (fun i H => ∃ ys, ys.length ≤ i ∧ H D = some (.lst ys) ∧ Pv D i ys H) ⟨[], Nat.le_refl _, upd_same, h0 D _ hD (Same.new hD) (At.upd _ _ _)⟩ ?_ ?_ ?_
  · rintro i H hi ⟨ys, _, _, p⟩
    exact hG D i ys H hi p
  · rintro i x H H' hi ⟨ys, hl, hy, p⟩ yy
    refine hs D i ys x H H' hD hi p hy yy _ _ (fun y H5 h5 n6 => ⟨ys, h5, Nat.lt_of_le_of_lt hl (Nat.lt_trans hi (Nat.lt_of_lt_of_le hz (by decide))), ys ++ [y], ?_, upd_same, n6 _ (At.upd _ _ _)⟩) (fun H5 h5 p5 => ⟨ys, Nat.le_succ_of_le hl, h5, p5⟩)
    rw [List.length_append, List.length_singleton]
    omega
  · rintro H ⟨ys, hl, hy, p⟩
    exact hd D ys H hD p hy hl
end
end UW
namespace UW
open PySem PySem.Spec PyProof.Rows L2
/-- one step -/
local macro_rules | `(tactic| walk_at "s1") => `(tactic| first
  | with_reducible refine s_seq ?_
  | with_reducible refine s_for ?_
  | with_reducible refine s_lc ?_
  | with_reducible refine w_seq ?_
  | with_reducible refine w_rng1 ?_
  | with_reducible refine w_rng2 ?_
  | with_reducible refine w_zip ?_
  | with_reducible refine s_asg ?_
  | with_reducible refine s_gname ?_
  | with_reducible refine s_ret ?_
  | with_reducible refine s_drop ?_
  | with_reducible refine s_next ?_
  | with_reducible refine s_ifs ?_
  | with_reducible refine s_var (by with_unfolding_all rfl) ?_
  | with_reducible refine s_c ?_
  | with_reducible refine s_op ?_
  | with_reducible refine s_un ?_
  | with_reducible refine s_neg ?_
  | with_reducible refine s_test ?_
  | with_reducible refine s_yes ?_
  | with_reducible refine s_tB ?_
  | with_reducible refine s_bl ?_
  | with_reducible refine s_not ?_
  | with_reducible refine s_and ?_
  | with_reducible refine s_or ?_
  | with_reducible refine s_andV ?_
  | with_reducible refine s_orV ?_
  | with_reducible refine s_notV ?_
  | with_reducible refine s_chain ?_
  | with_reducible refine s_nil ?_
  | with_reducible refine s_cons ?_
  | with_reducible refine s_tup ?_
  | with_reducible refine s_lst ?_
  | with_reducible refine s_call ?_
  | with_reducible refine s_cb ?_
  | with_reducible refine s_part ?_
  | with_reducible refine s_nopart ?_
  | with_reducible refine s_ii ?_
  | with_reducible refine s_sl ?_
  | with_reducible refine s_par ?_
  | with_reducible refine s_par2 ?_
  | with_reducible refine s_bm ?_
  | with_reducible refine s_gsub ?_
  | with_reducible refine s_gcons ?_
  | with_reducible refine s_gnil ?_
  | with_reducible refine o_addI ?_
  | with_reducible refine o_sub ?_
  | with_reducible refine o_eqI ?_
  | with_reducible refine o_neI ?_
  | with_reducible refine o_ltI ?_
  | with_reducible refine o_le ?_
  | with_reducible refine o_gt ?_
  | with_reducible refine o_ge ?_
  | with_reducible refine o_int ?_
  | with_reducible refine o_intB ?_
  | with_reducible refine o_abs ?_
  | with_reducible refine o_max2 ?_
  | with_reducible refine o_min2 ?_
  | with_reducible refine o_isN ?_
  | with_reducible refine o_notN ?_
  | with_reducible refine o_mulI (by first | exact Or.inl ⟨by decide, by decide⟩ | exact Or.inr ⟨by decide, by decide⟩ | (first | (refine Or.inl ⟨?_, ?_⟩ <;> omega) | (refine Or.inr ⟨?_, ?_⟩ <;> omega))) ?_
  | with_reducible refine o_mod (by first | decide | omega) ?_
  | with_reducible refine o_div (by first | decide | omega) (by first | decide | omega) ?_
  | with_reducible refine s_blx ?_
  | with_reducible refine o_ixL (SqL.of (by assumption)) (by first | with_unfolding_all rfl | with_unfolding_all exact at_zero _ _) ?_
  | with_reducible refine o_ixT (by assumption) (by first | with_unfolding_all rfl | with_unfolding_all exact at_zero _ _) ?_
  | with_reducible refine o_tyL (by assumption) ?_
  | with_reducible refine iteT ?_
  | with_reducible refine iteF ?_)
local macro_rules | `(tactic| walk_at "sx") => `(tactic| repeat (walk_at "s1"))
def Well (H : Hp) (a l : Addr) : Prop := ∃ (cs : List Int) (s c : Int), H a = some (.lst [.ref l, .int s, .int c]) ∧ H l = some (.lst (cs.map V.int)) ∧ cs.length ≤ 64
/-- all but the well is as it was -/
def Kp (a l : Addr) (H H' : Hp) : Prop := ∀ b o, H b = some o → b ≠ a → b ≠ l → H' b = some o
theorem Well.ne {H : Hp} {a l : Addr} (w : Well H a l) : a ≠ l := by
  obtain ⟨cs, s, c, h1, h2, _⟩ := w
  refine ne_of h1 h2 fun z => ?_
  have e : ([.ref l, .int s, .int c] : List V) = cs.map V.int := by
    injection z
  cases cs with
  | nil => cases e
  | cons x r => cases e
theorem Kp.refl {a l : Addr} (H : Hp) : Kp a l H H := fun _ _ h _ _ => h
theorem Kp.trans {a l : Addr} {H H1 H2 : Hp} (e : Kp a l H H1) (f : Kp a l H1 H2) : Kp a l H H2 := fun b o h n1 n2 => f b o (e b o h n1 n2) n1 n2
theorem Kp.same {a l : Addr} {H H1 : Hp} (e : Same H H1) : Kp a l H H1 := fun b o h _ _ => e b o h
theorem Well.same {H H' : Hp} {a l : Addr} (w : Well H a l) (e : Same H H') : Well H' a l := by
  obtain ⟨cs, s, c, h1, h2, h3⟩ := w
  exact ⟨cs, s, c, e _ _ h1, e _ _ h2, h3⟩
theorem Kp.tm {a l : Addr} {H H' : Hp} (w : Well H a l) (e : Kp a l H H') : Tm H H' := by
  obtain ⟨cs, s, c, h1, h2, _⟩ := w
  exact fun b xs h => e b _ h (ne_of h h1 fun z => by cases z) (ne_of h h2 fun z => by cases z)
def sp__law_draw (K : Fg) : Sp := fun vs H Q _ => ∃ (a l : Addr) (m : Int), vs = [.ref a, .int m] ∧ Well H a l ∧ 0 < m ∧ m < 1073741824 ∧ ∀ (r : Int) (H' : Hp), 0 ≤ r → r < m → Well H' a l → Kp a l H H' → Q (.int r) H'
theorem l__law_draw {K : Fg} : ∀ vs H Q E, sp__law_draw K vs H Q E → vs.length = 2 := by
  rintro vs H Q E ⟨a, l, m, rfl, _⟩
  rfl
theorem canLay_ints : ∀ ns : List Int, PyData.canLayAll0 (ns.map PyData.int) = true
  | [] => by simp only [List.map_nil, PyData.canLayAll0]
  | n :: ns => by
    simp only [List.map_cons, PyData.canLayAll0, PyData.canLay0, Bool.and_eq_true, true_and]
    exact canLay_ints ns
theorem depth_ints : ∀ ns : List Int, PyData.depthAll (ns.map PyData.int) = 0
  | [] => by simp only [List.map_nil, PyData.depthAll]
  | n :: ns => by simp only [List.map_cons, PyData.depthAll, PyData.depth, depth_ints ns, Nat.max_self]
theorem shaped_ints (ns : List Int) : SeqAt.shaped (.list (ns.map PyData.int)) = true := by
  show (_ && decide _) = true
  simp only [PyData.canLay0, PyData.depth, canLay_ints, depth_ints]
  rfl
/-- _law_draw, slots well, many, cell, found -/
def t__law_draw (K : Fg) : TS :=
  (tSeq (tIfS (tTest (tOp (rNeU K) (tOp (rIx K) (tVar 0) (tC (.int 0))) (tLst tNil))) (tSeq (tAsg (tOp (rIx K) (tOp (rIx K) (tVar 0) (tC (.int 0)))
    (tC (.int 0))) (gName 2)) (tSeq (tAsg (tOp rDivI (tVar 2) (tVar 1)) (gSub (tOp (rIx K) (tVar 0) (tC (.int 0))) (tC (.int 0)) rSetL)) (Evl.tCut (tIfS (tTest (tOp (rLtU K) (tVar 2) (tVar 1))) (tDrop (tBM K "list" rPopAt (tOp (rIx
    K) (tVar 0) (tC (.int 0))) (tCons (tC (.int 0)) tNil))) tNext) (tRet (tOp rModI (tCB rInt (tCons (tVar 2) tNil)) (tVar 1)))))) tNext) (tSeq (tAsg (tOp (rAddU K) (tOp (rIx K) (tVar 0) (tC (.int 2))) (tC (.int 1))) (gSub (tVar 0)
    (tC (.int 2)) rSetL)) (tSeq (tAsg (tOp rModI (tCB rInt (tCons (tOp (rAddU K) (tOp (rIx K) (tVar 0) (tC (.int 1))) (tOp (rMulU K) (tC (.int 2246822519)) (tOp (rIx K) (tVar 0) (tC (.int 2))))) tNil)) (tC (.int 4294967291)))
    (gName 3)) (tSeq (tAsg (tOp rModI (tCB rInt (tCons (tOp (rAddU K) (tOp (rAddU K) (tOp (rMulU K) (tVar 3) (tVar 3)) (tOp (rMulU K) (tC (.int 30011)) (tOp (rIx K) (tVar 0) (tC (.int 2))))) (tC (.int 17))) tNil)) (tC (.int
    4294967279))) (gName 3)) (tSeq (tAsg (tOp rModI (tCB rInt (tCons (tOp (rAddU K) (tOp (rMulU K) (tVar 3) (tVar 3)) (tOp (rIx K) (tVar 0) (tC (.int 1)))) tNil)) (tC (.int 4294967231))) (gName 3)) (tRet (tOp rModI (tCB rInt (tCons
    (tOp rDivI (tVar 3) (tC (.int 128))) tNil)) (tVar 1))))))))
theorem p__law_draw {K : Fg} {vs : List V} {H : Hp} {Q : VK} {E : XK} (h : sp__law_draw K vs H Q E) : t__law_draw K { nx := fun _ H' => Q .non H', rt := Q } (start ["well", "many", "cell", "found"] vs) H := by
  obtain ⟨a, l, m, rfl, w, m0, m1, k⟩ := h
  have al := w.ne
  obtain ⟨cs, s, c, ha, hl, hc⟩ := w
  show t__law_draw K _ [some (.ref a), some (.int m), none, none] H
  unfold t__law_draw
  walk_at "sx"
  refine n_of rfl fun p H1 np e1 hp _ => ?_
  have ha1 := e1 _ _ ha
  have hl1 := e1 _ _ hl
  refine o_neD (.lst (SqL.of hl1) (Tps.of_ints cs).dp) (.lst (SqL.of hp) .nil) (shaped_ints cs) rfl ?_
  walk_at "sx"
  refine s_i1 _ (fun hc1 => ?_) (fun hc1 => ?_)
  · cases cs with
    | nil => cases hc1
    | cons x cs =>
      walk_at "sx"
      refine o_setL hl1 (ix_zero (Nat.succ_pos _)) fun H2 l2 => ?_
      have ha2 := l2.ne ha1 al
      refine s_cut (fun σ' H' => σ' = [some (.ref a), some (.int m), some (.int x), none] ∧ Well H' a l ∧ Kp a l H1 H') ?_ ?_
      · have kp : Kp a l H1 H2 := fun b o h n1 n2 => l2.ne h n2
        have hl2 := l2.1
        walk_at "sx"
        refine s_dec (fun _ => ?_) (fun _ => ?_)
        · walk_at "sx"
          refine o_popAt (n := 0) hl2 rfl rfl (by decide) fun H3 l3 => ?_
          exact ⟨rfl, ⟨cs, s, c, l3.ne ha2 al, l3.1, by simp at hc; omega⟩, fun b o h n1 n2 => l3.ne (kp b o h n1 n2) n2⟩
        · walk_at "sx"
          exact ⟨rfl, ⟨x / m :: cs, s, c, ha2, hl2, hc⟩, kp⟩
      · rintro σ' H' ⟨rfl, w', kp⟩
        walk_at "sx"
        exact k _ _ (Int.emod_nonneg _ (by omega)) (Int.emod_lt_of_pos _ m0) w' ((Kp.same e1).trans kp)
  · walk_at "sx"
    refine o_setL ha1 rfl fun H2 a2 => ?_
    have ha2 : H2 a = some (.lst [.ref l, .int s, .int (c + 1)]) := a2.1
    have hl2 := a2.ne hl1 (Ne.symm al)
    walk_at "sx"
    have r1 := Int.emod_nonneg (s + 2246822519 * (c + 1)) (b := 4294967291) (by decide)
    have r2 := Int.emod_lt_of_pos (s + 2246822519 * (c + 1)) (b := 4294967291) (by decide)
    generalize (s + 2246822519 * (c + 1)) % 4294967291 = f1 at r1 r2 ⊢
    walk_at "sx"
    refine k _ _ (Int.emod_nonneg _ (by omega)) (Int.emod_lt_of_pos _ m0) ⟨cs, s, c + 1, ha2, hl2, hc⟩ ?_
    exact fun b o h n1 n2 => a2.ne (e1 _ _ h) n1
end UW
namespace UW
open PySem PySem.Spec PyProof.Rows L2
/-- one step -/
local macro_rules | `(tactic| walk_at "s1") => `(tactic| first
  | with_reducible refine s_seq ?_
  | with_reducible refine s_for ?_
  | with_reducible refine s_lc ?_
  | with_reducible refine w_seq ?_
  | with_reducible refine w_rng1 ?_
  | with_reducible refine w_rng2 ?_
  | with_reducible refine w_zip ?_
  | with_reducible refine s_asg ?_
  | with_reducible refine s_gname ?_
  | with_reducible refine s_ret ?_
  | with_reducible refine s_drop ?_
  | with_reducible refine s_next ?_
  | with_reducible refine s_ifs ?_
  | with_reducible refine s_var (by with_unfolding_all rfl) ?_
  | with_reducible refine s_c ?_
  | with_reducible refine s_op ?_
  | with_reducible refine s_un ?_
  | with_reducible refine s_neg ?_
  | with_reducible refine s_test ?_
  | with_reducible refine s_yes ?_
  | with_reducible refine s_tB ?_
  | with_reducible refine s_bl ?_
  | with_reducible refine s_not ?_
  | with_reducible refine s_and ?_
  | with_reducible refine s_or ?_
  | with_reducible refine s_andV ?_
  | with_reducible refine s_orV ?_
  | with_reducible refine s_notV ?_
  | with_reducible refine s_chain ?_
  | with_reducible refine s_nil ?_
  | with_reducible refine s_cons ?_
  | with_reducible refine s_tup ?_
  | with_reducible refine s_lst ?_
  | with_reducible refine s_call ?_
  | with_reducible refine s_cb ?_
  | with_reducible refine s_part ?_
  | with_reducible refine s_nopart ?_
  | with_reducible refine s_ii ?_
  | with_reducible refine s_sl ?_
  | with_reducible refine s_par ?_
  | with_reducible refine s_par2 ?_
  | with_reducible refine s_bm ?_
  | with_reducible refine s_gsub ?_
  | with_reducible refine s_gcons ?_
  | with_reducible refine s_gnil ?_
  | with_reducible refine o_addI ?_
  | with_reducible refine o_sub ?_
  | with_reducible refine o_eqI ?_
  | with_reducible refine o_neI ?_
  | with_reducible refine o_ltI ?_
  | with_reducible refine o_le ?_
  | with_reducible refine o_gt ?_
  | with_reducible refine o_ge ?_
  | with_reducible refine o_int ?_
  | with_reducible refine o_intB ?_
  | with_reducible refine o_abs ?_
  | with_reducible refine o_max2 ?_
  | with_reducible refine o_min2 ?_
  | with_reducible refine o_isN ?_
  | with_reducible refine o_notN ?_
  | with_reducible refine o_mulI (by first | exact Or.inl ⟨by decide, by decide⟩ | exact Or.inr ⟨by decide, by decide⟩ | (first | (refine Or.inl ⟨?_, ?_⟩ <;> omega) | (refine Or.inr ⟨?_, ?_⟩ <;> omega))) ?_
  | with_reducible refine o_mod (by first | decide | omega) ?_
  | with_reducible refine o_div (by first | decide | omega) (by first | decide | omega) ?_
  | with_reducible refine s_blx ?_
  | with_reducible refine o_ixL (SqL.of (by assumption)) (by first | with_unfolding_all rfl | with_unfolding_all exact at_zero _ _) ?_
  | with_reducible refine o_ixT (by assumption) (by first | with_unfolding_all rfl | with_unfolding_all exact at_zero _ _) ?_
  | with_reducible refine o_tyL (by assumption) ?_
  | with_reducible refine iteT ?_
  | with_reducible refine iteF ?_)
local macro_rules | `(tactic| walk_at "sx") => `(tactic| repeat (walk_at "s1"))
section
variable {H : Hp} {Q : VK} {K : Fg} {a : Addr} {xs : List V} {lo hi : Option Int}
theorem o_slL (h : SqL K H a xs) (k : New Q H (.lst (cutV xs lo hi))) : rSlU K (.ref a) lo hi H Q := .inr ⟨a, xs, rfl, h, k⟩
end
theorem map_at {ns : List Int} {i : Nat} {x : V} (h : (ns.map V.int)[i]? = some x) : ∃ n, x = .int n := by
  rw [List.getElem?_map] at h
  cases e : ns[i]? with
  | none => rw [e] at h; cases h
  | some n => rw [e] at h; exact ⟨n, (Option.some.inj h).symm⟩
end UW
namespace UW
open PySem PySem.Spec PyProof.Rows L2
/-- one step -/
local macro_rules | `(tactic| walk_at "s1") => `(tactic| first
  | with_reducible refine s_seq ?_
  | with_reducible refine s_for ?_
  | with_reducible refine s_lc ?_
  | with_reducible refine w_seq ?_
  | with_reducible refine w_rng1 ?_
  | with_reducible refine w_rng2 ?_
  | with_reducible refine w_zip ?_
  | with_reducible refine s_asg ?_
  | with_reducible refine s_gname ?_
  | with_reducible refine s_ret ?_
  | with_reducible refine s_drop ?_
  | with_reducible refine s_next ?_
  | with_reducible refine s_ifs ?_
  | with_reducible refine s_var (by with_unfolding_all rfl) ?_
  | with_reducible refine s_c ?_
  | with_reducible refine s_op ?_
  | with_reducible refine s_un ?_
  | with_reducible refine s_neg ?_
  | with_reducible refine s_test ?_
  | with_reducible refine s_yes ?_
  | with_reducible refine s_tB ?_
  | with_reducible refine s_bl ?_
  | with_reducible refine s_not ?_
  | with_reducible refine s_and ?_
  | with_reducible refine s_or ?_
  | with_reducible refine s_andV ?_
  | with_reducible refine s_orV ?_
  | with_reducible refine s_notV ?_
  | with_reducible refine s_chain ?_
  | with_reducible refine s_nil ?_
  | with_reducible refine s_cons ?_
  | with_reducible refine s_tup ?_
  | with_reducible refine s_lst ?_
  | with_reducible refine s_call ?_
  | with_reducible refine s_cb ?_
  | with_reducible refine s_part ?_
  | with_reducible refine s_nopart ?_
  | with_reducible refine s_ii ?_
  | with_reducible refine s_sl ?_
  | with_reducible refine s_par ?_
  | with_reducible refine s_par2 ?_
  | with_reducible refine s_bm ?_
  | with_reducible refine s_gsub ?_
  | with_reducible refine s_gcons ?_
  | with_reducible refine s_gnil ?_
  | with_reducible refine o_addI ?_
  | with_reducible refine o_sub ?_
  | with_reducible refine o_eqI ?_
  | with_reducible refine o_neI ?_
  | with_reducible refine o_ltI ?_
  | with_reducible refine o_le ?_
  | with_reducible refine o_gt ?_
  | with_reducible refine o_ge ?_
  | with_reducible refine o_int ?_
  | with_reducible refine o_intB ?_
  | with_reducible refine o_abs ?_
  | with_reducible refine o_max2 ?_
  | with_reducible refine o_min2 ?_
  | with_reducible refine o_isN ?_
  | with_reducible refine o_notN ?_
  | with_reducible refine o_mulI (by first | exact Or.inl ⟨by decide, by decide⟩ | exact Or.inr ⟨by decide, by decide⟩ | (first | (refine Or.inl ⟨?_, ?_⟩ <;> omega) | (refine Or.inr ⟨?_, ?_⟩ <;> omega))) ?_
  | with_reducible refine o_mod (by first | decide | omega) ?_
  | with_reducible refine o_div (by first | decide | omega) (by first | decide | omega) ?_
  | with_reducible refine s_blx ?_
  | with_reducible refine o_ixL (SqL.of (by assumption)) (by first | with_unfolding_all rfl | with_unfolding_all exact at_zero _ _) ?_
  | with_reducible refine o_ixT (by assumption) (by first | with_unfolding_all rfl | with_unfolding_all exact at_zero _ _) ?_
  | with_reducible refine o_tyL (by assumption) ?_
  | with_reducible refine iteT ?_
  | with_reducible refine iteF ?_)
local macro_rules | `(tactic| walk_at "sx") => `(tactic| repeat (walk_at "s1"))
def iota (n : Nat) : List Int := (List.range n).map fun (i : Nat) => ((i : Nat) : Int)
theorem iota_len (n : Nat) : (iota n).length = n := by unfold iota; rw [List.length_map, List.length_range]
theorem rgV_iota (n : Int) : rgV 0 n = (iota n.toNat).map V.int := by
  unfold rgV iota
  rw [List.map_map]
  have e : (n - 0).toNat = n.toNat := by rw [Int.sub_zero]
  rw [e]
  refine List.map_congr_left fun i _ => ?_
  show V.int (0 + (i : Int)) = V.int (i : Int)
  rw [Int.zero_add]
theorem map_erase {α β : Type} (f : α → β) : ∀ (l : List α) (n : Nat), (l.map f).eraseIdx n = (l.eraseIdx n).map f
  | [], _ => rfl
  | _ :: _, 0 => rfl
  | x :: l, n + 1 => by
    show f x :: (l.map f).eraseIdx n = f x :: (l.eraseIdx n).map f
    rw [map_erase f l n]
theorem perm_erase {α : Type} : ∀ (l : List α) (n : Nat) (h : n < l.length), (l[n] :: l.eraseIdx n).Perm l
  | [], n, h => absurd h (Nat.not_lt_zero _)
  | x :: l, 0, _ => List.Perm.refl _
  | x :: l, n + 1, h => by
    have h' : n < l.length := Nat.lt_of_succ_lt_succ h
    show (l[n] :: x :: l.eraseIdx n).Perm (x :: l)
    exact (List.Perm.swap x l[n] _).trans ((perm_erase l n h').cons x)
/-- what stood stands, and the well is one -/
structure WK (a l : Addr) (H H' : Hp) : Prop where
  w : Well H' a l
  k : Kp a l H H'
theorem WK.trans {a l : Addr} {H H1 H2 : Hp} (e : WK a l H H1) (f : WK a l H1 H2) : WK a l H H2 := ⟨f.w, e.k.trans f.k⟩
theorem WK.same {a l : Addr} {H H1 H2 : Hp} (e : WK a l H H1) (f : Same H1 H2) : WK a l H H2 := ⟨e.w.same f, e.k.trans (Kp.same f)⟩
theorem WK.refl {a l : Addr} {H : Hp} (w : Well H a l) : WK a l H H := ⟨w, Kp.refl H⟩
/-- an object that is not the well's and not known at first is changed -/
theorem WK.at {a l p : Addr} {o : HO} {H H1 H2 : Hp} (w0 : Well H a l) (e : WK a l H H1) (f : At p o H1 H2) (n : H p = none) : WK a l H H2 := by
  obtain ⟨cs0, s0, c0, x1, x2, _⟩ := w0
  have na : a ≠ p := ne_of_none x1 n
  have nl : l ≠ p := ne_of_none x2 n
  obtain ⟨cs, s, c, h1, h2, h3⟩ := e.w
  exact ⟨⟨cs, s, c, f.ne h1 na, f.ne h2 nl, h3⟩, fun b u q n1 n2 => f.ne (e.k b u q n1 n2) (ne_of_none q n)⟩
theorem WK.get {a l b : Addr} {u : HO} {H H1 : Hp} (e : WK a l H H1) (h : H b = some u) (n1 : b ≠ a) (n2 : b ≠ l) : H1 b = some u := e.k b u h n1 n2
theorem Well.fresh {H : Hp} {a l p : Addr} (w : Well H a l) (n : H p = none) : p ≠ a ∧ p ≠ l := by
  obtain ⟨cs0, s0, c0, x1, x2, _⟩ := w
  exact ⟨(ne_of_none x1 n).symm, (ne_of_none x2 n).symm⟩
theorem WK.tm {a l : Addr} {H H' : Hp} (w : Well H a l) (e : WK a l H H') : Tm H H' := Kp.tm w e.k
def sp__law_mixed (K : Fg) : Sp := fun vs H Q _ => ∃ (a l : Addr) (n : Nat), vs = [.ref a, .int n] ∧ Well H a l ∧ n ≤ 1000 ∧
  ∀ (p : Addr) (H' : Hp) (ns : List Int), H p = none → WK a l H H' → H' p = some (.lst (ns.map V.int)) → ns.Perm (iota n) → Q (.ref p) H'
theorem l__law_mixed {K : Fg} : ∀ vs H Q E, sp__law_mixed K vs H Q E → vs.length = 2 := by
  rintro vs H Q E ⟨a, l, n, rfl, _⟩
  rfl
/-- _law_mixed, slots well, many, left, turn -/
def t__law_mixed (K : Fg) : TS :=
  (tSeq (tAsg (tLstRg (tRg1 (tVar 1))) (gName 2)) (tRet (tLc (iRng1 (tCons (tVar 1) tNil)) (gName 3) tYes (tBM K "list" rPopAt (tVar 2) (tCons (tG
    (sp__law_draw K) E00 (tCons (tVar 0) (tCons (tCB (rLenU K) (tCons (tVar 2) tNil)) tNil))) tNil)) [3])))
section
variable {H : Hp} {Q : VK} {σ : L2.St} {ta : TE}
theorem s_lstRg {te : L2.St → Hp → (Int → Int → Hp → Prop) → Prop} (k : te σ H fun a b H1 => RgOk a b ∧ New Q H1 (.lst (rgV a b))) : tLstRg te σ H Q := k
theorem s_rg1 {R : Int → Int → Hp → Prop} (k : ta σ H fun x H1 => ∃ n, x = .int n ∧ R 0 n H1) : tRg1 ta σ H R := k
end
theorem p__law_mixed {K : Fg} {vs : List V} {H : Hp} {Q : VK} {E : XK} (h : sp__law_mixed K vs H Q E) : t__law_mixed K { nx := fun _ H' => Q .non H', rt := Q } (start ["well", "many", "left", "turn"] vs) H := by
  obtain ⟨a, l, n, rfl, w, hn, k⟩ := h
  show t__law_mixed K _ [some (.ref a), some (.int n), none, none] H
  unfold t__law_mixed
  walk_at "sx"
  refine s_lstRg (s_rg1 ?_)
  walk_at "sx"
  refine ⟨⟨by omega, by omega, by omega, by omega, by omega⟩, n_new fun q H1 nq e1 hq _ => ?_⟩
  rw [rgV_iota] at hq
  have en : (n : Int).toNat = n := Int.toNat_natCast n
  rw [en] at hq
  walk_at "sx"
  refine w_rng (by omega) ?_
  rw [en]
  have fq := w.fresh nq
  refine lc_inv walk_range (fun D i ys H' => WK a l H H' ∧ ∃ zs ls : List Int, H' q = some (.lst (ls.map V.int)) ∧ ys = zs.map V.int ∧ (zs ++ ls).Perm (iota n) ∧ ls.length + i = n)
    (by omega) (fun D H' hD e _ => ⟨(WK.refl w).same (Same.trans e1 e), [], iota n, e _ _ hq, rfl, List.Perm.refl _, by rw [iota_len]; omega⟩) (fun _ _ _ _ _ _ => trivial) ?_ ?_
  · rintro D i ys x H2 H3 hD hi ⟨e2, zs, ls, hl, rfl, pm, le⟩ hy ⟨rfl, rfl⟩ Yes No hyes hno
    walk_at "sx"
    refine ⟨rfl, ?_⟩
    walk_at "sx"
    refine o_lenL (SqL.of hl) ?_
    walk_at "sx"
    rw [List.length_map]
    refine ⟨a, l, _, rfl, e2.w, by omega, by omega, fun r H4 r0 r1 w4 k4 => ?_⟩
    have hl4 := k4 _ _ hl fq.1 fq.2
    have hD0 : H D = none := e1.free hD
    have fD := w.fresh hD0
    have hy4 := k4 _ _ hy fD.1 fD.2
    have e4 : WK a l H H4 := e2.trans ⟨w4, k4⟩
    walk_at "sx"
    have hlt : r.toNat < ls.length := by omega
    have hx : (ls.map V.int)[r.toNat]? = some (.int ls[r.toNat]) := by rw [List.getElem?_map, List.getElem?_eq_getElem hlt]; rfl
    refine o_popAt hl4 (by omega) hx (by omega) fun H5 a5 => ?_
    have nDq : D ≠ q := fun z => by rw [z, hq] at hD; cases hD
    refine hyes _ _ (a5.ne hy4 nDq) fun H6 a6 => ⟨WK.at w (WK.at w e4 a5 nq) a6 hD0, zs ++ [ls[r.toNat]], ls.eraseIdx r.toNat, ?_, by rw [List.map_append]; rfl, ?_, ?_⟩
    · rw [a6.ne a5.1 nDq.symm, map_erase]
    · refine List.Perm.trans ?_ pm
      rw [List.append_assoc]
      exact List.Perm.append_left zs (perm_erase ls _ hlt)
    · rw [List.length_eraseIdx, if_pos hlt]
      omega
  · rintro D ys H2 hD ⟨e2, zs, ls, hl, rfl, pm, le⟩ hy -
    have : ls = [] := List.length_eq_zero_iff.mp (by omega)
    subst this
    rw [List.append_nil] at pm
    exact k D H2 zs (e1.free hD) e2 hy pm
end UW
namespace UW
open PySem
/-- every place is come to from 0 along roads -/
def Conn (n : Int) (rs : List (Int × Int)) : Prop := ∀ S : Int → Prop, S 0 → (∀ p ∈ rs, S p.1 ↔ S p.2) → ∀ i, 0 ≤ i → i < n → S i
structure Shape (n : Int) (rs : List (Int × Int)) : Prop where
  two : 2 ≤ n
  nd : rs.Nodup
  ok : ∀ p ∈ rs, 0 ≤ p.1 ∧ p.1 < p.2 ∧ p.2 < n
  cn : Conn n rs
def pathR (n : Int) : List (Int × Int) := (List.range (n - 1).toNat).map fun (k : Nat) => ((k : Int), (k : Int) + 1)
theorem mem_pathR {n : Int} {p : Int × Int} : p ∈ pathR n ↔ 0 ≤ p.1 ∧ p.2 = p.1 + 1 ∧ p.2 < n := by
  unfold pathR
  rw [List.mem_map]
  constructor
  · rintro ⟨k, hk, rfl⟩
    have := List.mem_range.mp hk
    refine ⟨?_, rfl, ?_⟩
    · show (0 : Int) ≤ (k : Int); omega
    · show (k : Int) + 1 < n; omega
  · rintro ⟨h1, h2, h3⟩
    refine ⟨p.1.toNat, List.mem_range.mpr (by omega), ?_⟩
    refine Prod.ext ?_ ?_
    · show ((p.1.toNat : Nat) : Int) = p.1; omega
    · show ((p.1.toNat : Nat) : Int) + 1 = p.2; omega
theorem nodup_map_range {α : Type} (f : Nat → α) (n : Nat) (h : ∀ i j, i < n → j < n → f i = f j → i = j) : ((List.range n).map f).Nodup := by
  induction n with
  | zero => exact List.nodup_nil
  | succ n ih =>
    rw [List.range_succ, List.map_append, List.nodup_append]
    refine ⟨ih fun i j hi hj e => h i j (by omega) (by omega) e, by simp, ?_⟩
    intro a ha b hb
    obtain ⟨i, hi, rfl⟩ := List.mem_map.mp ha
    have hi := List.mem_range.mp hi
    have hb : b = f n := by simpa using hb
    subst hb
    intro e
    have := h i n (by omega) (by omega) e
    omega
theorem Shape.path {n : Int} (h : 2 ≤ n) : Shape n (pathR n) := by
  refine ⟨h, ?_, ?_, ?_⟩
  · refine nodup_map_range _ _ fun i j _ _ e => ?_
    have e1 : ((i : Nat) : Int) = ((j : Nat) : Int) := (Prod.mk.inj e).1
    omega
  · intro p hp
    have := mem_pathR.mp hp
    omega
  · intro S h0 hs
    have key : ∀ k : Nat, (k : Int) < n → S (k : Int) := by
      intro k
      induction k with
      | zero => intro _; exact h0
      | succ k ih =>
        intro hk
        have m : (((k : Nat) : Int), ((k : Nat) : Int) + 1) ∈ pathR n := mem_pathR.mpr ⟨by show (0 : Int) ≤ (k : Int); omega, rfl, by show (k : Int) + 1 < n; omega⟩
        have := (hs _ m).mp (ih (by omega))
        exact this
    intro i h1 h2
    have := key i.toNat (by omega)
    rwa [show ((i.toNat : Nat) : Int) = i from by omega] at this
theorem Conn.more {n : Int} {rs qs : List (Int × Int)} (h : Conn n rs) (s : ∀ p ∈ rs, p ∈ qs) : Conn n qs := fun S h0 hs => h S h0 fun p hp => hs p (s p hp)
theorem Shape.add {n : Int} {rs : List (Int × Int)} {a b : Int} (h : Shape n rs) (h0 : 0 ≤ a) (h1 : a < b) (h2 : b < n) (hn : (a, b) ∉ rs) : Shape n (rs ++ [(a, b)]) := by
  refine ⟨h.two, ?_, ?_, h.cn.more fun p hp => List.mem_append_left _ hp⟩
  · rw [List.nodup_append]
    refine ⟨h.nd, by simp, ?_⟩
    intro p hp q hq
    have : q = (a, b) := by simpa using hq
    subst this
    exact fun e => hn (e ▸ hp)
  · intro p hp
    rcases List.mem_append.mp hp with hp | hp
    · exact h.ok p hp
    · have : p = (a, b) := by simpa using hp
      subst this
      exact ⟨h0, h1, h2⟩
structure PartB (base k : Int) (rs : List (Int × Int)) : Prop where
  nd : rs.Nodup
  ok : ∀ p ∈ rs, 0 ≤ p.1 ∧ p.1 ≤ k ∧ base + 1 ≤ p.2 ∧ p.2 < base + 1 + k
  cn : ∀ S : Int → Prop, S 0 → (∀ p ∈ rs, S p.1 ↔ S p.2) → (∀ i, 0 ≤ i → i ≤ k → S i) ∧ ∀ j, base + 1 ≤ j → j < base + 1 + k → S j
theorem PartB.nil {base : Int} : PartB base 0 [] := ⟨List.nodup_nil, fun p h => (by cases h), fun S h0 _ => ⟨fun i h1 h2 => by rw [show i = 0 from by omega]; exact h0, fun j h1 h2 => by omega⟩⟩
theorem PartB.step {base k r : Int} {rs : List (Int × Int)} (h : PartB base k rs) (h0 : 0 ≤ k) (r0 : 0 ≤ r) (r1 : r < k + 1) : PartB base (k + 1) (rs ++ [(r, base + 1 + k), (k + 1, base + 1 + k)]) := by
  refine ⟨?_, ?_, ?_⟩
  · rw [List.nodup_append]
    refine ⟨h.nd, ?_, ?_⟩
    · simp
      omega
    · intro p hp q hq e
      subst e
      have h1 := h.ok p hp
      have : p.2 = base + 1 + k := by
        have : p = (r, base + 1 + k) ∨ p = (k + 1, base + 1 + k) := by simpa using hq
        rcases this with e | e <;> rw [e]
      omega
  · intro p hp
    rcases List.mem_append.mp hp with hp | hp
    · have := h.ok p hp
      omega
    · have : p = (r, base + 1 + k) ∨ p = (k + 1, base + 1 + k) := by simpa using hp
      rcases this with e | e
      · rw [e]; show 0 ≤ r ∧ r ≤ k + 1 ∧ base + 1 ≤ base + 1 + k ∧ base + 1 + k < base + 1 + (k + 1); omega
      · rw [e]; show 0 ≤ k + 1 ∧ k + 1 ≤ k + 1 ∧ base + 1 ≤ base + 1 + k ∧ base + 1 + k < base + 1 + (k + 1); omega
  · intro S s0 hs
    obtain ⟨c1, c2⟩ := h.cn S s0 fun p hp => hs p (List.mem_append_left _ hp)
    have e1 : S r ↔ S (base + 1 + k) := hs (r, base + 1 + k) (by simp)
    have e2 : S (k + 1) ↔ S (base + 1 + k) := hs (k + 1, base + 1 + k) (by simp)
    have m := e1.mp (c1 r r0 (by omega))
    refine ⟨fun i i0 i1 => ?_, fun j j0 j1 => ?_⟩
    · by_cases q : i ≤ k
      · exact c1 i i0 q
      · rw [show i = k + 1 from by omega]; exact e2.mpr m
    · by_cases q : j < base + 1 + k
      · exact c2 j j0 q
      · rw [show j = base + 1 + k from by omega]; exact m
theorem PartB.shape {base : Int} {rs : List (Int × Int)} (h : PartB base base rs) (h1 : 1 ≤ base) : Shape (2 * base + 1) rs := by
  refine ⟨by omega, h.nd, fun p hp => by have := h.ok p hp; omega, ?_⟩
  intro S s0 hs i i0 i1
  obtain ⟨c1, c2⟩ := h.cn S s0 hs
  by_cases q : i ≤ base
  · exact c1 i i0 q
  · exact c2 i (by omega) (by omega)
def colR (k : Int) : List (Int × Int) := (List.range k.toNat).map fun (a : Nat) => ((a : Int), k)
theorem mem_colR {k : Int} {p : Int × Int} : p ∈ colR k ↔ 0 ≤ p.1 ∧ p.1 < k ∧ p.2 = k := by
  unfold colR
  rw [List.mem_map]
  constructor
  · rintro ⟨a, ha, rfl⟩
    have := List.mem_range.mp ha
    exact ⟨by show (0 : Int) ≤ (a : Int); omega, by show (a : Int) < k; omega, rfl⟩
  · rintro ⟨h1, h2, h3⟩
    exact ⟨p.1.toNat, List.mem_range.mpr (by omega), Prod.ext (by show ((p.1.toNat : Nat) : Int) = p.1; omega) h3.symm⟩
structure FullB (k : Int) (rs : List (Int × Int)) : Prop where
  nd : rs.Nodup
  ok : ∀ p ∈ rs, 0 ≤ p.1 ∧ p.1 < p.2 ∧ p.2 < k
  cn : Conn k rs
theorem FullB.nil : FullB 0 [] := ⟨List.nodup_nil, fun p h => (by cases h), fun S _ _ i h1 h2 => by omega⟩
theorem FullB.step {k : Int} {rs : List (Int × Int)} (h : FullB k rs) (h0 : 0 ≤ k) : FullB (k + 1) (rs ++ colR k) := by
  refine ⟨?_, ?_, ?_⟩
  · rw [List.nodup_append]
    refine ⟨h.nd, nodup_map_range _ _ fun i j _ _ e => ?_, ?_⟩
    · have e1 : ((i : Nat) : Int) = ((j : Nat) : Int) := (Prod.mk.inj e).1
      omega
    · intro p hp q hq e
      subst e
      have h1 := h.ok p hp
      have h2 := mem_colR.mp hq
      omega
  · intro p hp
    rcases List.mem_append.mp hp with hp | hp
    · have := h.ok p hp
      omega
    · have := mem_colR.mp hp
      omega
  · intro S s0 hs i i0 i1
    by_cases q : i < k
    · exact h.cn S s0 (fun p hp => hs p (List.mem_append_left _ hp)) i i0 q
    · have ek : i = k := by omega
      subst ek
      by_cases z : i = 0
      · rw [z]; exact s0
      · have e : S 0 ↔ S i := hs (0, i) (List.mem_append_right _ (mem_colR.mpr ⟨Int.le_refl 0, by omega, rfl⟩))
        exact e.mp s0
theorem FullB.shape {k : Int} {rs : List (Int × Int)} (h : FullB k rs) (h2 : 2 ≤ k) : Shape k rs := ⟨h2, h.nd, h.ok, h.cn⟩
def rowR (k lo hi : Int) : List (Int × Int) := (List.range (hi - lo).toNat).map fun (b : Nat) => (k, lo + (b : Int))
theorem mem_rowR {k lo hi : Int} {p : Int × Int} : p ∈ rowR k lo hi ↔ p.1 = k ∧ lo ≤ p.2 ∧ p.2 < hi := by
  unfold rowR
  rw [List.mem_map]
  constructor
  · rintro ⟨a, ha, rfl⟩
    have := List.mem_range.mp ha
    exact ⟨rfl, by show lo ≤ lo + (a : Int); omega, by show lo + (a : Int) < hi; omega⟩
  · rintro ⟨h1, h2, h3⟩
    exact ⟨(p.2 - lo).toNat, List.mem_range.mpr (by omega), Prod.ext h1.symm (by show lo + (((p.2 - lo).toNat : Nat) : Int) = p.2; omega)⟩
structure BoardB (rows n k : Int) (rs : List (Int × Int)) : Prop where
  nd : rs.Nodup
  ok : ∀ p ∈ rs, 0 ≤ p.1 ∧ p.1 < k ∧ rows ≤ p.2 ∧ p.2 < n
  cn : ∀ S : Int → Prop, S 0 → (∀ p ∈ rs, S p.1 ↔ S p.2) → (∀ i, 0 ≤ i → i < k → S i) ∧ (0 < k → ∀ j, rows ≤ j → j < n → S j)
theorem BoardB.nil {rows n : Int} : BoardB rows n 0 [] := ⟨List.nodup_nil, fun p h => (by cases h), fun S _ _ => ⟨fun i h1 h2 => by omega, fun h => by omega⟩⟩
theorem BoardB.step {rows n k : Int} {rs : List (Int × Int)} (h : BoardB rows n k rs) (h0 : 0 ≤ k) (hn : rows < n) : BoardB rows n (k + 1) (rs ++ rowR k rows n) := by
  refine ⟨?_, ?_, ?_⟩
  · rw [List.nodup_append]
    refine ⟨h.nd, nodup_map_range _ _ fun i j _ _ e => ?_, ?_⟩
    · have e1 : rows + ((i : Nat) : Int) = rows + ((j : Nat) : Int) := (Prod.mk.inj e).2
      omega
    · intro p hp q hq e
      subst e
      have h1 := h.ok p hp
      have h2 := mem_rowR.mp hq
      omega
  · intro p hp
    rcases List.mem_append.mp hp with hp | hp
    · have := h.ok p hp
      omega
    · have := mem_rowR.mp hp
      omega
  · intro S s0 hs
    obtain ⟨c1, c2⟩ := h.cn S s0 fun p hp => hs p (List.mem_append_left _ hp)
    have e : ∀ j, rows ≤ j → j < n → (S k ↔ S j) := fun j h1 h2 => hs (k, j) (List.mem_append_right _ (mem_rowR.mpr ⟨rfl, h1, h2⟩))
    have sk : S k := by
      by_cases z : k = 0
      · rw [z]; exact s0
      · exact (e rows (Int.le_refl _) hn).mpr (c2 (by omega) rows (Int.le_refl _) hn)
    refine ⟨fun i i0 i1 => ?_, fun _ j j0 j1 => (e j j0 j1).mp sk⟩
    by_cases q : i < k
    · exact c1 i i0 q
    · rw [show i = k from by omega]; exact sk
theorem BoardB.shape {rows n : Int} {rs : List (Int × Int)} (h : BoardB rows n rows rs) (h1 : 1 ≤ rows) (hn : rows < n) : Shape n rs := by
  refine ⟨by omega, h.nd, fun p hp => by have := h.ok p hp; omega, ?_⟩
  intro S s0 hs i i0 i1
  obtain ⟨c1, c2⟩ := h.cn S s0 hs
  by_cases q : i < rows
  · exact c1 i i0 q
  · exact c2 (by omega) i (by omega) i1
structure TreeB (k : Int) (rs : List (Int × Int)) : Prop where
  nd : rs.Nodup
  ok : ∀ p ∈ rs, 0 ≤ p.1 ∧ p.1 < p.2 ∧ p.2 ≤ k
  cn : Conn (k + 1) rs
theorem TreeB.nil : TreeB 0 [] := ⟨List.nodup_nil, fun p h => (by cases h), fun S s0 _ i h1 h2 => by rw [show i = 0 from by omega]; exact s0⟩
theorem TreeB.step {k r : Int} {rs : List (Int × Int)} (h : TreeB k rs) (r0 : 0 ≤ r) (r1 : r < k + 1) : TreeB (k + 1) (rs ++ [(r, k + 1)]) := by
  refine ⟨?_, ?_, ?_⟩
  · rw [List.nodup_append]
    refine ⟨h.nd, by simp, ?_⟩
    intro p hp q hq e
    subst e
    have h1 := h.ok p hp
    have : p = (r, k + 1) := by simpa using hq
    rw [this] at h1
    have : k + 1 ≤ k := h1.2.2
    omega
  · intro p hp
    rcases List.mem_append.mp hp with hp | hp
    · have := h.ok p hp
      omega
    · have : p = (r, k + 1) := by simpa using hp
      rw [this]
      exact ⟨r0, r1, Int.le_refl _⟩
  · intro S s0 hs i i0 i1
    have c := h.cn S s0 fun p hp => hs p (List.mem_append_left _ hp)
    have e : S r ↔ S (k + 1) := hs (r, k + 1) (by simp)
    by_cases q : i < k + 1
    · exact c i i0 q
    · rw [show i = k + 1 from by omega]
      exact e.mp (c r r0 r1)
theorem TreeB.shape {k : Int} {rs : List (Int × Int)} (h : TreeB k rs) (h1 : 1 ≤ k) : Shape (k + 1) rs := ⟨by omega, h.nd, fun p hp => by have := h.ok p hp; omega, h.cn⟩
end UW
namespace UW
open PySem PySem.Spec PyProof.Rows L2
/-- one step -/
local macro_rules | `(tactic| walk_at "s1") => `(tactic| first
  | with_reducible refine s_seq ?_
  | with_reducible refine s_for ?_
  | with_reducible refine s_lc ?_
  | with_reducible refine w_seq ?_
  | with_reducible refine w_rng1 ?_
  | with_reducible refine w_rng2 ?_
  | with_reducible refine w_zip ?_
  | with_reducible refine s_asg ?_
  | with_reducible refine s_gname ?_
  | with_reducible refine s_ret ?_
  | with_reducible refine s_drop ?_
  | with_reducible refine s_next ?_
  | with_reducible refine s_ifs ?_
  | with_reducible refine s_var (by with_unfolding_all rfl) ?_
  | with_reducible refine s_c ?_
  | with_reducible refine s_op ?_
  | with_reducible refine s_un ?_
  | with_reducible refine s_neg ?_
  | with_reducible refine s_test ?_
  | with_reducible refine s_yes ?_
  | with_reducible refine s_tB ?_
  | with_reducible refine s_bl ?_
  | with_reducible refine s_not ?_
  | with_reducible refine s_and ?_
  | with_reducible refine s_or ?_
  | with_reducible refine s_andV ?_
  | with_reducible refine s_orV ?_
  | with_reducible refine s_notV ?_
  | with_reducible refine s_chain ?_
  | with_reducible refine s_nil ?_
  | with_reducible refine s_cons ?_
  | with_reducible refine s_tup ?_
  | with_reducible refine s_lst ?_
  | with_reducible refine s_call ?_
  | with_reducible refine s_cb ?_
  | with_reducible refine s_part ?_
  | with_reducible refine s_nopart ?_
  | with_reducible refine s_ii ?_
  | with_reducible refine s_sl ?_
  | with_reducible refine s_par ?_
  | with_reducible refine s_par2 ?_
  | with_reducible refine s_bm ?_
  | with_reducible refine s_gsub ?_
  | with_reducible refine s_gcons ?_
  | with_reducible refine s_gnil ?_
  | with_reducible refine o_addI ?_
  | with_reducible refine o_sub ?_
  | with_reducible refine o_eqI ?_
  | with_reducible refine o_neI ?_
  | with_reducible refine o_ltI ?_
  | with_reducible refine o_le ?_
  | with_reducible refine o_gt ?_
  | with_reducible refine o_ge ?_
  | with_reducible refine o_int ?_
  | with_reducible refine o_intB ?_
  | with_reducible refine o_abs ?_
  | with_reducible refine o_max2 ?_
  | with_reducible refine o_min2 ?_
  | with_reducible refine o_isN ?_
  | with_reducible refine o_notN ?_
  | with_reducible refine o_mulI (by first | exact Or.inl ⟨by decide, by decide⟩ | exact Or.inr ⟨by decide, by decide⟩ | (first | (refine Or.inl ⟨?_, ?_⟩ <;> omega) | (refine Or.inr ⟨?_, ?_⟩ <;> omega))) ?_
  | with_reducible refine o_mod (by first | decide | omega) ?_
  | with_reducible refine o_div (by first | decide | omega) (by first | decide | omega) ?_
  | with_reducible refine s_blx ?_
  | with_reducible refine o_ixL (SqL.of (by assumption)) (by first | with_unfolding_all rfl | with_unfolding_all exact at_zero _ _) ?_
  | with_reducible refine o_ixT (by assumption) (by first | with_unfolding_all rfl | with_unfolding_all exact at_zero _ _) ?_
  | with_reducible refine o_tyL (by assumption) ?_
  | with_reducible refine iteT ?_
  | with_reducible refine iteF ?_)
local macro_rules | `(tactic| walk_at "sx") => `(tactic| repeat (walk_at "s1"))
/-- at p a list of the pairs rs; else all stands but the well -/
structure PairsAt (K : Fg) (a l : Addr) (H0 H : Hp) (p : Addr) (rs : List (Int × Int)) : Prop where
  wk : WK a l H0 H
  np : H0 p = none
  at' : ∃ vs, H p = some (.lst vs) ∧ Tps K H vs (rs.map dP)
theorem PairsAt.same {K : Fg} {a l p : Addr} {H0 H H2 : Hp} {rs : List (Int × Int)} (x : PairsAt K a l H0 H p rs) (e : Same H H2) : PairsAt K a l H0 H2 p rs := by
  obtain ⟨wk, np, vs, h1, h2⟩ := x
  exact ⟨wk.same e, np, vs, e _ _ h1, h2.same e⟩
section
variable {K : Fg} {H H2 H3 : Hp} {Q : VK} {l b : Addr} {xs zs : List V}
theorem o_cat (h1 : H l = some (.lst xs)) (h2 : H b = some (.lst zs)) (hl : xs.length + zs.length ≤ 100000) (k : New Q H (.lst (xs ++ zs))) : rAddU K (.ref l) (.ref b) H Q := .inr (.inl ⟨l, b, xs, zs, rfl, rfl, h1, h2, Nat.le_trans hl (by decide), k⟩)
end
theorem WK.free {a l p : Addr} {H H' : Hp} (w : Well H a l) (e : WK a l H H') (n : H' p = none) : H p = none := by
  cases q : H p with
  | none => rfl
  | some o =>
    have f := e.w.fresh n
    have := e.get q f.1 f.2
    rw [n] at this
    cases this
/-- a new list, all of it new or of before -/
theorem PairsAt.new {K : Fg} {a l p : Addr} {H0 H H2 : Hp} {vs : List V} {rs : List (Int × Int)} (w : Well H0 a l) (wk : WK a l H0 H) (np : H p = none) (e : Same H H2) (hp : H2 p = some (.lst vs)) (t : Tps K H2 vs (rs.map dP)) : PairsAt K a l H0 H2 p rs :=
  ⟨wk.same e, wk.free w np, vs, hp, t⟩
theorem PairsAt.push {K : Fg} {a l p q : Addr} {H0 H H2 H3 : Hp} {vs : List V} {rs : List (Int × Int)} {i j : Int} (w : Well H0 a l) (x : PairsAt K a l H0 H p rs) (hv : H p = some (.lst vs)) (tv : Tps K H vs (rs.map dP)) (e : Same H H2) (hq : H2 q = some (.tup [.int i, .int j])) (f : At p (.lst (vs ++ [.ref q])) H2 H3) :
    PairsAt K a l H0 H3 p (rs ++ [(i, j)]) := by
  have m := f.tm (e _ _ hv)
  refine ⟨(x.wk.same e).at w f x.np, x.np, _, f.1, ?_⟩
  rw [List.map_append]
  exact ((tv.same e).tm m).snoc ((Tp.mkpair (SqT.of hq)).tm m)
section
variable {K : Fg} {H : Hp} {Q : VK} {x0 x1 x2 x3 x4 x5 x6 x7 x8 x9 x10 x11 x12 : Option V}
end
end UW
namespace UW
open PySem PySem.Spec PyProof.Rows L2
/-- one step -/
local macro_rules | `(tactic| walk_at "s1") => `(tactic| first
  | with_reducible refine s_seq ?_
  | with_reducible refine s_for ?_
  | with_reducible refine s_lc ?_
  | with_reducible refine w_seq ?_
  | with_reducible refine w_rng1 ?_
  | with_reducible refine w_rng2 ?_
  | with_reducible refine w_zip ?_
  | with_reducible refine s_asg ?_
  | with_reducible refine s_gname ?_
  | with_reducible refine s_ret ?_
  | with_reducible refine s_drop ?_
  | with_reducible refine s_next ?_
  | with_reducible refine s_ifs ?_
  | with_reducible refine s_var (by with_unfolding_all rfl) ?_
  | with_reducible refine s_c ?_
  | with_reducible refine s_op ?_
  | with_reducible refine s_un ?_
  | with_reducible refine s_neg ?_
  | with_reducible refine s_test ?_
  | with_reducible refine s_yes ?_
  | with_reducible refine s_tB ?_
  | with_reducible refine s_bl ?_
  | with_reducible refine s_not ?_
  | with_reducible refine s_and ?_
  | with_reducible refine s_or ?_
  | with_reducible refine s_andV ?_
  | with_reducible refine s_orV ?_
  | with_reducible refine s_notV ?_
  | with_reducible refine s_chain ?_
  | with_reducible refine s_nil ?_
  | with_reducible refine s_cons ?_
  | with_reducible refine s_tup ?_
  | with_reducible refine s_lst ?_
  | with_reducible refine s_call ?_
  | with_reducible refine s_cb ?_
  | with_reducible refine s_part ?_
  | with_reducible refine s_nopart ?_
  | with_reducible refine s_ii ?_
  | with_reducible refine s_sl ?_
  | with_reducible refine s_par ?_
  | with_reducible refine s_par2 ?_
  | with_reducible refine s_bm ?_
  | with_reducible refine s_gsub ?_
  | with_reducible refine s_gcons ?_
  | with_reducible refine s_gnil ?_
  | with_reducible refine o_addI ?_
  | with_reducible refine o_sub ?_
  | with_reducible refine o_eqI ?_
  | with_reducible refine o_neI ?_
  | with_reducible refine o_ltI ?_
  | with_reducible refine o_le ?_
  | with_reducible refine o_gt ?_
  | with_reducible refine o_ge ?_
  | with_reducible refine o_int ?_
  | with_reducible refine o_intB ?_
  | with_reducible refine o_abs ?_
  | with_reducible refine o_max2 ?_
  | with_reducible refine o_min2 ?_
  | with_reducible refine o_isN ?_
  | with_reducible refine o_notN ?_
  | with_reducible refine o_mulI (by first | exact Or.inl ⟨by decide, by decide⟩ | exact Or.inr ⟨by decide, by decide⟩ | (first | (refine Or.inl ⟨?_, ?_⟩ <;> omega) | (refine Or.inr ⟨?_, ?_⟩ <;> omega))) ?_
  | with_reducible refine o_mod (by first | decide | omega) ?_
  | with_reducible refine o_div (by first | decide | omega) (by first | decide | omega) ?_
  | with_reducible refine s_blx ?_
  | with_reducible refine o_ixL (SqL.of (by assumption)) (by first | with_unfolding_all rfl | with_unfolding_all exact at_zero _ _) ?_
  | with_reducible refine o_ixT (by assumption) (by first | with_unfolding_all rfl | with_unfolding_all exact at_zero _ _) ?_
  | with_reducible refine o_tyL (by assumption) ?_
  | with_reducible refine iteT ?_
  | with_reducible refine iteF ?_)
local macro_rules | `(tactic| walk_at "sx") => `(tactic| repeat (walk_at "s1"))
def rSortP (K : Fg) : List V → Hp → VK → Prop := fun vs H Q => ∃ (a : Addr) (xs : List V) (rs : List (Int × Int)), vs = [V.ref a] ∧ SqL K H a xs ∧ Tps K H xs (rs.map dP) ∧
  ∀ (ys : List V) (qs : List (Int × Int)), qs.Perm rs → qs.Pairwise (fun p q => SrtO.lexB q p = false) → Tps K H ys (qs.map dP) → New Q H (.lst ys)
open Classical in
noncomputable def pairAt (K : Fg) (H : Hp) (v : V) : Int × Int := if h : ∃ p, Tp K H v (dP p) then Classical.choose h else (0, 0)
section
variable {X : Cx}
theorem pair_one {pins : List (Addr × Obj)} {σ : L2.St} {H : Hp} {s : Shared} (I : Inv X pins σ H s) {v : V} {p : Int × Int} (h : Tp X.K H v (dP p)) : pairAt X.K H v = p := by
  have ex : ∃ p, Tp X.K H v (dP p) := ⟨p, h⟩
  unfold pairAt
  rw [dif_pos ex]
  have c := Classical.choose_spec ex
  generalize Classical.choose ex = q at c
  obtain ⟨a, rfl, h1⟩ := h.pair
  obtain ⟨b, e, h2⟩ := c.pair
  cases e
  have e2 := I.tuple_inj h1.up h2.up
  have e3 : p.1 = q.1 ∧ p.2 = q.2 := by simpa using e2
  exact Prod.ext e3.1.symm e3.2.symm
theorem pairs_map {pins : List (Addr × Obj)} {σ : L2.St} {H : Hp} {s : Shared} (I : Inv X pins σ H s) : ∀ {xs : List V} {rs : List (Int × Int)}, Tps X.K H xs (rs.map dP) → xs.map (pairAt X.K H) = rs
  | _, [], h => by rw [h.nil_inv]; rfl
  | _, p :: rs, h => by
    obtain ⟨v, vs, rfl, h1, h2⟩ := Tps.cons_inv h
    rw [List.map_cons, pair_one I h1, pairs_map I h2]
theorem tps_mem {K : Fg} {H : Hp} {rs : List (Int × Int)} {xs : List V} (h : Tps K H xs (rs.map dP)) {x : V} (m : x ∈ xs) : ∃ p, Tp K H x (dP p) := by
  obtain ⟨i, hi, rfl⟩ := List.mem_iff_getElem.mp m
  obtain ⟨p, a, h1, h2, h3⟩ := h.pair_at (List.getElem?_eq_getElem hi)
  exact ⟨p, by rw [h2]; exact Tp.mkpair h3⟩
theorem tps_of_map {K : Fg} {H : Hp} {f : V → Int × Int} : ∀ (ys : List V), (∀ y ∈ ys, Tp K H y (dP (f y))) → Tps K H ys ((ys.map f).map dP)
  | [], _ => .nil
  | y :: ys, h => .cons (h y (List.mem_cons_self ..)) (tps_of_map ys fun z hz => h z (List.mem_cons_of_mem _ hz))
theorem cr_sortP : CallR X (.builtin "sorted") (rSortP X.K) := by
  intro pins s σ H vs us Q I r h
  obtain ⟨a, xs, rs, rfl, hs, tx, q⟩ := h
  obtain ⟨its, rv, hl, hz⟩ := I.list hs
  obtain ⟨u, rfl, ru⟩ := vals1 r
  obtain rfl : u = Value.ref a := ru
  have isref : ∀ x ∈ xs, ∃ t, x = V.ref t := fun x m => by
    obtain ⟨p, hp⟩ := tps_mem tx m
    obtain ⟨t, e, _⟩ := hp.pair
    exact ⟨t, e⟩
  obtain ⟨e1, e2⟩ := refs_back rv isref
  refine SrtO.sorted_pairsO (k := fun u => pairAt X.K H (backV u)) hl.isList (by rw [← rv.length]; exact hz) ?_ ?_
  · intro v hv
    obtain ⟨t, rfl⟩ := e2 v hv
    have hm : V.ref t ∈ xs := by rw [e1]; exact List.mem_map.mpr ⟨_, hv, rfl⟩
    obtain ⟨p, hp⟩ := tps_mem tx hm
    have ek : pairAt X.K H (backV (.ref t)) = p := pair_one I hp
    obtain ⟨t', e, ht⟩ := hp.pair
    cases e
    obtain ⟨its2, r2, ⟨o, ho, hc, n, hd⟩, _⟩ := I.tuple ht.up
    obtain ⟨u1, u2, rfl, ri, rj⟩ := vals2 r2
    obtain ⟨t1, rfl⟩ := ri
    obtain ⟨t2, rfl⟩ := rj
    rw [ek]
    exact ⟨t, o, t1, t2, n, rfl, ho, hc, hd⟩
  · intro h' d out h1 h2 kp hd hn
    have h3 : ∀ u ∈ out, ∃ a, u = Value.ref a := fun u hu => e2 u (h2.perm.mem_iff.mp hu)
    obtain ⟨n, hn⟩ := hn
    have pm : (out.map backV).Perm xs := by rw [e1]; exact h2.perm.map _
    have qp : ((out.map backV).map (pairAt X.K H)).Perm rs := by
      have := pm.map (pairAt X.K H)
      rw [pairs_map I tx] at this
      exact this
    have ty : Tps X.K H (out.map backV) (((out.map backV).map (pairAt X.K H)).map dP) := by
      refine tps_of_map _ fun y hy => ?_
      obtain ⟨p, hp⟩ := tps_mem tx (pm.mem_iff.mp hy)
      rw [pair_one I hp]
      exact hp
    have srt : ((out.map backV).map (pairAt X.K H)).Pairwise (fun p q => SrtO.lexB q p = false) := by
      rw [List.pairwise_map, List.pairwise_map]
      exact h1
    refine ⟨.ref d, upd H d (.lst (out.map backV)), I.laid (t' := s.toks) kp hd ⟨?_, out, n, vals_back h3, hn⟩, rfl, q _ _ qp srt ty d (I.hok.fresh hd)⟩
    rw [pm.length_eq]
    exact hz
end
def nm (ns : List Int) (i : Int) : Int := ns.getD i.toNat 0
def reP (ns : List Int) (p : Int × Int) : Int × Int := (if nm ns p.2 < nm ns p.1 then nm ns p.2 else nm ns p.1, if nm ns p.2 > nm ns p.1 then nm ns p.2 else nm ns p.1)
theorem mem_iota {n : Nat} {x : Int} : x ∈ iota n ↔ 0 ≤ x ∧ x < n := by
  unfold iota
  rw [List.mem_map]
  constructor
  · rintro ⟨a, ha, rfl⟩
    have := List.mem_range.mp ha
    omega
  · rintro ⟨h1, h2⟩
    exact ⟨x.toNat, List.mem_range.mpr (by omega), by omega⟩
theorem nodup_iota (n : Nat) : (iota n).Nodup := nodup_map_range _ _ fun i j _ _ e => by omega
structure Names (n : Int) (ns : List Int) : Prop where
  len : (ns.length : Int) = n
  rng : ∀ i, 0 ≤ i → i < n → 0 ≤ nm ns i ∧ nm ns i < n
  inj : ∀ i j, 0 ≤ i → i < n → 0 ≤ j → j < n → nm ns i = nm ns j → i = j
  sur : ∀ y, 0 ≤ y → y < n → ∃ i, 0 ≤ i ∧ i < n ∧ nm ns i = y
theorem nm_get {ns : List Int} {i : Int} (h0 : 0 ≤ i) (h1 : i < ns.length) : ns[i.toNat]? = some (nm ns i) := by
  have h : i.toNat < ns.length := by omega
  unfold nm
  rw [List.getD_eq_getElem?_getD, List.getElem?_eq_getElem h]
  rfl
theorem Names.of {n : Int} {ns : List Int} (h : 0 ≤ n) (p : ns.Perm (iota n.toNat)) : Names n ns := by
  have hl : (ns.length : Int) = n := by rw [p.length_eq, iota_len]; omega
  have nd : ns.Nodup := p.nodup_iff.mpr (nodup_iota _)
  refine ⟨hl, fun i h0 h1 => ?_, fun i j i0 i1 j0 j1 e => ?_, fun y h0 h1 => ?_⟩
  · have m := List.mem_of_getElem? (nm_get h0 (show i < ns.length by omega))
    have := mem_iota.mp (p.mem_iff.mp m)
    omega
  · have a := nm_get i0 (show i < ns.length by omega)
    have b := nm_get j0 (show j < ns.length by omega)
    rw [e] at a
    have := nd_ix nd a b
    omega
  · have m : y ∈ ns := p.mem_iff.mpr (mem_iota.mpr ⟨h0, by omega⟩)
    obtain ⟨k, hk, e⟩ := List.mem_iff_getElem.mp m
    refine ⟨(k : Int), by omega, by omega, ?_⟩
    have a := nm_get (ns := ns) (i := (k : Int)) (by omega) (by omega)
    rw [Int.toNat_natCast, List.getElem?_eq_getElem hk, e] at a
    exact (Option.some.inj a).symm
theorem Conn.all {n : Int} {rs : List (Int × Int)} (h : Conn n rs) (S : Int → Prop) (hs : ∀ p ∈ rs, S p.1 ↔ S p.2) {i j : Int} (i0 : 0 ≤ i) (i1 : i < n) (j0 : 0 ≤ j) (j1 : j < n) : S i ↔ S j := by
  have c := h (fun x => S x ↔ S 0) Iff.rfl fun p hp => by rw [hs p hp]
  exact (c i i0 i1).trans (c j j0 j1).symm
theorem Conn.names {n : Int} {rs : List (Int × Int)} {ns : List Int} (h : Conn n rs) (N : Names n ns) (hn : 0 < n) : Conn n (rs.map (reP ns)) := by
  intro S s0 hs y y0 y1
  have cl : ∀ p ∈ rs, S (nm ns p.1) ↔ S (nm ns p.2) := by
    intro p hp
    have := hs (reP ns p) (List.mem_map.mpr ⟨p, hp, rfl⟩)
    unfold reP at this
    by_cases c : nm ns p.2 < nm ns p.1
    · have c2 : ¬ nm ns p.2 > nm ns p.1 := by omega
      simp only [if_pos c, if_neg c2] at this
      exact this.symm
    · by_cases c2 : nm ns p.2 > nm ns p.1
      · simp only [if_neg c, if_pos c2] at this
        exact this
      · have e : nm ns p.1 = nm ns p.2 := by omega
        rw [e]
  obtain ⟨i, i0, i1, ei⟩ := N.sur 0 (Int.le_refl 0) hn
  obtain ⟨j, j0, j1, ej⟩ := N.sur y y0 y1
  have := (h.all (fun x => S (nm ns x)) cl i0 i1 j0 j1).mp (by rw [ei]; exact s0)
  rwa [ej] at this
theorem nodup_map_of {α β : Type} {f : α → β} : ∀ {l : List α}, l.Nodup → (∀ x ∈ l, ∀ y ∈ l, f x = f y → x = y) → (l.map f).Nodup
  | [], _, _ => List.nodup_nil
  | a :: l, h, inj => by
    rw [List.map_cons, List.nodup_cons]
    have hc := List.nodup_cons.mp h
    refine ⟨fun m => ?_, nodup_map_of hc.2 fun x hx y hy => inj x (List.mem_cons_of_mem _ hx) y (List.mem_cons_of_mem _ hy)⟩
    obtain ⟨b, hb, e⟩ := List.mem_map.mp m
    have := inj b (List.mem_cons_of_mem _ hb) a (List.mem_cons_self ..) e
    exact hc.1 (this ▸ hb)
theorem Shape.names {n : Int} {rs : List (Int × Int)} {ns : List Int} (h : Shape n rs) (N : Names n ns) : Shape n (rs.map (reP ns)) := by
  refine ⟨h.two, nodup_map_of h.nd ?_, ?_, h.cn.names N (by have := h.two; omega)⟩
  · intro p hp q hq e
    have a := h.ok p hp
    have b := h.ok q hq
    have e1 := (Prod.mk.inj e).1
    have e2 := (Prod.mk.inj e).2
    have i11 := N.inj p.1 q.1 (by omega) (by omega) (by omega) (by omega)
    have i12 := N.inj p.1 q.2 (by omega) (by omega) (by omega) (by omega)
    have i21 := N.inj p.2 q.1 (by omega) (by omega) (by omega) (by omega)
    have i22 := N.inj p.2 q.2 (by omega) (by omega) (by omega) (by omega)
    have : (nm ns p.1 = nm ns q.1 ∧ nm ns p.2 = nm ns q.2) ∨ (nm ns p.1 = nm ns q.2 ∧ nm ns p.2 = nm ns q.1) := by
      generalize nm ns p.1 = u1 at e1 e2 ⊢
      generalize nm ns p.2 = u2 at e1 e2 ⊢
      generalize nm ns q.1 = u3 at e1 e2 ⊢
      generalize nm ns q.2 = u4 at e1 e2 ⊢
      by_cases c1 : u2 < u1 <;> by_cases c2 : u4 < u3 <;> by_cases c3 : u2 > u1 <;> by_cases c4 : u4 > u3 <;> simp only [c1, c2, c3, c4, if_true, if_false] at e1 e2 <;> omega
    rcases this with ⟨u, v⟩ | ⟨u, v⟩
    · exact Prod.ext (i11 u) (i22 v)
    · have := i12 u
      have := i21 v
      omega
  · intro q hq
    obtain ⟨p, hp, rfl⟩ := List.mem_map.mp hq
    have a := h.ok p hp
    have r1 := N.rng p.1 (by omega) (by omega)
    have r2 := N.rng p.2 (by omega) (by omega)
    have ne : nm ns p.1 ≠ nm ns p.2 := fun e => by
      have := N.inj p.1 p.2 (by omega) (by omega) (by omega) (by omega) e
      omega
    unfold reP
    show 0 ≤ (if nm ns p.2 < nm ns p.1 then nm ns p.2 else nm ns p.1) ∧ (if nm ns p.2 < nm ns p.1 then nm ns p.2 else nm ns p.1) < (if nm ns p.2 > nm ns p.1 then nm ns p.2 else nm ns p.1) ∧ (if nm ns p.2 > nm ns p.1 then nm ns p.2 else nm ns p.1) < n
    split <;> split <;> omega
theorem Shape.perm {n : Int} {rs qs : List (Int × Int)} (h : Shape n rs) (p : qs.Perm rs) : Shape n qs :=
  ⟨h.two, p.nodup_iff.mpr h.nd, fun x hx => h.ok x (p.mem_iff.mp hx), h.cn.more fun x hx => p.mem_iff.mpr hx⟩
theorem Shape.ne {n : Int} {rs : List (Int × Int)} (h : Shape n rs) : rs ≠ [] := by
  rintro rfl
  have := h.cn (fun i => i = 0) rfl (fun p hp => (by cases hp)) 1 (by decide) (by have := h.two; omega)
  exact absurd this (by decide)
theorem strict {qs : List (Int × Int)} (s : qs.Pairwise (fun p q => SrtO.lexB q p = false)) (nd : qs.Nodup) : qs.Pairwise (fun p q => SrtO.lexB p q = true) := by
  have := List.Pairwise.and s nd
  refine this.imp ?_
  rintro p q ⟨h1, h2⟩
  have a := SrtO.lexB_no.mp h1
  refine SrtO.lexB_iff.mpr ?_
  by_cases e : p.1 = q.1
  · by_cases e2 : p.2 = q.2
    · exact absurd (Prod.ext e e2) h2
    · omega
  · omega
structure WebOk (size room load n : Int) (rs : List (Int × Int)) (ms : List Int) : Prop where
  sh : Shape n rs
  up : rs.Pairwise (fun p q => SrtO.lexB p q = true)
  sz : n ≤ size
  rm : (rs.length : Int) ≤ room
  lm : ms.length = rs.length
  ld : ∀ m ∈ ms, 1 ≤ m ∧ m ≤ load
end UW
namespace UW
open PySem PySem.Spec PyProof.Rows L2
/-- one step -/
local macro_rules | `(tactic| walk_at "s1") => `(tactic| first
  | with_reducible refine s_seq ?_
  | with_reducible refine s_for ?_
  | with_reducible refine s_lc ?_
  | with_reducible refine w_seq ?_
  | with_reducible refine w_rng1 ?_
  | with_reducible refine w_rng2 ?_
  | with_reducible refine w_zip ?_
  | with_reducible refine s_asg ?_
  | with_reducible refine s_gname ?_
  | with_reducible refine s_ret ?_
  | with_reducible refine s_drop ?_
  | with_reducible refine s_next ?_
  | with_reducible refine s_ifs ?_
  | with_reducible refine s_var (by with_unfolding_all rfl) ?_
  | with_reducible refine s_c ?_
  | with_reducible refine s_op ?_
  | with_reducible refine s_un ?_
  | with_reducible refine s_neg ?_
  | with_reducible refine s_test ?_
  | with_reducible refine s_yes ?_
  | with_reducible refine s_tB ?_
  | with_reducible refine s_bl ?_
  | with_reducible refine s_not ?_
  | with_reducible refine s_and ?_
  | with_reducible refine s_or ?_
  | with_reducible refine s_andV ?_
  | with_reducible refine s_orV ?_
  | with_reducible refine s_notV ?_
  | with_reducible refine s_chain ?_
  | with_reducible refine s_nil ?_
  | with_reducible refine s_cons ?_
  | with_reducible refine s_tup ?_
  | with_reducible refine s_lst ?_
  | with_reducible refine s_call ?_
  | with_reducible refine s_cb ?_
  | with_reducible refine s_part ?_
  | with_reducible refine s_nopart ?_
  | with_reducible refine s_ii ?_
  | with_reducible refine s_sl ?_
  | with_reducible refine s_par ?_
  | with_reducible refine s_par2 ?_
  | with_reducible refine s_bm ?_
  | with_reducible refine s_gsub ?_
  | with_reducible refine s_gcons ?_
  | with_reducible refine s_gnil ?_
  | with_reducible refine o_addI ?_
  | with_reducible refine o_sub ?_
  | with_reducible refine o_eqI ?_
  | with_reducible refine o_neI ?_
  | with_reducible refine o_ltI ?_
  | with_reducible refine o_le ?_
  | with_reducible refine o_gt ?_
  | with_reducible refine o_ge ?_
  | with_reducible refine o_int ?_
  | with_reducible refine o_intB ?_
  | with_reducible refine o_abs ?_
  | with_reducible refine o_max2 ?_
  | with_reducible refine o_min2 ?_
  | with_reducible refine o_isN ?_
  | with_reducible refine o_notN ?_
  | with_reducible refine o_mulI (by first | exact Or.inl ⟨by decide, by decide⟩ | exact Or.inr ⟨by decide, by decide⟩ | (first | (refine Or.inl ⟨?_, ?_⟩ <;> omega) | (refine Or.inr ⟨?_, ?_⟩ <;> omega))) ?_
  | with_reducible refine o_mod (by first | decide | omega) ?_
  | with_reducible refine o_div (by first | decide | omega) (by first | decide | omega) ?_
  | with_reducible refine s_blx ?_
  | with_reducible refine o_ixL (SqL.of (by assumption)) (by first | with_unfolding_all rfl | with_unfolding_all exact at_zero _ _) ?_
  | with_reducible refine o_ixT (by assumption) (by first | with_unfolding_all rfl | with_unfolding_all exact at_zero _ _) ?_
  | with_reducible refine o_tyL (by assumption) ?_
  | with_reducible refine iteT ?_
  | with_reducible refine iteF ?_)
local macro_rules | `(tactic| walk_at "sx") => `(tactic| repeat (walk_at "s1"))
section
variable {K : Fg} {σ : L2.St} {H : Hp} {Q : VK} {t : TT} {ta tb : TE} {a : Addr} {xs : List V}
theorem s_ifj (P : V → Hp → Prop) (hk : ∀ v H', P v H' → Q v H') (k : (∀ v H', P v H' → Q v H') → t σ H fun b H1 => if b = true then ta σ H1 Q else tb σ H1 Q) : tIf t ta tb σ H Q := k hk
end
end UW
namespace UW
open PySem PySem.Spec PyProof.Rows L2
/-- one step -/
local macro_rules | `(tactic| walk_at "s1") => `(tactic| first
  | with_reducible refine s_seq ?_
  | with_reducible refine s_for ?_
  | with_reducible refine s_lc ?_
  | with_reducible refine w_seq ?_
  | with_reducible refine w_rng1 ?_
  | with_reducible refine w_rng2 ?_
  | with_reducible refine w_zip ?_
  | with_reducible refine s_asg ?_
  | with_reducible refine s_gname ?_
  | with_reducible refine s_ret ?_
  | with_reducible refine s_drop ?_
  | with_reducible refine s_next ?_
  | with_reducible refine s_ifs ?_
  | with_reducible refine s_var (by with_unfolding_all rfl) ?_
  | with_reducible refine s_c ?_
  | with_reducible refine s_op ?_
  | with_reducible refine s_un ?_
  | with_reducible refine s_neg ?_
  | with_reducible refine s_test ?_
  | with_reducible refine s_yes ?_
  | with_reducible refine s_tB ?_
  | with_reducible refine s_bl ?_
  | with_reducible refine s_not ?_
  | with_reducible refine s_and ?_
  | with_reducible refine s_or ?_
  | with_reducible refine s_andV ?_
  | with_reducible refine s_orV ?_
  | with_reducible refine s_notV ?_
  | with_reducible refine s_chain ?_
  | with_reducible refine s_nil ?_
  | with_reducible refine s_cons ?_
  | with_reducible refine s_tup ?_
  | with_reducible refine s_lst ?_
  | with_reducible refine s_call ?_
  | with_reducible refine s_cb ?_
  | with_reducible refine s_part ?_
  | with_reducible refine s_nopart ?_
  | with_reducible refine s_ii ?_
  | with_reducible refine s_sl ?_
  | with_reducible refine s_par ?_
  | with_reducible refine s_par2 ?_
  | with_reducible refine s_bm ?_
  | with_reducible refine s_gsub ?_
  | with_reducible refine s_gcons ?_
  | with_reducible refine s_gnil ?_
  | with_reducible refine o_addI ?_
  | with_reducible refine o_sub ?_
  | with_reducible refine o_eqI ?_
  | with_reducible refine o_neI ?_
  | with_reducible refine o_ltI ?_
  | with_reducible refine o_le ?_
  | with_reducible refine o_gt ?_
  | with_reducible refine o_ge ?_
  | with_reducible refine o_int ?_
  | with_reducible refine o_intB ?_
  | with_reducible refine o_abs ?_
  | with_reducible refine o_max2 ?_
  | with_reducible refine o_min2 ?_
  | with_reducible refine o_isN ?_
  | with_reducible refine o_notN ?_
  | with_reducible refine o_mulI (by first | exact Or.inl ⟨by decide, by decide⟩ | exact Or.inr ⟨by decide, by decide⟩ | (first | (refine Or.inl ⟨?_, ?_⟩ <;> omega) | (refine Or.inr ⟨?_, ?_⟩ <;> omega))) ?_
  | with_reducible refine o_mod (by first | decide | omega) ?_
  | with_reducible refine o_div (by first | decide | omega) (by first | decide | omega) ?_
  | with_reducible refine s_blx ?_
  | with_reducible refine o_ixL (SqL.of (by assumption)) (by first | with_unfolding_all rfl | with_unfolding_all exact at_zero _ _) ?_
  | with_reducible refine o_ixT (by assumption) (by first | with_unfolding_all rfl | with_unfolding_all exact at_zero _ _) ?_
  | with_reducible refine o_tyL (by assumption) ?_
  | with_reducible refine iteT ?_
  | with_reducible refine iteF ?_)
local macro_rules | `(tactic| walk_at "sx") => `(tactic| repeat (walk_at "s1"))
/-- loads that the roads bear -/
structure Stand (ms ls : List Int) : Prop where
  len : ls.length = ms.length
  ok : ∀ (i : Nat) (l m : Int), ls[i]? = some l → ms[i]? = some m → 0 ≤ l ∧ l ≤ m
theorem ix_int {n : Nat} {i : Int} (h0 : 0 ≤ i) (h : i < n) : ixN n i = some i.toNat := by
  have e : i = ((i.toNat : Nat) : Int) := by omega
  have := ix_nat (n := n) (j := i.toNat) (by omega)
  rwa [← e] at this
def StandTo (ms ls : List Int) (i : Nat) : Prop := ls.length = i ∧ ∀ (j : Nat) (l m : Int), ls[j]? = some l → ms[j]? = some m → 0 ≤ l ∧ l ≤ m
theorem StandTo.nil {ms : List Int} : StandTo ms [] 0 := ⟨rfl, fun j l m h => by simp at h⟩
theorem StandTo.snoc {ms ls : List Int} {i : Nat} {x m : Int} (h : StandTo ms ls i) (hm : ms[i]? = some m) (h0 : 0 ≤ x) (h1 : x ≤ m) : StandTo ms (ls ++ [x]) (i + 1) := by
  refine ⟨by rw [List.length_append, h.1]; rfl, fun j l m' e1 e2 => ?_⟩
  by_cases q : j < ls.length
  · rw [List.getElem?_append_left q] at e1
    exact h.2 j l m' e1 e2
  · rw [List.getElem?_append_right (by omega)] at e1
    by_cases z : j - ls.length = 0
    · rw [z] at e1
      have e3 : x = l := by simpa using e1
      have : j = i := by have := h.1; omega
      rw [this, hm] at e2
      cases e2
      omega
    · have : ([x] : List Int)[j - ls.length]? = none := List.getElem?_eq_none (by simp; omega)
      rw [this] at e1
      cases e1
theorem Stand.set {ms ls : List Int} {i : Nat} {x m : Int} (h : Stand ms ls) (hm : ms[i]? = some m) (h0 : 0 ≤ x) (h1 : x ≤ m) : Stand ms (ls.set i x) := by
  refine ⟨by rw [List.length_set, h.len], fun j l m' e1 e2 => ?_⟩
  rw [List.getElem?_set] at e1
  split at e1
  · next q =>
    subst q
    rw [hm] at e2
    cases e2
    split at e1
    · cases e1; exact ⟨h0, h1⟩
    · cases e1
  · exact h.ok j l m' e1 e2
end UW
namespace UW
open PySem PySem.Spec PyProof.Rows L2
/-- one step -/
local macro_rules | `(tactic| walk_at "s1") => `(tactic| first
  | with_reducible refine s_seq ?_
  | with_reducible refine s_for ?_
  | with_reducible refine s_lc ?_
  | with_reducible refine w_seq ?_
  | with_reducible refine w_rng1 ?_
  | with_reducible refine w_rng2 ?_
  | with_reducible refine w_zip ?_
  | with_reducible refine s_asg ?_
  | with_reducible refine s_gname ?_
  | with_reducible refine s_ret ?_
  | with_reducible refine s_drop ?_
  | with_reducible refine s_next ?_
  | with_reducible refine s_ifs ?_
  | with_reducible refine s_var (by with_unfolding_all rfl) ?_
  | with_reducible refine s_c ?_
  | with_reducible refine s_op ?_
  | with_reducible refine s_un ?_
  | with_reducible refine s_neg ?_
  | with_reducible refine s_test ?_
  | with_reducible refine s_yes ?_
  | with_reducible refine s_tB ?_
  | with_reducible refine s_bl ?_
  | with_reducible refine s_not ?_
  | with_reducible refine s_and ?_
  | with_reducible refine s_or ?_
  | with_reducible refine s_andV ?_
  | with_reducible refine s_orV ?_
  | with_reducible refine s_notV ?_
  | with_reducible refine s_chain ?_
  | with_reducible refine s_nil ?_
  | with_reducible refine s_cons ?_
  | with_reducible refine s_tup ?_
  | with_reducible refine s_lst ?_
  | with_reducible refine s_call ?_
  | with_reducible refine s_cb ?_
  | with_reducible refine s_part ?_
  | with_reducible refine s_nopart ?_
  | with_reducible refine s_ii ?_
  | with_reducible refine s_sl ?_
  | with_reducible refine s_par ?_
  | with_reducible refine s_par2 ?_
  | with_reducible refine s_bm ?_
  | with_reducible refine s_gsub ?_
  | with_reducible refine s_gcons ?_
  | with_reducible refine s_gnil ?_
  | with_reducible refine o_addI ?_
  | with_reducible refine o_sub ?_
  | with_reducible refine o_eqI ?_
  | with_reducible refine o_neI ?_
  | with_reducible refine o_ltI ?_
  | with_reducible refine o_le ?_
  | with_reducible refine o_gt ?_
  | with_reducible refine o_ge ?_
  | with_reducible refine o_int ?_
  | with_reducible refine o_intB ?_
  | with_reducible refine o_abs ?_
  | with_reducible refine o_max2 ?_
  | with_reducible refine o_min2 ?_
  | with_reducible refine o_isN ?_
  | with_reducible refine o_notN ?_
  | with_reducible refine o_mulI (by first | exact Or.inl ⟨by decide, by decide⟩ | exact Or.inr ⟨by decide, by decide⟩ | (first | (refine Or.inl ⟨?_, ?_⟩ <;> omega) | (refine Or.inr ⟨?_, ?_⟩ <;> omega))) ?_
  | with_reducible refine o_mod (by first | decide | omega) ?_
  | with_reducible refine o_div (by first | decide | omega) (by first | decide | omega) ?_
  | with_reducible refine s_blx ?_
  | with_reducible refine o_ixL (SqL.of (by assumption)) (by first | with_unfolding_all rfl | with_unfolding_all exact at_zero _ _) ?_
  | with_reducible refine o_ixT (by assumption) (by first | with_unfolding_all rfl | with_unfolding_all exact at_zero _ _) ?_
  | with_reducible refine o_tyL (by assumption) ?_
  | with_reducible refine iteT ?_
  | with_reducible refine iteF ?_)
local macro_rules | `(tactic| walk_at "sx") => `(tactic| repeat (walk_at "s1"))
section
variable {K : Fg} {H : Hp} {Q : VK} {a : Addr} {xs : List V} {k : Int}
end
theorem flat_rep {α : Type} (x : α) : ∀ n, (List.replicate n [x]).flatten = List.replicate n x
  | 0 => rfl
  | n + 1 => by rw [List.replicate_succ, List.replicate_succ, List.flatten_cons, flat_rep x n]; rfl
/-- the roads that are at a place -/
def atP (i : Int) (p : Int × Int) : Bool := decide (i = p.1) || decide (i = p.2)
def sumP (rs : List (Int × Int)) (ls : List Int) (i : Int) : Int := (((rs.zip ls).filter fun q => atP i q.1).map (·.2)).sum
theorem iota_get {n k : Nat} (h : k < n) : (iota n)[k]? = some (k : Int) := by
  unfold iota
  rw [List.getElem?_map, List.getElem?_range h]
  rfl
end UW
namespace UW
open PySem PySem.Spec PyProof.Rows L2
/-- one step -/
local macro_rules | `(tactic| walk_at "s1") => `(tactic| first
  | with_reducible refine s_seq ?_
  | with_reducible refine s_for ?_
  | with_reducible refine s_lc ?_
  | with_reducible refine w_seq ?_
  | with_reducible refine w_rng1 ?_
  | with_reducible refine w_rng2 ?_
  | with_reducible refine w_zip ?_
  | with_reducible refine s_asg ?_
  | with_reducible refine s_gname ?_
  | with_reducible refine s_ret ?_
  | with_reducible refine s_drop ?_
  | with_reducible refine s_next ?_
  | with_reducible refine s_ifs ?_
  | with_reducible refine s_var (by with_unfolding_all rfl) ?_
  | with_reducible refine s_c ?_
  | with_reducible refine s_op ?_
  | with_reducible refine s_un ?_
  | with_reducible refine s_neg ?_
  | with_reducible refine s_test ?_
  | with_reducible refine s_yes ?_
  | with_reducible refine s_tB ?_
  | with_reducible refine s_bl ?_
  | with_reducible refine s_not ?_
  | with_reducible refine s_and ?_
  | with_reducible refine s_or ?_
  | with_reducible refine s_andV ?_
  | with_reducible refine s_orV ?_
  | with_reducible refine s_notV ?_
  | with_reducible refine s_chain ?_
  | with_reducible refine s_nil ?_
  | with_reducible refine s_cons ?_
  | with_reducible refine s_tup ?_
  | with_reducible refine s_lst ?_
  | with_reducible refine s_call ?_
  | with_reducible refine s_cb ?_
  | with_reducible refine s_part ?_
  | with_reducible refine s_nopart ?_
  | with_reducible refine s_ii ?_
  | with_reducible refine s_sl ?_
  | with_reducible refine s_par ?_
  | with_reducible refine s_par2 ?_
  | with_reducible refine s_bm ?_
  | with_reducible refine s_gsub ?_
  | with_reducible refine s_gcons ?_
  | with_reducible refine s_gnil ?_
  | with_reducible refine o_addI ?_
  | with_reducible refine o_sub ?_
  | with_reducible refine o_eqI ?_
  | with_reducible refine o_neI ?_
  | with_reducible refine o_ltI ?_
  | with_reducible refine o_le ?_
  | with_reducible refine o_gt ?_
  | with_reducible refine o_ge ?_
  | with_reducible refine o_int ?_
  | with_reducible refine o_intB ?_
  | with_reducible refine o_abs ?_
  | with_reducible refine o_max2 ?_
  | with_reducible refine o_min2 ?_
  | with_reducible refine o_isN ?_
  | with_reducible refine o_notN ?_
  | with_reducible refine o_mulI (by first | exact Or.inl ⟨by decide, by decide⟩ | exact Or.inr ⟨by decide, by decide⟩ | (first | (refine Or.inl ⟨?_, ?_⟩ <;> omega) | (refine Or.inr ⟨?_, ?_⟩ <;> omega))) ?_
  | with_reducible refine o_mod (by first | decide | omega) ?_
  | with_reducible refine o_div (by first | decide | omega) (by first | decide | omega) ?_
  | with_reducible refine s_blx ?_
  | with_reducible refine o_ixL (SqL.of (by assumption)) (by first | with_unfolding_all rfl | with_unfolding_all exact at_zero _ _) ?_
  | with_reducible refine o_ixT (by assumption) (by first | with_unfolding_all rfl | with_unfolding_all exact at_zero _ _) ?_
  | with_reducible refine o_tyL (by assumption) ?_
  | with_reducible refine iteT ?_
  | with_reducible refine iteF ?_)
local macro_rules | `(tactic| walk_at "sx") => `(tactic| repeat (walk_at "s1"))
structure Laid (n : Int) (rs : List (Int × Int)) (ms ls : List Int) : Prop where
  ok : ∀ p ∈ rs, 0 ≤ p.1 ∧ p.1 < p.2 ∧ p.2 < n
  lm : ms.length = rs.length
  ll : ls.length = rs.length
  n0 : 0 ≤ n
  n1 : n ≤ 1000
  r1 : rs.length ≤ 1000
theorem WebOk.laid {n : Int} {rs : List (Int × Int)} {ms ls : List Int} {size room load : Int} (w : WebOk size room load n rs ms) (s : Stand ms ls) (h1 : size ≤ 1000) (h2 : room ≤ 1000) : Laid n rs ms ls :=
  ⟨w.sh.ok, w.lm, by rw [s.len, w.lm], by have := w.sh.two; omega, by have := w.sz; omega, by have := w.rm; omega⟩
def unl (rs : List (Int × Int)) (ls : List Int) (i : Nat) : Bool := (rs[i]?.map fun p => !decide (sumP rs ls p.1 = sumP rs ls p.2)).getD false
def roomy (ms ls : List Int) (i : Nat) (b : Int) : Bool := decide (0 ≤ ls.getD i 0 + b) && decide (ls.getD i 0 + b ≤ ms.getD i 0)
end UW
namespace UW
open PySem PySem.Spec PyProof.Rows L2
/-- one step -/
local macro_rules | `(tactic| walk_at "s1") => `(tactic| first
  | with_reducible refine s_seq ?_
  | with_reducible refine s_for ?_
  | with_reducible refine s_lc ?_
  | with_reducible refine w_seq ?_
  | with_reducible refine w_rng1 ?_
  | with_reducible refine w_rng2 ?_
  | with_reducible refine w_zip ?_
  | with_reducible refine s_asg ?_
  | with_reducible refine s_gname ?_
  | with_reducible refine s_ret ?_
  | with_reducible refine s_drop ?_
  | with_reducible refine s_next ?_
  | with_reducible refine s_ifs ?_
  | with_reducible refine s_var (by with_unfolding_all rfl) ?_
  | with_reducible refine s_c ?_
  | with_reducible refine s_op ?_
  | with_reducible refine s_un ?_
  | with_reducible refine s_neg ?_
  | with_reducible refine s_test ?_
  | with_reducible refine s_yes ?_
  | with_reducible refine s_tB ?_
  | with_reducible refine s_bl ?_
  | with_reducible refine s_not ?_
  | with_reducible refine s_and ?_
  | with_reducible refine s_or ?_
  | with_reducible refine s_andV ?_
  | with_reducible refine s_orV ?_
  | with_reducible refine s_notV ?_
  | with_reducible refine s_chain ?_
  | with_reducible refine s_nil ?_
  | with_reducible refine s_cons ?_
  | with_reducible refine s_tup ?_
  | with_reducible refine s_lst ?_
  | with_reducible refine s_call ?_
  | with_reducible refine s_cb ?_
  | with_reducible refine s_part ?_
  | with_reducible refine s_nopart ?_
  | with_reducible refine s_ii ?_
  | with_reducible refine s_sl ?_
  | with_reducible refine s_par ?_
  | with_reducible refine s_par2 ?_
  | with_reducible refine s_bm ?_
  | with_reducible refine s_gsub ?_
  | with_reducible refine s_gcons ?_
  | with_reducible refine s_gnil ?_
  | with_reducible refine o_addI ?_
  | with_reducible refine o_sub ?_
  | with_reducible refine o_eqI ?_
  | with_reducible refine o_neI ?_
  | with_reducible refine o_ltI ?_
  | with_reducible refine o_le ?_
  | with_reducible refine o_gt ?_
  | with_reducible refine o_ge ?_
  | with_reducible refine o_int ?_
  | with_reducible refine o_intB ?_
  | with_reducible refine o_abs ?_
  | with_reducible refine o_max2 ?_
  | with_reducible refine o_min2 ?_
  | with_reducible refine o_isN ?_
  | with_reducible refine o_notN ?_
  | with_reducible refine o_mulI (by first | exact Or.inl ⟨by decide, by decide⟩ | exact Or.inr ⟨by decide, by decide⟩ | (first | (refine Or.inl ⟨?_, ?_⟩ <;> omega) | (refine Or.inr ⟨?_, ?_⟩ <;> omega))) ?_
  | with_reducible refine o_mod (by first | decide | omega) ?_
  | with_reducible refine o_div (by first | decide | omega) (by first | decide | omega) ?_
  | with_reducible refine s_blx ?_
  | with_reducible refine o_ixL (SqL.of (by assumption)) (by first | with_unfolding_all rfl | with_unfolding_all exact at_zero _ _) ?_
  | with_reducible refine o_ixT (by assumption) (by first | with_unfolding_all rfl | with_unfolding_all exact at_zero _ _) ?_
  | with_reducible refine o_tyL (by assumption) ?_
  | with_reducible refine iteT ?_
  | with_reducible refine iteF ?_)
local macro_rules | `(tactic| walk_at "sx") => `(tactic| repeat (walk_at "s1"))
section
variable {K : Fg} {H : Hp} {Q : VK} {p : Addr} {i a b : Int}
end
end UW
namespace UW
open PySem PySem.Spec PyProof.Rows L2
/-- one step -/
local macro_rules | `(tactic| walk_at "s1") => `(tactic| first
  | with_reducible refine s_seq ?_
  | with_reducible refine s_for ?_
  | with_reducible refine s_lc ?_
  | with_reducible refine w_seq ?_
  | with_reducible refine w_rng1 ?_
  | with_reducible refine w_rng2 ?_
  | with_reducible refine w_zip ?_
  | with_reducible refine s_asg ?_
  | with_reducible refine s_gname ?_
  | with_reducible refine s_ret ?_
  | with_reducible refine s_drop ?_
  | with_reducible refine s_next ?_
  | with_reducible refine s_ifs ?_
  | with_reducible refine s_var (by with_unfolding_all rfl) ?_
  | with_reducible refine s_c ?_
  | with_reducible refine s_op ?_
  | with_reducible refine s_un ?_
  | with_reducible refine s_neg ?_
  | with_reducible refine s_test ?_
  | with_reducible refine s_yes ?_
  | with_reducible refine s_tB ?_
  | with_reducible refine s_bl ?_
  | with_reducible refine s_not ?_
  | with_reducible refine s_and ?_
  | with_reducible refine s_or ?_
  | with_reducible refine s_andV ?_
  | with_reducible refine s_orV ?_
  | with_reducible refine s_notV ?_
  | with_reducible refine s_chain ?_
  | with_reducible refine s_nil ?_
  | with_reducible refine s_cons ?_
  | with_reducible refine s_tup ?_
  | with_reducible refine s_lst ?_
  | with_reducible refine s_call ?_
  | with_reducible refine s_cb ?_
  | with_reducible refine s_part ?_
  | with_reducible refine s_nopart ?_
  | with_reducible refine s_ii ?_
  | with_reducible refine s_sl ?_
  | with_reducible refine s_par ?_
  | with_reducible refine s_par2 ?_
  | with_reducible refine s_bm ?_
  | with_reducible refine s_gsub ?_
  | with_reducible refine s_gcons ?_
  | with_reducible refine s_gnil ?_
  | with_reducible refine o_addI ?_
  | with_reducible refine o_sub ?_
  | with_reducible refine o_eqI ?_
  | with_reducible refine o_neI ?_
  | with_reducible refine o_ltI ?_
  | with_reducible refine o_le ?_
  | with_reducible refine o_gt ?_
  | with_reducible refine o_ge ?_
  | with_reducible refine o_int ?_
  | with_reducible refine o_intB ?_
  | with_reducible refine o_abs ?_
  | with_reducible refine o_max2 ?_
  | with_reducible refine o_min2 ?_
  | with_reducible refine o_isN ?_
  | with_reducible refine o_notN ?_
  | with_reducible refine o_mulI (by first | exact Or.inl ⟨by decide, by decide⟩ | exact Or.inr ⟨by decide, by decide⟩ | (first | (refine Or.inl ⟨?_, ?_⟩ <;> omega) | (refine Or.inr ⟨?_, ?_⟩ <;> omega))) ?_
  | with_reducible refine o_mod (by first | decide | omega) ?_
  | with_reducible refine o_div (by first | decide | omega) (by first | decide | omega) ?_
  | with_reducible refine s_blx ?_
  | with_reducible refine o_ixL (SqL.of (by assumption)) (by first | with_unfolding_all rfl | with_unfolding_all exact at_zero _ _) ?_
  | with_reducible refine o_ixT (by assumption) (by first | with_unfolding_all rfl | with_unfolding_all exact at_zero _ _) ?_
  | with_reducible refine o_tyL (by assumption) ?_
  | with_reducible refine iteT ?_
  | with_reducible refine iteF ?_)
local macro_rules | `(tactic| walk_at "sx") => `(tactic| repeat (walk_at "s1"))
end UW
namespace UW
open PySem PySem.Spec PyProof.Rows L2
/-- what the written part says of the base -/
structure UeC (K : Fg) (CU : Addr) : Prop where
  sg : PySem.W.specialIn K (.ref CU) "__getattribute__" = some (some (.builtin "type.__getattribute__"))
  ty : PySem.W.typeIn K (.ref CU) = some (.type "type")
  rd : PySem.W.readsIn K CU (.type "type") = true
  fi : PySem.W.findCls K (.ref CU) (.type "type") "__init__" = some (.val (.builtin "ValueError.__init__"))
section
variable {X : Cx} {e : Expr} {es : List Expr} {ta : TA} {x : Str} {p1 p2 pos : Pos} {CU C fI : Addr}
theorem pe_ueinit {pl : Sem Bool} (hg : Gl X x) (hm : X.mg x = some (.ref CU)) (T : UeC X.K CU) (ha : PA X (e :: es) ta) (hdb : (x == ("__debug__" : Str)) = false := by decide)
    (hc : eval (.Call (.Attribute (.Name x p1) "__init__" p2) (e :: es) [] pos) X.env = (do
      let o ← eval (.Name x p1) X.env
      standAt p2.atName
      let (f, fs) ← holding [o] (getMethod o "__init__" pl)
      callWith pos f fs (backTo pos (starEach (e :: es) X.env)) (backToKw pos (keywordEach [] X.env))) := by rfl)
    (he : starEach (e :: es) X.env = (false, eval e X.env) :: starEach es X.env := by rfl) (hp : (backTo pos (starEach es X.env)).any (·.1) = false := by rfl) :
    PE X (.Call (.Attribute (.Name x p1) "__init__" p2) (e :: es) [] pos) (tVeI X.K ta) := by
  refine ⟨fun pins s σ H Q I h => ?_⟩
  refine PySem.W.methodCall_KW (ld_glob I hg hm ?_ hdb) hc
  obtain ⟨m, fr⟩ := I.fr
  refine PySem.W.method_of_cls fr I.ok.mod.kin T.sg (PySem.W.cls_val fr I.ok.mod.kin T.ty T.rd T.fi (by decide +kernel) ?_)
  show wpAny _ _ (callWith pos (.builtin "ValueError.__init__") [] (backTo pos (starEach (e :: es) X.env)) []) _ _ _
  refine PyProof.Rows.callWith_method1 (thn (ha.run pos pins _ σ H _ (I.tok _) h) fun us t ⟨vs, H1, J, rv, a, D, ws, ev, hl, O, ea, q⟩ => ?_) he hp
  subst ev
  cases rv with
  | @cons _ u _ ur ra rw' =>
    obtain rfl : u = Value.ref a := ra
    have len := Paired.length rw'
    have fit : ur.length ≤ sizeLine := by
      rw [← len, sizeLine_eq]
      exact Nat.le_trans hl (by decide)
    exact oinit_ok O J ea fit fun t' J' => ⟨.non, H1, J', rfl, q⟩
/-- C(), C's own __init__ keeping sp and changing nothing -/
def tMkB (C : Addr) (sp : Sp) : L2.St → Hp → XK → Prop := fun _ H Q => ∀ a, H a = none → sp [.ref a] (upd H a (exo a C none)) (fun v H2 => v = .non ∧ H2 = upd H a (exo a C none) ∧ Q (.ref C) none H) (fun _ _ _ => False)
/-- the end of such a call -/
theorem bare_end {pins : List (Addr × Obj)} {σ : L2.St} {H1 : Hp} {Q : XK} {hp hp2 h2 : Heap} {g1 g2 : Array GenState} {d1 d2 : Drawn} {t1 t2 : Nat} {os1 os2 : OsState} {a : Addr} (T : Raises X (.ref C)) (I1 : Inv X pins σ H1 ⟨hp, g1, d1, t1, os1⟩)
    (ha : hp.objs.size ≤ a) (k : ∀ b o, hp.get? b = some o → hp2.get? b = some o) (un : Un (frs X.stack) [] (upd H1 a (exo a C none)) (upd H1 a (exo a C none)) hp2 h2) (hok : HOk X.prog X.w (upd H1 a (exo a C none)) h2) (ho : os2 = os1) (hb : AllBare g2)
    (q : Q (.ref C) none H1) : MkP X pins σ Q (.ref a) ⟨h2, g2, d2, t2, os2⟩ := by
  have na : H1 a = none := I1.hok.fresh ha
  obtain ⟨tt, hoe⟩ := exo_at hok upd_same
  obtain ⟨G, ya, yb⟩ := restrict h2 fun b => decide (b ≠ a)
  have gk : ∀ {b}, b ≠ a → G.get? b = h2.get? b := fun {b} n => ya b (decide_eq_true n)
  have ge : G.get? a = none := yb a (by simp)
  have old : ∀ {b : Addr} {o : Obj}, hp.get? b = some o → b ≠ a := fun {b o} z => Nat.ne_of_lt (Nat.lt_of_lt_of_le (Heap.lt_size z) ha)
  have up : ∀ {b : Addr} {o : Option HO}, b ≠ a → H1 b = o → upd H1 a (exo a C none) b = o := fun {b o} n y => (upd_ne n).trans y
  have U : Un (frs X.stack) [] H1 H1 hp G := {
    keep := fun b o z n y1 y2 => by
      rw [gk (old z)]
      exact un.keep b o (k _ _ z) (up (old z) n) y1 y2
    slot := fun b o z n y1 y2 => by
      rw [gk (old z)]
      exact un.slot b o (k _ _ z) (up (old z) n) y1 y2
    free := fun _ _ _ n _ => n
    there := fun b o z y => by
      rw [gk (old z)]
      exact un.there b o (k _ _ z) y
    tups := fun _ _ z => z
    frzs := fun _ _ _ z => z
    tbls := fun b ps z => ⟨#[], by rw [z]; simp⟩ }
  have hok3 : HOk X.prog X.w H1 G := fun b o z => by
    have hba : b ≠ a := fun y => by
      rw [y, na] at z
      cases z
    have hne : ∀ {c : Addr} {u : HO}, H1 c = some u → c ≠ a := fun {c u} y => ne_of_none y na
    refine (hok b o (up hba z)).stay (fun c v hc y => ?_) (fun c hc => ?_) (fun c xs hc => ?_)
    · have hca : c ≠ a := by
        rcases hc with hc | hc
        · rw [hc]
          exact hba
        · exact at_ne upd_same hc exo_own
      rw [gk hca]
      exact y
    · rw [← up (at_ne (upd_same (H := H1)) hc exo_own) rfl]
      exact hc
    · rw [← up (at_ne (upd_same (H := H1)) hc exo_tup) rfl]
      exact hc
  have J : Inv X pins σ H1 ⟨G, g2, d2, t2, os2⟩ := I1.call' (ch := []) ho U hok3 hb (fun b z => absurd z (by simp))
  refine ⟨a, _, _, ⟨G, g2, d2, t2, os2⟩, H1, .ref C, none, rfl, J, fun b o z => ?_, ge, hoe, ⟨rfl, rfl⟩, rfl, rfl, na, rfl, hb, T, q⟩
  by_cases hba : b = a
  · rw [hba, ge] at z
    cases z
  · exact (gk hba).symm.trans z
theorem pmk_bare {CX : CXT} {k : Nat} {fd : FuncData} {sp : Sp} (T : OexC X.K C) (iC : PySem.W.findIn X.K (.ref C) "__init__" = some (some (.ref fI))) (tI : PySem.W.typeIn X.K (.ref fI) = some (.type "function"))
    (F1 : FnOk X.prog X.w X.K X.mg X.base CX k fI fd ["self"] sp) (hr : Room (k + 1) X.A) (hb : Binds X.K fd ["self"] []) (hx : Passes CX X (fun _ _ _ => False)) (hm : X.mg x = some (.ref C)) (hg : Gl X x := by rfl)
    (hdb : (x == ("__debug__" : Str)) = false := by decide) : PMk X (.Call (.Name x p1) [] [] pos) (tMkB C sp) := by
  intro pins s σ H Q I h
  obtain ⟨nm, q, N, bs, bm, sn, sub, ab, col, dd, k0, k1, k2, k3, k5, hC, hbm⟩ := T.cls
  refine wpAny_Call_Name_kw (ld_glob I hg hm ?_ hdb)
  refine PySem.W.callWith_K0 I.kIn T.kC ?_
  show wpAny _ _ (call (.ref C) []) _ _ _
  obtain ⟨hp, g, dr, tk, os⟩ := s
  have hsz : hp.objs.size ≤ hp.objs.size + 1 := Nat.le_succ _
  have hn : H (hp.objs.size + 1) = none := I.hok.fresh hsz
  have hq := h (hp.objs.size + 1) hn
  have kk : ∀ b o, hp.get? b = some o → ((hp.push (PySem.W.kdv_tup [])).push (PySem.HandSPX.excO C hp.objs.size)).get? b = some o := fun _ _ z => Heap.get?_push_of_some _ (Heap.get?_push_of_some _ z)
  have hget : ((hp.push (PySem.W.kdv_tup [])).push (PySem.HandSPX.excO C hp.objs.size)).get? (hp.objs.size + 1) = some (PySem.HandSPX.excO C hp.objs.size) := by heap_get
  have I2 : Inv X pins σ (upd H (hp.objs.size + 1) (exo (hp.objs.size + 1) C none)) ⟨(hp.push (PySem.W.kdv_tup [])).push (PySem.HandSPX.excO C hp.objs.size), g, dr, tk, os⟩ :=
    I.laid (t' := tk) (a := hp.objs.size + 1) (o := exo (hp.objs.size + 1) C none) (h' := (hp.push (PySem.W.kdv_tup [])).push (PySem.HandSPX.excO C hp.objs.size)) kk hsz (exo_ok hget)
  have rv : Vals [V.ref (hp.objs.size + 1)] [Value.ref (hp.objs.size + 1)] := .cons rfl .nil
  refine wpAny_call (PySem.HandSPX.call_own F.excBase_ValueError (fun Y => PySem.HandSPX.refsVE_contains Y bm hbm) (I.kIn _ _ hC) (PySem.W.looks_findIn I.kIn iC) (fun self => PySem.W.bind_fn I.kIn self tI) (Nat.zero_le _)
    (codeAny_mono (F1.run _ X.stack _ _ ⟨[Value.ref (hp.objs.size + 1)], []⟩ [Value.ref (hp.objs.size + 1)] _ _ (fun _ _ _ => False) (hr.make C [] []) (I2.env0.make C [] []) (hb _ [Value.ref (hp.objs.size + 1)] I2.kIn rfl) rv hq) fun r s' hq' => ?_))
  cases r with
  | error er => exact hx pins σ _ _ er s' I2 hq'
  | ok fl =>
    cases fl with
    | ret u =>
      obtain ⟨v, H2, os2, bare2, un2, hok2, ru, ev, eH, q2⟩ := hq'
      subst ev
      subst eH
      obtain ⟨h2, g2, d2, t2, os'⟩ := s'
      exact ⟨ru, bare_end (raises_own T.exC T.tyC) I hsz kk un2 hok2 os2 bare2 q2⟩
    | next => exact False.elim hq'
    | brk => exact False.elim hq'
    | cont => exact False.elim hq'
end
section
variable {H : Hp} {K : Fg} {σ : L2.St} {D : Ends}
end
/-- what __init__ of such does -/
def sp_bare (K : Fg) : Sp := fun vs H Q _ => ∃ (a D : Addr), vs = [.ref a] ∧ OexC K D ∧ H a = some (exo a D none) ∧ Q .non H
theorem l_bare {K : Fg} : ∀ vs H Q E, sp_bare K vs H Q E → vs.length = 1 := by
  rintro vs H Q E ⟨a, D, rfl, _⟩
  rfl
def t_bare (K : Fg) (z : Str) : TS := tDrop (tVeI K (tCons (tVar 0) (tCons (tC (.str z)) tNil)))
theorem p_bare {K : Fg} {z : Str} {vs : List V} {H : Hp} {Q : VK} {E : XK} (h : sp_bare K vs H Q E) : t_bare K z { nx := fun _ H' => Q .non H', rt := Q } (start ["self"] vs) H := by
  obtain ⟨a, D, rfl, T, ha, q⟩ := h
  refine ⟨_, rfl, a, D, _, rfl, ?_, T, ha, q⟩
  show 1 ≤ 1000
  decide
/-- raise C(), the making told -/
theorem s_raise {K : Fg} {C : Addr} {σ : L2.St} {H : Hp} {Q : XK} (T : OexC K C) (k : Q (.ref C) none H) : tMkB C (sp_bare K) σ H Q := fun a _ => ⟨a, C, rfl, T, upd_same, rfl, rfl, k⟩
end UW
namespace UW
open PySem PySem.Spec PyProof.Rows L2
mutual
/-- G holds of the addresses of what might be changed -/
inductive Od (K : Fg) (G : Addr → Prop) (H : Hp) : V → PyData → Prop
  | non : Od K G H .non .none
  | bl (b : Bool) : Od K G H (.bl b) (.bool b)
  | int (i : Int) : Od K G H (.int i) (.int i)
  | str (x : Str) : Od K G H (.str x) (.str x)
  | lst {a : Addr} {xs : List V} {ds : List PyData} : G a → H a = some (.lst xs) → Ods K G H xs ds → Od K G H (.ref a) (.list ds)
  | tup {a : Addr} {xs : List V} {ds : List PyData} : SqT K H a xs → Ods K G H xs ds → Od K G H (.ref a) (.tuple ds)
  | dic {a : Addr} : G a → H a = some (.dK []) → Od K G H (.ref a) (.dict [])
  | dic1 {a : Addr} {j : Int} {v : V} {d : PyData} : G a → H a = some (.dK [(.inl j, v)]) → Od K G H v d → Od K G H (.ref a) (.dict [(.int j, d)])
inductive Ods (K : Fg) (G : Addr → Prop) (H : Hp) : List V → List PyData → Prop
  | nil : Ods K G H [] []
  | cons {v : V} {vs : List V} {d : PyData} {ds : List PyData} : Od K G H v d → Ods K G H vs ds → Ods K G H (v :: vs) (d :: ds)
end
section
variable {K : Fg} {G G' : Addr → Prop} {H H' : Hp}
mutual
theorem Od.mv (t : Tm H H') (g : ∀ a o, G a → H a = some o → G' a ∧ H' a = some o) : ∀ {v : V} {d : PyData}, Od K G H v d → Od K G' H' v d
  | _, _, .non => .non
  | _, _, .bl b => .bl b
  | _, _, .int i => .int i
  | _, _, .str x => .str x
  | _, _, .lst ga h hs => .lst (g _ _ ga h).1 (g _ _ ga h).2 (Ods.mv t g hs)
  | _, _, .tup h hs => .tup (t.sq h) (Ods.mv t g hs)
  | _, _, .dic ga h => .dic (g _ _ ga h).1 (g _ _ ga h).2
  | _, _, .dic1 ga h hv => .dic1 (g _ _ ga h).1 (g _ _ ga h).2 (Od.mv t g hv)
theorem Ods.mv (t : Tm H H') (g : ∀ a o, G a → H a = some o → G' a ∧ H' a = some o) : ∀ {vs : List V} {ds : List PyData}, Ods K G H vs ds → Ods K G' H' vs ds
  | _, _, .nil => .nil
  | _, _, .cons h hs => .cons (Od.mv t g h) (Ods.mv t g hs)
end
theorem Od.same (e : Same H H') {v : V} {d : PyData} (h : Od K G H v d) : Od K G H' v d := h.mv (Tm.same e) fun a o ga q => ⟨ga, e a o q⟩
theorem Ods.same (e : Same H H') {v : List V} {d : List PyData} (h : Ods K G H v d) : Ods K G H' v d := h.mv (Tm.same e) fun a o ga q => ⟨ga, e a o q⟩
mutual
theorem Tp.od : ∀ {v : V} {d : PyData}, Tp K H v d → Od K G H v d
  | _, _, .non => .non
  | _, _, .bl b => .bl b
  | _, _, .int i => .int i
  | _, _, .str x => .str x
  | _, _, .tup h hs => .tup h (Tps.ods hs)
theorem Tps.ods : ∀ {vs : List V} {ds : List PyData}, Tps K H vs ds → Ods K G H vs ds
  | _, _, .nil => .nil
  | _, _, .cons h hs => .cons (Tp.od h) (Tps.ods hs)
end
theorem Ods.length : ∀ {xs : List V} {ds : List PyData}, Ods K G H xs ds → xs.length = ds.length
  | _, _, .nil => rfl
  | _, _, .cons _ h => by rw [List.length_cons, List.length_cons, Ods.length h]
theorem Ods.get : ∀ {xs : List V} {ds : List PyData} {i : Nat} {x : V}, Ods K G H xs ds → xs[i]? = some x → ∃ d, ds[i]? = some d ∧ Od K G H x d
  | _, _, _, _, .nil, e => by simp at e
  | _, _, 0, _, .cons h _, e => by
    simp at e
    subst e
    exact ⟨_, rfl, h⟩
  | _, _, i + 1, x, .cons _ t, e => by
    obtain ⟨d, h1, h2⟩ := Ods.get (i := i) t (by simpa using e)
    exact ⟨d, by simpa using h1, h2⟩
theorem Ods.nth : ∀ {xs : List V} {ds : List PyData} {i : Nat} {d : PyData}, Ods K G H xs ds → ds[i]? = some d → ∃ x, xs[i]? = some x ∧ Od K G H x d
  | _, _, _, _, .nil, e => by simp at e
  | _, _, 0, _, .cons h _, e => by
    simp at e
    subst e
    exact ⟨_, rfl, h⟩
  | _, _, i + 1, x, .cons _ t, e => by
    obtain ⟨d, h1, h2⟩ := Ods.nth (i := i) t (by simpa using e)
    exact ⟨d, by simpa using h1, h2⟩
theorem Ods.append : ∀ {xs ys : List V} {ds es : List PyData}, Ods K G H xs ds → Ods K G H ys es → Ods K G H (xs ++ ys) (ds ++ es)
  | _, _, _, _, .nil, s => s
  | _, _, _, _, .cons r t, s => .cons r (Ods.append t s)
/-- the kind of data -/
def tyD : PyData → Value
  | .none => .type "NoneType"
  | .bool _ => .type "bool"
  | .int _ => .type "int"
  | .str _ => .type "str"
  | .list _ => .type "list"
  | .tuple _ => .type "tuple"
  | .dict _ => .type "dict"
theorem Od.ty {v : V} {d : PyData} (h : Od K G H v d) : TyX K H v (tyD d) := by
  cases h with
  | non => exact .base .non
  | bl b => exact .base (.bl b)
  | int i => exact .base (.int i)
  | str x => exact .base (.str x)
  | lst g h hs => exact .base (.lst h)
  | tup h hs =>
    exact .base (.tup h)
  | dic g h => exact .base (.dK h)
  | dic1 g h _ => exact .base (.dK h)
end
section
variable {X : Cx} {pins : List (Addr × Obj)} {σ : L2.St} {G : Addr → Prop} {H : Hp} {s : Shared}
/-- the place of the modules' dict is taken ahead of all -/
def Smb (h : Heap) : Prop := ∃ o, h.get? sysModules = some o
theorem smb_ne {a : Addr} {o : HO} (I : Inv X pins σ H s) (hs : Smb X.base) (h : H a = some o) : a ≠ sysModules := by
  obtain ⟨m, e⟩ := hs
  exact ne_of_none h (I.bs _ _ e).2
mutual
theorem Od.reads (I : Inv X pins σ H s) (g1 : Smb X.base) : ∀ {d : PyData} {v : V} {u : Value}, Od X.K G H v d → RelV v u → ∃ as, Reads s.heap u d as ∧ sysModules ∉ as
  | _, _, _, .non, r => by
    cases r
    exact ⟨_, .none, by simp⟩
  | _, _, _, .bl b, r => by
    cases r
    exact ⟨_, .bool b, by simp⟩
  | _, _, _, .int i, r => by
    obtain ⟨t, rfl⟩ := r
    exact ⟨_, .int i t, by simp⟩
  | _, _, _, .str x, r => by
    obtain ⟨t, rfl⟩ := r
    exact ⟨_, .str x t, by simp⟩
  | _, _, _, .lst ga h hs, r => by
    cases r
    obtain ⟨its, rv, ⟨o, n, ho, hc, _, hd⟩, _⟩ := I.list (SqL.of h)
    obtain ⟨as, hr, nn⟩ := Ods.reads I g1 hs rv
    exact ⟨_, .list ho hc hd hr, fun m => (List.mem_cons.mp m).elim (fun e => smb_ne I g1 h e.symm) nn⟩
  | _, _, _, .tup h hs, r => by
    cases r
    obtain ⟨its, rv, ⟨o, ho, hc, n, hd⟩, _⟩ := I.tuple h.up
    obtain ⟨as, hr, nn⟩ := Ods.reads I g1 hs rv
    exact ⟨_, .tuple ho hc hd hr, nn⟩
  | _, _, _, .dic (a := a) ga h, r => by
    cases r
    obtain ⟨_, _, vs, kv, o, es, ep, ho, hx, hd, hs⟩ := dk_of I.hok h
    cases kv
    have e0 : es.toList = [] := by
      have h0 := hs.2.1
      generalize es.toList = l at h0
      cases h0
      rfl
    exact ⟨_, .dict (kvs := []) (as := []) (bs := []) ho hx.1 hd (by rw [e0]; exact .nil) (by rw [e0]; exact .nil), fun m => smb_ne I g1 h (by simpa using m : sysModules = _).symm⟩
  | _, _, _, .dic1 (a := a) (j := j) ga h hv, r => by
    cases r
    obtain ⟨_, _, vs, kv, o, es, ep, ho, hx, hd, hs⟩ := dk_of I.hok h
    obtain ⟨_, hp, _⟩ := hs
    cases kv with
    | cons k1 k2 =>
      cases k2
      generalize hl : es.toList = l at hp
      cases hp with
      | cons a1 a2 a3 =>
        cases a3
        obtain ⟨e1, e2⟩ := k1
        rw [← a2] at e2
        obtain ⟨bs, q2, n2⟩ := Od.reads I g1 hv e2
        rw [← e1] at a1
        obtain ⟨t, e3⟩ := Value.isInt_shape a1
        refine ⟨_, .dict (kvs := [(.int j, _)]) ho hx.1 hd (by rw [hl]; exact .cons (by show Reads s.heap (DictEntry.key _) (.int j) _; rw [e3]; exact .int j t) .nil) (by rw [hl]; exact .cons q2 .nil), fun m => ?_⟩
        simp only [List.append_nil, List.nil_append, List.cons_append, List.mem_cons] at m
        exact m.elim (fun e => smb_ne I g1 h e.symm) n2
theorem Ods.reads (I : Inv X pins σ H s) (g1 : Smb X.base) : ∀ {ds : List PyData} {vs : List V} {us : List Value}, Ods X.K G H vs ds → Vals vs us → ∃ as, ReadsAll s.heap us ds as ∧ sysModules ∉ as
  | _, _, _, .nil, r => by
    cases r
    exact ⟨_, .nil, by simp⟩
  | _, _, _, .cons h hs, r => by
    cases r with
    | cons r1 r2 =>
      obtain ⟨as, q1, n1⟩ := Od.reads I g1 h r1
      obtain ⟨bs, q2, n2⟩ := Ods.reads I g1 hs r2
      exact ⟨_, .cons q1 q2, fun m => (List.mem_append.mp m).elim n1 n2⟩
end
/-- repr(x), x odd data -/
def rReprO (K : Fg) : List V → Hp → VK → Prop := fun xs H Q => ∃ (G : Addr → Prop) (v : V) (d : PyData), xs = [v] ∧ Od K G H v d ∧ d.showable = true ∧ d.depth ≤ 60 ∧ d.shown.length ≤ sizeLine ∧ Q (.str d.shown) H
theorem call_reprO (hG : X.A.guards = some []) (hu : X.A.units + 64 < cLine) (g1 : Smb X.base) : CallR X (.builtin "repr") (rReprO X.K) := by
  intro pins s σ H xs us Q I r h
  obtain ⟨G, v, d, rfl, hd, h1, h3, h4, q⟩ := h
  cases r with
  | cons ra rn =>
    rename_i u ur
    cases rn
    obtain ⟨as, rd, nn⟩ := hd.reads I g1 ra
    have fin : ∀ {h' : Heap} {t : Tok} {tk : Nat}, (∀ b o, s.heap.get? b = some o → h'.get? b = some o) → EP X pins σ Q (.str d.shown t) { s with heap := h', toks := tk } := fun hk => ⟨.str d.shown, H, I.kept hk, ⟨_, rfl⟩, q⟩
    cases hd with
    | non =>
      cases ra
      exact PySem.P.repr_of_none ⟨.str _, H, I.tok _, ⟨_, rfl⟩, by rw [PyData.shown_none] at q; exact q⟩
    | bl b =>
      cases ra
      exact PySem.P.repr_of_bool ⟨.str _, H, I.tok _, ⟨_, rfl⟩, by rw [PyData.shown_bool] at q; exact q⟩
    | int i =>
      obtain ⟨t, rfl⟩ := ra
      exact PySem.P.repr_of_int (by simpa [PyData.showable] using h1) ⟨.str _, H, I.tok _, ⟨_, rfl⟩, by rw [PyData.shown_int] at q; exact q⟩
    | str x =>
      obtain ⟨t, rfl⟩ := ra
      rw [PyData.shown_str] at h4 q
      exact PySem.P.repr_of_str ⟨.str _, H, I.tok _, ⟨_, rfl⟩, q⟩ h4
    | lst ga h hs =>
      cases ra
      exact repr_of_reads' rd h1 (fun _ => nn) hG (by omega) (fun _ _ e => e) (fun _ _ _ hk => fin hk) h4
    | tup h hs =>
      cases ra
      exact repr_of_reads' rd h1 (fun _ => nn) hG (by omega) (fun _ _ e => e) (fun _ _ _ hk => fin hk) h4
    | dic ga h =>
      cases ra
      exact repr_of_reads' rd h1 (fun _ => nn) hG (by omega) (fun _ _ e => e) (fun _ _ _ hk => fin hk) h4
    | dic1 ga h hv =>
      cases ra
      exact repr_of_reads' rd h1 (fun _ => nn) hG (by omega) (fun _ _ e => e) (fun _ _ _ hk => fin hk) h4
/-- repr, in either way -/
def rReprU (K : Fg) : List V → Hp → VK → Prop := fun xs H Q => rRepr K xs H Q ∨ rReprO K xs H Q
theorem call_reprU (hG : X.A.guards = some []) (hu : X.A.units + 64 < cLine) (g1 : Smb X.base) : CallR X (.builtin "repr") (rReprU X.K) := by
  intro pins s σ H xs us Q I r h
  rcases h with h | h
  · exact call_repr hG hu pins s σ H xs us Q I r h
  · exact call_reprO hG hu g1 pins s σ H xs us Q I r h
end
/-- what is told of an own class C of errors, under the class D -/
structure ExT (K : Fg) (C D : Addr) : Prop where
  o : OexC K C
  x : ExcC K C
  e : PySem.W.exmOne K (.ref C) (.ref C) = some true
  q : PySem.W.kitOne K (.ref C) (.ref D) = some true
/-- raise -/
def tRaise (t : L2.St → Hp → XK → Prop) (W : WX) : TS := fun _ σ H => t σ H fun cls d H' => W cls d σ H'
/-- the classes of errors -/
structure Cl where
  (UnevenError BadWeb BadStanding BadText Unfit NotJoined TooMany NoName Taken BadBatch Rejected TooManyEdits NothingToUndo NothingToRedo NoVersion BadLog : Addr)
end UW
namespace UW
open PySem PySem.Spec PyProof.Rows L2
theorem law_goM {P : Program} {w : World} {K : Fg} {mg mb : Str → Option Value} {k : Nat} {fa a : Addr} {fd : FuncData} {x : Str} {sp : Sp} {s : Shared} {vs : List Value} {H : Hp}
    (KX : K.In s.heap) (hns : s.heap.Ns mainGlobals mg) (hb : s.heap.Ns builtinsNs mb) (hbb : ∀ x : Str, x ≠ "__name__" → mb x = bootBuiltins x) (hlim : s.heap.NoLimit) (hg : s.gens = #[])
    (ha : s.heap.get? a = some { cls := .type "list", data := .seq vs.toArray }) (hr : Room k callerA) (sm : ∃ mm, s.heap.Ns sysModules mm)
    (F : ∀ base : Heap, K.In base → base.Ns mainGlobals mg → Smb base → FnG P w K mg base k fa fd [x] sp) (hbind : ∀ (s : Shared) (u : Value), BindsTo s fd ⟨[u], []⟩ [(x, u)])
    (hO : Only H) (hA : ∀ b, H b ≠ none → b = a) (hK : H a ≠ none → K.lookup a = none) (hok : HOk P w H s.heap)
    (hsp : sp [.ref a] H (fun v _ => v = .bl true) fun _ _ _ => False) :
    codeAny (model P w) callerA (.call (.ref fa) ⟨[.ref a], []⟩) (fun r s' => r = .ok (.ret (.bool true)) ∧ OldK s.heap s'.heap ∧ s'.os = s.os ∧ AllBare s'.gens) s := by
  have isA : ∀ {b : Addr} {u : HO}, H b = some u → b = a := fun {b u} q => hA b (by rw [q]; intro z; cases z)
  have seen : ∀ {b : Addr} {o : Obj}, s.heap.get? b = some o → H b = none → (hidT s.heap H).get? b = some o := fun e n => hidT_get e n
  have dfree : ∀ {b : Addr} {o : Obj} {es : Array DictEntry} {ep : Nat}, s.heap.get? b = some o → o.data = .dict es ep → H b = none := by
    intro b o es ep e d
    cases q : H b with
    | none => rfl
    | some u =>
      have z := isA q
      rw [z, ha] at e
      cases e
      cases d
  have ns' : ∀ {b : Addr} {m : Str → Option Value}, s.heap.Ns b m → (hidT s.heap H).Ns b m := by
    rintro b m ⟨o, es, ep, e, d, r⟩
    exact ⟨o, es, ep, seen e (dfree e d), d, r⟩
  have kfree : ∀ {b : Addr} {o : Obj}, K.lookup b = some o → H b = none := by
    intro b o e
    cases q : H b with
    | none => rfl
    | some u =>
      have z := isA q
      subst z
      have y := hK (by rw [q]; intro z; cases z)
      rw [y] at e
      cases e
  have kin : K.In (hidT s.heap H) := fun b o e => seen (KX b o e) (kfree e)
  obtain ⟨mc, l1, l2⟩ := hlim
  have hM : Mod K mg (hidT s.heap H) := ⟨kin, ns' hns, ⟨mb, ns' hb, hbb⟩, ⟨mc, ns' l1, l2⟩⟩
  have sB : Smb (hidT s.heap H) := by
    obtain ⟨mm, z⟩ := sm
    obtain ⟨o, _, _, e, _⟩ := ns' z
    exact ⟨o, e⟩
  have nof : ∀ b : Addr, b ∉ frs [] := fun b z => by cases z
  have e0 : Env0 P w K mg (hidT s.heap H) callerA [] s H := ⟨rfl, hM, fun b o e => of_hidT e, Nat.le_of_eq (hidT_size _ _), trivial, fun b z => absurd z (nof b), hok, .of_eq hg⟩
  refine codeAny_mono ((F _ kin (ns' hns) sB).go callerA [] s H ⟨[.ref a], []⟩ [.ref a] [.ref a] _ _ rfl hr e0 (hbind s (.ref a)) (.cons rfl .nil) hsp) ?_
  intro r s' h
  cases r with
  | error e =>
    obtain ⟨_, _, _, _, _, _, _, _, _, _, _, _, z⟩ := h
    exact (z : False).elim
  | ok fl =>
    cases fl with
    | next => exact False.elim h
    | brk => exact False.elim h
    | cont => exact False.elim h
    | ret u =>
      obtain ⟨v, H', os, bare, un, hok', rv, q⟩ := h
      have q' : v = .bl true := q
      subst q'
      obtain rfl : u = Value.bool true := rv
      refine ⟨rfl, OldK.of_keep ?_, os, bare⟩
      intro b o e
      rcases hO b with z | ⟨ob, xs, z⟩
      · exact un.keep b o e z (nof b) (by simp)
      · obtain ⟨e1, _⟩ := hok b _ z
        obtain ⟨e2, _⟩ := hok' b _ (un.frzs b ob _ z)
        rw [e] at e1
        cases e1
        exact e2
theorem law_anyM {P : Program} {w : World} {K : Fg} {mg mb : Str → Option Value} {k : Nat} {fa a : Addr} {fd : FuncData} {x : Str} {sp : Sp} {s : Shared} {vs : List Value} {ns : List Int}
    (KX : K.In s.heap) (hns : s.heap.Ns mainGlobals mg) (hb : s.heap.Ns builtinsNs mb) (hbb : ∀ x : Str, x ≠ "__name__" → mb x = bootBuiltins x) (hlim : s.heap.NoLimit) (hg : s.gens = #[])
    (ha : s.heap.get? a = some { cls := .type "list", data := .seq vs.toArray }) (hi : IntsAre vs ns) (hl : ns.length ≤ sizeLine) (hr : Room k callerA) (sm : ∃ mm, s.heap.Ns sysModules mm)
    (F : ∀ base : Heap, K.In base → base.Ns mainGlobals mg → Smb base → FnG P w K mg base k fa fd [x] sp) (hbind : ∀ (s : Shared) (u : Value), BindsTo s fd ⟨[u], []⟩ [(x, u)])
    (hsp : ∀ H : Hp, Only H → SqL K H a (ns.map V.int) → sp [.ref a] H (fun v _ => v = .bl true) fun _ _ _ => False) :
    codeAny (model P w) callerA (.call (.ref fa) ⟨[.ref a], []⟩) (fun r s' => r = .ok (.ret (.bool true)) ∧ OldK s.heap s'.heap ∧ s'.os = s.os ∧ AllBare s'.gens) s := by
  have rv := vals_ints hi
  have lv := hi.length
  cases hk : K.lookup a with
  | some o =>
    have e := KX a o hk
    rw [ha] at e
    cases e
    have hO : Only fun _ => none := fun _ => .inl rfl
    have hS : SqL K (fun _ => none) a (ns.map V.int) := .inr ⟨_, vs.toArray, _, hk, rfl, rfl, rfl, by rw [List.size_toArray, lv]; exact hl, by simpa using rv⟩
    exact law_goM KX hns hb hbb hlim hg ha hr sm F hbind hO (fun b z => absurd rfl z) (fun z => absurd rfl z) (fun b u z => by cases z) (hsp _ hO hS)
  | none =>
    have hO : Only (scrH a { cls := .type "list", data := .seq vs.toArray } (.lst (ns.map V.int))) := by
      intro b
      unfold scrH
      split
      · exact .inr ⟨_, _, rfl⟩
      · exact .inl rfl
    have hS : SqL K (scrH a { cls := .type "list", data := .seq vs.toArray } (.lst (ns.map V.int))) a (ns.map V.int) := .inl (.inr ⟨_, if_pos rfl⟩)
    refine law_goM KX hns hb hbb hlim hg ha hr sm F hbind hO ?_ (fun _ => hk) ?_ (hsp _ hO hS)
    · intro b z
      by_cases q : b = a
      · exact q
      · exact absurd (if_neg q) z
    · intro b u z
      by_cases q : b = a
      · subst q
        have z' := (if_pos rfl).symm.trans z
        cases z'
        exact ⟨ha, by rw [List.length_map]; exact hl, vs, _, rv, ha⟩
      · have z' := (if_neg q).symm.trans z
        cases z'
/-- what k_head leaves, from the law's promise; sp may lean on what is told of K -/
theorem walk_GM {l : PySem.W.OpenLaw} {n k : Nat} {q : Program} {loose : List Str} {XP : (Str → Option Value) → Heap → Prop} {YP : World → Heap → Prop} {d : DefRec} {K : Params → Fg} {x : Str}
    (hn : l.most = some n) (hn2 : n ≤ sizeLine) (hdf : d.params.defaults = []) (hr : Room k callerA) (hi : importsNone q = true)
    (hY : ∀ (w : World) (h : Heap), YP w h → (K w.params).In h)
    (F : ∀ (w : World) (mg : Str → Option Value) (fa : Addr) (h : Heap), (K w.params).In h → h.Ns mainGlobals mg → mg d.name = some (.ref fa) →
      ∃ (fd : FuncData) (sp : Sp), (∀ (s : Shared) (u : Value), BindsTo s fd ⟨[u], []⟩ [(x, u)]) ∧
        (∀ base : Heap, (K w.params).In base → base.Ns mainGlobals mg → Smb base → FnG l.prog w (K w.params) mg base k fa fd [x] sp) ∧
        ∀ (H : Hp) (a : Addr) (ns : List Int), ns.length ≤ n → SqL (K w.params) H a (ns.map V.int) → sp [.ref a] H (fun v _ => v = .bl true) fun _ _ _ => False) :
    PySem.W.WalkO q loose XP YP l.row.toRowW d [] (fun f vs => PySem.call f vs) := by
  refine Att.attach_call hn hdf ?_
  intro w s₀ s₁ mg mb fa o pm cd doc a vs ns G Y ho hd hcd hmg hobj hints hlen hg
  have KX := hY w _ Y
  obtain ⟨fd, sp, hb, hF, hsp⟩ := F w mg fa _ KX G.T.g hmg
  have sm : ∃ mm, s₁.heap.Ns sysModules mm := by
    obtain ⟨mm, z, _⟩ := (G.T.seer hi).mods
    exact ⟨mm, z⟩
  exact law_anyM KX G.T.g G.T.b G.T.builtins G.T.nolimit hg hobj hints (Nat.le_trans hlen hn2) hr sm hF hb fun H hO hS => hsp H a ns hlen hS
end UW
namespace UW
open PySem PySem.Spec PyProof.Rows L2
theorem okd_int {i : Int} (h : i.natAbs < 1000000) : Okd (.int i) 0 121 := Okd.int (Nat.lt_of_lt_of_le h (by decide))
theorem okd_dP {p : Int × Int} (h1 : p.1.natAbs < 1000000) (h2 : p.2.natAbs < 1000000) : Okd (dP p) 1 248 := by
  unfold dP
  refine Okd.tup (n := 121) (m := 2) (fun d hd => ?_) (Nat.le_refl _)
  rcases List.mem_cons.mp hd with rfl | hd
  · exact okd_int h1
  · rcases List.mem_cons.mp hd with rfl | hd
    · exact okd_int h2
    · cases hd
theorem okd_dPs {l : List (Int × Int)} {m : Nat} (h : ∀ p ∈ l, p.1.natAbs < 1000000 ∧ p.2.natAbs < 1000000) (hl : l.length ≤ m) : Okd (dPs l) 2 (m * 250 + 2) := by
  unfold dPs
  refine Okd.tup (n := 248) (fun d hd => ?_) (by rw [List.length_map]; exact hl)
  obtain ⟨p, hp, rfl⟩ := List.mem_map.mp hd
  exact okd_dP (h p hp).1 (h p hp).2
theorem okd_dIs {l : List Int} {m : Nat} (h : ∀ i ∈ l, i.natAbs < 1000000) (hl : l.length ≤ m) : Okd (dIs l) 1 (m * 123 + 2) := by
  unfold dIs
  refine Okd.tup (n := 121) (fun d hd => ?_) (by rw [List.length_map]; exact hl)
  obtain ⟨p, hp, rfl⟩ := List.mem_map.mp hd
  exact okd_int (h p hp)
theorem okd_web {n : Int} {rs : List (Int × Int)} {ms : List Int} (w : WebOk 24 40 9 n rs ms) : Okd (dWeb n rs ms) 3 30014 := by
  have h0 := w.sh.two
  have h1 := w.sz
  have h2 := w.rm
  unfold dWeb
  refine Okd.tup (n := 10002) (m := 3) (fun d hd => ?_) (Nat.le_refl _)
  rcases List.mem_cons.mp hd with rfl | hd
  · exact (okd_int (by omega)).mono (by decide) (by decide)
  rcases List.mem_cons.mp hd with rfl | hd
  · exact okd_dPs (m := 40) (fun p hp => by have := w.sh.ok p hp; omega) (by omega)
  rcases List.mem_cons.mp hd with rfl | hd
  · exact (okd_dIs (m := 40) (fun i hi => by have := w.ld i hi; omega) (by have := w.lm; omega)).mono (by decide) (by decide)
  · cases hd
theorem shaped_of {d : PyData} (h1 : d.canLay0 = true) (h2 : d.depth ≤ 60) : SeqAt.shaped d = true := by
  show (_ && decide _) = true
  rw [h1, Bool.true_and]
  exact decide_eq_true (Nat.le_trans h2 (by decide))
section
variable {K : Fg} {H : Hp} {Q : VK} {a : Addr} {d : PyData} {σ : L2.St}
end
def sp_law (K : Fg) : Sp := fun vs H Q _ => ∃ (a : Addr) (ns : List Int), vs = [.ref a] ∧ SqL K H a (ns.map V.int) ∧ ns.length ≤ 63 ∧ ∀ H' : Hp, Q (.bl true) H'
theorem l_law {K : Fg} : ∀ vs H Q E, sp_law K vs H Q E → vs.length = 1 := by
  rintro vs H Q E ⟨a, ns, rfl, _⟩
  rfl
end UW
namespace UW
open PySem PySem.Spec PyProof.Rows L2
/-- one step -/
local macro_rules | `(tactic| walk_at "s1") => `(tactic| first
  | with_reducible refine s_seq ?_
  | with_reducible refine s_for ?_
  | with_reducible refine s_lc ?_
  | with_reducible refine w_seq ?_
  | with_reducible refine w_rng1 ?_
  | with_reducible refine w_rng2 ?_
  | with_reducible refine w_zip ?_
  | with_reducible refine s_asg ?_
  | with_reducible refine s_gname ?_
  | with_reducible refine s_ret ?_
  | with_reducible refine s_drop ?_
  | with_reducible refine s_next ?_
  | with_reducible refine s_ifs ?_
  | with_reducible refine s_var (by with_unfolding_all rfl) ?_
  | with_reducible refine s_c ?_
  | with_reducible refine s_op ?_
  | with_reducible refine s_un ?_
  | with_reducible refine s_neg ?_
  | with_reducible refine s_test ?_
  | with_reducible refine s_yes ?_
  | with_reducible refine s_tB ?_
  | with_reducible refine s_bl ?_
  | with_reducible refine s_not ?_
  | with_reducible refine s_and ?_
  | with_reducible refine s_or ?_
  | with_reducible refine s_andV ?_
  | with_reducible refine s_orV ?_
  | with_reducible refine s_notV ?_
  | with_reducible refine s_chain ?_
  | with_reducible refine s_nil ?_
  | with_reducible refine s_cons ?_
  | with_reducible refine s_tup ?_
  | with_reducible refine s_lst ?_
  | with_reducible refine s_call ?_
  | with_reducible refine s_cb ?_
  | with_reducible refine s_part ?_
  | with_reducible refine s_nopart ?_
  | with_reducible refine s_ii ?_
  | with_reducible refine s_sl ?_
  | with_reducible refine s_par ?_
  | with_reducible refine s_par2 ?_
  | with_reducible refine s_bm ?_
  | with_reducible refine s_gsub ?_
  | with_reducible refine s_gcons ?_
  | with_reducible refine s_gnil ?_
  | with_reducible refine o_addI ?_
  | with_reducible refine o_sub ?_
  | with_reducible refine o_eqI ?_
  | with_reducible refine o_neI ?_
  | with_reducible refine o_ltI ?_
  | with_reducible refine o_le ?_
  | with_reducible refine o_gt ?_
  | with_reducible refine o_ge ?_
  | with_reducible refine o_int ?_
  | with_reducible refine o_intB ?_
  | with_reducible refine o_abs ?_
  | with_reducible refine o_max2 ?_
  | with_reducible refine o_min2 ?_
  | with_reducible refine o_isN ?_
  | with_reducible refine o_notN ?_
  | with_reducible refine o_mulI (by first | exact Or.inl ⟨by decide, by decide⟩ | exact Or.inr ⟨by decide, by decide⟩ | (first | (refine Or.inl ⟨?_, ?_⟩ <;> omega) | (refine Or.inr ⟨?_, ?_⟩ <;> omega))) ?_
  | with_reducible refine o_mod (by first | decide | omega) ?_
  | with_reducible refine o_div (by first | decide | omega) (by first | decide | omega) ?_
  | with_reducible refine s_blx ?_
  | with_reducible refine o_ixL (SqL.of (by assumption)) (by first | with_unfolding_all rfl | with_unfolding_all exact at_zero _ _) ?_
  | with_reducible refine o_ixT (by assumption) (by first | with_unfolding_all rfl | with_unfolding_all exact at_zero _ _) ?_
  | with_reducible refine o_tyL (by assumption) ?_
  | with_reducible refine iteT ?_
  | with_reducible refine iteF ?_)
local macro_rules | `(tactic| walk_at "sx") => `(tactic| repeat (walk_at "s1"))
/-- what repr of odd data may cost -/
structure Okx (d : PyData) (k n : Nat) : Prop where
  sh : d.showable = true
  dp : d.depth ≤ k
  ln : d.shown.length ≤ n
theorem Okd.x {d : PyData} {k n : Nat} (h : Okd d k n) : Okx d k n := ⟨h.sh, h.dp, h.ln⟩
theorem Okx.mono {d : PyData} {k n k' n' : Nat} (h : Okx d k n) (hk : k ≤ k') (hn : n ≤ n') : Okx d k' n' := ⟨h.sh, Nat.le_trans h.dp hk, Nat.le_trans h.ln hn⟩
theorem okx_all {ds : List PyData} {k n : Nat} (h : ∀ d ∈ ds, Okx d k n) : PyData.showableAll ds = true ∧ PyData.depthAll ds ≤ k ∧ piled (PyData.shownAll ds) ≤ ds.length * (n + 2) := by
  induction ds with
  | nil => exact ⟨by simp only [PyData.showableAll], by simp only [PyData.depthAll]; omega, by simp only [PyData.shownAll]; simp [piled]⟩
  | cons d ds ih =>
    obtain ⟨a, c, e⟩ := ih fun x hx => h x (List.mem_cons_of_mem _ hx)
    have q := h d (List.mem_cons_self ..)
    refine ⟨by simp only [PyData.showableAll]; rw [q.sh, a]; rfl, by simp only [PyData.depthAll]; have := q.dp; omega, ?_⟩
    simp only [PyData.shownAll]
    rw [piled_cons, List.length_cons]
    have := q.ln
    have e2 : (ds.length + 1) * (n + 2) = ds.length * (n + 2) + (n + 2) := Nat.succ_mul _ _
    omega
theorem Okx.tup {ds : List PyData} {k n m : Nat} (h : ∀ d ∈ ds, Okx d k n) (hl : ds.length ≤ m) : Okx (.tuple ds) (k + 1) (m * (n + 2) + 2) := by
  obtain ⟨a, c, e⟩ := okx_all h
  refine ⟨by simp only [PyData.showable]; exact a, by simp only [PyData.depth]; omega, ?_⟩
  simp only [PyData.shown]
  refine Nat.le_trans (tupText_le _) ?_
  have := Nat.mul_le_mul_right (n + 2) hl
  omega
theorem Okx.lst {ds : List PyData} {k n m : Nat} (h : ∀ d ∈ ds, Okx d k n) (hl : ds.length ≤ m) : Okx (.list ds) (k + 1) (m * (n + 2) + 2) := by
  obtain ⟨a, c, e⟩ := okx_all h
  refine ⟨by simp only [PyData.showable]; exact a, by simp only [PyData.depth]; omega, ?_⟩
  simp only [PyData.shown]
  refine Nat.le_trans (lstText_le _) ?_
  have := Nat.mul_le_mul_right (n + 2) hl
  omega
theorem Okx.dic : Okx (.dict []) 1 2 := by
  refine ⟨by simp only [PyData.showable, PyData.showableKv], by simp only [PyData.depth, PyData.depthKv]; omega, ?_⟩
  simp only [PyData.shown, PyData.shownKv]
  decide +kernel
theorem Okx.dic1 {d : PyData} {k n : Nat} {j : Int} (i : Okx (.int j) 0 121) (h : Okx d k n) : Okx (.dict [(.int j, d)]) (k + 1) (n + 150) := by
  refine ⟨by simp only [PyData.showable, PyData.showableKv, h.sh, Bool.and_true]; simpa only [PyData.showable] using i.sh, by simp only [PyData.depth, PyData.depthKv]; have := h.dp; omega, ?_⟩
  have a1 := i.ln
  have a2 := h.ln
  have a3 := dictText_len_le (PyData.shownKv [(.int j, d)])
  have a4 : ((PyData.shownKv [(.int j, d)]).map (·.length)).sum ≤ (PyData.shown (.int j)).length + d.shown.length + 2 := by
    simp only [PyData.shownKv, List.map_cons, List.map_nil, List.sum_cons, List.sum_nil]
    rw [strLen_append, strLen_append]
    show _ + 2 + _ + 0 ≤ _
    omega
  have a5 : (PyData.shownKv [(PyData.int j, d)]).length = 1 := by simp only [PyData.shownKv, List.length_cons, List.length_nil]
  rw [show (PyData.dict [(.int j, d)]).shown = dictText (PyData.shownKv [(.int j, d)]) from by simp only [PyData.shown]]
  omega
/-- an odd value: known data, bounded, its lists not the well's -/
def OdV (K : Fg) (a l : Addr) (k n : Nat) (H : Hp) (x : V) : Prop := ∃ d, Od K (fun b => b ≠ a ∧ b ≠ l) H x d ∧ Okx d k n
theorem OdV.wk {K : Fg} {a l : Addr} {k n : Nat} {H H' : Hp} {x : V} (w : Well H a l) (e : WK a l H H') (h : OdV K a l k n H x) : OdV K a l k n H' x := by
  obtain ⟨d, h1, h2⟩ := h
  exact ⟨d, h1.mv (e.tm w) fun b o g q => ⟨g, e.get q g.1 g.2⟩, h2⟩
theorem OdV.mono {K : Fg} {a l : Addr} {k n k' n' : Nat} {H : Hp} {x : V} (h : OdV K a l k n H x) (hk : k ≤ k') (hn : n ≤ n') : OdV K a l k' n' H x := by
  obtain ⟨d, h1, h2⟩ := h
  exact ⟨d, h1, h2.mono hk hn⟩
section
variable {K : Fg} {a l : Addr} {k n m : Nat} {σ : L2.St} {te tf : TE} {ta : TA} {H H0 : Hp}
/-- an expression that tells odd values, behind the heap H0 -/
def IE (K : Fg) (a l : Addr) (H0 : Hp) (k n : Nat) (σ : L2.St) (te : TE) : Prop := ∀ (H : Hp) (Q : VK), WK a l H0 H → (∀ x H', WK a l H H' → OdV K a l k n H' x → Q x H') → te σ H Q
/-- several -/
def IT (K : Fg) (a l : Addr) (H0 : Hp) (k n m : Nat) (σ : L2.St) (ta : TA) : Prop := ∀ (H : Hp) (R : List V → Hp → Prop), WK a l H0 H → (∀ xs H', WK a l H H' → xs.length = m → (∀ x ∈ xs, OdV K a l k n H' x) → R xs H') → ta σ H R
theorem IT.nil : IT K a l H0 k n 0 σ tNil := fun H R w q => q [] H (WK.refl w.w) rfl fun x hx => by cases hx
theorem IT.cons (h : IE K a l H0 k n σ te) (t : IT K a l H0 k n m σ ta) : IT K a l H0 k n (m + 1) σ (tCons te ta) := fun H R w q =>
  h H _ w fun x H1 e1 o1 => t H1 _ (w.trans e1) fun xs H2 e2 hl o2 => q (x :: xs) H2 (e1.trans e2) (by rw [List.length_cons, hl]) fun y hy => by
    rcases List.mem_cons.mp hy with rfl | hy
    · exact o1.wk e1.w e2
    · exact o2 y hy
theorem IE.mono {k' n' : Nat} (h : IE K a l H0 k n σ te) (hk : k ≤ k') (hn : n ≤ n') : IE K a l H0 k' n' σ te := fun H Q w q => h H Q w fun x H' e o => q x H' e (o.mono hk hn)
theorem IE.int (h : ∀ (H : Hp) (Q : VK), (∀ i : Int, i.natAbs < 2 ^ 120 → Q (.int i) H) → te σ H Q) : IE K a l H0 0 121 σ te := fun H Q w q => h H Q fun i hi => q _ H (WK.refl w.w) ⟨.int i, .int i, (Okd.int hi).x⟩
theorem IE.c {i : Int} (h : i.natAbs < 2 ^ 120) : IE K a l H0 0 121 σ (tC (.int i)) := IE.int fun _ _ q => q i h
theorem IE.bl {b : Bool} : IE K a l H0 0 121 σ (tC (.bl b)) := fun H Q w q => q _ H (WK.refl w.w) ⟨.bool b, .bl b, (Okd.bl b).x.mono (Nat.le_refl _) (by decide)⟩
theorem IE.non : IE K a l H0 0 121 σ (tC .non) := fun H Q w q => q _ H (WK.refl w.w) ⟨.none, .non, Okd.non.x.mono (Nat.le_refl _) (by decide)⟩
theorem IE.str {x : Str} (h : (reprText x).length ≤ 121) : IE K a l H0 0 121 σ (tC (.str x)) := fun H Q w q => q _ H (WK.refl w.w) ⟨.str x, .str x, (Okd.str h).x⟩
theorem ods_of {G : Addr → Prop} {H : Hp} : ∀ (xs : List V), (∀ x ∈ xs, ∃ d, Od K G H x d ∧ Okx d k n) → ∃ ds, Ods K G H xs ds ∧ ∀ d ∈ ds, Okx d k n
  | [], _ => ⟨[], .nil, fun d hd => by cases hd⟩
  | x :: xs, h => by
    obtain ⟨d, h1, h2⟩ := h x (List.mem_cons_self ..)
    obtain ⟨ds, h3, h4⟩ := ods_of xs fun y hy => h y (List.mem_cons_of_mem _ hy)
    exact ⟨d :: ds, .cons h1 h3, fun e he => by
      rcases List.mem_cons.mp he with rfl | he
      · exact h2
      · exact h4 e he⟩
theorem IE.tup (t : IT K a l H0 k n m σ ta) (hm : Nat.ble m 1000 = true) : IE K a l H0 (k + 1) (m * (n + 2) + 2) σ (tTup ta) := fun H Q w q =>
  s_tup (t H _ w fun xs H1 e1 hl ho => by
    refine n_of (by rw [hl]; exact hm) fun p H2 np e2 hp _ => ?_
    obtain ⟨ds, h3, h4⟩ := ods_of xs ho
    exact q _ H2 (e1.same e2) ⟨.tuple ds, .tup (SqT.of hp) (h3.same e2), Okx.tup h4 (by rw [← h3.length, hl]; exact Nat.le_refl _)⟩)
theorem IE.lst (t : IT K a l H0 k n m σ ta) (hm : Nat.ble m 1000 = true) : IE K a l H0 (k + 1) (m * (n + 2) + 2) σ (tLst ta) := fun H Q w q =>
  s_lst (t H _ w fun xs H1 e1 hl ho => by
    refine n_of (by rw [hl]; exact hm) fun p H2 np e2 hp _ => ?_
    obtain ⟨ds, h3, h4⟩ := ods_of xs ho
    exact q _ H2 (e1.same e2) ⟨.list ds, .lst (e1.w.fresh np) hp (h3.same e2), Okx.lst h4 (by rw [← h3.length, hl]; exact Nat.le_refl _)⟩)
theorem s_dnew {Q : VK} (q : New Q H (.dK [])) : tDNewK σ H Q := q
theorem IE.dic : IE K a l H0 1 2 σ tDNewK := fun H Q w q => s_dnew (n_new fun p H2 np e2 hp _ => q _ H2 ((WK.refl w.w).same e2) ⟨.dict [], .dic (w.w.fresh np) hp, .dic⟩)
/-- a list of odd values, not the well's -/
def OdL (K : Fg) (a l : Addr) (k n m : Nat) (H : Hp) (p : Addr) : Prop := p ≠ a ∧ p ≠ l ∧ ∃ xs, H p = some (.lst xs) ∧ xs.length = m ∧ ∀ x ∈ xs, OdV K a l k n H x
theorem OdL.wk {p : Addr} {H' : Hp} (w : Well H a l) (e : WK a l H H') (h : OdL K a l k n m H p) : OdL K a l k n m H' p := by
  obtain ⟨n1, n2, xs, h1, h2, h3⟩ := h
  exact ⟨n1, n2, xs, e.get h1 n1 n2, h2, fun x hx => (h3 x hx).wk w e⟩
end
end UW
namespace UW
open PySem PySem.Spec PyProof.Rows L2
/-- one step -/
local macro_rules | `(tactic| walk_at "s1") => `(tactic| first
  | with_reducible refine s_seq ?_
  | with_reducible refine s_for ?_
  | with_reducible refine s_lc ?_
  | with_reducible refine w_seq ?_
  | with_reducible refine w_rng1 ?_
  | with_reducible refine w_rng2 ?_
  | with_reducible refine w_zip ?_
  | with_reducible refine s_asg ?_
  | with_reducible refine s_gname ?_
  | with_reducible refine s_ret ?_
  | with_reducible refine s_drop ?_
  | with_reducible refine s_next ?_
  | with_reducible refine s_ifs ?_
  | with_reducible refine s_var (by with_unfolding_all rfl) ?_
  | with_reducible refine s_c ?_
  | with_reducible refine s_op ?_
  | with_reducible refine s_un ?_
  | with_reducible refine s_neg ?_
  | with_reducible refine s_test ?_
  | with_reducible refine s_yes ?_
  | with_reducible refine s_tB ?_
  | with_reducible refine s_bl ?_
  | with_reducible refine s_not ?_
  | with_reducible refine s_and ?_
  | with_reducible refine s_or ?_
  | with_reducible refine s_andV ?_
  | with_reducible refine s_orV ?_
  | with_reducible refine s_notV ?_
  | with_reducible refine s_chain ?_
  | with_reducible refine s_nil ?_
  | with_reducible refine s_cons ?_
  | with_reducible refine s_tup ?_
  | with_reducible refine s_lst ?_
  | with_reducible refine s_call ?_
  | with_reducible refine s_cb ?_
  | with_reducible refine s_part ?_
  | with_reducible refine s_nopart ?_
  | with_reducible refine s_ii ?_
  | with_reducible refine s_sl ?_
  | with_reducible refine s_par ?_
  | with_reducible refine s_par2 ?_
  | with_reducible refine s_bm ?_
  | with_reducible refine s_gsub ?_
  | with_reducible refine s_gcons ?_
  | with_reducible refine s_gnil ?_
  | with_reducible refine o_addI ?_
  | with_reducible refine o_sub ?_
  | with_reducible refine o_eqI ?_
  | with_reducible refine o_neI ?_
  | with_reducible refine o_ltI ?_
  | with_reducible refine o_le ?_
  | with_reducible refine o_gt ?_
  | with_reducible refine o_ge ?_
  | with_reducible refine o_int ?_
  | with_reducible refine o_intB ?_
  | with_reducible refine o_abs ?_
  | with_reducible refine o_max2 ?_
  | with_reducible refine o_min2 ?_
  | with_reducible refine o_isN ?_
  | with_reducible refine o_notN ?_
  | with_reducible refine o_mulI (by first | exact Or.inl ⟨by decide, by decide⟩ | exact Or.inr ⟨by decide, by decide⟩ | (first | (refine Or.inl ⟨?_, ?_⟩ <;> omega) | (refine Or.inr ⟨?_, ?_⟩ <;> omega))) ?_
  | with_reducible refine o_mod (by first | decide | omega) ?_
  | with_reducible refine o_div (by first | decide | omega) (by first | decide | omega) ?_
  | with_reducible refine s_blx ?_
  | with_reducible refine o_ixL (SqL.of (by assumption)) (by first | with_unfolding_all rfl | with_unfolding_all exact at_zero _ _) ?_
  | with_reducible refine o_ixT (by assumption) (by first | with_unfolding_all rfl | with_unfolding_all exact at_zero _ _) ?_
  | with_reducible refine o_tyL (by assumption) ?_
  | with_reducible refine iteT ?_
  | with_reducible refine iteF ?_)
local macro_rules | `(tactic| walk_at "sx") => `(tactic| repeat (walk_at "s1"))
def isTup : PyData → Bool
  | .tuple _ => true
  | _ => false
def isInt : PyData → Bool
  | .int _ => true
  | _ => false
def isIntB : PyData → Bool
  | .int _ => true
  | .bool _ => true
  | _ => false
def isBool : PyData → Bool
  | .bool _ => true
  | _ => false
theorem kit_tup {K : Fg} (d : PyData) : PySem.W.kitOne K (tyD d) (.type "tuple") = some (isTup d) := by cases d <;> rfl
theorem kit_int {K : Fg} (d : PyData) : PySem.W.kitOne K (tyD d) (.type "int") = some (isIntB d) := by cases d <;> rfl
theorem kit_bool {K : Fg} (d : PyData) : PySem.W.kitOne K (tyD d) (.type "bool") = some (isBool d) := by cases d <;> rfl
section
variable {K : Fg} {G : Addr → Prop} {H : Hp} {Q : VK} {x : V} {d : PyData}
theorem o_isInt (h : Od K G H x d) (q : Q (.bl (isIntB d)) H) : rIsi K [x, .ty "int"] H Q := ⟨x, _, _, _, _, rfl, .ty _, h.ty, kit_int d, q⟩
theorem o_isBool (h : Od K G H x d) (q : Q (.bl (isBool d)) H) : rIsi K [x, .ty "bool"] H Q := ⟨x, _, _, _, _, rfl, .ty _, h.ty, kit_bool d, q⟩
theorem Od.tup_inv {ds : List PyData} (h : Od K G H x (.tuple ds)) : ∃ p xs, x = .ref p ∧ SqT K H p xs ∧ Ods K G H xs ds := by
  cases h with
  | tup h hs => exact ⟨_, _, rfl, h, hs⟩
theorem Od.int_inv {i : Int} (h : Od K G H x (.int i)) : x = .int i := by cases h; rfl
theorem Ods.cons_inv {xs : List V} {ds : List PyData} (h : Ods K G H xs (d :: ds)) : ∃ v vs, xs = v :: vs ∧ Od K G H v d ∧ Ods K G H vs ds := by
  cases h with
  | cons h hs => exact ⟨_, _, rfl, h, hs⟩
theorem Ods.nil_inv {xs : List V} (h : Ods K G H xs []) : xs = [] := by cases h; rfl
end
def sp_is_integer (K : Fg) : Sp := fun vs H Q _ => ∃ (G : Addr → Prop) (x : V) (d : PyData), vs = [x] ∧ Od K G H x d ∧ Q (.bl (isInt d)) H
theorem l_is_integer {K : Fg} : ∀ vs H Q E, sp_is_integer K vs H Q E → vs.length = 1 := by
  rintro vs H Q E ⟨G, x, d, rfl, _⟩
  rfl
/-- is_integer, slots value -/
def t_is_integer (K : Fg) : TS :=
  (tRet (tAndV (tCB (rIsi K) (tCons (tVar 0) (tCons (tC (.ty "int")) tNil))) (tNotV (tCB (rIsi K) (tCons (tVar 0) (tCons (tC (.ty "bool")) tNil))))))
theorem p_is_integer {K : Fg} {vs : List V} {H : Hp} {Q : VK} {E : XK} (h : sp_is_integer K vs H Q E) : t_is_integer K { nx := fun _ H' => Q .non H', rt := Q } (start ["value"] vs) H := by
  obtain ⟨G, x, d, rfl, hd, k⟩ := h
  show t_is_integer K _ [some x] H
  unfold t_is_integer
  walk_at "sx"
  refine o_isInt hd ?_
  walk_at "sx"
  cases d with
  | int i =>
    refine iteT ?_
    walk_at "sx"
    refine o_isBool hd ?_
    walk_at "sx"
    exact k
  | bool b =>
    refine iteT ?_
    walk_at "sx"
    refine o_isBool hd ?_
    walk_at "sx"
    exact k
  | _ =>
    refine iteF ?_
    exact k
/-- what keeps data from being a deed that is let -/
def deedO (rs : List (Int × Int)) (ms ls : List Int) : PyData → Option Str
  | .tuple [.int r, .int b] => if 0 ≤ r ∧ r < rs.length then (if b = 1 ∨ b = -1 then (if unl rs ls r.toNat = true then (if roomy ms ls r.toNat b = true then none else some "room") else some "alike") else some "by") else some "road"
  | _ => some "form"
theorem isTup_ex {d : PyData} (h : isTup d = true) : ∃ ds, d = .tuple ds := by cases d <;> first | exact ⟨_, rfl⟩ | cases h
theorem isInt_ex {d : PyData} (h : isInt d = true) : ∃ i, d = .int i := by cases d <;> first | exact ⟨_, rfl⟩ | cases h
theorem len_two {α : Type} {xs : List α} (h : xs.length = 2) : ∃ x y, xs = [x, y] := by
  match xs, h with
  | [x, y], _ => exact ⟨x, y, rfl⟩
end UW
namespace UW
open PySem PySem.Spec PyProof.Rows L2
/-- one step -/
local macro_rules | `(tactic| walk_at "s1") => `(tactic| first
  | with_reducible refine s_seq ?_
  | with_reducible refine s_for ?_
  | with_reducible refine s_lc ?_
  | with_reducible refine w_seq ?_
  | with_reducible refine w_rng1 ?_
  | with_reducible refine w_rng2 ?_
  | with_reducible refine w_zip ?_
  | with_reducible refine s_asg ?_
  | with_reducible refine s_gname ?_
  | with_reducible refine s_ret ?_
  | with_reducible refine s_drop ?_
  | with_reducible refine s_next ?_
  | with_reducible refine s_ifs ?_
  | with_reducible refine s_var (by with_unfolding_all rfl) ?_
  | with_reducible refine s_c ?_
  | with_reducible refine s_op ?_
  | with_reducible refine s_un ?_
  | with_reducible refine s_neg ?_
  | with_reducible refine s_test ?_
  | with_reducible refine s_yes ?_
  | with_reducible refine s_tB ?_
  | with_reducible refine s_bl ?_
  | with_reducible refine s_not ?_
  | with_reducible refine s_and ?_
  | with_reducible refine s_or ?_
  | with_reducible refine s_andV ?_
  | with_reducible refine s_orV ?_
  | with_reducible refine s_notV ?_
  | with_reducible refine s_chain ?_
  | with_reducible refine s_nil ?_
  | with_reducible refine s_cons ?_
  | with_reducible refine s_tup ?_
  | with_reducible refine s_lst ?_
  | with_reducible refine s_call ?_
  | with_reducible refine s_cb ?_
  | with_reducible refine s_part ?_
  | with_reducible refine s_nopart ?_
  | with_reducible refine s_ii ?_
  | with_reducible refine s_sl ?_
  | with_reducible refine s_par ?_
  | with_reducible refine s_par2 ?_
  | with_reducible refine s_bm ?_
  | with_reducible refine s_gsub ?_
  | with_reducible refine s_gcons ?_
  | with_reducible refine s_gnil ?_
  | with_reducible refine o_addI ?_
  | with_reducible refine o_sub ?_
  | with_reducible refine o_eqI ?_
  | with_reducible refine o_neI ?_
  | with_reducible refine o_ltI ?_
  | with_reducible refine o_le ?_
  | with_reducible refine o_gt ?_
  | with_reducible refine o_ge ?_
  | with_reducible refine o_int ?_
  | with_reducible refine o_intB ?_
  | with_reducible refine o_abs ?_
  | with_reducible refine o_max2 ?_
  | with_reducible refine o_min2 ?_
  | with_reducible refine o_isN ?_
  | with_reducible refine o_notN ?_
  | with_reducible refine o_mulI (by first | exact Or.inl ⟨by decide, by decide⟩ | exact Or.inr ⟨by decide, by decide⟩ | (first | (refine Or.inl ⟨?_, ?_⟩ <;> omega) | (refine Or.inr ⟨?_, ?_⟩ <;> omega))) ?_
  | with_reducible refine o_mod (by first | decide | omega) ?_
  | with_reducible refine o_div (by first | decide | omega) (by first | decide | omega) ?_
  | with_reducible refine s_blx ?_
  | with_reducible refine o_ixL (SqL.of (by assumption)) (by first | with_unfolding_all rfl | with_unfolding_all exact at_zero _ _) ?_
  | with_reducible refine o_ixT (by assumption) (by first | with_unfolding_all rfl | with_unfolding_all exact at_zero _ _) ?_
  | with_reducible refine o_tyL (by assumption) ?_
  | with_reducible refine iteT ?_
  | with_reducible refine iteF ?_)
local macro_rules | `(tactic| walk_at "sx") => `(tactic| repeat (walk_at "s1"))
end UW
namespace UW
open PySem PySem.Spec PyProof.Rows L2
/-- one step -/
local macro_rules | `(tactic| walk_at "s1") => `(tactic| first
  | with_reducible refine s_seq ?_
  | with_reducible refine s_for ?_
  | with_reducible refine s_lc ?_
  | with_reducible refine w_seq ?_
  | with_reducible refine w_rng1 ?_
  | with_reducible refine w_rng2 ?_
  | with_reducible refine w_zip ?_
  | with_reducible refine s_asg ?_
  | with_reducible refine s_gname ?_
  | with_reducible refine s_ret ?_
  | with_reducible refine s_drop ?_
  | with_reducible refine s_next ?_
  | with_reducible refine s_ifs ?_
  | with_reducible refine s_var (by with_unfolding_all rfl) ?_
  | with_reducible refine s_c ?_
  | with_reducible refine s_op ?_
  | with_reducible refine s_un ?_
  | with_reducible refine s_neg ?_
  | with_reducible refine s_test ?_
  | with_reducible refine s_yes ?_
  | with_reducible refine s_tB ?_
  | with_reducible refine s_bl ?_
  | with_reducible refine s_not ?_
  | with_reducible refine s_and ?_
  | with_reducible refine s_or ?_
  | with_reducible refine s_andV ?_
  | with_reducible refine s_orV ?_
  | with_reducible refine s_notV ?_
  | with_reducible refine s_chain ?_
  | with_reducible refine s_nil ?_
  | with_reducible refine s_cons ?_
  | with_reducible refine s_tup ?_
  | with_reducible refine s_lst ?_
  | with_reducible refine s_call ?_
  | with_reducible refine s_cb ?_
  | with_reducible refine s_part ?_
  | with_reducible refine s_nopart ?_
  | with_reducible refine s_ii ?_
  | with_reducible refine s_sl ?_
  | with_reducible refine s_par ?_
  | with_reducible refine s_par2 ?_
  | with_reducible refine s_bm ?_
  | with_reducible refine s_gsub ?_
  | with_reducible refine s_gcons ?_
  | with_reducible refine s_gnil ?_
  | with_reducible refine o_addI ?_
  | with_reducible refine o_sub ?_
  | with_reducible refine o_eqI ?_
  | with_reducible refine o_neI ?_
  | with_reducible refine o_ltI ?_
  | with_reducible refine o_le ?_
  | with_reducible refine o_gt ?_
  | with_reducible refine o_ge ?_
  | with_reducible refine o_int ?_
  | with_reducible refine o_intB ?_
  | with_reducible refine o_abs ?_
  | with_reducible refine o_max2 ?_
  | with_reducible refine o_min2 ?_
  | with_reducible refine o_isN ?_
  | with_reducible refine o_notN ?_
  | with_reducible refine o_mulI (by first | exact Or.inl ⟨by decide, by decide⟩ | exact Or.inr ⟨by decide, by decide⟩ | (first | (refine Or.inl ⟨?_, ?_⟩ <;> omega) | (refine Or.inr ⟨?_, ?_⟩ <;> omega))) ?_
  | with_reducible refine o_mod (by first | decide | omega) ?_
  | with_reducible refine o_div (by first | decide | omega) (by first | decide | omega) ?_
  | with_reducible refine s_blx ?_
  | with_reducible refine o_ixL (SqL.of (by assumption)) (by first | with_unfolding_all rfl | with_unfolding_all exact at_zero _ _) ?_
  | with_reducible refine o_ixT (by assumption) (by first | with_unfolding_all rfl | with_unfolding_all exact at_zero _ _) ?_
  | with_reducible refine o_tyL (by assumption) ?_
  | with_reducible refine iteT ?_
  | with_reducible refine iteF ?_)
local macro_rules | `(tactic| walk_at "sx") => `(tactic| repeat (walk_at "s1"))
section
variable {K : Fg} {H : Hp} {Q : VK} {a b : Addr} {xs ys : List V} {lo hi : Option Int}
theorem o_catT (h1 : SqT K H a xs) (h2 : SqT K H b ys) (hl : xs.length + ys.length ≤ 100000) (k : ∀ p H', Same H H' → SqT K H' p (xs ++ ys) → Q (.ref p) H') : rAddU K (.ref a) (.ref b) H Q :=
  .inr (.inr (.inl ⟨a, b, xs, ys, rfl, rfl, h1.up, h2.up, Nat.le_trans hl (by decide), fun e => k b H (Same.refl _) (by rw [e]; exact h2), fun _ e => k a H (Same.refl _) (by rw [e, List.append_nil]; exact h1), fun _ _ p np => k p _ (Same.new np) (SqT.of upd_same)⟩))
end
/-- the standing behind a deed -/
def bh (ls : List Int) (r b : Int) : List Int := ls.set r.toNat (ls.getD r.toNat 0 + b)
section
variable {K : Fg} {H : Hp} {σ : L2.St} {D : Ends} {W : WX} {t : L2.St → Hp → XK → Prop} {tb : WX → TS} {ts : Addr → Value → Option Addr → TS} {c : Value} {i : Nat}
theorem s_rse (k : t σ H fun cls d H' => W cls d σ H') : tRaise t W D σ H := k
end
end UW
namespace UW
open PySem PySem.Spec PyProof.Rows L2
structure There (n : Int) (rs : List (Int × Int)) (ms ls : List Int) (r b : Int) : Prop where
  L : Laid n rs ms (bh ls r b)
  s : Stand ms (bh ls r b)
  d : deedO rs ms (bh ls r b) (.tuple [.int r, .int (-b)]) = none
  e : bh (bh ls r b) r (-b) = ls
end UW
namespace UW
open PySem PySem.Spec PyProof.Rows L2
/-- the loads behind data that is a deed -/
def stepL (ls : List Int) : PyData → List Int
  | .tuple [.int r, .int b] => bh ls r b
  | _ => ls
end UW
namespace UW
open PySem PySem.Spec PyProof.Rows L2
/-- what a dict of one's own holds -/
inductive Dic where
  | k (kvs : List (L2.Key × PyData))
  | t (kvs : List (List L2.Key × PyData))
/-- what stands in a slot -/
inductive Sot where
  | x
  | d (d : PyData)
  | own (ds : List PyData)
  | wl (u : Nat)
  | err (a : Addr)
  | dic (c : Dic)
/-- what an expression is worth: data; a new list; the list of a slot; the well -/
inductive Avl where
  | d (d : PyData)
  | l (ds : List PyData)
  | b (i : Nat) (ds : List PyData)
  | wl (u : Nat)
  | k (c : Dic)
abbrev Sot.well : Sot := .wl 0
abbrev Avl.w : Avl := .wl 0
abbrev Afr := List Sot
/-- as data -/
def Avl.dat : Avl → Option PyData
  | .d x => some x
  | .l ds => some (.list ds)
  | .b _ ds => some (.list ds)
  | .wl _ => none
  | .k _ => none
/-- as data that may be kept -/
def Avl.cl : Avl → Option PyData
  | .d x => some x
  | .l ds => some (.list ds)
  | _ => none
def Avl.tup : Avl → Option (List PyData)
  | .d (.tuple ds) => some ds
  | _ => none
def Avl.lst : Avl → Option (List PyData)
  | .d (.list ds) => some ds
  | .l ds => some ds
  | .b _ ds => some ds
  | _ => none
def Avl.isB : Avl → Bool
  | .b _ _ => true
  | _ => false
def Sot.av (i : Nat) : Sot → Option Avl
  | .x => none
  | .d y => some (.d y)
  | .own ds => some (.b i ds)
  | .wl u => some (.wl u)
  | .err _ => none
  | .dic _ => none
/-- where the well is -/
def Urn (H : Hp) (a l : Addr) : Prop := ∃ (cs : List Int) (s t c : Int), H a = some (.lst [.ref l, .int s, .int t, .int c]) ∧ H l = some (.lst (cs.map V.int)) ∧ cs.length ≤ 64 ∧ 0 ≤ t ∧ t < 4294967296
def Bag (H : Hp) (a l : Addr) : Prop := ∃ (cs : List Int) (s c : Int), H a = some (.dK [(.inr "great", .ref l), (.inr "mixed", .int s), (.inr "turn", .int c)]) ∧ H l = some (.lst (cs.map V.int)) ∧ cs.length ≤ 64
def Jar (H : Hp) (a l m : Addr) : Prop := ∃ (cs ds : List Int) (s c : Int), H a = some (.dK [(.inr "far", .ref l), (.inr "cells", .ref m), (.inr "seal", .int s), (.inr "count", .int c)]) ∧ H l = some (.lst (cs.map V.int)) ∧ cs.length ≤ 64 ∧ H m = some (.lst (ds.map V.int)) ∧ ds.length ≤ 64 ∧ ds ≠ [] ∧ l ≠ m
def Deck (H : Hp) (a l : Addr) : Prop := ∃ (cs : List Int) (s : Int), H a = some (.dK [(.inr "deep", .ref l), (.inr "state", .int s)]) ∧ H l = some (.lst (cs.map V.int)) ∧ cs.length ≤ 64
/-- the ways in which laws keep what they draw from -/
def WelU : Nat → Hp → Addr → Addr → Addr → Prop
  | 0, H, a, l, m => Well H a l ∧ m = l
  | 1, H, a, l, m => Urn H a l ∧ m = l
  | 2, H, a, l, m => Bag H a l ∧ m = l
  | 3, H, a, l, m => Jar H a l m
  | _, H, a, l, m => Deck H a l ∧ m = l
theorem WelU.mt {u : Nat} {H : Hp} {a l m b : Addr} (w : WelU u H a l m) (h : b = a ∨ b = l ∨ b = m) : ∃ o, H b = some o ∧ ∀ xs, o ≠ .tup xs := by
  match u, w with
  | 0, ⟨⟨cs, s, c, e1, e2, _⟩, e⟩ => rcases h with rfl | rfl | h <;> first | exact ⟨_, e1, fun _ z => by cases z⟩ | exact ⟨_, e2, fun _ z => by cases z⟩ | (subst h; subst e; exact ⟨_, e2, fun _ z => by cases z⟩)
  | 1, ⟨⟨cs, s, t, c, e1, e2, _⟩, e⟩ => rcases h with rfl | rfl | h <;> first | exact ⟨_, e1, fun _ z => by cases z⟩ | exact ⟨_, e2, fun _ z => by cases z⟩ | (subst h; subst e; exact ⟨_, e2, fun _ z => by cases z⟩)
  | 2, ⟨⟨cs, s, c, e1, e2, _⟩, e⟩ => rcases h with rfl | rfl | h <;> first | exact ⟨_, e1, fun _ z => by cases z⟩ | exact ⟨_, e2, fun _ z => by cases z⟩ | (subst h; subst e; exact ⟨_, e2, fun _ z => by cases z⟩)
  | 3, ⟨cs, ds, s, c, e1, e2, _, e3, _⟩ => rcases h with rfl | rfl | rfl <;> first | exact ⟨_, e1, fun _ z => by cases z⟩ | exact ⟨_, e2, fun _ z => by cases z⟩ | exact ⟨_, e3, fun _ z => by cases z⟩
  | n + 4, ⟨⟨cs, s, e1, e2, _⟩, e⟩ => rcases h with rfl | rfl | h <;> first | exact ⟨_, e1, fun _ z => by cases z⟩ | exact ⟨_, e2, fun _ z => by cases z⟩ | (subst h; subst e; exact ⟨_, e2, fun _ z => by cases z⟩)
theorem WelU.keep {u : Nat} {H H' : Hp} {a l m : Addr} (w : WelU u H a l m) (h : ∀ b o, (b = a ∨ b = l ∨ b = m) → H b = some o → H' b = some o) : WelU u H' a l m := by
  match u, w with
  | 0, ⟨⟨cs, s, c, e1, e2, e3⟩, e⟩ => exact ⟨⟨cs, s, c, h _ _ (.inl rfl) e1, h _ _ (.inr (.inl rfl)) e2, e3⟩, e⟩
  | 1, ⟨⟨cs, s, t, c, e1, e2, e3⟩, e⟩ => exact ⟨⟨cs, s, t, c, h _ _ (.inl rfl) e1, h _ _ (.inr (.inl rfl)) e2, e3⟩, e⟩
  | 2, ⟨⟨cs, s, c, e1, e2, e3⟩, e⟩ => exact ⟨⟨cs, s, c, h _ _ (.inl rfl) e1, h _ _ (.inr (.inl rfl)) e2, e3⟩, e⟩
  | 3, ⟨cs, ds, s, c, e1, e2, e4, e3, e5⟩ => exact ⟨cs, ds, s, c, h _ _ (.inl rfl) e1, h _ _ (.inr (.inl rfl)) e2, e4, h _ _ (.inr (.inr rfl)) e3, e5⟩
  | n + 4, ⟨⟨cs, s, e1, e2, e3⟩, e⟩ => exact ⟨⟨cs, s, h _ _ (.inl rfl) e1, h _ _ (.inr (.inl rfl)) e2, e3⟩, e⟩
structure Wel where
  a : Addr
  l : Addr
  m : Addr
  u : Nat
  on : Bool
def Wel.has (W : Wel) (b : Addr) : Prop := W.on = true ∧ (b = W.a ∨ b = W.l ∨ b = W.m)
def Wel.is (W : Wel) (u : Nat) : Prop := W.on = true ∧ W.u = u
def Wel.ok (W : Wel) (H : Hp) : Prop := W.on = true → WelU W.u H W.a W.l W.m
theorem Wel.mt {W : Wel} {H : Hp} (w : W.ok H) {b : Addr} (h : W.has b) : ∃ o, H b = some o ∧ ∀ xs, o ≠ .tup xs := (w h.1).mt h.2
theorem Wel.ok.of {W : Wel} {H : Hp} {u : Nat} (w : W.ok H) (h : W.is u) : WelU u H W.a W.l W.m := by
  have := w h.1
  rw [h.2] at this
  exact this
theorem Wel.ok.keep {W : Wel} {H H' : Hp} (w : W.ok H) (h : ∀ b o, W.has b → H b = some o → H' b = some o) : W.ok H' := fun on => (w on).keep fun b o e q => h b o ⟨on, e⟩ q
theorem Wel.ok.put {W : Wel} {H : Hp} {p : Addr} {u : HO} (w : W.ok H) (n : ¬ W.has p) : W.ok (upd H p u) := w.keep fun b o z e => by
  have ne : b ≠ p := fun y => n (by rw [← y]; exact z)
  rw [upd_ne ne]
  exact e
theorem Wel.ne {W : Wel} {H : Hp} (w : W.ok H) {b : Addr} (h : H b = none) : ¬ W.has b := fun z => by
  obtain ⟨vs, e, _⟩ := Wel.mt w z
  rw [h] at e
  cases e
abbrev Ads := Addr → Prop
/-- what an expression does to the heap: it grows, draws from the well; S: where lists of kept data may be -/
structure Mvh (W : Wel) (S : Ads) (H : Hp) (S' : Ads) (H' : Hp) : Prop where
  k : ∀ b o, H b = some o → ¬ W.has b → H' b = some o
  w : W.ok H'
  s : ∀ b, S b → S' b
  n : ∀ b, S' b → S b ∨ H b = none
  t : ∀ b, S' b → H' b ≠ none ∧ ¬ W.has b
section
variable {W : Wel} {S S1 S2 : Ads} {H H1 H2 : Hp} {K : Fg}
theorem Mvh.back (m : Mvh W S H S1 H1) {b : Addr} (h : H1 b = none) : H b = none := by
  cases q : H b with
  | none => rfl
  | some o =>
    by_cases z : W.has b
    · obtain ⟨vs, e, _⟩ := Wel.mt m.w z
      rw [h] at e
      cases e
    · rw [m.k b o q z] at h
      cases h
theorem Mvh.trans (m : Mvh W S H S1 H1) (n : Mvh W S1 H1 S2 H2) : Mvh W S H S2 H2 := by
  refine ⟨fun b o h z => n.k b o (m.k b o h z) z, n.w, fun b h => n.s b (m.s b h), fun b h => ?_, n.t⟩
  rcases n.n b h with q | q
  · exact m.n b q
  · exact .inr (m.back q)
theorem Mvh.tm (w : W.ok H) (m : Mvh W S H S1 H1) : Tm H H1 := by
  intro a xs h
  by_cases z : W.has a
  · obtain ⟨vs, e, ne⟩ := Wel.mt w z
    rw [h] at e
    exact absurd (Option.some.inj e).symm (ne xs)
  · exact m.k _ _ h z
theorem Mvh.od (w : W.ok H) (t : ∀ b, S b → ¬ W.has b) (m : Mvh W S H S1 H1) {v : V} {d : PyData} (h : Od K S H v d) : Od K S1 H1 v d :=
  h.mv (m.tm w) fun a o ga q => ⟨m.s a ga, m.k a o q (t a ga)⟩
theorem Mvh.ods (w : W.ok H) (t : ∀ b, S b → ¬ W.has b) (m : Mvh W S H S1 H1) {v : List V} {d : List PyData} (h : Ods K S H v d) : Ods K S1 H1 v d :=
  h.mv (m.tm w) fun a o ga q => ⟨m.s a ga, m.k a o q (t a ga)⟩
theorem Od.gr {G G' : Ads} (g : ∀ a, G a → G' a) {v : V} {d : PyData} (h : Od K G H v d) : Od K G' H v d := h.mv (Tm.refl H) fun a o ga q => ⟨g a ga, q⟩
theorem Ods.gr {G G' : Ads} (g : ∀ a, G a → G' a) {v : List V} {d : List PyData} (h : Ods K G H v d) : Ods K G' H v d := h.mv (Tm.refl H) fun a o ga q => ⟨g a ga, q⟩
end
/-- a state that may be gone on from -/
structure Oks (W : Wel) (S : Ads) (H : Hp) : Prop where
  w : W.ok H
  t : ∀ b, S b → H b ≠ none ∧ ¬ W.has b
section
variable {W : Wel} {S S1 S2 : Ads} {H H1 H2 : Hp} {K : Fg}
theorem Mvh.oks (m : Mvh W S H S1 H1) : Oks W S1 H1 := ⟨m.w, m.t⟩
theorem Oks.refl (k : Oks W S H) : Mvh W S H S H := ⟨fun _ _ h _ => h, k.w, fun _ h => h, fun _ h => .inl h, k.t⟩
theorem Oks.same (k : Oks W S H) (e : Same H H1) : Mvh W S H S H1 := by
  refine ⟨fun b o h _ => e b o h, k.w.keep fun b o _ q => e b o q, fun _ h => h, fun _ h => .inl h, fun b h => ⟨fun z => ?_, (k.t b h).2⟩⟩
  cases q : H b with
  | none => exact (k.t b h).1 q
  | some o =>
    rw [e b o q] at z
    cases z
/-- a new list may be kept -/
theorem Oks.keep (k : Oks W S H) (e : Mvh W S H S1 H1) {p : Addr} {vs : List V} (h : H1 p = some (.lst vs)) (n : H p = none) : Mvh W S H (fun b => S1 b ∨ b = p) H1 := by
  refine ⟨e.k, e.w, fun b h => .inl (e.s b h), fun b h => ?_, fun b h => ?_⟩
  · rcases h with h | rfl
    · exact e.n b h
    · exact .inr n
  · rcases h with h | rfl
    · exact e.t b h
    · exact ⟨(by rw [h]; intro z; cases z), Wel.ne k.w n⟩
end
/-- a dict on the heap -/
def DcR (K : Fg) (S : Ads) (H : Hp) (p : Addr) : Dic → Prop
  | .k kvs => ∃ ls, H p = some (.dK ls) ∧ Paired (fun (a : L2.Key × V) (b : L2.Key × PyData) => a.1 = b.1 ∧ Od K S H a.2 b.2) ls kvs
  | .t kvs => ∃ ls, H p = some (.dT ls) ∧ Paired (fun (a : List L2.Key × V) (b : List L2.Key × PyData) => a.1 = b.1 ∧ Od K S H a.2 b.2) ls kvs
theorem DcR.mp {K : Fg} {S S1 : Ads} {H H1 : Hp} {p : Addr} {c : Dic} (h : DcR K S H p c) (hk : ∀ o, H p = some o → H1 p = some o) (hf : ∀ {v d}, Od K S H v d → Od K S1 H1 v d) : DcR K S1 H1 p c := by
  cases c with
  | k kvs =>
    obtain ⟨ls, a, b⟩ := h
    exact ⟨ls, hk _ a, L2.Paired.mapP b fun _ _ z => ⟨z.1, hf z.2⟩⟩
  | t kvs =>
    obtain ⟨ls, a, b⟩ := h
    exact ⟨ls, hk _ a, L2.Paired.mapP b fun _ _ z => ⟨z.1, hf z.2⟩⟩
theorem DcR.at {K : Fg} {S : Ads} {H : Hp} {p : Addr} {c : Dic} (h : DcR K S H p c) : ∃ o, H p = some o ∧ ∀ xs, o ≠ .tup xs := by
  cases c with
  | k kvs =>
    obtain ⟨ls, a, b⟩ := h
    exact ⟨_, a, fun xs z => by cases z⟩
  | t kvs =>
    obtain ⟨ls, a, b⟩ := h
    exact ⟨_, a, fun xs z => by cases z⟩
theorem DcR.ne {K : Fg} {S : Ads} {H : Hp} {p : Addr} {c : Dic} (h : DcR K S H p c) : H p ≠ none := by
  obtain ⟨o, a, _⟩ := h.at
  rw [a]
  intro z
  cases z
/-- what a value is worth; Hs: the heap at the beginning -/
def Vrp (K : Fg) (W : Wel) (Hs : Hp) (O : Nat → Option Addr) (S : Ads) (H : Hp) (v : V) : Avl → Prop
  | .d x => Od K S H v x
  | .l ds => ∃ p vs, v = .ref p ∧ H p = some (.lst vs) ∧ Ods K S H vs ds ∧ ¬ S p ∧ Hs p = none ∧ ¬ W.has p
  | .b i ds => ∃ p vs, v = .ref p ∧ O i = some p ∧ H p = some (.lst vs) ∧ Ods K S H vs ds ∧ ¬ W.has p
  | .wl u => W.is u ∧ v = .ref W.a
  | .k c => ∃ p, v = .ref p ∧ DcR K S H p c ∧ ¬ S p ∧ Hs p = none ∧ ¬ W.has p
/-- what stands in a slot -/
def Slr (K : Fg) (W : Wel) (O : Nat → Option Addr) (S : Ads) (H : Hp) (σ : L2.St) (i : Nat) : Sot → Prop
  | .x => True
  | .d x => ∃ v, σ[i]? = some (some v) ∧ Od K S H v x
  | .own ds => ∃ p vs, O i = some p ∧ σ[i]? = some (some (.ref p)) ∧ H p = some (.lst vs) ∧ Ods K S H vs ds
  | .wl u => W.is u ∧ σ[i]? = some (some (.ref W.a))
  | .err a => σ[i]? = some (some (.ref a))
  | .dic c => ∃ p, O i = some p ∧ σ[i]? = some (some (.ref p)) ∧ DcR K S H p c
/-- the frame; H0, S0: as it was entered -/
structure Frm (K : Fg) (W : Wel) (H0 : Hp) (S0 : Ads) (O : Nat → Option Addr) (S : Ads) (α : Afr) (σ : L2.St) (H : Hp) : Prop where
  k : Oks W S H
  k0 : ∀ b o, H0 b = some o → ¬ W.has b → H b = some o
  n0 : ∀ b, S b → S0 b ∨ H0 b = none
  w0 : W.ok H0
  o : ∀ i p, O i = some p → H0 p = none ∧ H p ≠ none ∧ ¬ S p ∧ ∀ j, O j = some p → j = i
  len : α.length = σ.length
  sl : ∀ i z, α[i]? = some z → Slr K W O S H σ i z
/-- how statements go on: what is kept stays -/
structure Kee (S : Ads) (H : Hp) (S' : Ads) (H' : Hp) : Prop where
  s : ∀ b, S b → S' b
  t : Tm H H'
  k : ∀ b o, S b → H b = some o → H' b = some o
theorem Kee.refl {S : Ads} {H : Hp} : Kee S H S H := ⟨fun _ h => h, Tm.refl _, fun _ _ _ h => h⟩
theorem Kee.trans {S S1 S2 : Ads} {H H1 H2 : Hp} (a : Kee S H S1 H1) (b : Kee S1 H1 S2 H2) : Kee S H S2 H2 :=
  ⟨fun x h => b.s x (a.s x h), a.t.trans b.t, fun x o h q => b.k x o (a.s x h) (a.k x o h q)⟩
theorem Kee.od {K : Fg} {S S1 : Ads} {H H1 : Hp} (a : Kee S H S1 H1) {v : V} {d : PyData} (h : Od K S H v d) : Od K S1 H1 v d := h.mv a.t fun x o ga q => ⟨a.s x ga, a.k x o ga q⟩
theorem Kee.ods {K : Fg} {S S1 : Ads} {H H1 : Hp} (a : Kee S H S1 H1) {v : List V} {d : List PyData} (h : Ods K S H v d) : Ods K S1 H1 v d := h.mv a.t fun x o ga q => ⟨a.s x ga, a.k x o ga q⟩
section
variable {K : Fg} {W : Wel} {Hs H0 H H1 : Hp} {S0 S S1 : Ads} {O : Nat → Option Addr} {α : Afr} {σ : L2.St} {v : V} {av : Avl}
theorem Mvh.kee (k : Oks W S H) (m : Mvh W S H S1 H1) : Kee S H S1 H1 := ⟨m.s, m.tm k.w, fun b o h q => m.k b o q (k.t b h).2⟩
theorem Vrp.mv (k : Oks W S H) (h : Vrp K W Hs O S H v av) (m : Mvh W S H S1 H1) : Vrp K W Hs O S1 H1 v av := by
  have t : ∀ b, S b → ¬ W.has b := fun b z => (k.t b z).2
  cases av with
  | d x => exact m.od k.w t h
  | l ds =>
    obtain ⟨p, vs, rfl, h1, h2, h3, h4, h5⟩ := h
    exact ⟨p, vs, rfl, m.k _ _ h1 h5, m.ods k.w t h2, fun z => (m.n p z).elim h3 fun q => (by rw [h1] at q; cases q), h4, h5⟩
  | b i ds =>
    obtain ⟨p, vs, rfl, h0, h1, h2, h3⟩ := h
    exact ⟨p, vs, rfl, h0, m.k _ _ h1 h3, m.ods k.w t h2, h3⟩
  | wl u => exact h
  | k c =>
    obtain ⟨p, rfl, h1, h3, h4, h5⟩ := h
    exact ⟨p, rfl, h1.mp (fun o e => m.k _ _ e h5) (fun z => m.od k.w t z), fun z => (m.n p z).elim h3 h1.ne, h4, h5⟩
theorem Vrp.hs (h : Vrp K W H1 O S H v av) (g : ∀ b, H1 b = none → Hs b = none) : Vrp K W Hs O S H v av := by
  cases av with
  | d x => exact h
  | l ds =>
    obtain ⟨p, vs, rfl, h1, h2, h3, h4, h5⟩ := h
    exact ⟨p, vs, rfl, h1, h2, h3, g _ h4, h5⟩
  | b i ds => exact h
  | wl u => exact h
  | k c =>
    obtain ⟨p, rfl, h1, h3, h4, h5⟩ := h
    exact ⟨p, rfl, h1, h3, g _ h4, h5⟩
theorem Frm.mv (f : Frm K W H0 S0 O S α σ H) (m : Mvh W S H S1 H1) : Frm K W H0 S0 O S1 α σ H1 := by
  have nw : ∀ i p, O i = some p → ¬ W.has p := fun i p e => Wel.ne f.w0 (f.o i p e).1
  have t : ∀ b, S b → ¬ W.has b := fun b z => (f.k.t b z).2
  refine ⟨m.oks, fun b o h z => m.k b o (f.k0 b o h z) z, fun b h => ?_, f.w0, fun i p e => ?_, f.len, fun i z e => ?_⟩
  · rcases m.n b h with q | q
    · exact f.n0 b q
    · refine .inr ?_
      cases y : H0 b with
      | none => rfl
      | some o =>
        by_cases z : W.has b
        · exact absurd z (m.t b h).2
        · rw [f.k0 b o y z] at q
          cases q
  · obtain ⟨h1, h2, h3, h4⟩ := f.o i p e
    refine ⟨h1, fun q => h2 (m.back q), fun z => (m.n p z).elim h3 h2, h4⟩
  · have := f.sl i z e
    cases z with
    | x => trivial
    | d x =>
      obtain ⟨v, h1, h2⟩ := this
      exact ⟨v, h1, m.od f.k.w t h2⟩
    | own ds =>
      obtain ⟨p, vs, h1, h2, h3, h4⟩ := this
      exact ⟨p, vs, h1, h2, m.k _ _ h3 (nw i p h1), m.ods f.k.w t h4⟩
    | wl u => exact this
    | err a => exact this
    | dic c =>
      obtain ⟨p, h1, h2, h3⟩ := this
      exact ⟨p, h1, h2, h3.mp (fun o e => m.k _ _ e (nw i p h1)) (fun z => m.od f.k.w t z)⟩
end
abbrev AXr := Afr → Addr → Option (List (Str × PyData)) → Prop
abbrev AEx := AXr → Afr → (Avl → Prop) → Prop
abbrev ATx := AXr → Afr → (Bool → Prop) → Prop
abbrev AAd := AXr → Afr → (List PyData → Prop) → Prop
abbrev AAv := AXr → Afr → (List Avl → Prop) → Prop
/-- an error's own data -/
def Xrp (K : Fg) (S : Ads) (H : Hp) (d : Option Addr) : Option (List (Str × PyData)) → Prop
  | none => d = none
  | some fs => ∃ dx vs, d = some dx ∧ H dx = some (.xd vs) ∧ Paired (fun (p : Str × V) (q : Str × PyData) => p.1 = q.1 ∧ Od K S H p.2 q.2) vs fs
/-- the errors go on -/
def Lkx (K : Fg) (W : Wel) (H0 : Hp) (S0 : Ads) (S : Ads) (H : Hp) (E : WX) (X : AXr) : Prop :=
  ∀ O S' α σ H' C d f, Kee S H S' H' → Frm K W H0 S0 O S' α σ H' → Xrp K S' H' d f → X α C f → E (.ref C) d σ H'
theorem Lkx.kee {K : Fg} {W : Wel} {H0 : Hp} {S0 S S1 : Ads} {H H1 : Hp} {E : WX} {X : AXr} (l : Lkx K W H0 S0 S H E X) (a : Kee S H S1 H1) : Lkx K W H0 S0 S1 H1 E X :=
  fun O S' α σ H' C d f b g x h => l O S' α σ H' C d f (a.trans b) g x h
def REx (K : Fg) (E : WX) (t : TE) (e : AEx) : Prop := ∀ {W : Wel} {H0 : Hp} {S0 : Ads} {O : Nat → Option Addr} {S : Ads} {α : Afr} {σ : L2.St} {H : Hp} {X : AXr} {k : Avl → Prop} {Q : VK},
  Frm K W H0 S0 O S α σ H → e X α k → Lkx K W H0 S0 S H E X → (∀ v av S' H', Mvh W S H S' H' → Vrp K W H O S' H' v av → k av → Q v H') → t σ H Q
def RTx (K : Fg) (E : WX) (t : TT) (e : ATx) : Prop := ∀ {W : Wel} {H0 : Hp} {S0 : Ads} {O : Nat → Option Addr} {S : Ads} {α : Afr} {σ : L2.St} {H : Hp} {X : AXr} {k : Bool → Prop} {Q : Bool → Hp → Prop},
  Frm K W H0 S0 O S α σ H → e X α k → Lkx K W H0 S0 S H E X → (∀ b S' H', Mvh W S H S' H' → k b → Q b H') → t σ H Q
def RAd (K : Fg) (E : WX) (t : TA) (e : AAd) (n : Nat) : Prop := ∀ {W : Wel} {H0 : Hp} {S0 : Ads} {O : Nat → Option Addr} {S : Ads} {α : Afr} {σ : L2.St} {H : Hp} {X : AXr} {k : List PyData → Prop} {Q : List V → Hp → Prop},
  Frm K W H0 S0 O S α σ H → e X α k → Lkx K W H0 S0 S H E X → (∀ vs xs S' H', Mvh W S H S' H' → Ods K S' H' vs xs → vs.length = n → k xs → Q vs H') → t σ H Q
def RAv (K : Fg) (E : WX) (t : TA) (e : AAv) (n : Nat) : Prop := ∀ {W : Wel} {H0 : Hp} {S0 : Ads} {O : Nat → Option Addr} {S : Ads} {α : Afr} {σ : L2.St} {H : Hp} {X : AXr} {k : List Avl → Prop} {Q : List V → Hp → Prop},
  Frm K W H0 S0 O S α σ H → e X α k → Lkx K W H0 S0 S H E X → (∀ vs avs S' H', Mvh W S H S' H' → Paired (Vrp K W H O S' H') vs avs → vs.length = n → k avs → Q vs H') → t σ H Q
section
variable {K : Fg} {E : WX}
def aVar (i : Nat) : AEx := fun _ α k => ∃ z av, α[i]? = some z ∧ z.av i = some av ∧ k av
theorem re_var {i : Nat} : REx K E (tVar i) (aVar i) := by
  intro W H0 S0 O S α σ H X k Q f h _ q
  obtain ⟨z, av, h1, h2, h3⟩ := h
  have s := f.sl i z h1
  cases z with
  | x => cases h2
  | d x =>
    cases h2
    obtain ⟨v, s1, s2⟩ := s
    exact ⟨v, s1, q v (.d x) S H f.k.refl s2 h3⟩
  | own ds =>
    cases h2
    obtain ⟨p, vs, s1, s2, s3, s4⟩ := s
    exact ⟨_, s2, q _ (.b i ds) S H f.k.refl ⟨p, vs, rfl, s1, s3, s4, Wel.ne f.w0 (f.o i p s1).1⟩ h3⟩
  | wl u =>
    cases h2
    exact ⟨_, s.2, q _ (.wl u) S H f.k.refl ⟨s.1, rfl⟩ h3⟩
  | err a => cases h2
  | dic c => cases h2
def aC (d : PyData) : AEx := fun _ _ k => k (.d d)
theorem re_c {v : V} {d : PyData} (h : ∀ S H, Od K S H v d) : REx K E (tC v) (aC d) := fun f h1 _ q => q _ (.d d) _ _ f.k.refl (h _ _) h1
theorem re_int {i : Int} : REx K E (tC (.int i)) (aC (.int i)) := re_c fun _ _ => .int i
theorem re_str {i : Str} : REx K E (tC (.str i)) (aC (.str i)) := re_c fun _ _ => .str i
theorem re_bl {i : Bool} : REx K E (tC (.bl i)) (aC (.bool i)) := re_c fun _ _ => .bl i
theorem re_non : REx K E (tC .non) (aC .none) := re_c fun _ _ => .non
def aNil : AAd := fun _ _ k => k []
def aCons (e : AEx) (r : AAd) : AAd := fun X α k => e X α fun av => ∃ x, av.cl = some x ∧ r X α fun xs => k (x :: xs)
theorem ra_nil : RAd K E tNil aNil 0 := fun f h _ q => q _ _ _ _ f.k.refl .nil rfl h
/-- a value, kept -/
theorem keepx {W : Wel} {O : Nat → Option Addr} {S S1 : Ads} {H H1 : Hp} {v : V} {av : Avl} {x : PyData} (k : Oks W S H) (m : Mvh W S H S1 H1) (h : Vrp K W H O S1 H1 v av) (e : av.cl = some x) : ∃ S2, Mvh W S H S2 H1 ∧ (∀ b, S1 b → S2 b) ∧ Od K S2 H1 v x := by
  cases av with
  | d y => cases e; exact ⟨S1, m, fun _ h => h, h⟩
  | l ds =>
    cases e
    obtain ⟨p, vs, rfl, h1, h2, h3, h4, h5⟩ := h
    exact ⟨_, k.keep m h1 h4, fun _ h => .inl h, .lst (.inr rfl) h1 (h2.gr fun _ h => .inl h)⟩
  | b i ds => cases e
  | wl u => cases e
  | k c => cases e
theorem ra_cons {te : TE} {tr : TA} {e : AEx} {r : AAd} {n : Nat} (h1 : REx K E te e) (h2 : RAd K E tr r n) : RAd K E (tCons te tr) (aCons e r) (n + 1) := by
  intro W H0 S0 O S α σ H X k Q f h lk q
  refine h1 f h lk fun v av S1 H1 m1 r1 ⟨x, ex, h'⟩ => ?_
  obtain ⟨S2, m2, _, o2⟩ := keepx f.k m1 r1 ex
  have f2 := f.mv m2
  refine h2 f2 h' (lk.kee (m2.kee f.k)) fun vs xs S3 H3 m3 r3 l3 k3 => ?_
  exact q (v :: vs) _ S3 H3 (m2.trans m3) (.cons (m3.od f2.k.w (fun b z => (f2.k.t b z).2) o2) r3) (by rw [List.length_cons, l3]) k3
def bNil : AAv := fun _ _ k => k []
def bCons (e : AEx) (r : AAv) : AAv := fun X α k => e X α fun x => r X α fun xs => k (x :: xs)
theorem rv_nil : RAv K E tNil bNil 0 := fun f h _ q => q _ _ _ _ f.k.refl .nil rfl h
theorem rv_cons {te : TE} {tr : TA} {e : AEx} {r : AAv} {n : Nat} (h1 : REx K E te e) (h2 : RAv K E tr r n) : RAv K E (tCons te tr) (bCons e r) (n + 1) := by
  intro W H0 S0 O S α σ H X k Q f h lk q
  refine h1 f h lk fun v av S1 H1 m1 r1 h' => ?_
  have f1 := f.mv m1
  refine h2 f1 h' (lk.kee (m1.kee f.k)) fun vs xs S3 H3 m3 r3 l3 k3 => ?_
  exact q (v :: vs) _ S3 H3 (m1.trans m3) (.cons (r1.mv f1.k m3) (L2.Paired.mapP r3 fun a b z => Vrp.hs z fun c y => m1.back y)) (by rw [List.length_cons, l3]) k3
def aTup (a : AAd) : AEx := fun X α k => a X α fun xs => k (.d (.tuple xs))
def aLst (a : AAd) : AEx := fun X α k => a X α fun xs => k (.l xs)
theorem re_tup {t : TA} {a : AAd} {n : Nat} (h1 : RAd K E t a n) (hn : Nat.ble n 1000 = true := by rfl) : REx K E (tTup t) (aTup a) := by
  intro W H0 S0 O S α σ H X k Q f h lk q
  refine h1 f h lk fun vs xs S1 H1 m1 r1 l1 k1 => ⟨by rw [l1]; exact Nat.le_trans (Nat.le_of_ble_eq_true hn) (by decide), fun p np => ?_⟩
  have m2 := m1.oks.same (Same.new (o := .tup vs) np)
  exact q _ (.d (.tuple xs)) S1 _ (m1.trans m2) (Od.tup (SqT.of upd_same) (r1.same (Same.new np))) k1
theorem re_lst {t : TA} {a : AAd} {n : Nat} (h1 : RAd K E t a n) (hn : Nat.ble n 1000 = true := by rfl) : REx K E (tLst t) (aLst a) := by
  intro W H0 S0 O S α σ H X k Q f h lk q
  refine h1 f h lk fun vs xs S1 H1 m1 r1 l1 k1 => ⟨by rw [l1]; exact Nat.le_trans (Nat.le_of_ble_eq_true hn) (by decide), fun p np => ?_⟩
  have m2 := m1.oks.same (Same.new (o := .lst vs) np)
  exact q _ (.l xs) S1 _ (m1.trans m2) ⟨p, vs, rfl, upd_same, r1.same (Same.new np), fun z => (m1.t p z).1 np, m1.back np, Wel.ne m1.w np⟩ k1
theorem rt_of {t : TE} {e : AEx} (h1 : REx K E t e) : RTx K E (tTest t) (fun X α k => e X α fun av => ∃ b, av = .d (.bool b) ∧ k b) := by
  intro W H0 S0 O S α σ H X k Q f h lk q
  refine h1 f h lk fun v av S1 H1 m1 r1 ⟨b, eb, k1⟩ => ?_
  subst eb
  cases r1
  exact ⟨b, rfl, q b S1 H1 m1 k1⟩
def aB (e : AEx) : ATx := fun X α k => e X α fun av => ∃ b, av = .d (.bool b) ∧ k b
theorem rt_test {t : TE} {e : AEx} (h1 : REx K E t e) : RTx K E (tTest t) (aB e) := rt_of h1
theorem rt_b {t : TE} {e : AEx} (h1 : REx K E t e) : RTx K E (tB t) (aB e) := rt_of h1
def aYes : ATx := fun _ _ k => k true
theorem rt_yes : RTx K E tYes aYes := fun f h _ q => q true _ _ f.k.refl h
def aAnd (t u : ATx) : ATx := fun X α k => t X α fun c => if c = true then u X α k else k false
def aOr (t u : ATx) : ATx := fun X α k => t X α fun c => if c = true then k true else u X α k
def aNot (t : ATx) : ATx := fun X α k => t X α fun c => k (!c)
theorem rt_or {t u : TT} {a b : ATx} (h1 : RTx K E t a) (h2 : RTx K E u b) : RTx K E (tOr t u) (aOr a b) := by
  intro W H0 S0 O S α σ H X k Q f h lk q
  refine h1 f h lk fun c S1 H1 m1 k1 => ?_
  cases c with
  | true =>
    rw [if_pos rfl] at k1 ⊢
    exact q true S1 H1 m1 k1
  | false =>
    rw [if_neg (by decide)] at k1 ⊢
    exact h2 (f.mv m1) k1 (lk.kee (m1.kee f.k)) fun b S2 H2 m2 k2 => q b S2 H2 (m1.trans m2) k2
theorem rt_not {t : TT} {a : ATx} (h1 : RTx K E t a) : RTx K E (tNot t) (aNot a) := by
  intro W H0 S0 O S α σ H X k Q f h lk q
  exact h1 f h lk fun c S1 H1 m1 k1 => q _ S1 H1 m1 k1
def aIf (t : ATx) (a b : AEx) : AEx := fun X α k => t X α fun c => if c = true then a X α k else b X α k
theorem re_if {t : TT} {ta tb : TE} {c : ATx} {a b : AEx} (h0 : RTx K E t c) (h1 : REx K E ta a) (h2 : REx K E tb b) : REx K E (tIf t ta tb) (aIf c a b) := by
  intro W H0 S0 O S α σ H X k Q f h lk q
  refine h0 f h lk fun c S1 H1 m1 k1 => ?_
  have go : ∀ {t : TE} {e : AEx}, REx K E t e → e X α k → t σ H1 Q := fun r z => r (f.mv m1) z (lk.kee (m1.kee f.k)) fun v av S2 H2 m2 r2 k2 => q v av S2 H2 (m1.trans m2) (r2.hs fun b y => m1.back y) k2
  cases c with
  | true =>
    rw [if_pos rfl] at k1 ⊢
    exact go h1 k1
  | false =>
    rw [if_neg (by decide)] at k1 ⊢
    exact go h2 k1
def aAndV (a b : AEx) : AEx := fun X α k => a X α fun x => ∃ c, x = .d (.bool c) ∧ if c = true then b X α k else k (.d (.bool false))
def aOrV (a b : AEx) : AEx := fun X α k => a X α fun x => ∃ c, x = .d (.bool c) ∧ if c = true then k (.d (.bool true)) else b X α k
def aNotV (a : AEx) : AEx := fun X α k => a X α fun x => ∃ c, x = .d (.bool c) ∧ k (.d (.bool (!c)))
theorem re_andV {ta tb : TE} {a b : AEx} (h1 : REx K E ta a) (h2 : REx K E tb b) : REx K E (tAndV ta tb) (aAndV a b) := by
  intro W H0 S0 O S α σ H X k Q f h lk q
  refine h1 f h lk fun v av S1 H1 m1 r1 ⟨c, ec, k1⟩ => ?_
  subst ec
  cases r1
  refine ⟨c, rfl, ?_⟩
  cases c with
  | true =>
    rw [if_pos rfl] at k1 ⊢
    exact h2 (f.mv m1) k1 (lk.kee (m1.kee f.k)) fun v av S2 H2 m2 r2 k2 => q v av S2 H2 (m1.trans m2) (r2.hs fun b y => m1.back y) k2
  | false =>
    rw [if_neg (by decide)] at k1 ⊢
    exact q _ (.d (.bool false)) S1 H1 m1 (Od.bl false) k1
abbrev AO2 := Avl → Avl → (Avl → Prop) → Prop
def ROp (K : Fg) (r : R2) (g : AO2) : Prop := ∀ {W : Wel} {Hs : Hp} {O : Nat → Option Addr} {S : Ads} {H : Hp} {x y : V} {ax ay : Avl} {k : Avl → Prop} {Q : VK},
  Oks W S H → Vrp K W Hs O S H x ax → Vrp K W Hs O S H y ay → g ax ay k → (∀ v av S' H', Mvh W S H S' H' → Vrp K W H O S' H' v av → k av → Q v H') → r x y H Q
def aOp (g : AO2) (a b : AEx) : AEx := fun X α k => a X α fun x => b X α fun y => g x y k
theorem re_op {r : R2} {ta tb : TE} {g : AO2} {a b : AEx} (ho : ROp K r g) (h1 : REx K E ta a) (h2 : REx K E tb b) : REx K E (tOp r ta tb) (aOp g a b) := by
  intro W H0 S0 O S α σ H X k Q f h lk q
  refine h1 f h lk fun v av S1 H1 m1 r1 k1 => ?_
  have f1 := f.mv m1
  refine h2 f1 k1 (lk.kee (m1.kee f.k)) fun u au S2 H2 m2 r2 k2 => ?_
  refine ho m2.oks (r1.mv f1.k m2) (r2.hs fun b y => m1.back y) k2 fun w aw S3 H3 m3 r3 k3 => ?_
  exact q w aw S3 H3 ((m1.trans m2).trans m3) (r3.hs fun b y => (m1.trans m2).back y) k3
def aChain (g g' : AO2) (a b c : AEx) : AEx := fun X α k => a X α fun x => b X α fun y => g x y fun z => ∃ p, z = .d (.bool p) ∧ if p = true then c X α fun w => g' y w k else k (.d (.bool false))
theorem re_chain {r r' : R2} {ta tb tc : TE} {g g' : AO2} {a b c : AEx} (ho : ROp K r g) (ho' : ROp K r' g') (h1 : REx K E ta a) (h2 : REx K E tb b) (h3 : REx K E tc c) : REx K E (tChain r r' ta tb tc) (aChain g g' a b c) := by
  intro W H0 S0 O S α σ H X k Q f h lk q
  refine h1 f h lk fun v av S1 H1 m1 r1 k1 => ?_
  have f1 := f.mv m1
  refine h2 f1 k1 (lk.kee (m1.kee f.k)) fun u au S2 H2 m2 r2 k2 => ?_
  have r2' := r2.hs fun b y => m1.back y
  refine ho m2.oks (r1.mv f1.k m2) r2' k2 fun w aw S3 H3 m3 r3 ⟨p, ep, k3⟩ => ?_
  subst ep
  cases r3
  refine ⟨p, rfl, ?_⟩
  have m13 := (m1.trans m2).trans m3
  cases p with
  | true =>
    rw [if_pos rfl] at k3 ⊢
    have f3 := f.mv m13
    refine h3 f3 k3 (lk.kee (m13.kee f.k)) fun w aw S4 H4 m4 r4 k4 => ?_
    refine ho' m4.oks ((r2'.mv m2.oks m3).mv m3.oks m4) (r4.hs fun b y => m13.back y) k4 fun w aw S5 H5 m5 r5 k5 => ?_
    exact q w aw S5 H5 ((m13.trans m4).trans m5) (r5.hs fun b y => (m13.trans m4).back y) k5
  | false =>
    rw [if_neg (by decide)] at k3 ⊢
    exact q _ (.d (.bool false)) S3 H3 m13 (Od.bl false) k3
abbrev AO1 := Avl → (Avl → Prop) → Prop
def aUn (g : AO1) (a : AEx) : AEx := fun X α k => a X α fun x => g x k
abbrev AOn := List Avl → (Avl → Prop) → Prop
def RCb (K : Fg) (r : List V → Hp → VK → Prop) (g : AOn) : Prop := ∀ {W : Wel} {Hs : Hp} {O : Nat → Option Addr} {S : Ads} {H : Hp} {xs : List V} {as : List Avl} {k : Avl → Prop} {Q : VK},
  Oks W S H → Paired (Vrp K W Hs O S H) xs as → g as k → (∀ v av S' H', Mvh W S H S' H' → Vrp K W H O S' H' v av → k av → Q v H') → r xs H Q
def aCB (g : AOn) (a : AAv) : AEx := fun X α k => a X α fun xs => g xs k
theorem re_cb {r : List V → Hp → VK → Prop} {ta : TA} {g : AOn} {a : AAv} {n : Nat} (ho : RCb K r g) (h1 : RAv K E ta a n) : REx K E (tCB r ta) (aCB g a) := by
  intro W H0 S0 O S α σ H X k Q f h lk q
  refine h1 f h lk fun vs avs S1 H1 m1 r1 _ k1 => ?_
  exact ho m1.oks r1 k1 fun w aw S3 H3 m3 r3 k3 => q w aw S3 H3 (m1.trans m3) (r3.hs fun b y => m1.back y) k3
abbrev AOp := AXr → Afr → (Option Int → Prop) → Prop
def aNoPart : AOp := fun _ _ k => k none
def aPart (e : AEx) : AOp := fun X α k => e X α fun av => ∃ i, av = .d (.int i) ∧ k (some i)
end
end UW
namespace UW
open PySem PySem.Spec PyProof.Rows L2
def odel (O : Nat → Option Addr) (i : Nat) : Nat → Option Addr := fun j => if j = i then none else O j
def oput (O : Nat → Option Addr) (i : Nat) (p : Addr) : Nat → Option Addr := fun j => if j = i then some p else O j
section
variable {K : Fg} {W : Wel} {Hs H0 H H1 : Hp} {S0 S S1 : Ads} {O : Nat → Option Addr} {α : Afr} {σ : L2.St} {v : V} {av : Avl} {i : Nat}
theorem Frm.back (f : Frm K W H0 S0 O S α σ H) {b : Addr} (h : H b = none) : H0 b = none := by
  cases y : H0 b with
  | none => rfl
  | some o =>
    by_cases z : W.has b
    · exact absurd z (Wel.ne f.k.w h)
    · rw [f.k0 b o y z] at h
      cases h
theorem set_get {α : Type} {l : List α} {i j : Nat} {x y : α} (h : (l.set i x)[j]? = some y) : (j = i ∧ y = x ∧ i < l.length) ∨ (j ≠ i ∧ l[j]? = some y) := by
  by_cases e : i = j
  · subst e
    by_cases hl : i < l.length
    · rw [List.getElem?_set_self hl] at h
      exact .inl ⟨rfl, (Option.some.inj h).symm, hl⟩
    · rw [List.getElem?_eq_none (by simpa using hl)] at h
      cases h
  · rw [List.getElem?_set_ne e] at h
    exact .inr ⟨fun z => e z.symm, h⟩
theorem Slr.other {z : Sot} {j : Nat} {w : Option V} {O' : Nat → Option Addr} (h : Slr K W O S H σ j z) (n : j ≠ i) (ho : O' j = O j) : Slr K W O' S H (σ.set i w) j z := by
  have e : (σ.set i w)[j]? = σ[j]? := List.getElem?_set_ne (fun q => n q.symm)
  cases z with
  | x => trivial
  | d x => obtain ⟨v, a, b⟩ := h; exact ⟨v, e.trans a, b⟩
  | own ds => obtain ⟨p, vs, a, b, c, d⟩ := h; exact ⟨p, vs, ho.trans a, e.trans b, c, d⟩
  | wl u => exact ⟨h.1, e.trans h.2⟩
  | err a => exact e.trans h
  | dic c => obtain ⟨p, a, b, d⟩ := h; exact ⟨p, ho.trans a, e.trans b, d⟩
/-- any slot, its list let go -/
theorem Frm.put (f : Frm K W H0 S0 O S α σ H) {z : Sot} {w : Option V} (hz : i < σ.length → Slr K W (odel O i) S H (σ.set i w) i z) : Frm K W H0 S0 (odel O i) S (α.set i z) (σ.set i w) H := by
  refine ⟨f.k, f.k0, f.n0, f.w0, fun j p e => ?_, by rw [List.length_set, List.length_set]; exact f.len, fun j y e => ?_⟩
  · unfold odel at e
    by_cases q : j = i
    · rw [if_pos q] at e; cases e
    · rw [if_neg q] at e
      obtain ⟨a, b, c, d⟩ := f.o j p e
      refine ⟨a, b, c, fun j' e' => ?_⟩
      by_cases q' : j' = i
      · unfold odel at e'; rw [if_pos q'] at e'; cases e'
      · unfold odel at e'; rw [if_neg q'] at e'; exact d j' e'
  · rcases set_get e with ⟨rfl, rfl, hl⟩ | ⟨n, e⟩
    · exact hz (by rw [← f.len]; exact hl)
    · exact (f.sl j y e).other n (if_neg n)
theorem Frm.setD (f : Frm K W H0 S0 O S α σ H) {x : PyData} (h : Od K S H v x) : Frm K W H0 S0 (odel O i) S (α.set i (.d x)) (σ.set i (some v)) H :=
  f.put fun hl => ⟨v, List.getElem?_set_self hl, h⟩
theorem Frm.setW {u : Nat} (f : Frm K W H0 S0 O S α σ H) (h : W.is u) : Frm K W H0 S0 (odel O i) S (α.set i (.wl u)) (σ.set i (some (.ref W.a))) H := f.put fun hl => ⟨h, List.getElem?_set_self hl⟩
theorem Frm.setL (f : Frm K W H0 S0 O S α σ H) {p : Addr} {vs : List V} {ds : List PyData} (h1 : H p = some (.lst vs)) (h2 : Ods K S H vs ds) (h3 : ¬ S p) (h4 : H0 p = none) (h5 : ∀ j, O j ≠ some p) :
    Frm K W H0 S0 (oput O i p) S (α.set i (.own ds)) (σ.set i (some (.ref p))) H := by
  refine ⟨f.k, f.k0, f.n0, f.w0, fun j q e => ?_, by rw [List.length_set, List.length_set]; exact f.len, fun j y e => ?_⟩
  · unfold oput at e
    by_cases z : j = i
    · rw [if_pos z] at e
      cases e
      refine ⟨h4, (by rw [h1]; intro z; cases z), h3, fun j' e' => ?_⟩
      unfold oput at e'
      by_cases z' : j' = i
      · rw [z', z]
      · rw [if_neg z'] at e'; exact absurd e' (h5 j')
    · rw [if_neg z] at e
      obtain ⟨a, b, c, d⟩ := f.o j q e
      refine ⟨a, b, c, fun j' e' => ?_⟩
      unfold oput at e'
      by_cases z' : j' = i
      · rw [if_pos z'] at e'; cases e'; exact absurd e (h5 j)
      · rw [if_neg z'] at e'; exact d j' e'
  · rcases set_get e with ⟨rfl, rfl, hl⟩ | ⟨n, e⟩
    · exact ⟨p, vs, if_pos rfl, List.getElem?_set_self (by rw [← f.len]; exact hl), h1, h2⟩
    · exact (f.sl j y e).other n (if_neg n)
theorem Frm.setC (f : Frm K W H0 S0 O S α σ H) {p : Addr} {c : Dic} (h1 : DcR K S H p c) (h3 : ¬ S p) (h4 : H0 p = none) (h5 : ∀ j, O j ≠ some p) :
    Frm K W H0 S0 (oput O i p) S (α.set i (.dic c)) (σ.set i (some (.ref p))) H := by
  refine ⟨f.k, f.k0, f.n0, f.w0, fun j q e => ?_, by rw [List.length_set, List.length_set]; exact f.len, fun j y e => ?_⟩
  · unfold oput at e
    by_cases z : j = i
    · rw [if_pos z] at e
      cases e
      refine ⟨h4, h1.ne, h3, fun j' e' => ?_⟩
      unfold oput at e'
      by_cases z' : j' = i
      · rw [z', z]
      · rw [if_neg z'] at e'; exact absurd e' (h5 j')
    · rw [if_neg z] at e
      obtain ⟨a, b, c, d⟩ := f.o j q e
      refine ⟨a, b, c, fun j' e' => ?_⟩
      unfold oput at e'
      by_cases z' : j' = i
      · rw [if_pos z'] at e'; cases e'; exact absurd e (h5 j)
      · rw [if_neg z'] at e'; exact d j' e'
  · rcases set_get e with ⟨rfl, rfl, hl⟩ | ⟨n, e⟩
    · exact ⟨p, if_pos rfl, List.getElem?_set_self (by rw [← f.len]; exact hl), h1⟩
    · exact (f.sl j y e).other n (if_neg n)
/-- the dict of a slot is changed -/
theorem Frm.chgD (f : Frm K W H0 S0 O S α σ H) {p : Addr} {c c' : Dic} {o : HO} (ho : O i = some p) (hs : σ[i]? = some (some (.ref p))) (hu : DcR K S H p c) (h2 : (∀ {v d}, Od K S H v d → Od K S (upd H p o) v d) → DcR K S (upd H p o) p c') (hi : i < α.length) :
    Frm K W H0 S0 O S (α.set i (.dic c')) σ (upd H p o) ∧ Kee S H S (upd H p o) := by
  obtain ⟨p0, p1, p2, p3⟩ := f.o i p ho
  obtain ⟨o0, a0, a1⟩ := hu.at
  have pw : ¬ W.has p := Wel.ne f.w0 p0
  have nS : ∀ b, S b → b ≠ p := fun b h z => p2 (z ▸ h)
  have tm : Tm H (upd H p o) := fun a xs h => by
    by_cases z : a = p
    · rw [z, a0] at h
      exact absurd (Option.some.inj h) (a1 xs)
    · rw [upd_ne z]; exact h
  have kk : ∀ b u, S b → H b = some u → upd H p o b = some u := fun b u hb h => by rw [upd_ne (nS b hb)]; exact h
  have mo : ∀ {v d}, Od K S H v d → Od K S (upd H p o) v d := fun h => h.mv tm fun a o ga q => ⟨ga, kk a o ga q⟩
  have mos : ∀ {v d}, Ods K S H v d → Ods K S (upd H p o) v d := fun h => h.mv tm fun a o ga q => ⟨ga, kk a o ga q⟩
  refine ⟨⟨⟨fun on => ?_, fun b h => ?_⟩, fun b o h z => ?_, f.n0, f.w0, fun j q e => ?_, by rw [List.length_set]; exact f.len, fun j y e => ?_⟩, ⟨fun _ h => h, tm, kk⟩⟩
  · exact f.k.w.put pw on
  · rw [upd_ne (nS b h)]; exact f.k.t b h
  · rw [upd_ne fun q => by rw [q, p0] at h; cases h]; exact f.k0 b o h z
  · obtain ⟨a, b, c, d⟩ := f.o j q e
    refine ⟨a, ?_, c, d⟩
    by_cases z : q = p
    · rw [z, upd_same]; intro y; cases y
    · rw [upd_ne z]; exact b
  · rcases set_get e with ⟨rfl, rfl, hl⟩ | ⟨n, e⟩
    · exact ⟨p, ho, hs, h2 mo⟩
    · have := f.sl j y e
      cases y with
      | x => trivial
      | d x => obtain ⟨v, a, b⟩ := this; exact ⟨v, a, mo b⟩
      | own es =>
        obtain ⟨q, ws, a, b, c, d⟩ := this
        exact ⟨q, ws, a, b, by rw [upd_ne fun z => n (p3 j (by rw [← z]; exact a))]; exact c, mos d⟩
      | dic c =>
        obtain ⟨q, a, b, c⟩ := this
        exact ⟨q, a, b, c.mp (fun o e => by rw [upd_ne fun z => n (p3 j (by rw [← z]; exact a))]; exact e) mo⟩
      | wl u => exact this
      | err a => exact this
/-- the list of a slot is changed -/
theorem Frm.chg (f : Frm K W H0 S0 O S α σ H) {p : Addr} {us vs : List V} {ds : List PyData} (ho : O i = some p) (hs : σ[i]? = some (some (.ref p))) (hu : H p = some (.lst us)) (h2 : Ods K S H vs ds) (hi : i < α.length) :
    Frm K W H0 S0 O S (α.set i (.own ds)) σ (upd H p (.lst vs)) ∧ Kee S H S (upd H p (.lst vs)) := by
  obtain ⟨p0, p1, p2, p3⟩ := f.o i p ho
  have pw : ¬ W.has p := Wel.ne f.w0 p0
  have nS : ∀ b, S b → b ≠ p := fun b h z => p2 (z ▸ h)
  have tm : Tm H (upd H p (.lst vs)) := Tm.lst hu
  have kk : ∀ b o, S b → H b = some o → upd H p (.lst vs) b = some o := fun b o hb h => by rw [upd_ne (nS b hb)]; exact h
  have mo : ∀ {v d}, Od K S H v d → Od K S (upd H p (.lst vs)) v d := fun h => h.mv tm fun a o ga q => ⟨ga, kk a o ga q⟩
  have mos : ∀ {v d}, Ods K S H v d → Ods K S (upd H p (.lst vs)) v d := fun h => h.mv tm fun a o ga q => ⟨ga, kk a o ga q⟩
  refine ⟨⟨⟨fun on => ?_, fun b h => ?_⟩, fun b o h z => ?_, f.n0, f.w0, fun j q e => ?_, by rw [List.length_set]; exact f.len, fun j y e => ?_⟩, ⟨fun _ h => h, tm, kk⟩⟩
  · exact f.k.w.put pw on
  · rw [upd_ne (nS b h)]; exact f.k.t b h
  · rw [upd_ne fun q => by rw [q, p0] at h; cases h]; exact f.k0 b o h z
  · obtain ⟨a, b, c, d⟩ := f.o j q e
    refine ⟨a, ?_, c, d⟩
    by_cases z : q = p
    · rw [z, upd_same]; intro y; cases y
    · rw [upd_ne z]; exact b
  · rcases set_get e with ⟨rfl, rfl, hl⟩ | ⟨n, e⟩
    · exact ⟨p, vs, ho, hs, upd_same, mos h2⟩
    · have := f.sl j y e
      cases y with
      | dic c =>
        obtain ⟨q, a, b, c⟩ := this
        exact ⟨q, a, b, c.mp (fun o e => by rw [upd_ne fun z => n (p3 j (by rw [← z]; exact a))]; exact e) mo⟩
      | x => trivial
      | d x => obtain ⟨v, a, b⟩ := this; exact ⟨v, a, mo b⟩
      | own es =>
        obtain ⟨q, ws, a, b, c, d⟩ := this
        exact ⟨q, ws, a, b, by rw [upd_ne fun z => n (p3 j (by rw [← z]; exact a))]; exact c, mos d⟩
      | wl u => exact this
      | err a => exact this
/-- the list of a slot is kept as it is from now on -/
def frz1 (α : Afr) (i : Nat) : Afr := match α[i]? with
  | some (.own ds) => α.set i (.d (.list ds))
  | _ => α
def frzs (α : Afr) (fz : List Nat) : Afr := fz.foldl frz1 α
theorem Frm.frz (f : Frm K W H0 S0 O S α σ H) {p : Addr} {ds : List PyData} (e0 : α[i]? = some (.own ds)) (ho : O i = some p) : Frm K W H0 S0 (odel O i) (fun b => S b ∨ b = p) (α.set i (.d (.list ds))) σ H ∧ Kee S H (fun b => S b ∨ b = p) H := by
  obtain ⟨q, vs, h1, h2, h3, h4⟩ := f.sl i _ e0
  rw [ho] at h1
  cases h1
  obtain ⟨p0, p1, p2, p3⟩ := f.o i p ho
  have hl : i < α.length := (List.getElem?_eq_some_iff.mp e0).1
  refine ⟨⟨⟨f.k.w, fun b h => ?_⟩, f.k0, fun b h => ?_, f.w0, fun j q e => ?_, by rw [List.length_set]; exact f.len, fun j y e => ?_⟩, ⟨fun _ h => .inl h, Tm.refl _, fun _ _ _ h => h⟩⟩
  · rcases h with h | rfl
    · exact f.k.t b h
    · exact ⟨p1, Wel.ne f.w0 p0⟩
  · rcases h with h | rfl
    · exact f.n0 b h
    · exact .inr p0
  · unfold odel at e
    by_cases z : j = i
    · rw [if_pos z] at e; cases e
    · rw [if_neg z] at e
      obtain ⟨a, b, c, d⟩ := f.o j q e
      refine ⟨a, b, fun y => y.elim c fun y => z ?_, fun j' e' => ?_⟩
      · subst y
        exact p3 j e
      · by_cases q' : j' = i
        · unfold odel at e'; rw [if_pos q'] at e'; cases e'
        · unfold odel at e'; rw [if_neg q'] at e'; exact d j' e'
  · rcases set_get e with ⟨rfl, rfl, _⟩ | ⟨n, e⟩
    · exact ⟨_, h2, .lst (.inr rfl) h3 (h4.gr fun _ h => .inl h)⟩
    · have := f.sl j y e
      cases y with
      | dic c => obtain ⟨q, a, b, c⟩ := this; exact ⟨q, (if_neg n).trans a, b, c.mp (fun o e => e) fun z => z.gr fun _ h => .inl h⟩
      | x => trivial
      | d x => obtain ⟨v, a, b⟩ := this; exact ⟨v, a, b.gr fun _ h => .inl h⟩
      | own es => obtain ⟨q, ws, a, b, c, d⟩ := this; exact ⟨q, ws, (if_neg n).trans a, b, c, d.gr fun _ h => .inl h⟩
      | wl u => exact this
      | err a => exact this
end
structure AEn where
  nx : Afr → Prop
  rt : Avl → Prop
  bk : Afr → Prop := fun _ => False
  ct : Afr → Prop := fun _ => False
  er : AXr := fun _ _ _ => False
abbrev ASt := AEn → Afr → Prop
def Avl.out : Avl → Avl
  | .b _ ds => .l ds
  | x => x
/-- a value that is handed back -/
def Rtn (K : Fg) (W : Wel) (H0 : Hp) (S0 : Ads) (v : V) (av : Avl) (H' : Hp) : Prop := ∃ S' : Ads, W.ok H' ∧ (∀ b o, H0 b = some o → ¬ W.has b → H' b = some o) ∧ (∀ b, S' b → (S0 b ∨ H0 b = none) ∧ H' b ≠ none ∧ ¬ W.has b) ∧ Vrp K W H0 (fun _ => none) S' H' v av
structure Lnk (K : Fg) (W : Wel) (H0 : Hp) (S0 : Ads) (S : Ads) (H : Hp) (E : WX) (A : AEn) (D : Ends) : Prop where
  nx : ∀ O' S' α' σ' H', Kee S H S' H' → Frm K W H0 S0 O' S' α' σ' H' → A.nx α' → D.nx σ' H'
  bk : ∀ O' S' α' σ' H', Kee S H S' H' → Frm K W H0 S0 O' S' α' σ' H' → A.bk α' → D.bk σ' H'
  ct : ∀ O' S' α' σ' H', Kee S H S' H' → Frm K W H0 S0 O' S' α' σ' H' → A.ct α' → D.ct σ' H'
  rt : ∀ v av H', Rtn K W H0 S0 v av H' → A.rt av → D.rt v H'
  er : Lkx K W H0 S0 S H E A.er
theorem Lnk.kee {K : Fg} {W : Wel} {H0 : Hp} {S0 S S1 : Ads} {H H1 : Hp} {E : WX} {A : AEn} {D : Ends} (l : Lnk K W H0 S0 S H E A D) (k : Kee S H S1 H1) : Lnk K W H0 S0 S1 H1 E A D :=
  ⟨fun O' S' α' σ' H' a b c => l.nx O' S' α' σ' H' (k.trans a) b c, fun O' S' α' σ' H' a b c => l.bk O' S' α' σ' H' (k.trans a) b c, fun O' S' α' σ' H' a b c => l.ct O' S' α' σ' H' (k.trans a) b c, l.rt, l.er.kee k⟩
def RSt (K : Fg) (E : WX) (t : TS) (s : ASt) : Prop := ∀ {W : Wel} {H0 : Hp} {S0 : Ads} {O : Nat → Option Addr} {S : Ads} {α : Afr} {σ : L2.St} {H : Hp} {A : AEn} {D : Ends},
  Frm K W H0 S0 O S α σ H → s A α → Lnk K W H0 S0 S H E A D → t D σ H
section
variable {K : Fg} {E : WX} {t u : TS} {a b : ASt} {te ti : TE} {e ei : AEx} {i j : Nat}
def aSeq (a b : ASt) : ASt := fun A α => a { A with nx := b A } α
theorem rs_seq (h1 : RSt K E t a) (h2 : RSt K E u b) : RSt K E (tSeq t u) (aSeq a b) := by
  intro W H0 S0 O S α σ H A D f h l
  exact h1 (D := { D with nx := u D }) f h ⟨fun O' S' α' σ' H' k g q => h2 g q (l.kee k), l.bk, l.ct, l.rt, l.er⟩
def aNext : ASt := fun A α => A.nx α
def aBrk : ASt := fun A α => A.bk α
def aCont : ASt := fun A α => A.ct α
theorem rs_next : RSt K E tNext aNext := fun f h l => l.nx _ _ _ _ _ Kee.refl f h
/-- a value leaves -/
theorem rtn_of {W : Wel} {H0 : Hp} {S0 : Ads} {O : Nat → Option Addr} {S S1 : Ads} {α : Afr} {σ : L2.St} {H H1 : Hp} {v : V} {av : Avl} (f : Frm K W H0 S0 O S α σ H) (m : Mvh W S H S1 H1) (r : Vrp K W H O S1 H1 v av) : Rtn K W H0 S0 v av.out H1 := by
  have g := f.mv m
  refine ⟨S1, g.k.w, g.k0, fun b h => ⟨g.n0 b h, g.k.t b h⟩, ?_⟩
  cases av with
  | d x => exact r
  | l ds =>
    obtain ⟨p, vs, rfl, h1, h2, h3, h4, h5⟩ := r
    exact ⟨p, vs, rfl, h1, h2, h3, f.back h4, h5⟩
  | b i ds =>
    obtain ⟨p, vs, rfl, h0, h1, h2, h3⟩ := r
    obtain ⟨a, b, c, d⟩ := g.o i p h0
    exact ⟨p, vs, rfl, h1, h2, c, a, h3⟩
  | wl u => exact r
  | k c =>
    obtain ⟨p, rfl, h1, h3, h4, h5⟩ := r
    exact ⟨p, rfl, h1, h3, f.back h4, h5⟩
def aRet (e : AEx) : ASt := fun A α => e A.er α fun av => A.rt av.out
def aRetN : ASt := fun A _ => A.rt (.d .none)
theorem rs_ret (h1 : REx K E te e) : RSt K E (tRet te) (aRet e) := by
  intro W H0 S0 O S α σ H A D f h l
  exact h1 f h l.er fun v av S1 H1 m r k => l.rt v _ H1 (rtn_of f m r) k
def aDrop (e : AEx) : ASt := fun A α => e A.er α fun _ => A.nx α
def aIfS (c : ATx) (a b : ASt) : ASt := fun A α => c A.er α fun x => if x = true then a A α else b A α
theorem rs_ifs {c : TT} {x : ATx} (h0 : RTx K E c x) (h1 : RSt K E t a) (h2 : RSt K E u b) : RSt K E (tIfS c t u) (aIfS x a b) := by
  intro W H0 S0 O S α σ H A D f h l
  refine h0 f h l.er fun c S1 H1 m k => ?_
  cases c with
  | true =>
    rw [if_pos rfl] at k ⊢
    exact h1 (f.mv m) k (l.kee (m.kee f.k))
  | false =>
    rw [if_neg (by decide)] at k ⊢
    exact h2 (f.mv m) k (l.kee (m.kee f.k))
def Avl.sot : Avl → Option Sot
  | .d x => some (.d x)
  | .l ds => some (.own ds)
  | .b _ _ => none
  | .wl u => some (.wl u)
  | .k c => some (.dic c)
def Avl.isL : Avl → Bool
  | .l _ => true
  | .k _ => true
  | _ => false
/-- a value comes to a slot -/
theorem store_av {W : Wel} {H0 : Hp} {S0 : Ads} {O : Nat → Option Addr} {S : Ads} {α : Afr} {σ : L2.St} {H Hs : Hp} {v : V} {av : Avl} {z : Sot} (f : Frm K W H0 S0 O S α σ H) (r : Vrp K W Hs O S H v av) (hz : av.sot = some z) (hb : ∀ b, Hs b = none → H0 b = none) (ho : ∀ j p, O j = some p → Hs p ≠ none) :
    ∃ O', Frm K W H0 S0 O' S (α.set i z) (σ.set i (some v)) H ∧ ∀ j p, O' j = some p → O j = some p ∨ (av.isL = true ∧ v = .ref p) := by
  cases av with
  | d x =>
    cases hz
    exact ⟨_, f.setD r, fun j p e => .inl (by unfold odel at e; split at e <;> first | cases e | exact e)⟩
  | l ds =>
    cases hz
    obtain ⟨p, vs, rfl, h1, h2, h3, h4, h5⟩ := r
    refine ⟨_, f.setL (i := i) h1 h2 h3 (hb _ h4) (fun j e => ho j p e h4), fun j q e => ?_⟩
    unfold oput at e
    split at e
    · cases e; exact .inr ⟨rfl, rfl⟩
    · exact .inl e
  | b i ds => cases hz
  | k c =>
    cases hz
    obtain ⟨p, rfl, h1, h3, h4, h5⟩ := r
    refine ⟨_, f.setC (i := i) h1 h3 (hb _ h4) (fun j e => ho j p e h4), fun j q e => ?_⟩
    unfold oput at e
    split at e
    · cases e; exact .inr ⟨rfl, rfl⟩
    · exact .inl e
  | wl u =>
    cases hz
    obtain ⟨on, rfl⟩ := r
    exact ⟨_, f.setW on, fun j p e => .inl (by unfold odel at e; split at e <;> first | cases e | exact e)⟩
def aSet (i : Nat) (e : AEx) : ASt := fun A α => e A.er α fun av => ∃ z, av.sot = some z ∧ A.nx (α.set i z)
theorem rs_set (h1 : REx K E te e) : RSt K E (tAsg te (gName i)) (aSet i e) := by
  intro W H0 S0 O S α σ H A D f h l
  refine h1 f h l.er fun v av S1 H1 m r ⟨z, hz, k⟩ => ?_
  obtain ⟨O', g, _⟩ := store_av (i := i) (f.mv m) r hz (fun b q => f.back q) fun j p e => (f.o j p e).2.1
  exact l.nx O' S1 _ _ H1 (m.kee f.k) g k
/-- two values to two slots -/
def aSet2 (i j : Nat) (e e' : AEx) : ASt := fun A α => e A.er α fun x => e' A.er α fun y => ∃ z w, x.sot = some z ∧ y.sot = some w ∧ A.nx ((α.set i z).set j w)
theorem own_old {W : Wel} {H0 : Hp} {S0 : Ads} {O O1 : Nat → Option Addr} {S1 : Ads} {α : Afr} {σ : L2.St} {H H1 : Hp} {v : V} {av : Avl} (f1 : Frm K W H0 S0 O S1 α σ H1) (r1 : Vrp K W H O S1 H1 v av) (h1 : ∀ j p, O1 j = some p → O j = some p ∨ (av.isL = true ∧ v = .ref p)) : ∀ j p, O1 j = some p → H1 p ≠ none := by
  intro j p e
  rcases h1 j p e with q | ⟨q, rfl⟩
  · exact (f1.o j p q).2.1
  · cases av with
    | l ds =>
      obtain ⟨p', vs, e', a1, _⟩ := r1
      cases e'
      rw [a1]
      intro y
      cases y
    | k c =>
      obtain ⟨p', e', a1, _⟩ := r1
      cases e'
      exact a1.ne
    | d x => cases q
    | b i ds => cases q
    | wl u => cases q
theorem store2 {W : Wel} {H0 : Hp} {S0 : Ads} {O : Nat → Option Addr} {S S1 S2 : Ads} {α : Afr} {σ : L2.St} {H H1 H2 : Hp} {v u : V} {av au : Avl} {z w : Sot} (f : Frm K W H0 S0 O S α σ H) (m1 : Mvh W S H S1 H1) (r1 : Vrp K W H O S1 H1 v av) (m2 : Mvh W S1 H1 S2 H2) (r2 : Vrp K W H1 O S2 H2 u au)
    (hz : av.sot = some z) (hw : au.sot = some w) : ∃ O', Frm K W H0 S0 O' S2 ((α.set i z).set j w) ((σ.set i (some v)).set j (some u)) H2 := by
  have f1 := f.mv m1
  have f2 := f1.mv m2
  obtain ⟨O1, g1, h1⟩ := store_av (i := i) f2 (r1.mv f1.k m2) hz (fun b q => f.back q) fun j p e => (f.o j p e).2.1
  have old := own_old f1 r1 h1
  have r2' : Vrp K W H1 O1 S2 H2 u au := by
    cases au with
    | b k ds => cases hw
    | d x => exact r2
    | l ds => exact r2
    | k c => exact r2
    | wl u => exact r2
  obtain ⟨O2, g2, _⟩ := store_av (i := j) g1 r2' hw (fun b q => f1.back q) old
  exact ⟨O2, g2⟩
theorem rs_set2 {te' : TE} {e' : AEx} (h1 : REx K E te e) (h2 : REx K E te' e') : RSt K E (tPar i j (tCons te (tCons te' tNil))) (aSet2 i j e e') := by
  intro W H0 S0 O S α σ H A D f h l
  refine h1 f h l.er fun v av S1 H1 m r h' => ?_
  have f1 := f.mv m
  refine h2 f1 h' (l.er.kee (m.kee f.k)) fun u au S2 H2 m2 r2 ⟨z, w, hz, hw, k⟩ => ?_
  obtain ⟨O', g⟩ := store2 (i := i) (j := j) f m r m2 r2 hz hw
  exact ⟨v, u, rfl, l.nx O' S2 _ _ H2 ((m.trans m2).kee f.k) g k⟩
/-- by way of a new tuple -/
theorem rs_setT2 {te' : TE} {e' : AEx} (h1 : REx K E te e) (h2 : REx K E te' e') : RSt K E (tAsg (tTup (tCons te (tCons te' tNil))) (gTup K 2 (gCons (gName i) (gCons (gName j) gNil)))) (aSet2 i j e e') := by
  intro W H0 S0 O S α σ H A D f h l
  refine h1 f h l.er fun v av S1 H1 m r h' => ?_
  have f1 := f.mv m
  refine h2 f1 h' (l.er.kee (m.kee f.k)) fun u au S2 H2 m2 r2 ⟨z, w, hz, hw, k⟩ => ?_
  refine ⟨by show 2 ≤ sizeLine; decide, fun p np => ?_⟩
  have m3 := m2.oks.same (Same.new (o := .tup [v, u]) np)
  obtain ⟨O', g⟩ := store2 (i := i) (j := j) f m r (m2.trans m3) (r2.mv m2.oks m3) hz hw
  exact ⟨p, _, rfl, (SqT.of (K := K) upd_same).up, rfl, _, _, rfl, _, _, rfl, rfl, l.nx O' S2 _ _ _ (((m.trans m2).trans m3).kee f.k) g k⟩
def aSet3 (i j n : Nat) (e e' e2 : AEx) : ASt := fun A α => e A.er α fun x => e' A.er α fun y => e2 A.er α fun x2 => ∃ z w z2, x.sot = some z ∧ y.sot = some w ∧ x2.sot = some z2 ∧ A.nx (((α.set i z).set j w).set n z2)
def aApp (i : Nat) (e : AEx) : ASt := fun A α => ∃ ds, α[i]? = some (.own ds) ∧ e A.er α fun av => ∃ x, av.cl = some x ∧ ds.length < 100000 ∧ A.nx (α.set i (.own (ds ++ [x])))
theorem own_at {W : Wel} {H0 : Hp} {S0 : Ads} {O : Nat → Option Addr} {S : Ads} {α : Afr} {σ : L2.St} {H : Hp} {ds : List PyData} (f : Frm K W H0 S0 O S α σ H) (h : α[i]? = some (.own ds)) : ∃ p vs, O i = some p ∧ σ[i]? = some (some (.ref p)) ∧ H p = some (.lst vs) ∧ Ods K S H vs ds ∧ i < α.length ∧ ¬ W.has p ∧ vs.length = ds.length := by
  obtain ⟨p, vs, a, b, c, d⟩ := f.sl i _ h
  exact ⟨p, vs, a, b, c, d, (List.getElem?_eq_some_iff.mp h).1, Wel.ne f.w0 (f.o i p a).1, d.length⟩
/-- the slot's list, ahead of and behind an expression -/
theorem own_mv {W : Wel} {H0 : Hp} {S0 : Ads} {O : Nat → Option Addr} {S S1 : Ads} {α : Afr} {σ : L2.St} {H H1 : Hp} (f : Frm K W H0 S0 O S α σ H) (m : Mvh W S H S1 H1) {p : Addr} {vs : List V} (a : O i = some p) (c : H p = some (.lst vs)) : H1 p = some (.lst vs) := m.k _ _ c (Wel.ne f.w0 (f.o i p a).1)
end
section
variable {K : Fg} {E : WX} {te ti : TE} {e ei : AEx} {i j : Nat}
theorem rs_app (h1 : REx K E te e) : RSt K E (tDrop (tBM K "list" rAppend (tVar i) (tCons te tNil))) (aApp i e) := by
  intro W H0 S0 O S α σ H A D f ⟨ds, h0, h⟩ l
  obtain ⟨p, vs, a, b, c, d, hi, nw, ln⟩ := own_at f h0
  refine ⟨_, b, o_tyL c ?_⟩
  refine h1 f h l.er fun v av S1 H1 m r ⟨x, hx, hl, k⟩ => ?_
  obtain ⟨S2, m2, _, od⟩ := keepx f.k m r hx
  have c2 := own_mv f m2 a c
  have f2 := f.mv m2
  have ods : Ods K S2 H1 (vs ++ [v]) (ds ++ [x]) := (m2.ods f.k.w (fun b z => (f.k.t b z).2) d).append (.cons od .nil)
  obtain ⟨g, ke⟩ := f2.chg a b c2 ods hi
  exact ⟨p, vs, v, rfl, rfl, c2, Nat.lt_of_lt_of_le (by omega) (show 100000 ≤ sizeLine by decide), l.nx O S2 _ σ _ ((m2.kee f.k).trans ke) g k⟩
def aExt (i : Nat) (e : AEx) : ASt := fun A α => ∃ ds, α[i]? = some (.own ds) ∧ e A.er α fun av => ∃ xs, av.lst = some xs ∧ ds.length + xs.length < 100000 ∧ A.nx (α.set i (.own (ds ++ xs)))
theorem Vrp.lst {W : Wel} {Hs : Hp} {O : Nat → Option Addr} {S : Ads} {H : Hp} {v : V} {av : Avl} {ds : List PyData} (r : Vrp K W Hs O S H v av) (e : av.lst = some ds) : ∃ p vs, v = .ref p ∧ H p = some (.lst vs) ∧ Ods K S H vs ds := by
  cases av with
  | d x =>
    cases x with
    | list xs =>
      cases e
      cases r with
      | lst a b c => exact ⟨_, _, rfl, b, c⟩
    | _ => cases e
  | l xs =>
    cases e
    obtain ⟨p, vs, rfl, h1, h2, _⟩ := r
    exact ⟨p, vs, rfl, h1, h2⟩
  | b j xs =>
    cases e
    obtain ⟨p, vs, rfl, _, h1, h2, _⟩ := r
    exact ⟨p, vs, rfl, h1, h2⟩
  | k c => cases e
  | wl u => cases e
theorem Vrp.tup {W : Wel} {Hs : Hp} {O : Nat → Option Addr} {S : Ads} {H : Hp} {v : V} {av : Avl} {ds : List PyData} (r : Vrp K W Hs O S H v av) (e : av.tup = some ds) : ∃ p vs, v = .ref p ∧ SqT K H p vs ∧ Ods K S H vs ds := by
  cases av with
  | d x =>
    cases x with
    | tuple xs =>
      cases e
      cases r with
      | tup a b => exact ⟨_, _, rfl, a, b⟩
    | _ => cases e
  | l xs => cases e
  | b j xs => cases e
  | k c => cases e
  | wl u => cases e
theorem rs_ext (h1 : REx K E te e) : RSt K E (tDrop (tBM K "list" rExtend (tVar i) (tCons te tNil))) (aExt i e) := by
  intro W H0 S0 O S α σ H A D f ⟨ds, h0, h⟩ l
  obtain ⟨p, vs, a, b, c, d, hi, nw, ln⟩ := own_at f h0
  refine ⟨_, b, o_tyL c ?_⟩
  refine h1 f h l.er fun v av S1 H1 m r ⟨xs, hx, hl, k⟩ => ?_
  obtain ⟨q, us, rfl, hq, od⟩ := r.lst hx
  have c2 := own_mv f m a c
  have f2 := f.mv m
  have ods : Ods K S1 H1 (vs ++ us) (ds ++ xs) := (m.ods f.k.w (fun b z => (f.k.t b z).2) d).append od
  have lu := od.length
  obtain ⟨g, ke⟩ := f2.chg a b c2 ods hi
  exact ⟨p, q, vs, us, rfl, rfl, c2, hq, Nat.le_trans (by omega) (show 100000 ≤ sizeLine by decide), l.nx O S1 _ σ _ ((m.kee f.k).trans ke) g k⟩
/-- x = y.pop(i) -/
def aPop (i j : Nat) (e : AEx) : ASt := fun A α => ∃ ds, α[i]? = some (.own ds) ∧ e A.er α fun av => ∃ (n : Nat) (x : PyData), av = .d (.int n) ∧ ds[n]? = some x ∧ n < 100000 ∧ A.nx ((α.set i (.own (ds.eraseIdx n))).set j (.d x))
theorem Ods.erase {G : Ads} {H : Hp} : ∀ {vs : List V} {ds : List PyData} (n : Nat), Ods K G H vs ds → Ods K G H (vs.eraseIdx n) (ds.eraseIdx n)
  | _, _, _, .nil => .nil
  | _, _, 0, .cons _ h => h
  | _, _, n + 1, .cons a h => .cons a (Ods.erase n h)
theorem rs_pop (h1 : REx K E te e) : RSt K E (tAsg (tBM K "list" rPopAt (tVar i) (tCons te tNil)) (gName j)) (aPop i j e) := by
  intro W H0 S0 O S α σ H A D f ⟨ds, h0, h⟩ l
  obtain ⟨p, vs, a, b, c, d, hi, nw, ln⟩ := own_at f h0
  refine ⟨_, b, o_tyL c ?_⟩
  refine h1 f h l.er fun v av S1 H1 m r ⟨n, x, ev, hx, hl, k⟩ => ?_
  subst ev
  cases r
  have c2 := own_mv f m a c
  have f2 := f.mv m
  have od1 := m.ods f.k.w (fun b z => (f.k.t b z).2) d
  obtain ⟨y, hy, oy⟩ := od1.nth hx
  obtain ⟨g, ke⟩ := f2.chg a b c2 (od1.erase n) hi
  refine o_popAt c2 rfl hy hl fun H2 a2 => ?_
  have e2 : H2 = upd H1 p (.lst (vs.eraseIdx n)) := by
    funext q
    by_cases z : q = p
    · rw [z, upd_same]; exact a2.1
    · rw [upd_ne z]; exact a2.2 q z
  rw [e2]
  exact l.nx _ S1 _ _ _ ((m.kee f.k).trans ke) (g.setD (ke.od oy)) k
/-- x[i] = e, x a slot's list -/
def aSetI (i : Nat) (e ei : AEx) : ASt := fun A α => e A.er α fun av => ∃ x, av.cl = some x ∧ ∃ ds, α[i]? = some (.own ds) ∧ ei A.er α fun ai => ∃ (j : Int) (n : Nat), ai = .d (.int j) ∧ ixN ds.length j = some n ∧ A.nx (α.set i (.own (ds.set n x)))
theorem Ods.setN {G : Ads} {H : Hp} {v : V} {x : PyData} (o : Od K G H v x) : ∀ {vs : List V} {ds : List PyData} (n : Nat), Ods K G H vs ds → Ods K G H (vs.set n v) (ds.set n x)
  | _, _, _, .nil => .nil
  | _, _, 0, .cons _ h => .cons o h
  | _, _, n + 1, .cons a h => .cons a (Ods.setN o n h)
theorem rs_setI (h1 : REx K E te e) (h2 : REx K E ti ei) : RSt K E (tAsg te (gSub (tVar i) ti rSetL)) (aSetI i e ei) := by
  intro W H0 S0 O S α σ H A D f h l
  refine h1 f h l.er fun v av S1 H1 m r ⟨x, hx, ds, h0, h'⟩ => ?_
  obtain ⟨S2, m2, _, od⟩ := keepx f.k m r hx
  have f2 := f.mv m2
  obtain ⟨p, vs, a, b, c, d, hi, nw, ln⟩ := own_at f2 h0
  refine ⟨_, b, ?_⟩
  refine h2 f2 h' (l.er.kee (m2.kee f.k)) fun u au S3 H3 m3 r3 ⟨j, n, ev, hn, k⟩ => ?_
  subst ev
  cases r3
  have f3 := f2.mv m3
  have t2 : ∀ b, S2 b → ¬ W.has b := fun b z => (f2.k.t b z).2
  have c3 := own_mv f2 m3 a c
  obtain ⟨g, ke⟩ := f3.chg a b c3 ((m3.ods f2.k.w t2 d).setN (m3.od f2.k.w t2 od) n) hi
  exact ⟨p, vs, j, n, rfl, rfl, c3, by rw [ln]; exact hn, l.nx O S3 _ _ _ (((m2.trans m3).kee f.k).trans ke) g k⟩
end
abbrev ATg := PyData → Afr → (Afr → Prop) → Prop
abbrev ATgs := List PyData → Afr → (Afr → Prop) → Prop
def awipe (α : Afr) : List Nat → Afr
  | [] => α
  | v :: vs => (awipe α vs).set v .x
/-- is: what it may store to -/
def RTg (K : Fg) (g : TG) (ag : ATg) (is : List Nat) : Prop := ∀ {W : Wel} {H0 : Hp} {S0 : Ads} {O : Nat → Option Addr} {S : Ads} {α : Afr} {σ : L2.St} {H : Hp} {v : V} {x : PyData} {k : Afr → Prop} {Q : L2.St → Hp → Prop},
  Frm K W H0 S0 O S α σ H → Od K S H v x → ag x α k → (∀ O' α' σ', Frm K W H0 S0 O' S α' σ' H → (∀ i, i ∉ is → σ'[i]? = σ[i]?) → σ'.length = σ.length → k α' → Q σ' H) → g v σ H Q
def RTgs (K : Fg) (g : TGs) (ag : ATgs) (is : List Nat) : Prop := ∀ {W : Wel} {H0 : Hp} {S0 : Ads} {O : Nat → Option Addr} {S : Ads} {α : Afr} {σ : L2.St} {H : Hp} {vs : List V} {xs : List PyData} {k : Afr → Prop} {Q : L2.St → Hp → Prop},
  Frm K W H0 S0 O S α σ H → Ods K S H vs xs → ag xs α k → (∀ O' α' σ', Frm K W H0 S0 O' S α' σ' H → (∀ i, i ∉ is → σ'[i]? = σ[i]?) → σ'.length = σ.length → k α' → Q σ' H) → g vs σ H Q
section
variable {K : Fg} {E : WX} {i n : Nat} {g : TG} {gs : TGs} {ag : ATg} {ags : ATgs} {is js : List Nat}
def agName (i : Nat) : ATg := fun x α k => k (α.set i (.d x))
def agNil : ATgs := fun xs α k => xs = [] ∧ k α
def agCons (a : ATg) (r : ATgs) : ATgs := fun xs α k => ∃ y ys, xs = y :: ys ∧ a y α fun α1 => r ys α1 k
def agTup (n : Nat) (r : ATgs) : ATg := fun x α k => ∃ ds, x = .tuple ds ∧ ds.length = n ∧ r ds α k
theorem rg_name : RTg K (gName i) (agName i) [i] := by
  intro W H0 S0 O S α σ H v x k Q f o h q
  exact q _ _ _ (f.setD o) (fun j hj => List.getElem?_set_ne fun z => hj (by rw [z]; exact List.mem_singleton_self _)) (List.length_set) h
theorem rgs_nil : RTgs K gNil agNil [] := by
  intro W H0 S0 O S α σ H vs xs k Q f o ⟨e, h⟩ q
  subst e
  cases o
  exact ⟨rfl, q _ _ _ f (fun _ _ => rfl) rfl h⟩
theorem rgs_cons (h1 : RTg K g ag is) (h2 : RTgs K gs ags js) : RTgs K (gCons g gs) (agCons ag ags) (is ++ js) := by
  intro W H0 S0 O S α σ H vs xs k Q f o ⟨y, ys, e, h⟩ q
  subst e
  cases o with
  | cons o os =>
    refine ⟨_, _, rfl, h1 f o h fun O1 α1 σ1 f1 a1 l1 h' => ?_⟩
    exact h2 f1 os h' fun O2 α2 σ2 f2 a2 l2 k2 => q _ _ _ f2 (fun i hi => (a2 i fun z => hi (List.mem_append_right _ z)).trans (a1 i fun z => hi (List.mem_append_left _ z))) (l2.trans l1) k2
theorem rg_tup (h1 : RTgs K gs ags is) : RTg K (gTup K n gs) (agTup n ags) is := by
  intro W H0 S0 O S α σ H v x k Q f o ⟨ds, e, hl, h⟩ q
  subst e
  cases o with
  | tup a b => exact ⟨_, _, rfl, a.up, by rw [b.length]; exact hl, h1 f b h q⟩
def aAsg (e : AEx) (g : ATg) : ASt := fun A α => e A.er α fun av => ∃ x, av.cl = some x ∧ g x α A.nx
theorem rs_asg {te : TE} {e : AEx} (h1 : REx K E te e) (h2 : RTg K g ag is) : RSt K E (tAsg te g) (aAsg e ag) := by
  intro W H0 S0 O S α σ H A D f h l
  refine h1 f h l.er fun v av S1 H1 m r ⟨x, hx, k⟩ => ?_
  obtain ⟨S2, m2, _, od⟩ := keepx f.k m r hx
  exact h2 (f.mv m2) od k fun O' α' σ' f' _ _ k' => l.nx O' S2 α' σ' H1 (m2.kee f.k) f' k'
abbrev AIt := AXr → Afr → (List PyData → List Nat → Prop) → Prop
def Kgo (G : Ads) (H1 : Hp) : Hp → Prop := fun H2 => Tm H1 H2 ∧ ∀ b o, G b → H1 b = some o → H2 b = some o
def Ygo (K : Fg) (G : Ads) (xs : List PyData) : Nat → Hp → V → Hp → Prop := fun i H v H' => Same H H' ∧ ∃ x, xs[i]? = some x ∧ Od K G H' v x
def RIt (K : Fg) (E : WX) (t : TI) (e : AIt) : Prop := ∀ {W : Wel} {H0 : Hp} {S0 : Ads} {O : Nat → Option Addr} {S : Ads} {α : Afr} {σ : L2.St} {H : Hp} {X : AXr} {k : List PyData → List Nat → Prop} {R : It → Hp → Prop},
  Frm K W H0 S0 O S α σ H → e X α k → Lkx K W H0 S0 S H E X → (∀ J xs fz G S' H', Mvh W S H S' H' → (∀ i ∈ fz, ∃ ds, α[i]? = some (.own ds)) → (∀ b, G b → S' b ∨ ∃ i ∈ fz, O i = some b) → Walk J xs.length (Kgo G H') (Ygo K S' xs) → k xs fz → R J H') → t σ H R
def aFrz (α : Afr) : List Nat → Afr
  | [] => α
  | i :: r => aFrz (match α[i]? with | some (.own ds) => α.set i (.d (.list ds)) | _ => α) r
theorem Frm.frzs {W : Wel} {H0 : Hp} {S0 : Ads} {σ : L2.St} {H : Hp} : ∀ (fz : List Nat) {O : Nat → Option Addr} {S : Ads} {α : Afr}, Frm K W H0 S0 O S α σ H → ∃ O' S', Frm K W H0 S0 O' S' (aFrz α fz) σ H ∧ Kee S H S' H ∧ ∀ i ∈ fz, (∃ ds, α[i]? = some (.own ds)) → ∀ b, O i = some b → S' b
  | [], O, S, α, f => ⟨O, S, f, Kee.refl, fun i hi => by cases hi⟩
  | j :: r, O, S, α, f => by
    unfold aFrz
    split
    · rename_i ds e
      obtain ⟨p, vs, a, _⟩ := f.sl j _ e
      obtain ⟨f1, k1⟩ := f.frz e a
      obtain ⟨O', S', f', k', h'⟩ := Frm.frzs r f1
      refine ⟨O', S', f', k1.trans k', fun i hi ⟨es, ei⟩ b hb => ?_⟩
      by_cases z : i = j
      · subst z
        rw [a] at hb
        cases hb
        exact k'.s _ (.inr rfl)
      · rcases List.mem_cons.mp hi with q | hi
        · exact absurd q z
        · exact h' i hi ⟨es, by rw [List.getElem?_set_ne fun y => z y.symm]; exact ei⟩ b (by unfold odel; rw [if_neg z]; exact hb)
    · rename_i ne
      obtain ⟨O', S', f', k', h'⟩ := Frm.frzs r f
      refine ⟨O', S', f', k', fun i hi ⟨es, ei⟩ b hb => ?_⟩
      rcases List.mem_cons.mp hi with q | hi
      · subst q
        exact absurd ei (ne es)
      · exact h' i hi ⟨es, ei⟩ b hb
def aLoop (g : ATg) (b : ASt) (A : AEn) (xs : List PyData) (α : Afr) : Prop := ∃ Pv : Nat → Afr → Prop, Pv 0 α ∧ (∀ i x α, xs[i]? = some x → Pv i α → g x α fun α1 => b { A with nx := Pv (i + 1), ct := Pv (i + 1), bk := A.nx } α1) ∧ ∀ α, Pv xs.length α → A.nx α
def aFor (w : AIt) (g : ATg) (b : ASt) : ASt := fun A α => w A.er α fun xs fz => aLoop g b A xs (aFrz α fz)
theorem rs_for {wi : TI} {tb : TS} {w : AIt} {b : ASt} (h1 : RIt K E wi w) (h2 : RTg K g ag is) (h3 : RSt K E tb b) : RSt K E (tFor wi g tb) (aFor w ag b) := by
  intro W H0 S0 O S α σ H A D f h l
  refine s_for ?_
  refine h1 f h l.er fun J xs fz G S1 H1 m hz hG wk ⟨Pv, p0, ps, pd⟩ => ?_
  obtain ⟨O2, S2, f2, k2, hS⟩ := Frm.frzs fz (f.mv m)
  have gs : ∀ b, G b → S2 b := fun b hb => by
    rcases hG b hb with q | ⟨i, hi, q⟩
    · exact k2.s b q
    · exact hS i hi (hz i hi) b q
  have k02 := (m.kee f.k).trans k2
  refine f_go wk (fun i σ' H' => ∃ O' S' α', Kee S2 H1 S' H' ∧ Frm K W H0 S0 O' S' α' σ' H' ∧ Pv i α') ⟨O2, S2, _, Kee.refl, f2, p0⟩ (fun i σ' H' _ ⟨_, _, _, ke, _⟩ => ⟨ke.t, fun b o hb e => ke.k b o (gs b hb) e⟩) ?_ ?_
  · rintro i v σ' H' H2 hi ⟨O', S', α', ke, f', hl⟩ ⟨sm, x, hx, ox⟩
    have m' := f'.k.same sm
    have f'' := f'.mv m'
    refine h2 f'' (ox.gr fun b hb => ke.s b (k2.s b hb)) (ps i x α' hx hl) fun O3 α3 σ3 f3 _ _ hb => ?_
    have ke3 := ke.trans (m'.kee f'.k)
    refine h3 (D := { D with nx := _, ct := _, bk := D.nx }) f3 hb ⟨fun O4 S4 α4 σ4 H4 q1 q2 q3 => ⟨O4, S4, α4, ke3.trans q1, q2, q3⟩, fun O4 S4 α4 σ4 H4 q1 q2 q3 => l.nx O4 S4 α4 σ4 H4 (k02.trans (ke3.trans q1)) q2 q3, fun O4 S4 α4 σ4 H4 q1 q2 q3 => ⟨O4, S4, α4, ke3.trans q1, q2, q3⟩, l.rt, l.er.kee (k02.trans ke3)⟩
  · rintro σ' H' ⟨O', S', α', ke, f', hl⟩
    exact l.nx O' S' α' σ' H' (k02.trans ke) f' (pd α' hl)
def aWhile (c : ATx) (b : ASt) : ASt := fun A α => ∃ I : Nat → Afr → Prop, (∃ m, I m α) ∧ ∀ m α, I m α → c A.er α fun t => if t = true then b { A with nx := fun α' => ∃ m', m' < m ∧ I m' α', ct := fun α' => ∃ m', m' < m ∧ I m' α', bk := A.nx } α else A.nx α
theorem rs_while {c : TT} {tb : TS} {x : ATx} {b : ASt} (h1 : RTx K E c x) (h2 : RSt K E tb b) : RSt K E (tWhile c tb) (aWhile x b) := by
  intro W H0 S0 O S α σ H A D f ⟨I, ⟨m0, i0⟩, h⟩ l
  refine ⟨fun m σ' H' => ∃ O' S' α', Kee S H S' H' ∧ Frm K W H0 S0 O' S' α' σ' H' ∧ I m α', ⟨m0, O, S, α, Kee.refl, f, i0⟩, ?_⟩
  rintro m σ' H' ⟨O', S', α', ke, f', im⟩
  refine h1 f' (h m α' im) (l.er.kee ke) fun t S1 H1 m1 k1 => ?_
  have ke1 := ke.trans (m1.kee f'.k)
  cases t with
  | true =>
    rw [if_pos rfl] at k1 ⊢
    refine ⟨fun σ' H' => ∃ m', m' < m ∧ ∃ O' S' α', Kee S H S' H' ∧ Frm K W H0 S0 O' S' α' σ' H' ∧ I m' α', fun σ2 H2 ⟨m', hm, q⟩ => ⟨m', hm, q⟩, ?_⟩
    exact h2 (D := { D with nx := _, ct := _, bk := D.nx }) (f'.mv m1) k1 ⟨fun O4 S4 α4 σ4 H4 q1 q2 ⟨m', hm, q3⟩ => ⟨m', hm, O4, S4, α4, ke1.trans q1, q2, q3⟩, fun O4 S4 α4 σ4 H4 q1 q2 q3 => l.nx O4 S4 α4 σ4 H4 (ke1.trans q1) q2 q3, fun O4 S4 α4 σ4 H4 q1 q2 ⟨m', hm, q3⟩ => ⟨m', hm, O4, S4, α4, ke1.trans q1, q2, q3⟩, l.rt, l.er.kee ke1⟩
  | false =>
    rw [if_neg (by decide)] at k1 ⊢
    exact l.nx O' S1 α' σ' H1 ke1 (f'.mv m1) k1
end
end UW
namespace UW
open PySem PySem.Spec PyProof.Rows L2
theorem wipe_get {σ : L2.St} {j : Nat} : ∀ {vs : List Nat}, (wipe σ vs)[j]? = if j ∈ vs ∧ j < σ.length then some none else σ[j]?
  | [] => by simp [wipe]
  | v :: vs => by
    unfold wipe
    by_cases e : v = j
    · subst e
      by_cases hl : v < σ.length
      · rw [List.getElem?_set_self (by rw [wipe_length]; exact hl), if_pos ⟨List.mem_cons_self .., hl⟩]
      · rw [List.getElem?_eq_none (by rw [List.length_set, wipe_length]; omega), if_neg (fun z => hl z.2), List.getElem?_eq_none (by omega)]
    · rw [List.getElem?_set_ne e, wipe_get (vs := vs)]
      by_cases q : j ∈ vs ∧ j < σ.length
      · rw [if_pos q, if_pos ⟨List.mem_cons_of_mem _ q.1, q.2⟩]
      · rw [if_neg q, if_neg fun z => q ⟨(List.mem_cons.mp z.1).elim (fun y => absurd y.symm e) id, z.2⟩]
theorem wipe_agree {σ σ2 : L2.St} {vs : List Nat} (h : ∀ i, i ∉ vs → σ2[i]? = (wipe σ vs)[i]?) (hl : σ2.length = (wipe σ vs).length) : wipe σ2 vs = wipe σ vs := by
  rw [wipe_length] at hl
  refine List.ext_getElem? fun j => ?_
  rw [wipe_get, wipe_get]
  by_cases e : j ∈ vs
  · by_cases q : j < σ.length
    · rw [if_pos ⟨e, by omega⟩, if_pos ⟨e, q⟩]
    · rw [if_neg (fun z => q (by omega)), if_neg (fun z => q z.2), List.getElem?_eq_none (by omega), List.getElem?_eq_none (by omega)]
  · rw [if_neg (fun z => e z.1), if_neg (fun z => e z.1), h j e, wipe_get, if_neg (fun z => e z.1)]
section
variable {K : Fg} {W : Wel} {H0 H H1 : Hp} {S0 S S1 : Ads} {O : Nat → Option Addr} {α : Afr} {σ : L2.St} {i : Nat}
theorem Frm.keepO (f : Frm K W H0 S0 O S α σ H) : Frm K W H0 S0 O S (α.set i .x) (σ.set i none) H := by
  refine ⟨f.k, f.k0, f.n0, f.w0, f.o, by rw [List.length_set, List.length_set]; exact f.len, fun j y e => ?_⟩
  rcases set_get e with ⟨rfl, rfl, hl⟩ | ⟨n, e⟩
  · trivial
  · exact (f.sl j y e).other n rfl
theorem Frm.wiped (f : Frm K W H0 S0 O S α σ H) : ∀ vs : List Nat, Frm K W H0 S0 O S (awipe α vs) (wipe σ vs) H
  | [] => f
  | v :: vs => (Frm.wiped f vs).keepO
end
def aX0 : AXr := fun _ _ _ => False
def aLcGo (g : ATg) (t : ATx) (e : AEx) (α : Afr) (k : Avl → Prop) (xs : List PyData) : Prop := ∃ Pv : Nat → List PyData → Prop, Pv 0 [] ∧
  (∀ i x acc, xs[i]? = some x → Pv i acc → g x α fun α2 => t aX0 α2 fun b => if b = true then e aX0 α2 fun av => ∃ y, av.cl = some y ∧ Pv (i + 1) (acc ++ [y]) else Pv (i + 1) acc) ∧ ∀ acc, Pv xs.length acc → acc.length ≤ xs.length → k (.l acc)
def aLc (w : AIt) (g : ATg) (t : ATx) (e : AEx) (vs : List Nat) : AEx := fun X α k => w X α fun xs _ => xs.length < 100000 ∧ aLcGo g t e (awipe α vs) k xs
section
variable {K : Fg} {E : WX} {n : Nat} {g : TG} {ag : ATg} {is : List Nat}
theorem re_lc {wi : TI} {tt : TT} {te : TE} {w : AIt} {t : ATx} {e : AEx} {vs : List Nat} (h1 : RIt K E wi w) (h2 : RTg K g ag is) (h3 : RTx K E tt t) (h4 : REx K E te e) (hs : is.all (fun i => vs.contains i) = true) : REx K E (tLc wi g tt te vs) (aLc w ag t e vs) := by
  intro W H0 S0 O S α σ H X k Q f h lk q
  refine s_lc ?_
  refine h1 f h lk fun J xs fz G S1 H1 m hz hG wk ⟨hl, Pv, p0, ps, pd⟩ => ?_
  have f1 := f.mv m
  have hv : ∀ i, i ∉ vs → i ∉ is := fun i hi z => hi (by have := List.all_eq_true.mp hs i z; simpa using this)
  have noX : ∀ {S' : Ads} {H' : Hp}, Lkx K W H0 S0 S' H' E aX0 := fun O S' α σ H' C d f _ _ _ z => z.elim
  have keepG : ∀ {S2 : Ads} {H2 : Hp}, Mvh W S1 H1 S2 H2 → Kgo G H1 H2 := fun m2 => ⟨m2.tm f1.k.w, fun b o hb e => by
    rcases hG b hb with z | ⟨i, hi, z⟩
    · exact m2.k b o e (f1.k.t b z).2
    · exact m2.k b o e (Wel.ne f.w0 (f.o i b z).1)⟩
  -- the new list changes
  have push : ∀ {D : Addr} {S5 : Ads} {H5 H6 : Hp} {us ws : List V}, H1 D = none → Mvh W S1 H1 S5 H5 → ¬ S5 D → H5 D = some (.lst us) → At D (.lst ws) H5 H6 → Mvh W S1 H1 S5 H6 := by
    intro D S5 H5 H6 us ws hD m5 nD h5 a6
    have nDw : ¬ W.has D := Wel.ne m.w hD
    refine ⟨fun b o e z => a6.ne (m5.k b o e z) (fun y => by rw [y, hD] at e; cases e), fun on => ?_, m5.s, m5.n, fun b hb => ⟨?_, (m5.t b hb).2⟩⟩
    · exact (m5.w.keep fun b o z e => a6.ne e fun y => nDw (y ▸ z)) on
    · rw [a6.2 b fun y => nD (y ▸ hb)]
      exact (m5.t b hb).1
  refine lc_inv wk (fun D i ys H' => ∃ S2 acc, Mvh W S1 H1 S2 H' ∧ Ods K S2 H' ys acc ∧ ¬ S2 D ∧ Pv i acc ∧ acc.length ≤ i) hl ?_ ?_ ?_ ?_
  · intro D H' hD sm _
    exact ⟨S1, [], m.oks.same sm, .nil, fun z => (m.t D z).1 hD, p0, Nat.le_refl _⟩
  · rintro D i ys H' _ ⟨S2, acc, m2, _⟩
    exact keepG m2
  · rintro D i ys x H2 H3 hD hi ⟨S2, acc, m2, oy, nD, go, la⟩ hy ⟨sm, z, hx, ox⟩ Yes No hyes hno
    have m23 := m2.oks.same sm
    have m3 := m2.trans m23
    have fw := (f1.mv m3).wiped vs
    refine h2 fw (ox.gr m2.s) (ps i z acc hx go) fun O3 α3 σ3 f3 a3 l3 go => ⟨wipe_agree (fun i hi => a3 i (hv i hi)) l3, ?_⟩
    refine h3 f3 go noX fun b S4 H4 m4 go => ?_
    have f4 := f3.mv m4
    have m14 := m3.trans m4
    have nD4 : ¬ S4 D := fun y => (m4.n D y).elim nD fun y => by rw [sm D _ hy] at y; cases y
    have nDw : ¬ W.has D := Wel.ne m.w hD
    have hy4 := m4.k D _ (sm D _ hy) nDw
    have oy4 := (m23.trans m4).ods m2.w (fun b z => (m2.t b z).2) oy
    cases b with
    | true =>
      rw [if_pos rfl] at go ⊢
      refine h4 f4 go noX fun v av S5 H5 m5 r5 ⟨y, hy5, go⟩ => ?_
      obtain ⟨S6, m6, _, o6⟩ := keepx f4.k m5 r5 hy5
      have nD6 : ¬ S6 D := fun y => (m6.n D y).elim nD4 fun y => by rw [hy4] at y; cases y
      have hy6 := m6.k D _ hy4 nDw
      refine hyes v H5 hy6 fun H7 a7 => ⟨S6, acc ++ [y], push hD (m14.trans m6) nD6 hy6 a7, ?_, nD6, go, by rw [List.length_append, List.length_singleton]; omega⟩
      have kk : ∀ b o, S6 b → H5 b = some o → H7 b = some o := fun b o hb e => a7.ne e (fun y => nD6 (y ▸ hb))
      have tm := a7.tm hy6
      exact ((m6.ods f4.k.w (fun b z => (f4.k.t b z).2) oy4).append (.cons o6 .nil)).mv tm fun b o hb e => ⟨hb, kk b o hb e⟩
    | false =>
      rw [if_neg (by decide)] at go ⊢
      exact hno H4 hy4 ⟨S4, acc, m14, oy4, nD4, go, by omega⟩
  · rintro D ys H2 hD ⟨S2, acc, m2, oy, nD, go, la⟩ hy _
    exact q (.ref D) (.l acc) S2 H2 (m.trans m2) ⟨D, ys, rfl, hy, oy, nD, m.back hD, Wel.ne m.w hD⟩ (pd acc go la)
def aSeqI (e : AEx) : AIt := fun X α k => e X α fun av => (∃ ds, av = .d (.tuple ds) ∧ k ds []) ∨ (∃ ds, av.cl = some (.list ds) ∧ k ds []) ∨ ∃ i ds, av = .b i ds ∧ α[i]? = some (.own ds) ∧ k ds [i]
theorem walk_seqT {S' G : Ads} {H' : Hp} {p : Addr} {vs : List V} {ds : List PyData} (h : SqT K H' p vs) (o : Ods K S' H' vs ds) (g : ∀ b, S' b → G b) : Walk (Itt K p) ds.length (Kgo G H') (Ygo K S' ds) := by
  rw [← o.length]
  refine walk_tup.mono (fun H2 k => k.1.sq h) fun i H2 x H3 hi k y => ?_
  obtain ⟨rfl, hx⟩ := y
  obtain ⟨d, hd, od⟩ := o.get hx
  exact ⟨Same.refl _, d, hd, od.mv k.1 fun a o ga e => ⟨ga, k.2 a o (g a ga) e⟩⟩
theorem walk_seqL {S' G : Ads} {H' : Hp} {p : Addr} {vs : List V} {ds : List PyData} (h : H' p = some (.lst vs)) (gp : G p) (o : Ods K S' H' vs ds) (g : ∀ b, S' b → G b) : Walk (Itl K p) ds.length (Kgo G H') (Ygo K S' ds) := by
  rw [← o.length]
  refine walk_list.mono (fun H2 k => SqL.of (k.2 p _ gp h)) fun i H2 x H3 hi k y => ?_
  obtain ⟨rfl, hx⟩ := y
  obtain ⟨d, hd, od⟩ := o.get hx
  exact ⟨Same.refl _, d, hd, od.mv k.1 fun a o ga e => ⟨ga, k.2 a o (g a ga) e⟩⟩
/-- what is walked: where it is, and what is to be kept -/
theorem seq_at {W : Wel} {H0 : Hp} {S0 : Ads} {O : Nat → Option Addr} {S S1 : Ads} {α : Afr} {σ : L2.St} {H H1 : Hp} {v : V} {av : Avl} {k : List PyData → List Nat → Prop} (f : Frm K W H0 S0 O S α σ H) (m : Mvh W S H S1 H1) (r : Vrp K W H O S1 H1 v av)
    (h : (∃ ds, av = .d (.tuple ds) ∧ k ds []) ∨ (∃ ds, av.cl = some (.list ds) ∧ k ds []) ∨ ∃ i ds, av = .b i ds ∧ α[i]? = some (.own ds) ∧ k ds [i]) :
    ∃ p vs ds fz S2, v = .ref p ∧ Mvh W S H S2 H1 ∧ Ods K S2 H1 vs ds ∧ (SqT K H1 p vs ∨ (H1 p = some (.lst vs) ∧ (S2 p ∨ ∃ i ∈ fz, O i = some p))) ∧ (∀ i ∈ fz, ∃ ds, α[i]? = some (.own ds)) ∧ k ds fz := by
  rcases h with ⟨ds, e, h⟩ | ⟨ds, e, h⟩ | ⟨i, ds, e, hi, h⟩
  · subst e
    obtain ⟨p, vs, rfl, a, b⟩ := r.tup (ds := ds) rfl
    exact ⟨p, vs, ds, [], S1, rfl, m, b, .inl a, (fun i hi => by cases hi), h⟩
  · obtain ⟨S2, m2, _, o⟩ := keepx f.k m r e
    cases o with
    | lst a b c => exact ⟨_, _, ds, [], S2, rfl, m2, c, .inr ⟨b, .inl a⟩, (fun i hi => by cases hi), h⟩
  · subst e
    obtain ⟨p, vs, rfl, a, b, c, _⟩ := r
    exact ⟨p, vs, ds, [i], S1, rfl, m, c, .inr ⟨b, .inr ⟨i, List.mem_singleton_self _, a⟩⟩, fun j hj => by rw [List.mem_singleton.mp hj]; exact ⟨ds, hi⟩, h⟩
theorem ri_seq {tl : TE} {e : AEx} (h1 : REx K E tl e) : RIt K E (iSeq K tl) (aSeqI e) := by
  intro W H0 S0 O S α σ H X k R f h lk q
  refine w_seq ?_
  refine h1 f h lk fun v av S1 H1 m r h' => ?_
  obtain ⟨p, vs, ds, fz, S2, rfl, m2, o, hp, hz, hk⟩ := seq_at f m r h'
  rcases hp with hp | ⟨hp, gp⟩
  · exact w_seqT hp (q _ ds fz S2 S2 H1 m2 hz (fun b z => .inl z) (walk_seqT hp o fun _ z => z) hk)
  · exact w_seqL (SqL.of hp) (q _ ds fz (fun b => S2 b ∨ b = p) S2 H1 m2 hz (fun b z => z.elim .inl fun y => by rw [y]; exact gp) (walk_seqL hp (.inr rfl) o fun _ z => .inl z) hk)
def aRng1 (a : AAv) : AIt := fun X α k => a X α fun as => ∃ j : Int, as = [.d (.int j)] ∧ -1000000 ≤ j ∧ j ≤ 1000000 ∧ k ((iota j.toNat).map .int) []
def rgI (i j : Int) : List Int := (List.range (j - i).toNat).map fun (t : Nat) => i + (t : Int)
def aRng2 (a : AAv) : AIt := fun X α k => a X α fun as => ∃ i j : Int, as = [.d (.int i), .d (.int j)] ∧ -1000000 ≤ i ∧ i ≤ 1000000 ∧ -1000000 ≤ j ∧ j ≤ 1000000 ∧ k ((rgI i j).map .int) []
theorem walk_rg {S' G : Ads} {H' : Hp} {lo : Int} {n : Nat} {ns : List Int} (h : ns = (List.range n).map fun (t : Nat) => lo + (t : Int)) : Walk (Itr lo n) (ns.map PyData.int).length (Kgo G H') (Ygo K S' (ns.map .int)) := by
  have e : (ns.map PyData.int).length = n := by rw [List.length_map, h, List.length_map, List.length_range]
  rw [e]
  refine walk_range.mono (fun _ _ => trivial) fun i H2 x H3 hi _ y => ?_
  obtain ⟨rfl, rfl⟩ := y
  refine ⟨Same.refl _, .int (lo + (i : Int)), ?_, .int _⟩
  rw [h, List.map_map, List.getElem?_map, List.getElem?_range hi]
  rfl
theorem ri_rng1 {ta : TA} {a : AAv} (h1 : RAv K E ta a 1) : RIt K E (iRng1 ta) (aRng1 a) := by
  intro W H0 S0 O S α σ H X k R f h lk q
  refine w_rng1 ?_
  refine h1 f h lk fun vs avs S1 H1 m r _ ⟨j, e, j0, j1, hk⟩ => ?_
  subst e
  rcases r with _ | ⟨r1, r2⟩
  cases r2
  cases r1
  refine w_rng (by omega) (q _ _ [] S1 S1 H1 m (fun i hi => by cases hi) (fun b z => .inl z) (walk_rg ?_) hk)
  unfold iota
  exact List.map_congr_left fun t _ => (Int.zero_add _).symm
theorem ri_rng2 {ta : TA} {a : AAv} (h1 : RAv K E ta a 2) : RIt K E (iRng2 ta) (aRng2 a) := by
  intro W H0 S0 O S α σ H X k R f h lk q
  refine w_rng2 ?_
  refine h1 f h lk fun vs avs S1 H1 m r _ ⟨i, j, e, i0, i1, j0, j1, hk⟩ => ?_
  subst e
  rcases r with _ | ⟨r1, r2⟩
  rcases r2 with _ | ⟨r2, r3⟩
  cases r3
  cases r1
  cases r2
  exact w_rngB (by omega) (q _ _ [] S1 S1 H1 m (fun i hi => by cases hi) (fun b z => .inl z) (walk_rg rfl) hk)
def enD (ds : List PyData) : List PyData := (List.range ds.length).map fun (i : Nat) => .tuple [.int (i : Int), ds.getD i .none]
def ziD : List PyData → List PyData → List PyData
  | x :: xs, y :: ys => .tuple [x, y] :: ziD xs ys
  | _, _ => []
def aEnum (a : AAv) : AIt := fun X α k => a X α fun as => ∃ av, as = [av] ∧ ((∃ ds, av = .d (.tuple ds) ∧ k (enD ds) []) ∨ (∃ ds, av.cl = some (.list ds) ∧ k (enD ds) []) ∨ ∃ i ds, av = .b i ds ∧ α[i]? = some (.own ds) ∧ k (enD ds) [i])
theorem od_pair {S' : Ads} {H3 : Hp} {T : Addr} {v u : V} {x y : PyData} (h : H3 T = some (.tup [v, u])) (a : Od K S' H3 v x) (b : Od K S' H3 u y) : Od K S' H3 (.ref T) (.tuple [x, y]) := .tup (SqT.of h) (.cons a (.cons b .nil))
theorem enD_get {ds : List PyData} {i : Nat} {d : PyData} (h : ds[i]? = some d) : (enD ds)[i]? = some (.tuple [.int (i : Int), d]) := by
  have hl := (List.getElem?_eq_some_iff.mp h).1
  unfold enD
  rw [List.getElem?_map, List.getElem?_range hl]
  show some (PyData.tuple [.int (i : Int), ds.getD i .none]) = _
  rw [List.getD_eq_getElem?_getD, h]
  rfl
theorem enD_len (ds : List PyData) : (enD ds).length = ds.length := by unfold enD; rw [List.length_map, List.length_range]
def iEnumV (K : Fg) (ta : TA) : TI := fun σ H R => ta σ H fun vs H1 => ∃ a, vs = [.ref a] ∧ ((∃ xs, L2.SqT K H1 a xs ∧ R (IteT K a) H1) ∨ ∃ xs, SqL K H1 a xs ∧ R (Ite K a) H1)
theorem pi_enumV {X : Cx} {e : Expr} {ta : TA} {p pos tpos : Pos} {elts : List Expr} {kk : Nat} (hm : X.mg "enumerate" = none) (ha : PA X [e] ta) (hg : Gl X "enumerate" := by rfl) (hs : starEach [e] X.env = [(false, eval e X.env)] := by rfl) :
    PI X (.Tuple elts kk tpos) (.Call (.Name "enumerate" p) [e] [] pos) (iEnumV X.K ta) := by
  refine ⟨fun pins s σ H R I h => ?_⟩
  refine Call_ (ld_blt I hg hm PyProof.Rows.boot_enumerate (PyProof.Rows.callWith_type1 (thn (ha.run pos pins s σ H _ I h) ?_) hs rfl))
  intro us s1 ⟨vs, H1, I1, r1, a, ex, q⟩
  subst ex
  cases r1 with
  | cons r rr =>
    cases rr
    cases r
    have fresh : ∀ b ∈ [s1.heap.objs.size + 1, s1.heap.objs.size], FpOk X pins H1 b := fun b hb => by
      have hle : s1.heap.objs.size ≤ b := by
        rcases (show b = s1.heap.objs.size + 1 ∨ b = s1.heap.objs.size by simpa using hb) with z | z
        · rw [z]; exact Nat.le_succ _
        · rw [z]; exact Nat.le_refl _
      exact I1.fpOk hle (I1.hok.fresh hle)
    rcases q with ⟨xs, hq, q⟩ | ⟨xs, hq, q⟩
    · obtain ⟨its, rv, p', hz⟩ := I1.tuple hq
      refine enum_one (begins_tuple a its.toArray) p' fun h' he hit hk => wpAny_pyIter_enum he ?_
      have I2 : Inv X pins σ H1 { s1 with heap := h' } := I1.kept (t' := s1.toks) hk
      have al : a < s1.heap.objs.size := by
        obtain ⟨_, q, _⟩ := p'
        exact Heap.lt_size q
      exact ⟨s1.heap.objs.size + 1, [s1.heap.objs.size + 1, s1.heap.objs.size], _, _, H1, rfl, I2, turn_enumT a (s1.heap.objs.size + 1) s1.heap.objs.size, ⟨⟨.none, he⟩, ⟨_, hit, rfl, rfl⟩, Nat.succ_ne_self _, Nat.ne_of_lt (Nat.lt_succ_of_lt al), Nat.ne_of_lt al⟩, fresh, q⟩
    · obtain ⟨its, rv, p', hz⟩ := I1.list hq
      refine call_enumerate_list p'.isList fun h' he hit hsz hk => wpAny_pyIter_enum he ?_
      have I2 : Inv X pins σ H1 { s1 with heap := h' } := I1.kept (t' := s1.toks) hk
      exact ⟨s1.heap.objs.size + 1, [s1.heap.objs.size + 1, s1.heap.objs.size], _, _, H1, rfl, I2, turn_enum a (s1.heap.objs.size + 1) s1.heap.objs.size, ⟨⟨.none, he⟩, hit, Nat.succ_ne_self _⟩, fresh, q⟩
theorem ri_enum {ta : TA} {a : AAv} (h1 : RAv K E ta a 1) : RIt K E (iEnumV K ta) (aEnum a) := by
  intro W H0 S0 O S α σ H X k R f h lk q
  refine h1 f h lk fun us avs S1 H1 m r _ ⟨av, e, h'⟩ => ?_
  subst e
  rcases r with _ | ⟨r1, r2⟩
  cases r2
  obtain ⟨p, vs, ds, fz, S2, rfl, m2, o, hp, hz, hk⟩ := seq_at (k := fun ds fz => k (enD ds) fz) f m r1 h'
  refine ⟨p, rfl, ?_⟩
  have fin : ∀ {G : Ads} {J : It}, (∀ b, S2 b → G b) → (∀ b, G b → S2 b ∨ ∃ i ∈ fz, O i = some b) → Walk J vs.length (Kgo G H1) (YPair (fun i => some (.int (i : Nat))) (fun i => vs[i]?)) → R J H1 := by
    intro G J g1 g2 w
    refine q J (enD ds) fz G S2 H1 m2 hz g2 ?_ hk
    rw [enD_len, ← o.length]
    refine w.mono (fun _ z => z) fun i H2 x H3 hi kg y => ?_
    obtain ⟨T, v1, v2, rfl, nT, rfl, e1, e2⟩ := y
    cases e1
    obtain ⟨d, hd, od⟩ := o.get e2
    exact ⟨Same.new nT, _, enD_get hd, od_pair upd_same (.int _) ((od.mv kg.1 fun a o ga e => ⟨ga, kg.2 a o (g1 a ga) e⟩).same (Same.new nT))⟩
  rcases hp with hp | ⟨hp, gp⟩
  · exact .inl ⟨vs, hp.up, fin (G := S2) (fun _ z => z) (fun _ z => .inl z) (walk_enumT.mono (fun H2 k => k.1.sq hp) fun _ _ _ _ _ _ y => y)⟩
  · exact .inr ⟨vs, SqL.of hp, fin (G := fun b => S2 b ∨ b = p) (fun _ z => .inl z) (fun b z => z.elim .inl fun y => by rw [y]; exact gp) (walk_enum.mono (fun H2 k => SqL.of (k.2 p _ (.inr rfl) hp)) fun _ _ _ _ _ _ y => y)⟩
/-- zip of two tuples; of two lists (slots' or kept) -/
def aZip (a : AAv) : AIt := fun X α k => a X α fun as => (∃ xs ys, as = [.d (.tuple xs), .d (.tuple ys)] ∧ k (ziD xs ys) []) ∨ (∃ x y xs ys, as = [x, y] ∧ x.cl = some (.list xs) ∧ y.cl = some (.list ys) ∧ k (ziD xs ys) [])
mutual
def flatD : PyData → Bool
  | .tuple ds => flatDs ds
  | .list _ => false
  | .dict _ => false
  | _ => true
def flatDs : List PyData → Bool
  | [] => true
  | d :: ds => flatD d && flatDs ds
end
mutual
theorem Od.flat {G G' : Ads} {H : Hp} : ∀ {d : PyData} {v : V}, flatD d = true → Od K G H v d → Od K G' H v d
  | _, _, _, .non => .non
  | _, _, _, .bl b => .bl b
  | _, _, _, .int i => .int i
  | _, _, _, .str x => .str x
  | _, _, h, .tup a b => .tup a (Ods.flat (by simpa [flatD] using h) b)
  | _, _, h, .lst _ _ _ => by simp [flatD] at h
  | _, _, h, .dic _ _ => by simp [flatD] at h
  | _, _, h, .dic1 _ _ _ => by simp [flatD] at h
theorem Ods.flat {G G' : Ads} {H : Hp} : ∀ {ds : List PyData} {vs : List V}, flatDs ds = true → Ods K G H vs ds → Ods K G' H vs ds
  | _, _, _, .nil => .nil
  | _, _, h, .cons a b => by
    simp only [flatDs, Bool.and_eq_true] at h
    exact .cons (Od.flat h.1 a) (Ods.flat h.2 b)
end
def flatC : Dic → Bool
  | .k kvs => flatDs (kvs.map (·.2))
  | .t kvs => flatDs (kvs.map (·.2))
theorem flat_pairs {κ : Type} {K : Fg} {G G' : Ads} {H : Hp} : ∀ {ls : List (κ × V)} {kvs : List (κ × PyData)}, flatDs (kvs.map (·.2)) = true → Paired (fun (a : κ × V) (b : κ × PyData) => a.1 = b.1 ∧ Od K G H a.2 b.2) ls kvs → Paired (fun (a : κ × V) (b : κ × PyData) => a.1 = b.1 ∧ Od K G' H a.2 b.2) ls kvs
  | _, _, _, .nil => .nil
  | _, _, h, .cons a b => by
    simp only [List.map_cons, flatDs, Bool.and_eq_true] at h
    exact .cons ⟨a.1, Od.flat h.1 a.2⟩ (flat_pairs h.2 b)
theorem DcR.flat {K : Fg} {G G' : Ads} {H : Hp} {p : Addr} {c : Dic} (h : flatC c = true) (r : DcR K G H p c) : DcR K G' H p c := by
  cases c with
  | k kvs => obtain ⟨ls, a, b⟩ := r; exact ⟨ls, a, flat_pairs h b⟩
  | t kvs => obtain ⟨ls, a, b⟩ := r; exact ⟨ls, a, flat_pairs h b⟩
def Avl.flat : Avl → Bool
  | .d x => flatD x
  | .l ds => flatDs ds
  | .b _ ds => flatDs ds
  | .wl u => true
  | .k c => flatC c
abbrev AXc := Addr → Option (List (Str × PyData)) → Prop
abbrev AFn := List Avl → AXc → (Avl → Prop) → Prop
def anyB (as : List Avl) : Bool := as.any Avl.isB
/-- where lists of what is handed in may be -/
def argS (W : Wel) (Hs : Hp) (O : Nat → Option Addr) (S : Ads) (H : Hp) (as : List Avl) : Ads := fun b => S b ∨ (Hs b = none ∧ H b ≠ none ∧ ¬ W.has b) ∨ (anyB as = true ∧ (∃ i, O i = some b) ∧ H b ≠ none ∧ ¬ W.has b)
def Xrn (K : Fg) (W : Wel) (H0 : Hp) (S0 : Ads) (d : Option Addr) (f : Option (List (Str × PyData))) (H' : Hp) : Prop := ∃ S' : Ads, W.ok H' ∧ (∀ b o, H0 b = some o → ¬ W.has b → H' b = some o) ∧ (∀ b, S' b → (S0 b ∨ H0 b = none) ∧ H' b ≠ none ∧ ¬ W.has b) ∧ Xrp K S' H' d f
/-- a def's promise, by its mirror -/
def SpA (K : Fg) (n : Nat) (m : AFn) : Sp := fun vs H Q E => ∃ (W : Wel) (Hs : Hp) (O : Nat → Option Addr) (S : Ads) (as : List Avl) (x : AXc) (k : Avl → Prop),
  vs.length = n ∧ Oks W S H ∧ (∀ b, H b = none → Hs b = none) ∧ Paired (Vrp K W Hs O S H) vs as ∧ m as x k ∧ (∀ v av H', Rtn K W H (argS W Hs O S H as) v av H' → k av → Q v H') ∧ ∀ C d f H', Xrn K W H (argS W Hs O S H as) d f H' → x C f → E (.ref C) d H'
theorem l_spa {m : AFn} : ∀ vs H Q E, SpA K n m vs H Q E → vs.length = n := by
  rintro vs H Q E ⟨W, Hs, O, S, as, x, k, h, _⟩
  exact h
def aCall (m : AFn) (a : AAv) : AEx := fun X α k => a X α fun as => m as (fun C f => X α C f ∧ (anyB as = true → f = none)) fun av => k av ∧ (anyB as = true → av.flat = true)
section
variable {W : Wel} {H0 H H1 H' : Hp} {S0 S S1 : Ads} {O : Nat → Option Addr} {α : Afr} {σ : L2.St} {v : V} {av : Avl} {as : List Avl}
/-- what a call hands back, to the caller -/
theorem back_of (f : Frm K W H0 S0 O S α σ H) (m : Mvh W S H S1 H1) (r : Rtn K W H1 (argS W H O S1 H1 as) v av H') (hf : anyB as = true → av.flat = true) : ∃ S2, Mvh W S H S2 H' ∧ Vrp K W H O S2 H' v av := by
  obtain ⟨S', w', k', t', r'⟩ := r
  have kk : ∀ b o, H b = some o → ¬ W.has b → H' b = some o := fun b o e z => k' b o (m.k b o e z) z
  have nn : ∀ b, H1 b = none → H b = none := fun b => m.back
  have tS : ∀ b, S1 b → H' b ≠ none ∧ ¬ W.has b := fun b hb => by
    refine ⟨?_, (m.t b hb).2⟩
    cases q : H1 b with
    | none => exact absurd q (m.t b hb).1
    | some o => rw [k' b o q (m.t b hb).2]; intro y; cases y
  by_cases hB : anyB as = true
  · have fl := hf hB
    refine ⟨S1, ⟨kk, w', m.s, m.n, tS⟩, ?_⟩
    cases av with
    | d x => exact Od.flat fl r'
    | l ds =>
      obtain ⟨p, vs, rfl, h1, h2, h3, h4, h5⟩ := r'
      exact ⟨p, vs, rfl, h1, Ods.flat fl h2, fun z => (m.t p z).1 h4, nn p h4, h5⟩
    | b i ds =>
      obtain ⟨p, vs, _, h0, _⟩ := r'
      cases h0
    | wl u => exact r'
    | k c =>
      obtain ⟨p, rfl, h1, h3, h4, h5⟩ := r'
      exact ⟨p, rfl, DcR.flat fl h1, fun z => (m.t p z).1 h4, nn p h4, h5⟩
  · refine ⟨fun b => S1 b ∨ S' b, ⟨kk, w', fun b hb => .inl (m.s b hb), fun b hb => ?_, fun b hb => ?_⟩, ?_⟩
    · rcases hb with hb | hb
      · exact m.n b hb
      · rcases (t' b hb).1 with (q | q | q) | q
        · exact m.n b q
        · exact .inr q.1
        · exact absurd q.1 hB
        · exact .inr (nn b q)
    · rcases hb with hb | hb
      · exact tS b hb
      · exact (t' b hb).2
    · cases av with
      | d x => exact Od.gr (fun b hb => .inr hb) r'
      | l ds =>
        obtain ⟨p, vs, rfl, h1, h2, h3, h4, h5⟩ := r'
        exact ⟨p, vs, rfl, h1, h2.gr fun b hb => .inr hb, fun z => z.elim (fun z => (m.t p z).1 h4) h3, nn p h4, h5⟩
      | b i ds =>
        obtain ⟨p, vs, _, h0, _⟩ := r'
        cases h0
      | wl u => exact r'
      | k c =>
        obtain ⟨p, rfl, h1, h3, h4, h5⟩ := r'
        exact ⟨p, rfl, h1.mp (fun o e => e) (fun z => z.gr fun b hb => .inr hb), fun z => z.elim (fun z => (m.t p z).1 h4) h3, nn p h4, h5⟩
theorem backX_of (f : Frm K W H0 S0 O S α σ H) (m : Mvh W S H S1 H1) {d : Option Addr} {fs : Option (List (Str × PyData))} (r : Xrn K W H1 (argS W H O S1 H1 as) d fs H') (hf : anyB as = true → fs = none) : ∃ S2, Mvh W S H S2 H' ∧ Xrp K S2 H' d fs := by
  obtain ⟨S', w', k', t', r'⟩ := r
  have kk : ∀ b o, H b = some o → ¬ W.has b → H' b = some o := fun b o e z => k' b o (m.k b o e z) z
  have nn : ∀ b, H1 b = none → H b = none := fun b => m.back
  have tS : ∀ b, S1 b → H' b ≠ none ∧ ¬ W.has b := fun b hb => by
    refine ⟨?_, (m.t b hb).2⟩
    cases q : H1 b with
    | none => exact absurd q (m.t b hb).1
    | some o => rw [k' b o q (m.t b hb).2]; intro y; cases y
  by_cases hB : anyB as = true
  · have fl := hf hB
    subst fl
    exact ⟨S1, ⟨kk, w', m.s, m.n, tS⟩, r'⟩
  · refine ⟨fun b => S1 b ∨ S' b, ⟨kk, w', fun b hb => .inl (m.s b hb), fun b hb => ?_, fun b hb => ?_⟩, ?_⟩
    · rcases hb with hb | hb
      · exact m.n b hb
      · rcases (t' b hb).1 with (q | q | q) | q
        · exact m.n b q
        · exact .inr q.1
        · exact absurd q.1 hB
        · exact .inr (nn b q)
    · rcases hb with hb | hb
      · exact tS b hb
      · exact (t' b hb).2
    · cases fs with
      | none => exact r'
      | some fs =>
        obtain ⟨dx, vs, e, h1, h2⟩ := r'
        exact ⟨dx, vs, e, h1, L2.Paired.mapP h2 fun p q z => ⟨z.1, z.2.gr fun b hb => .inr hb⟩⟩
end
theorem re_call {sp : Sp} {m : AFn} {ta : TA} {a : AAv} {E' : L2.St → XK} (hb : ∀ vs H Q E, SpA K n m vs H Q E → sp vs H Q E) (hE : ∀ σ c d H, E c d σ H → E' σ c d H) (h1 : RAv K E ta a n) : REx K E (tG sp E' ta) (aCall m a) := by
  intro W H0 S0 O S α σ H X k Q f h lk q
  refine h1 f h lk fun vs avs S1 H1 m1 r1 hl h' => ?_
  refine hb _ _ _ _ ⟨W, H, O, S1, avs, _, _, hl, m1.oks, fun b => m1.back, r1, h', fun v av H' rt ⟨kv, kf⟩ => ?_, fun C d fs H' rx ⟨x1, x2⟩ => ?_⟩
  · obtain ⟨S2, m2, r2⟩ := back_of f m1 rt kf
    exact q v av S2 H' m2 r2 kv
  · obtain ⟨S2, m2, r2⟩ := backX_of f m1 rx x2
    exact hE _ _ _ _ (lk O S2 α σ H' C d fs (m2.kee f.k) (f.mv m2) r2 x1)
/-- where no error can come -/
theorem re_call0 {sp : Sp} {m : AFn} {ta : TA} {a : AAv} {E' : L2.St → XK} (hb : ∀ vs H Q E, SpA K n m vs H Q E → sp vs H Q E) (h1 : RAv K E ta a n) : REx K E (tG sp E' ta) (fun X α k => a X α fun as => m as (fun _ _ => False) fun av => k av ∧ (anyB as = true → av.flat = true)) := by
  intro W H0 S0 O S α σ H X k Q f h lk q
  refine h1 f h lk fun vs avs S1 H1 m1 r1 hl h' => ?_
  refine hb _ _ _ _ ⟨W, H, O, S1, avs, _, _, hl, m1.oks, fun b => m1.back, r1, h', fun v av H' rt ⟨kv, kf⟩ => ?_, fun C d fs H' rx z => z.elim⟩
  obtain ⟨S2, m2, r2⟩ := back_of f m1 rt kf
  exact q v av S2 H' m2 r2 kv
def aCall0 (m : AFn) (a : AAv) : AEx := fun X α k => a X α fun as => m as (fun _ _ => False) fun av => k av ∧ (anyB as = true → av.flat = true)
/-- by keywords -/
def aKw (n : Nat) (g : List Avl → List Avl) (a : AAv) : AAv := fun X α k => a X α fun as => k (g as)
theorem re_kw {sp : Sp} {m : AFn} {ta : TA} {a : AAv} {E' : L2.St → XK} {g : {α : Type} → List α → List α} (hb : ∀ vs H Q E, SpA K n m vs H Q E → sp vs H Q E) (hE : ∀ σ c d H, E c d σ H → E' σ c d H)
    (hg : ∀ {R : V → Avl → Prop} {vs : List V} {as : List Avl}, Paired R vs as → vs.length = n → Paired R (g vs) (g as) ∧ (g vs).length = n) (h1 : RAv K E ta a n) : REx K E (tKw sp n (fun l => g l) E' ta) (aCall m (aKw n (fun l => g l) a)) := by
  intro W H0 S0 O S α σ H X k Q f h lk q
  refine h1 f h lk fun vs avs S1 H1 m1 r1 hl h' => ⟨hl, ?_⟩
  obtain ⟨r2, l2⟩ := hg r1 hl
  refine hb _ _ _ _ ⟨W, H, O, S1, g avs, _, _, l2, m1.oks, fun b => m1.back, r2, h', fun v av H' rt ⟨kv, kf⟩ => ?_, fun C d fs H' rx ⟨x1, x2⟩ => ?_⟩
  · obtain ⟨S2, m2, r2⟩ := back_of f m1 rt kf
    exact q v av S2 H' m2 r2 kv
  · obtain ⟨S2, m2, r2⟩ := backX_of f m1 rx x2
    exact hE _ _ _ _ (lk O S2 α σ H' C d fs (m2.kee f.k) (f.mv m2) r2 x1)
def Avl.inn : Avl → Sot
  | .d x => .d x
  | .l ds => .d (.list ds)
  | .b _ ds => .d (.list ds)
  | .wl u => .wl u
  | .k _ => .x
/-- what a body is worth as a def of n parameters and x further names -/
def mOf (x : Nat) (a : ASt) : AFn := fun as e k => a { nx := fun _ => k (.d .none), rt := k, er := fun _ => e } (as.map Avl.inn ++ List.replicate x .x)
theorem pair_get {α β : Type} {R : α → β → Prop} : ∀ {xs : List α} {ys : List β} {i : Nat} {y : β}, Paired R xs ys → ys[i]? = some y → ∃ x, xs[i]? = some x ∧ R x y
  | _, _, _, _, .nil, e => by simp at e
  | _, _, 0, _, .cons r _, e => by simp at e; subst e; exact ⟨_, rfl, r⟩
  | _, _, i + 1, _, .cons _ t, e => by
    obtain ⟨x, h1, h2⟩ := pair_get (i := i) t (by simpa using e)
    exact ⟨x, by simpa using h1, h2⟩
theorem pair_len {α β : Type} {R : α → β → Prop} : ∀ {xs : List α} {ys : List β}, Paired R xs ys → xs.length = ys.length
  | _, _, .nil => rfl
  | _, _, .cons _ t => by rw [List.length_cons, List.length_cons, pair_len t]
theorem p_spa {t : TS} {a : ASt} {x : Nat} {N : List Str} {vs : List V} {H : Hp} {Q : VK} {E : XK} (hr : RSt K (fun c d _ H => E c d H) t a) (h : SpA K n (mOf x a) vs H Q E) (hN : N.length = n + x) : t { nx := fun _ H' => Q .non H', rt := Q } (start N vs) H := by
  obtain ⟨W, Hs, O, S, as, e, k, hl, ok, hh, pr, hm, hq, he⟩ := h
  have la := pair_len pr
  have tt : ∀ b, argS W Hs O S H as b → H b ≠ none ∧ ¬ W.has b := by
    rintro b (q | q | q)
    · exact ok.t b q
    · exact q.2
    · exact q.2.2
  have f0 : Frm K W H (argS W Hs O S H as) (fun _ => none) (argS W Hs O S H as) (as.map Avl.inn ++ List.replicate x .x) (start N vs) H := by
    refine ⟨⟨ok.w, tt⟩, fun b o h _ => h, fun b h => .inl h, ok.w, (fun i p z => by cases z), ?_, fun i z ez => ?_⟩
    · unfold L2.start
      simp only [List.length_append, List.length_map, List.length_replicate]
      omega
    · rw [List.getElem?_append] at ez
      split at ez
      · rename_i hi
        rw [List.getElem?_map] at ez
        cases q : as[i]? with
        | none => rw [q] at ez; cases ez
        | some av =>
          rw [q] at ez
          have ez' : av.inn = z := Option.some.inj ez
          subst ez'
          obtain ⟨v, hv, rv⟩ := pair_get pr q
          have sv : (start N vs)[i]? = some (some v) := by
            unfold L2.start
            rw [List.getElem?_append, if_pos (by rw [List.length_map] at hi ⊢; omega), List.getElem?_map, hv]
            rfl
          have bq : av.isB = true → anyB as = true := fun z => List.any_eq_true.mpr ⟨av, List.mem_of_getElem? q, z⟩
          cases av with
          | d y => exact ⟨v, sv, Od.gr (fun b hb => .inl hb) rv⟩
          | l ds =>
            obtain ⟨p, us, rfl, h1, h2, h3, h4, h5⟩ := rv
            exact ⟨_, sv, .lst (.inr (.inl ⟨h4, (by rw [h1]; intro y; cases y), h5⟩)) h1 (h2.gr fun b hb => .inl hb)⟩
          | b j ds =>
            obtain ⟨p, us, rfl, h0, h1, h2, h3⟩ := rv
            exact ⟨_, sv, .lst (.inr (.inr ⟨bq rfl, ⟨j, h0⟩, (by rw [h1]; intro y; cases y), h3⟩)) h1 (h2.gr fun b hb => .inl hb)⟩
          | wl u =>
            obtain ⟨on, rfl⟩ := rv
            exact ⟨on, sv⟩
          | k c => trivial
      · rw [List.getElem?_replicate] at ez
        split at ez
        · cases ez; trivial
        · cases ez
  refine hr (D := { nx := fun _ H' => Q .non H', rt := Q }) f0 hm ⟨fun O' S' α' σ' H' ke f' z => hq .non _ H' (rtn_of (av := .d .none) f' f'.k.refl Od.non) z, fun O' S' α' σ' H' ke f' z => z.elim, fun O' S' α' σ' H' ke f' z => z.elim, hq, ?_⟩
  intro O' S' α' σ' H' C d fs ke f' xr z
  exact he C d fs H' ⟨S', f'.k.w, f'.k0, fun b hb => ⟨f'.n0 b hb, f'.k.t b hb⟩, xr⟩ z
end
end UW
namespace UW
open PySem PySem.Spec PyProof.Rows L2
section
variable {K : Fg} {E : WX} {i n : Nat} {C D : Addr}
def aRaise (C : Addr) : ASt := fun A α => A.er α C none
theorem rs_raise (T : OexC K C) : RSt K E (tRaise (tMkB C (sp_bare K)) E) (aRaise C) := by
  intro W H0 S0 O S α σ H A D f h l
  exact s_rse (s_raise T (l.er O S α σ H C none none Kee.refl f rfl h))
def aTry (C : Addr) (i : Nat) (b : ASt) (s : Addr → ASt) : ASt := fun A α =>
  b { A with er := fun α' C' f => C' = C ∧ f = none ∧ ∀ a, s a { A with nx := fun α'' => A.nx (α''.set i .x), bk := fun α'' => A.bk (α''.set i .x), ct := fun α'' => A.ct (α''.set i .x) } (α'.set i (.err a)) } α
def aIsX (i : Nat) (a : Addr) : AEx := fun _ α k => α[i]? = some (.err a) ∧ k (.d (.bool true))
theorem Vrp.od {W : Wel} {Hs : Hp} {O : Nat → Option Addr} {S : Ads} {H : Hp} {v : V} {av : Avl} {d : PyData} (r : Vrp K W Hs O S H v av) (e : av.dat = some d) : Od K (fun _ => True) H v d := by
  cases av with
  | d x => cases e; exact Od.gr (fun _ _ => trivial) r
  | l ds =>
    cases e
    obtain ⟨p, vs, rfl, h1, h2, _⟩ := r
    exact .lst trivial h1 (h2.gr fun _ _ => trivial)
  | b j ds =>
    cases e
    obtain ⟨p, vs, rfl, _, h1, h2, _⟩ := r
    exact .lst trivial h1 (h2.gr fun _ _ => trivial)
  | wl u => cases e
  | k c => cases e
def aIsi (g : PyData → Bool) (e : AEx) : AEx := fun X α k => e X α fun av => ∃ d, av.dat = some d ∧ k (.d (.bool (g d)))
theorem re_isi {te : TE} {e : AEx} {z : String} {g : PyData → Bool} (hk : ∀ d, PySem.W.kitOne K (tyD d) (.type z) = some (g d)) (h1 : REx K E te e) : REx K E (tCB (rIsi K) (tCons te (tCons (tC (.ty z)) tNil))) (aIsi g e) := by
  intro W H0 S0 O S α σ H X k Q f h lk q
  refine h1 f h lk fun v av S1 H1 m r ⟨d, e, k1⟩ => ?_
  exact ⟨v, _, _, _, _, rfl, .ty _, (r.od e).ty, hk d, q _ (.d (.bool (g d))) S1 H1 m (Od.bl _) k1⟩
def aParD (i j : Nat) (a : AAd) : ASt := fun A α => a A.er α fun xs => ∃ x y, xs = [x, y] ∧ A.nx ((α.set i (.d x)).set j (.d y))
end
end UW
namespace UW
open PySem PySem.Spec PyProof.Rows L2
section
variable {K : Fg} {G : Ads} {H : Hp}
mutual
theorem Od.dp : ∀ {d : PyData} {v : V}, d.canLay0 = true → Od K G H v d → Dp K H v d
  | _, _, _, .non => .non
  | _, _, _, .bl b => .bl b
  | _, _, _, .int i => .int i
  | _, _, _, .str x => .str x
  | _, _, h, .tup a b => .tup a.up (Ods.dp (by simpa only [PyData.canLay0] using h) b)
  | _, _, h, .lst _ a b => .lst (SqL.of a) (Ods.dp (by simpa only [PyData.canLay0] using h) b)
  | _, _, h, .dic _ _ => by simp [PyData.canLay0] at h
  | _, _, h, .dic1 _ _ _ => by simp [PyData.canLay0] at h
theorem Ods.dp : ∀ {ds : List PyData} {vs : List V}, PyData.canLayAll0 ds = true → Ods K G H vs ds → DpAll K H vs ds
  | _, _, _, .nil => .nil
  | _, _, h, .cons a b => by
    simp only [PyData.canLayAll0, Bool.and_eq_true] at h
    exact .cons (Od.dp h.1 a) (Ods.dp h.2 b)
end
mutual
theorem Od.tp : ∀ {d : PyData} {v : V}, flatD d = true → Od K G H v d → Tp K H v d
  | _, _, _, .non => .non
  | _, _, _, .bl b => .bl b
  | _, _, _, .int i => .int i
  | _, _, _, .str x => .str x
  | _, _, h, .tup a b => .tup a (Ods.tps (by simpa [flatD] using h) b)
  | _, _, h, .lst _ _ _ => by simp [flatD] at h
  | _, _, h, .dic _ _ => by simp [flatD] at h
  | _, _, h, .dic1 _ _ _ => by simp [flatD] at h
theorem Ods.tps : ∀ {ds : List PyData} {vs : List V}, flatDs ds = true → Ods K G H vs ds → Tps K H vs ds
  | _, _, _, .nil => .nil
  | _, _, h, .cons a b => by
    simp only [flatDs, Bool.and_eq_true] at h
    exact .cons (Od.tp h.1 a) (Ods.tps h.2 b)
end
theorem Ods.drop : ∀ {vs : List V} {ds : List PyData} (n : Nat), Ods K G H vs ds → Ods K G H (vs.drop n) (ds.drop n)
  | _, _, 0, h => h
  | _, _, _ + 1, .nil => .nil
  | _, _, n + 1, .cons _ h => Ods.drop n h
theorem Ods.take : ∀ {vs : List V} {ds : List PyData} (n : Nat), Ods K G H vs ds → Ods K G H (vs.take n) (ds.take n)
  | _, _, 0, _ => .nil
  | _, _, _ + 1, .nil => .nil
  | _, _, n + 1, .cons a h => .cons a (Ods.take n h)
theorem Ods.ints {ns : List Int} : ∀ {vs : List V}, Ods K G H vs (ns.map .int) → vs = ns.map V.int := by
  induction ns with
  | nil => intro vs h; cases h; rfl
  | cons n ns ih =>
    intro vs h
    cases h with
    | cons a b => cases a; rw [ih b]; rfl
theorem Ods.at {vs : List V} {ds : List PyData} {i : Int} {x : PyData} (o : Ods K G H vs ds) (h : atI ds i = some x) : ∃ v, atI vs i = some v ∧ Od K G H v x := by
  unfold atI at h ⊢
  rw [o.length]
  cases q : ixN ds.length i with
  | none => rw [q] at h; cases h
  | some j =>
    rw [q] at h
    exact o.nth h
theorem Ods.rep {vs : List V} {ds : List PyData} (o : Ods K G H vs ds) : ∀ n : Nat, Ods K G H (List.replicate n vs).flatten (List.replicate n ds).flatten
  | 0 => .nil
  | n + 1 => by
    rw [List.replicate_succ, List.replicate_succ, List.flatten_cons, List.flatten_cons]
    exact o.append (Ods.rep o n)
end
def cutD (ds : List PyData) (lo hi : Option Int) : List PyData := (ds.drop (HT.sIx ds.length 0 lo)).take (HT.sIx ds.length ds.length hi - HT.sIx ds.length 0 lo)
section
variable {K : Fg} {E : WX}
abbrev Rst (K : Fg) (W : Wel) (O : Nat → Option Addr) (S : Ads) (H : Hp) (k : Avl → Prop) (Q : VK) : Prop := ∀ v av S' H', Mvh W S H S' H' → Vrp K W H O S' H' v av → k av → Q v H'
section
variable {W : Wel} {O : Nat → Option Addr} {S : Ads} {H : Hp} {k : Avl → Prop} {Q : VK}
theorem Rst.int (q : Rst K W O S H k Q) (ok : Oks W S H) {i : Int} (h : k (.d (.int i))) : Q (.int i) H := q _ (.d (.int i)) S H ok.refl (Od.int i) h
theorem Rst.bl (q : Rst K W O S H k Q) (ok : Oks W S H) {i : Bool} (h : k (.d (.bool i))) : Q (.bl i) H := q _ (.d (.bool i)) S H ok.refl (Od.bl i) h
theorem Rst.str (q : Rst K W O S H k Q) (ok : Oks W S H) {i : Str} (h : k (.d (.str i))) : Q (.str i) H := q _ (.d (.str i)) S H ok.refl (Od.str i) h
theorem Rst.d (q : Rst K W O S H k Q) (ok : Oks W S H) {v : V} {x : PyData} (o : Od K S H v x) (h : k (.d x)) : Q v H := q _ (.d x) S H ok.refl o h
theorem Rst.tup (q : Rst K W O S H k Q) (ok : Oks W S H) {p : Addr} {H' : Hp} {vs : List V} {ds : List PyData} (e : Same H H') (a : SqT K H' p vs) (o : Ods K S H vs ds) (h : k (.d (.tuple ds))) : Q (.ref p) H' :=
  q _ (.d (.tuple ds)) S H' (ok.same e) (Od.tup a (o.same e)) h
theorem Rst.new (q : Rst K W O S H k Q) (ok : Oks W S H) {vs : List V} {ds : List PyData} (o : Ods K S H vs ds) (h : k (.l ds)) : New Q H (.lst vs) := fun p np =>
  q _ (.l ds) S _ (ok.same (Same.new np)) ⟨p, vs, rfl, upd_same, o.same (Same.new np), fun z => (ok.t p z).1 np, np, Wel.ne ok.w np⟩ h
theorem Rst.newT (q : Rst K W O S H k Q) (ok : Oks W S H) {vs : List V} {ds : List PyData} (o : Ods K S H vs ds) (h : k (.d (.tuple ds))) : New Q H (.tup vs) := fun p np => q.tup ok (Same.new np) (SqT.of upd_same) o h
end
def gI (g : Int → Int → PyData) : AO2 := fun x y k => ∃ i j, x = .d (.int i) ∧ y = .d (.int j) ∧ k (.d (g i j))
theorem int_inv {W : Wel} {Hs : Hp} {O : Nat → Option Addr} {S : Ads} {H : Hp} {v : V} {i : Int} (r : Vrp K W Hs O S H v (.d (.int i))) : v = .int i := by cases r; rfl
theorem str_inv {W : Wel} {Hs : Hp} {O : Nat → Option Addr} {S : Ads} {H : Hp} {v : V} {i : Str} (r : Vrp K W Hs O S H v (.d (.str i))) : v = .str i := by cases r; rfl
theorem non_inv {W : Wel} {Hs : Hp} {O : Nat → Option Addr} {S : Ads} {H : Hp} {v : V} (r : Vrp K W Hs O S H v (.d .none)) : v = .non := by cases r; rfl
theorem ro_i0 {g : Int → Int → V} {g' : Int → Int → PyData} (h : ∀ i j S H, Od K S H (g i j) (g' i j)) : ROp K (rI0 g) (gI g') := by
  intro W Hs O S H x y ax ay k Q ok r1 r2 ⟨i, j, e1, e2, hk⟩ q
  subst e1 e2
  obtain rfl := int_inv r1
  obtain rfl := int_inv r2
  exact ⟨i, j, rfl, rfl, Rst.d q ok (h i j _ _) hk⟩
def gAdd : AO2 := fun x y k => (∃ i j, x = .d (.int i) ∧ y = .d (.int j) ∧ k (.d (.int (i + j)))) ∨ (∃ i j, x = .d (.str i) ∧ y = .d (.str j) ∧ i.length + j.length ≤ 100000 ∧ k (.d (.str (i ++ j)))) ∨
  (∃ xs ys, x.tup = some xs ∧ y.tup = some ys ∧ xs.length + ys.length ≤ 100000 ∧ k (.d (.tuple (xs ++ ys)))) ∨ (∃ xs ys, x.lst = some xs ∧ y.lst = some ys ∧ xs.length + ys.length ≤ 100000 ∧ k (.l (xs ++ ys)))
theorem ro_add : ROp K (rAddU K) gAdd := by
  intro W Hs O S H x y ax ay k Q ok r1 r2 h q
  rcases h with ⟨i, j, e1, e2, hk⟩ | ⟨i, j, e1, e2, hl, hk⟩ | ⟨xs, ys, e1, e2, hl, hk⟩ | ⟨xs, ys, e1, e2, hl, hk⟩
  · subst e1 e2
    obtain rfl := int_inv r1
    obtain rfl := int_inv r2
    exact o_addI (Rst.int q ok hk)
  · subst e1 e2
    obtain rfl := str_inv r1
    obtain rfl := str_inv r2
    exact .inr (.inr (.inr ⟨i, j, rfl, rfl, Nat.le_trans hl (by decide), Rst.str q ok hk⟩))
  · obtain ⟨p, us, rfl, a1, o1⟩ := r1.tup e1
    obtain ⟨p', vs, rfl, a2, o2⟩ := r2.tup e2
    exact o_catT a1 a2 (by rw [o1.length, o2.length]; exact hl) fun p H' e a => Rst.tup q ok e a (o1.append o2) hk
  · obtain ⟨p, us, rfl, a1, o1⟩ := r1.lst e1
    obtain ⟨p', vs, rfl, a2, o2⟩ := r2.lst e2
    exact o_cat a1 a2 (by rw [o1.length, o2.length]; exact hl) (Rst.new q ok (o1.append o2) hk)
def gSub' : AO2 := gI fun i j => .int (i - j)
theorem ro_sub : ROp K rSubI gSub' := ro_i0 fun i j _ _ => .int _
def Sml (i j : Int) : Prop := (-(2 ^ 64) < i ∧ i < 2 ^ 64) ∨ (-(2 ^ 64) < j ∧ j < 2 ^ 64)
def gMul : AO2 := fun x y k => (∃ i j, x = .d (.int i) ∧ y = .d (.int j) ∧ Sml i j ∧ k (.d (.int (i * j)))) ∨ (∃ xs n, x.lst = some xs ∧ y = .d (.int n) ∧ 0 ≤ n ∧ n ≤ 100000 ∧ xs.length * n.toNat ≤ 100000 ∧ k (.l (List.replicate n.toNat xs).flatten))
theorem ro_mul : ROp K (rMulU K) gMul := by
  intro W Hs O S H x y ax ay k Q ok r1 r2 h q
  rcases h with ⟨i, j, e1, e2, hs, hk⟩ | ⟨xs, n, e1, e2, n0, n1, hl, hk⟩
  · subst e1 e2
    obtain rfl := int_inv r1
    obtain rfl := int_inv r2
    exact o_mulI hs (Rst.int q ok hk)
  · subst e2
    obtain rfl := int_inv r2
    obtain ⟨p, us, rfl, a1, o1⟩ := r1.lst e1
    exact .inr (.inl ⟨p, n, us, rfl, rfl, a1, by omega, by omega, by rw [o1.length]; exact Nat.le_trans hl (by decide), Rst.new q ok (o1.rep _) hk⟩)
def gDiv : AO2 := fun x y k => ∃ i j, x = .d (.int i) ∧ y = .d (.int j) ∧ 0 < j ∧ j < 1073741824 ∧ k (.d (.int (i / j)))
def gMod : AO2 := fun x y k => ∃ i j, x = .d (.int i) ∧ y = .d (.int j) ∧ 0 < j ∧ k (.d (.int (i % j)))
theorem ro_mod : ROp K rModI gMod := by
  intro W Hs O S H x y ax ay k Q ok r1 r2 ⟨i, j, e1, e2, h1, hk⟩ q
  subst e1 e2
  obtain rfl := int_inv r1
  obtain rfl := int_inv r2
  exact o_mod h1 (Rst.int q ok hk)
def gEq : AO2 := fun x y k => (∃ i j, x = .d (.int i) ∧ y = .d (.int j) ∧ k (.d (.bool (decide (i = j))))) ∨ (∃ i j, x = .d (.str i) ∧ y = .d (.str j) ∧ k (.d (.bool (decide (i = j))))) ∨
  ∃ d e, x.dat = some d ∧ y.dat = some e ∧ SeqAt.shaped d = true ∧ SeqAt.shaped e = true ∧ k (.d (.bool (PyData.eqv d e)))
def gNe : AO2 := fun x y k => (∃ i j, x = .d (.int i) ∧ y = .d (.int j) ∧ k (.d (.bool (!decide (i = j))))) ∨ (∃ i j, x = .d (.str i) ∧ y = .d (.str j) ∧ k (.d (.bool (!decide (i = j))))) ∨
  ∃ d e, x.dat = some d ∧ y.dat = some e ∧ SeqAt.shaped d = true ∧ SeqAt.shaped e = true ∧ k (.d (.bool (!PyData.eqv d e)))
theorem dec_str {i j : Str} : decide (V.str i = V.str j) = decide (i = j) := by simp
theorem ro_eq : ROp K (rEqU K) gEq := by
  intro W Hs O S H x y ax ay k Q ok r1 r2 h q
  rcases h with ⟨i, j, e1, e2, hk⟩ | ⟨i, j, e1, e2, hk⟩ | ⟨d, e, e1, e2, h1, h2, hk⟩
  · subst e1 e2
    obtain rfl := int_inv r1
    obtain rfl := int_inv r2
    exact o_eqI (Rst.bl q ok hk)
  · subst e1 e2
    obtain rfl := str_inv r1
    obtain rfl := str_inv r2
    exact o_eqS rfl (by rw [dec_str]; exact Rst.bl q ok hk)
  · exact o_eqD ((r1.od e1).dp (SeqAt.canLay_of_shaped h1)) ((r2.od e2).dp (SeqAt.canLay_of_shaped h2)) h1 h2 (Rst.bl q ok hk)
theorem ro_ne : ROp K (rNeU K) gNe := by
  intro W Hs O S H x y ax ay k Q ok r1 r2 h q
  rcases h with ⟨i, j, e1, e2, hk⟩ | ⟨i, j, e1, e2, hk⟩ | ⟨d, e, e1, e2, h1, h2, hk⟩
  · subst e1 e2
    obtain rfl := int_inv r1
    obtain rfl := int_inv r2
    exact o_neI (Rst.bl q ok hk)
  · subst e1 e2
    obtain rfl := str_inv r1
    obtain rfl := str_inv r2
    exact o_neS rfl (by rw [dec_str]; exact Rst.bl q ok hk)
  · exact o_neD ((r1.od e1).dp (SeqAt.canLay_of_shaped h1)) ((r2.od e2).dp (SeqAt.canLay_of_shaped h2)) h1 h2 (Rst.bl q ok hk)
def gLt : AO2 := fun x y k => (∃ i j, x = .d (.int i) ∧ y = .d (.int j) ∧ k (.d (.bool (decide (i < j))))) ∨ ∃ ns ms : List Int, x = .d (.tuple (ns.map .int)) ∧ y = .d (.tuple (ms.map .int)) ∧ k (.d (.bool (HT.lexLt ns ms)))
theorem ro_lt : ROp K (rLtU K) gLt := by
  intro W Hs O S H x y ax ay k Q ok r1 r2 h q
  rcases h with ⟨i, j, e1, e2, hk⟩ | ⟨ns, ms, e1, e2, hk⟩
  · subst e1 e2
    obtain rfl := int_inv r1
    obtain rfl := int_inv r2
    exact o_ltI (Rst.bl q ok hk)
  · subst e1 e2
    obtain ⟨p, us, rfl, a1, o1⟩ := r1.tup rfl
    obtain ⟨p', vs, rfl, a2, o2⟩ := r2.tup rfl
    rw [o1.ints] at a1
    rw [o2.ints] at a2
    exact .inr ⟨p, p', ns, ms, rfl, rfl, a1.up, a2.up, Rst.bl q ok hk⟩
def gLe : AO2 := gI fun i j => .bool (decide (i ≤ j))
def gGt : AO2 := gI fun i j => .bool (decide (j < i))
def gGe : AO2 := gI fun i j => .bool (decide (j ≤ i))
theorem ro_le : ROp K rLeI gLe := ro_i0 fun i j _ _ => .bl _
theorem ro_gt : ROp K rGtI gGt := ro_i0 fun i j _ _ => .bl _
def isNon : PyData → Bool
  | .none => true
  | _ => false
def gIsN : AO2 := fun x y k => y = .d .none ∧ ∃ d, x.dat = some d ∧ k (.d (.bool (isNon d)))
def gNotN : AO2 := fun x y k => y = .d .none ∧ ∃ d, x.dat = some d ∧ k (.d (.bool (!isNon d)))
theorem non_iff {G : Ads} {H : Hp} {v : V} {d : PyData} (o : Od K G H v d) : decide (v = V.non) = isNon d := by
  cases o <;> rfl
theorem ro_isN : ROp K rIsN gIsN := by
  intro W Hs O S H x y ax ay k Q ok r1 r2 ⟨e, d, e1, hk⟩ q
  subst e
  obtain rfl := non_inv r2
  refine ⟨rfl, ?_⟩
  rw [non_iff (r1.od e1)]
  exact Rst.bl q ok hk
theorem ro_notN : ROp K rNotN gNotN := by
  intro W Hs O S H x y ax ay k Q ok r1 r2 ⟨e, d, e1, hk⟩ q
  subst e
  obtain rfl := non_inv r2
  refine ⟨rfl, ?_⟩
  rw [non_iff (r1.od e1)]
  exact Rst.bl q ok hk
def gIn (neg : Bool) : AO2 := fun x y k => ∃ d ds, x.dat = some d ∧ (y.tup = some ds ∨ y.lst = some ds) ∧ SeqAt.shaped d = true ∧ SeqAt.shaped (.tuple ds) = true ∧ k (.d (.bool (if neg then !(ds.any fun z => PyData.eqv z d) else ds.any fun z => PyData.eqv z d)))
theorem shaped_tl {ds : List PyData} (h : SeqAt.shaped (.tuple ds) = true) : SeqAt.shaped (.list ds) = true := by
  have h' : ((PyData.tuple ds).canLay0 && decide ((PyData.tuple ds).depth ≤ 64)) = true := h
  show ((PyData.list ds).canLay0 && decide ((PyData.list ds).depth ≤ 64)) = true
  simp only [PyData.canLay0, PyData.depth] at h' ⊢
  exact h'
theorem Vrp.seq {W : Wel} {Hs : Hp} {O : Nat → Option Addr} {S : Ads} {H : Hp} {v : V} {av : Avl} {ds : List PyData} (r : Vrp K W Hs O S H v av) (e : av.tup = some ds ∨ av.lst = some ds) : ∃ p vs, v = .ref p ∧ Ods K S H vs ds ∧ (SqT K H p vs ∨ H p = some (.lst vs)) := by
  rcases e with e | e
  · obtain ⟨p, vs, e1, a, b⟩ := r.tup e
    exact ⟨p, vs, e1, b, .inl a⟩
  · obtain ⟨p, vs, e1, a, b⟩ := r.lst e
    exact ⟨p, vs, e1, b, .inr a⟩
theorem ro_in : ROp K (rInU K) (gIn false) := by
  intro W Hs O S H x y ax ay k Q ok r1 r2 ⟨d, ds, e1, e2, h1, h2, hk⟩ q
  obtain ⟨p, vs, rfl, o, a⟩ := r2.seq e2
  have c2 : PyData.canLayAll0 ds = true := by
    have := SeqAt.canLay_of_shaped h2
    simpa only [PyData.canLay0] using this
  have d1 := (r1.od e1).dp (SeqAt.canLay_of_shaped h1)
  rcases a with a | a
  · exact .inr (.inr ⟨d, ds, d1, .tup a.up (o.dp c2), h1, h2, Rst.bl q ok hk⟩)
  · exact .inr (.inl ⟨d, ds, d1, .lst (SqL.of a) (o.dp c2), h1, shaped_tl h2, Rst.bl q ok hk⟩)
theorem ro_ni : ROp K (rNiU K) (gIn true) := by
  intro W Hs O S H x y ax ay k Q ok r1 r2 ⟨d, ds, e1, e2, h1, h2, hk⟩ q
  obtain ⟨p, vs, rfl, o, a⟩ := r2.seq e2
  have c2 : PyData.canLayAll0 ds = true := by
    have := SeqAt.canLay_of_shaped h2
    simpa only [PyData.canLay0] using this
  have d1 := (r1.od e1).dp (SeqAt.canLay_of_shaped h1)
  rcases a with a | a
  · exact .inr (.inr ⟨d, ds, d1, .tup a.up (o.dp c2), h1, h2, Rst.bl q ok hk⟩)
  · exact .inr (.inl ⟨d, ds, d1, .lst (SqL.of a) (o.dp c2), h1, shaped_tl h2, Rst.bl q ok hk⟩)
def gNeg : AO1 := fun x k => ∃ i, x = .d (.int i) ∧ k (.d (.int (-i)))
def gIx : AO2 := fun x y k => ∃ i, y = .d (.int i) ∧ (∃ ds z, (x.tup = some ds ∨ x.lst = some ds) ∧ atI ds i = some z ∧ k (.d z))
theorem ro_ix : ROp K (rIx K) gIx := by
  intro W Hs O S H x y ax ay k Q ok r1 r2 ⟨i, e, h⟩ q
  subst e
  obtain rfl := int_inv r2
  obtain ⟨ds, z, e1, hz, hk⟩ := h
  obtain ⟨p, vs, rfl, o, a⟩ := r1.seq e1
  obtain ⟨v, hv, ov⟩ := o.at hz
  rcases a with a | a
  · exact o_ixT a hv (Rst.d q ok ov hk)
  · exact o_ixL (SqL.of a) hv (Rst.d q ok ov hk)
def gSl (lo hi : Option Int) : AO1 := fun x k => (∃ ds, x.tup = some ds ∧ k (.d (.tuple (cutD ds lo hi)))) ∨ ∃ ds, x.lst = some ds ∧ k (.l (cutD ds lo hi))
def aSl (e : AEx) (lo hi : AOp) : AEx := fun X α k => e X α fun x => lo X α fun l => hi X α fun u => gSl l u x k
def aRev (e : AEx) : AEx := fun X α k => e X α fun x => (∃ ds, x.tup = some ds ∧ k (.d (.tuple ds.reverse))) ∨ ∃ ds, x.lst = some ds ∧ k (.l ds.reverse)
theorem Ods.rev {G : Ads} {H : Hp} : ∀ {vs : List V} {ds : List PyData}, Ods K G H vs ds → Ods K G H vs.reverse ds.reverse
  | _, _, .nil => .nil
  | _, _, .cons a h => by
    rw [List.reverse_cons, List.reverse_cons]
    exact (Ods.rev h).append (.cons a .nil)
/-- a slot's list is kept as it is -/
def aFz (i : Nat) (a : ASt) : ASt := fun A α => ∃ ds, α[i]? = some (.own ds) ∧ a A (α.set i (.d (.list ds)))
def aSwap (i j : Nat) (e e' ei ej : AEx) : ASt := fun A α => e A.er α fun x => ∃ x', x.cl = some x' ∧ e' A.er α fun y => ∃ y', y.cl = some y' ∧ ∃ ds, α[i]? = some (.own ds) ∧ ei A.er α fun a => ∃ (p : Int) (n : Nat), a = .d (.int p) ∧ ixN ds.length p = some n ∧
  ∃ es, (α.set i (.own (ds.set n x')))[j]? = some (.own es) ∧ ej A.er (α.set i (.own (ds.set n x'))) fun b => ∃ (q : Int) (m : Nat), b = .d (.int q) ∧ ixN es.length q = some m ∧ A.nx ((α.set i (.own (ds.set n x'))).set j (.own (es.set m y')))
theorem one_inv {W : Wel} {Hs : Hp} {O : Nat → Option Addr} {S : Ads} {H : Hp} {xs : List V} {a : Avl} (r : Paired (Vrp K W Hs O S H) xs [a]) : ∃ v, xs = [v] ∧ Vrp K W Hs O S H v a := by
  rcases r with _ | ⟨r1, r2⟩
  cases r2
  exact ⟨_, rfl, r1⟩
theorem two_inv {W : Wel} {Hs : Hp} {O : Nat → Option Addr} {S : Ads} {H : Hp} {xs : List V} {a b : Avl} (r : Paired (Vrp K W Hs O S H) xs [a, b]) : ∃ v u, xs = [v, u] ∧ Vrp K W Hs O S H v a ∧ Vrp K W Hs O S H u b := by
  rcases r with _ | ⟨r1, r2⟩
  rcases r2 with _ | ⟨r2, r3⟩
  cases r3
  exact ⟨_, _, rfl, r1, r2⟩
def gLen : AOn := fun as k => ∃ a ds, as = [a] ∧ (a.tup = some ds ∨ a.lst = some ds) ∧ k (.d (.int ds.length))
theorem rb_len : RCb K (rLenU K) gLen := by
  intro W Hs O S H xs as k Q ok r ⟨a, ds, e, h, hk⟩ q
  subst e
  obtain ⟨v, rfl, r1⟩ := one_inv r
  obtain ⟨p, vs, rfl, o, a⟩ := r1.seq h
  rw [← o.length] at hk
  rcases a with a | a
  · exact o_lenT a (Rst.int q ok hk)
  · exact o_lenL (SqL.of a) (Rst.int q ok hk)
def gAbs : AOn := fun as k => ∃ i, as = [.d (.int i)] ∧ k (.d (.int (if i < 0 then -i else i)))
def gInt : AOn := fun as k => (∃ i, as = [.d (.int i)] ∧ k (.d (.int i))) ∨ ∃ b, as = [.d (.bool b)] ∧ k (.d (.int (b2i b)))
def gMax2 : AOn := fun as k => ∃ i j, as = [.d (.int i), .d (.int j)] ∧ k (.d (.int (if j > i then j else i)))
def gMin2 : AOn := fun as k => ∃ i j, as = [.d (.int i), .d (.int j)] ∧ k (.d (.int (if j < i then j else i)))
theorem rb_max2 : RCb K rMax2 gMax2 := by
  intro W Hs O S H xs as k Q ok r ⟨i, j, e, hk⟩ q
  subst e
  obtain ⟨v, u, rfl, r1, r2⟩ := two_inv r
  obtain rfl := int_inv r1
  obtain rfl := int_inv r2
  exact o_max2 (Rst.int q ok hk)
theorem rb_min2 : RCb K rMin2 gMin2 := by
  intro W Hs O S H xs as k Q ok r ⟨i, j, e, hk⟩ q
  subst e
  obtain ⟨v, u, rfl, r1, r2⟩ := two_inv r
  obtain rfl := int_inv r1
  obtain rfl := int_inv r2
  exact o_min2 (Rst.int q ok hk)
/-- a list or tuple of integers -/
def isIs (a : Avl) (ns : List Int) : Prop := a.tup = some (ns.map .int) ∨ a.lst = some (ns.map .int)
theorem sq_ints {W : Wel} {Hs : Hp} {O : Nat → Option Addr} {S : Ads} {H : Hp} {v : V} {a : Avl} {ns : List Int} (r : Vrp K W Hs O S H v a) (h : isIs a ns) : ∃ p, v = .ref p ∧ SqU K H p (ns.map V.int) := by
  obtain ⟨p, vs, rfl, o, a⟩ := r.seq h
  rw [o.ints] at a
  exact ⟨p, rfl, a.elim (fun a => .inr a.up) fun a => .inl (SqL.of a)⟩
def gMax : AOn := fun as k => ∃ a ns, as = [a] ∧ isIs a ns ∧ ns ≠ [] ∧ ∀ m, m ∈ ns → (∀ y ∈ ns, y ≤ m) → k (.d (.int m))
def gMin : AOn := fun as k => ∃ a ns, as = [a] ∧ isIs a ns ∧ ns ≠ [] ∧ ∀ m, m ∈ ns → (∀ y ∈ ns, m ≤ y) → k (.d (.int m))
theorem rb_max : RCb K (rMaxU K) gMax := by
  intro W Hs O S H xs as k Q ok r ⟨a, ns, e, h, hn, hk⟩ q
  subst e
  obtain ⟨v, rfl, r1⟩ := one_inv r
  obtain ⟨p, rfl, s⟩ := sq_ints r1 h
  exact ⟨p, ns, rfl, s, hn, fun m h1 h2 => Rst.int q ok (hk m h1 h2)⟩
theorem rb_min : RCb K (rMinU K) gMin := by
  intro W Hs O S H xs as k Q ok r ⟨a, ns, e, h, hn, hk⟩ q
  subst e
  obtain ⟨v, rfl, r1⟩ := one_inv r
  obtain ⟨p, rfl, s⟩ := sq_ints r1 h
  exact ⟨p, ns, rfl, s, hn, fun m h1 h2 => Rst.int q ok (hk m h1 h2)⟩
/-- what repr may cost -/
structure Shw (d : PyData) : Prop where
  sh : d.showable = true
  dp : d.depth ≤ 60
  ln : d.shown.length ≤ 10000000
def gRepr : AOn := fun as k => ∃ a d, as = [a] ∧ a.dat = some d ∧ Shw d ∧ k (.d (.str d.shown))
theorem rb_repr : RCb K (rReprU K) gRepr := by
  intro W Hs O S H xs as k Q ok r ⟨a, d, e, h, hs, hk⟩ q
  subst e
  obtain ⟨v, rfl, r1⟩ := one_inv r
  exact .inr ⟨_, v, d, rfl, r1.od h, hs.sh, hs.dp, Nat.le_trans hs.ln (by decide), Rst.str q ok hk⟩
def gSortP : AOn := fun as k => ∃ (a : Avl) (rs : List (Int × Int)), as = [a] ∧ a.lst = some (rs.map dP) ∧ ∀ qs : List (Int × Int), qs.Perm rs → qs.Pairwise (fun p q => SrtO.lexB q p = false) → k (.l (qs.map dP))
theorem flat_dPs : ∀ rs : List (Int × Int), flatDs (rs.map dP) = true
  | [] => by simp [flatDs]
  | p :: rs => by simp [flatDs, flatD, dP, flat_dPs rs]
theorem rb_sortP : RCb K (rSortP K) gSortP := by
  intro W Hs O S H xs as k Q ok r ⟨a, rs, e, h, hk⟩ q
  subst e
  obtain ⟨v, rfl, r1⟩ := one_inv r
  obtain ⟨p, vs, rfl, a, o⟩ := r1.lst h
  exact ⟨p, vs, rs, rfl, SqL.of a, o.tps (flat_dPs rs), fun ys qs h1 h2 t => Rst.new q ok t.ods (hk qs h1 h2)⟩
def gTupOf : AOn := fun as k => ∃ a ds, as = [a] ∧ (a.tup = some ds ∨ a.lst = some ds) ∧ k (.d (.tuple ds))
theorem rb_tupOf : RCb K (rTupOf K) gTupOf := by
  intro W Hs O S H xs as k Q ok r ⟨a, ds, e, h, hk⟩ q
  subst e
  obtain ⟨v, rfl, r1⟩ := one_inv r
  obtain ⟨p, vs, rfl, o, a⟩ := r1.seq h
  rcases a with a | a
  · exact ⟨p, vs, rfl, .inr ⟨a.up, Rst.d q ok (.tup a o) hk⟩⟩
  · exact ⟨p, vs, rfl, .inl ⟨SqL.of a, Rst.newT q ok o hk⟩⟩
def gLstOf : AOn := fun as k => ∃ a ds, as = [a] ∧ (a.tup = some ds ∨ a.lst = some ds) ∧ k (.l ds)
theorem rb_lstOf : RCb K (rLstOf K) gLstOf := by
  intro W Hs O S H xs as k Q ok r ⟨a, ds, e, h, hk⟩ q
  subst e
  obtain ⟨v, rfl, r1⟩ := one_inv r
  obtain ⟨p, vs, rfl, o, a⟩ := r1.seq h
  rcases a with a | a
  · exact ⟨p, vs, rfl, .inr a.up, Rst.new q ok o hk⟩
  · exact ⟨p, vs, rfl, .inl (SqL.of a), Rst.new q ok o hk⟩
theorem re_isTup {te : TE} {e : AEx} (h1 : REx K E te e) : REx K E (tCB (rIsi K) (tCons te (tCons (tC (.ty "tuple")) tNil))) (aIsi isTup e) := re_isi (fun d => kit_tup d) h1
/-- list(range(n)) -/
def aLstRg (e : AEx) : AEx := fun X α k => e X α fun x => ∃ n : Int, x = .d (.int n) ∧ -1000000 ≤ n ∧ n ≤ 1000000 ∧ k (.l ((iota n.toNat).map .int))
theorem re_lstRg {te : TE} {e : AEx} (h1 : REx K E te e) : REx K E (tLstRg (tRg1 te)) (aLstRg e) := by
  intro W H0 S0 O S α σ H X k Q f h lk q
  refine h1 f h lk fun v av S1 H1 m r ⟨n, e, n0, n1, hk⟩ => ?_
  subst e
  obtain rfl := int_inv r
  refine ⟨n, rfl, ⟨by omega, by omega, by omega, by omega, by omega⟩, ?_⟩
  rw [rgV_iota]
  have q1 : Rst K W O S1 H1 k Q := fun v av S' H' m' r h => q v av S' H' (m.trans m') (r.hs fun b y => m.back y) h
  exact q1.new m.oks (Tps.ods (Tps.of_ints _)) hk
/-- {} -/
def aDict0 : AEx := fun _ _ k => k (.d (.dict []))
end
end UW
namespace UW
open PySem PySem.Spec PyProof.Rows L2
section
variable {K : Fg} {W : Wel} {Hs H H' : Hp} {O : Nat → Option Addr} {S S0 : Ads} {v : V} {av : Avl}
theorem rtn_wel (ok : Oks W S H) (on : W.is 0) (e : WK W.a W.l H H') (hs : ∀ b, S b → S0 b) (r : Vrp K W H (fun _ => none) S H' v av) : Rtn K W H S0 v av H' := by
  refine ⟨S, fun _ => by rw [on.2]; exact ⟨e.w, (ok.w.of on).2⟩, fun b o h z => e.k b o h (fun y => z ⟨on.1, .inl y⟩) (fun y => z ⟨on.1, .inr (.inl y)⟩), fun b hb => ⟨.inl (hs b hb), ?_, (ok.t b hb).2⟩, r⟩
  cases q : H b with
  | none => exact absurd q (ok.t b hb).1
  | some o =>
    rw [e.k b o q (fun y => (ok.t b hb).2 ⟨on.1, .inl y⟩) (fun y => (ok.t b hb).2 ⟨on.1, .inr (.inl y)⟩)]
    intro y
    cases y
theorem rtn_same (ok : Oks W S H) (e : Same H H') (hs : ∀ b, S b → S0 b) (r : Vrp K W H (fun _ => none) S H' v av) : Rtn K W H S0 v av H' := by
  have m := ok.same e
  exact ⟨S, m.w, fun b o h _ => e b o h, fun b hb => ⟨.inl (hs b hb), m.t b hb⟩, r⟩
theorem new_l (ok : Oks W S H) {p : Addr} {vs : List V} {ds : List PyData} (np : H p = none) (h : H' p = some (.lst vs)) (o : Ods K S H' vs ds) : Vrp K W H (fun _ => none) S H' (.ref p) (.l ds) :=
  ⟨p, vs, rfl, h, o, fun z => (ok.t p z).1 np, np, Wel.ne ok.w np⟩
theorem argS_S {as : List Avl} : ∀ b, S b → argS W Hs O S H as b := fun _ h => .inl h
mutual
theorem Tp.fl {H : Hp} : ∀ {v : V} {d : PyData}, Tp K H v d → flatD d = true
  | _, _, .non => by simp [flatD]
  | _, _, .bl b => by simp [flatD]
  | _, _, .int i => by simp [flatD]
  | _, _, .str x => by simp [flatD]
  | _, _, .tup h hs => by simp only [flatD]; exact Tps.fl hs
theorem Tps.fl {H : Hp} : ∀ {vs : List V} {ds : List PyData}, Tps K H vs ds → flatDs ds = true
  | _, _, .nil => by simp [flatDs]
  | _, _, .cons h hs => by simp only [flatDs, Bool.and_eq_true]; exact ⟨Tp.fl h, Tps.fl hs⟩
end
end
section
variable {K : Fg}
def m__law_draw : AFn := fun as _ k => ∃ m : Int, as = [.w, .d (.int m)] ∧ 0 < m ∧ m < 1073741824 ∧ ∀ r : Int, 0 ≤ r → r < m → k (.d (.int r))
theorem br__law_draw : ∀ vs H Q E, SpA K 2 m__law_draw vs H Q E → sp__law_draw K vs H Q E := by
  rintro vs H Q E ⟨W, Hs, O, S, as, x, k, _, ok, _, pr, ⟨m, rfl, m0, m1, h⟩, hq, _⟩
  obtain ⟨v, u, rfl, r1, r2⟩ := two_inv pr
  obtain ⟨on, rfl⟩ := r1
  obtain rfl := int_inv r2
  exact ⟨W.a, W.l, m, rfl, (ok.w.of on).1, m0, m1, fun r H' r0 r1 w' k' => hq _ (.d (.int r)) _ (rtn_wel ok on ⟨w', k'⟩ argS_S (Od.int r)) (h r r0 r1)⟩
def m__law_mixed : AFn := fun as _ k => ∃ n : Nat, as = [.w, .d (.int n)] ∧ n ≤ 1000 ∧ ∀ ns : List Int, ns.Perm (iota n) → k (.l (ns.map .int))
theorem br__law_mixed : ∀ vs H Q E, SpA K 2 m__law_mixed vs H Q E → sp__law_mixed K vs H Q E := by
  rintro vs H Q E ⟨W, Hs, O, S, as, x, k, _, ok, _, pr, ⟨n, rfl, m0, h⟩, hq, _⟩
  obtain ⟨v, u, rfl, r1, r2⟩ := two_inv pr
  obtain ⟨on, rfl⟩ := r1
  obtain rfl := int_inv r2
  exact ⟨W.a, W.l, n, rfl, (ok.w.of on).1, m0, fun p H' ns np wk e pm => hq _ (.l (ns.map .int)) _ (rtn_wel ok on wk argS_S (new_l ok np e (Tps.of_ints ns).ods)) (h ns pm)⟩
def m_is_integer : AFn := fun as _ k => ∃ (a : Avl) (d : PyData), as = [a] ∧ a.dat = some d ∧ k (.d (.bool (isInt d)))
theorem br_is_integer : ∀ vs H Q E, SpA K 1 m_is_integer vs H Q E → sp_is_integer K vs H Q E := by
  rintro vs H Q E ⟨W, Hs, O, S, as, x, k, _, ok, _, pr, ⟨a, d, rfl, ha, h⟩, hq, _⟩
  obtain ⟨v, rfl, r1⟩ := one_inv pr
  exact ⟨_, v, d, rfl, r1.od ha, hq _ (.d _) _ (rtn_same ok (Same.refl H) argS_S (Od.bl _)) h⟩
end
end UW
namespace UW
open PySem PySem.Spec PyProof.Rows L2
theorem iteT' {c : Bool} {A B : Prop} (h : c = true) (k : A) : if c = true then A else B := by rw [if_pos h]; exact k
theorem iteF' {c : Bool} {A B : Prop} (h : c = false) (k : B) : if c = true then A else B := by rw [if_neg (by rw [h]; decide)]; exact k
theorem iteNT {d : PyData} {A B : Prop} (h : isNon d = false) (k : A) : if (!isNon d) = true then A else B := by rw [h]; exact k
theorem iteNF {d : PyData} {A B : Prop} (h : isNon d = true) (k : B) : if (!isNon d) = true then A else B := by rw [h]; exact k
theorem iteIT {d : PyData} {A B : Prop} (h : isNon d = true) (k : A) : if isNon d = true then A else B := by rw [h]; exact k
theorem iteIF {d : PyData} {A B : Prop} (h : isNon d = false) (k : B) : if isNon d = true then A else B := by rw [h]; exact k
section
variable {X : AXr} {α : Afr} {k : Avl → Prop} {A : AEn} {a b : ASt} {e e' e2 ei : AEx} {i j n : Nat} {P : Avl → Prop} {d : PyData} {ds xs ys : List PyData} {t u : ATx} {R : Bool → Prop} {g g' : AO2} {x y z : Avl}
theorem a_seq (h : a { A with nx := b A } α) : aSeq a b A α := h
theorem a_next (h : A.nx α) : aNext A α := h
theorem a_brk (h : A.bk α) : aBrk A α := h
theorem a_cont (h : A.ct α) : aCont A α := h
theorem a_ret (h : e A.er α fun av => A.rt av.out) : aRet e A α := h
theorem a_retN (h : A.rt (.d .none)) : aRetN A α := h
theorem a_drop (h : e A.er α fun _ => A.nx α) : aDrop e A α := h
theorem a_ifs (h : t A.er α fun x => if x = true then a A α else b A α) : aIfS t a b A α := h
theorem a_set (h : e A.er α fun av => ∃ z, av.sot = some z ∧ A.nx (α.set i z)) : aSet i e A α := h
theorem a_set2 (h : e A.er α fun x => e' A.er α fun y => ∃ z w, x.sot = some z ∧ y.sot = some w ∧ A.nx ((α.set i z).set j w)) : aSet2 i j e e' A α := h
theorem a_set3 (h : e A.er α fun x => e' A.er α fun y => e2 A.er α fun x2 => ∃ z w z2, x.sot = some z ∧ y.sot = some w ∧ x2.sot = some z2 ∧ A.nx (((α.set i z).set j w).set n z2)) : aSet3 i j n e e' e2 A α := h
theorem a_parD {r : AAd} (h : r A.er α fun xs => ∃ x y, xs = [x, y] ∧ A.nx ((α.set i (.d x)).set j (.d y))) : aParD i j r A α := h
theorem a_p2 {Q : PyData → PyData → Prop} {x y : PyData} (h : Q x y) : ∃ x' y', [x, y] = [x', y'] ∧ Q x' y' := ⟨x, y, rfl, h⟩
theorem a_s1 {Q : Sot → Prop} {z : Sot} (h : x.sot = some z) (k : Q z) : ∃ z, x.sot = some z ∧ Q z := ⟨z, h, k⟩
theorem a_s2 {Q : Sot → Sot → Prop} {z w : Sot} (h : x.sot = some z) (h2 : y.sot = some w) (k : Q z w) : ∃ z w, x.sot = some z ∧ y.sot = some w ∧ Q z w := ⟨z, w, h, h2, k⟩
theorem a_s3 {Q : Sot → Sot → Sot → Prop} {s w v : Sot} (h : x.sot = some s) (h2 : y.sot = some w) (h3 : z.sot = some v) (k : Q s w v) : ∃ s w v, x.sot = some s ∧ y.sot = some w ∧ z.sot = some v ∧ Q s w v := ⟨s, w, v, h, h2, h3, k⟩
theorem a_var {z : Sot} {av : Avl} (h : α[i]? = some z) (h2 : z.av i = some av) (q : k av) : aVar i X α k := ⟨z, av, h, h2, q⟩
theorem a_c (q : k (.d d)) : aC d X α k := q
theorem a_tup {r : AAd} (h : r X α fun xs => k (.d (.tuple xs))) : aTup r X α k := h
theorem a_lst {r : AAd} (h : r X α fun xs => k (.l xs)) : aLst r X α k := h
theorem a_nil {R : List PyData → Prop} (h : R []) : aNil X α R := h
theorem a_cons {r : AAd} {R : List PyData → Prop} (h : e X α fun av => ∃ x, av.cl = some x ∧ r X α fun xs => R (x :: xs)) : aCons e r X α R := h
theorem a_cl {Q : PyData → Prop} {w : PyData} (h : x.cl = some w) (q : Q w) : ∃ x', x.cl = some x' ∧ Q x' := ⟨w, h, q⟩
theorem b_nil {R : List Avl → Prop} (h : R []) : bNil X α R := h
theorem b_cons {r : AAv} {R : List Avl → Prop} (h : e X α fun x => r X α fun xs => R (x :: xs)) : bCons e r X α R := h
theorem a_b (h : e X α fun av => ∃ b, av = .d (.bool b) ∧ R b) : aB e X α R := h
theorem a_bl {Q : Bool → Prop} {b : Bool} (h : Q b) : ∃ c, Avl.d (.bool b) = .d (.bool c) ∧ Q c := ⟨b, rfl, h⟩
theorem a_ii {Q : Int → Prop} {i : Int} (h : Q i) : ∃ j, Avl.d (.int i) = .d (.int j) ∧ Q j := ⟨i, rfl, h⟩
theorem a_yes (h : R true) : aYes X α R := h
theorem a_and (h : t X α fun c => if c = true then u X α R else R false) : aAnd t u X α R := h
theorem a_or (h : t X α fun c => if c = true then R true else u X α R) : aOr t u X α R := h
theorem a_not (h : t X α fun c => R (!c)) : aNot t X α R := h
theorem a_if (h : t X α fun c => if c = true then e X α k else e' X α k) : aIf t e e' X α k := h
theorem a_andV (h : e X α fun x => ∃ c, x = .d (.bool c) ∧ if c = true then e' X α k else k (.d (.bool false))) : aAndV e e' X α k := h
theorem a_orV (h : e X α fun x => ∃ c, x = .d (.bool c) ∧ if c = true then k (.d (.bool true)) else e' X α k) : aOrV e e' X α k := h
theorem a_notV (h : e X α fun x => ∃ c, x = .d (.bool c) ∧ k (.d (.bool (!c)))) : aNotV e X α k := h
theorem a_op (h : e X α fun x => e' X α fun y => g x y k) : aOp g e e' X α k := h
theorem a_chain (h : e X α fun x => e' X α fun y => g x y fun z => ∃ p, z = .d (.bool p) ∧ if p = true then e2 X α fun w => g' y w k else k (.d (.bool false))) : aChain g g' e e' e2 X α k := h
theorem a_un {g : AO1} (h : e X α fun x => g x k) : aUn g e X α k := h
theorem a_cb {g : AOn} {r : AAv} (h : r X α fun xs => g xs k) : aCB g r X α k := h
theorem a_sl {lo hi : AOp} (h : e X α fun x => lo X α fun l => hi X α fun u => gSl l u x k) : aSl e lo hi X α k := h
theorem a_rev (h : e X α fun x => (∃ ds, x.tup = some ds ∧ k (.d (.tuple ds.reverse))) ∨ ∃ ds, x.lst = some ds ∧ k (.l ds.reverse)) : aRev e X α k := h
theorem a_revT {Q R : List PyData → Prop} (e : x.tup = some ds) (h : Q ds) : (∃ ds, x.tup = some ds ∧ Q ds) ∨ ∃ ds, x.lst = some ds ∧ R ds := .inl ⟨ds, e, h⟩
theorem a_revL {Q R : List PyData → Prop} (e : x.lst = some ds) (h : R ds) : (∃ ds, x.tup = some ds ∧ Q ds) ∨ ∃ ds, x.lst = some ds ∧ R ds := .inr ⟨ds, e, h⟩
theorem a_part {Q : Option Int → Prop} (h : e X α fun av => ∃ i, av = .d (.int i) ∧ Q (some i)) : aPart e X α Q := h
theorem a_nopart {Q : Option Int → Prop} (h : Q none) : aNoPart X α Q := h
theorem a_call {m : AFn} {r : AAv} (h : r X α fun as => m as (fun C f => X α C f ∧ (anyB as = true → f = none)) fun av => k av ∧ (anyB as = true → av.flat = true)) : aCall m r X α k := h
theorem a_call0 {m : AFn} {r : AAv} (h : r X α fun as => m as (fun _ _ => False) fun av => k av ∧ (anyB as = true → av.flat = true)) : aCall0 m r X α k := h
theorem a_nb {P Q : Prop} {as : List Avl} (h : anyB as = false) (p : P) : P ∧ (anyB as = true → Q) := ⟨p, fun z => by rw [h] at z; cases z⟩
theorem a_kw {gg : List Avl → List Avl} {r : AAv} {R : List Avl → Prop} (h : r X α fun as => R (gg as)) : aKw n gg r X α R := h
theorem a_asg {gt : ATg} (h : e A.er α fun av => ∃ x, av.cl = some x ∧ gt x α A.nx) : aAsg e gt A α := h
theorem a_gtup {gs : ATgs} {Q : Afr → Prop} (e : d = .tuple ds) (h : ds.length = n) (q : gs ds α Q) : agTup n gs d α Q := ⟨ds, e, h, q⟩
theorem a_gcons {gt : ATg} {gs : ATgs} {Q : Afr → Prop} (h : gt d α fun α1 => gs ds α1 Q) : agCons gt gs (d :: ds) α Q := ⟨d, ds, rfl, h⟩
theorem a_gnil {Q : Afr → Prop} (h : Q α) : agNil [] α Q := ⟨rfl, h⟩
theorem a_isi {f : PyData → Bool} (h : e X α fun av => ∃ d, av.dat = some d ∧ k (.d (.bool (f d)))) : aIsi f e X α k := h
theorem a_dat {Q : PyData → Prop} {w : PyData} (h : x.dat = some w) (q : Q w) : ∃ d, x.dat = some d ∧ Q d := ⟨w, h, q⟩
theorem a_isX {a : Addr} (h : α[i]? = some (.err a)) (q : k (.d (.bool true))) : aIsX i a X α k := ⟨h, q⟩
theorem a_lstRg (h : e X α fun x => ∃ n : Int, x = .d (.int n) ∧ -1000000 ≤ n ∧ n ≤ 1000000 ∧ k (.l ((iota n.toNat).map .int))) : aLstRg e X α k := h
theorem a_dict0 (h : k (.d (.dict []))) : aDict0 X α k := h
theorem g_addI {i j : Int} (h : k (.d (.int (i + j)))) : gAdd (.d (.int i)) (.d (.int j)) k := .inl ⟨i, j, rfl, rfl, h⟩
theorem g_addL (e : x.lst = some xs) (e' : y.lst = some ys) (h : xs.length + ys.length ≤ 100000) (q : k (.l (xs ++ ys))) : gAdd x y k := .inr (.inr (.inr ⟨xs, ys, e, e', h, q⟩))
theorem g_sub {i j : Int} (h : k (.d (.int (i - j)))) : gSub' (.d (.int i)) (.d (.int j)) k := ⟨i, j, rfl, rfl, h⟩
theorem g_mulI {i j : Int} (s : Sml i j) (h : k (.d (.int (i * j)))) : gMul (.d (.int i)) (.d (.int j)) k := .inl ⟨i, j, rfl, rfl, s, h⟩
theorem g_div {i j : Int} (h1 : 0 < j) (h2 : j < 1073741824) (h : k (.d (.int (i / j)))) : gDiv (.d (.int i)) (.d (.int j)) k := ⟨i, j, rfl, rfl, h1, h2, h⟩
theorem g_mod {i j : Int} (h1 : 0 < j) (h : k (.d (.int (i % j)))) : gMod (.d (.int i)) (.d (.int j)) k := ⟨i, j, rfl, rfl, h1, h⟩
theorem g_eqI {i j : Int} (h : k (.d (.bool (decide (i = j))))) : gEq (.d (.int i)) (.d (.int j)) k := .inl ⟨i, j, rfl, rfl, h⟩
theorem g_neI {i j : Int} (h : k (.d (.bool (!decide (i = j))))) : gNe (.d (.int i)) (.d (.int j)) k := .inl ⟨i, j, rfl, rfl, h⟩
theorem g_eqS {i j : Str} (h : k (.d (.bool (decide (i = j))))) : gEq (.d (.str i)) (.d (.str j)) k := .inr (.inl ⟨i, j, rfl, rfl, h⟩)
theorem g_neS {i j : Str} (h : k (.d (.bool (!decide (i = j))))) : gNe (.d (.str i)) (.d (.str j)) k := .inr (.inl ⟨i, j, rfl, rfl, h⟩)
theorem g_neD {d e : PyData} (e1 : x.dat = some d) (e2 : y.dat = some e) (h1 : SeqAt.shaped d = true) (h2 : SeqAt.shaped e = true) (h : k (.d (.bool (!PyData.eqv d e)))) : gNe x y k := .inr (.inr ⟨d, e, e1, e2, h1, h2, h⟩)
theorem g_ltI {i j : Int} (h : k (.d (.bool (decide (i < j))))) : gLt (.d (.int i)) (.d (.int j)) k := .inl ⟨i, j, rfl, rfl, h⟩
theorem g_le {i j : Int} (h : k (.d (.bool (decide (i ≤ j))))) : gLe (.d (.int i)) (.d (.int j)) k := ⟨i, j, rfl, rfl, h⟩
theorem g_gt {i j : Int} (h : k (.d (.bool (decide (j < i))))) : gGt (.d (.int i)) (.d (.int j)) k := ⟨i, j, rfl, rfl, h⟩
theorem g_ge {i j : Int} (h : k (.d (.bool (decide (j ≤ i))))) : gGe (.d (.int i)) (.d (.int j)) k := ⟨i, j, rfl, rfl, h⟩
theorem g_isN {d : PyData} (e : x.dat = some d) (h : k (.d (.bool (isNon d)))) : gIsN x (.d .none) k := ⟨rfl, d, e, h⟩
theorem g_notN {d : PyData} (e : x.dat = some d) (h : k (.d (.bool (!isNon d)))) : gNotN x (.d .none) k := ⟨rfl, d, e, h⟩
theorem g_neg {i : Int} (h : k (.d (.int (-i)))) : gNeg (.d (.int i)) k := ⟨i, rfl, h⟩
theorem g_ixT {i : Int} {w : PyData} (e : x.tup = some ds) (h : atI ds i = some w) (q : k (.d w)) : gIx x (.d (.int i)) k := ⟨i, rfl, ds, w, .inl e, h, q⟩
theorem g_ixL {i : Int} {w : PyData} (e : x.lst = some ds) (h : atI ds i = some w) (q : k (.d w)) : gIx x (.d (.int i)) k := ⟨i, rfl, ds, w, .inr e, h, q⟩
theorem g_slT {lo hi : Option Int} (e : x.tup = some ds) (q : k (.d (.tuple (cutD ds lo hi)))) : gSl lo hi x k := .inl ⟨ds, e, q⟩
theorem g_slL {lo hi : Option Int} (e : x.lst = some ds) (q : k (.l (cutD ds lo hi))) : gSl lo hi x k := .inr ⟨ds, e, q⟩
theorem g_lenT (e : x.tup = some ds) (q : k (.d (.int ds.length))) : gLen [x] k := ⟨x, ds, rfl, .inl e, q⟩
theorem g_lenL (e : x.lst = some ds) (q : k (.d (.int ds.length))) : gLen [x] k := ⟨x, ds, rfl, .inr e, q⟩
theorem g_abs {i : Int} (q : k (.d (.int (if i < 0 then -i else i)))) : gAbs [.d (.int i)] k := ⟨i, rfl, q⟩
theorem g_int {i : Int} (q : k (.d (.int i))) : gInt [.d (.int i)] k := .inl ⟨i, rfl, q⟩
theorem g_intB {b : Bool} (q : k (.d (.int (b2i b)))) : gInt [.d (.bool b)] k := .inr ⟨b, rfl, q⟩
theorem g_max2 {i j : Int} (q : k (.d (.int (if j > i then j else i)))) : gMax2 [.d (.int i), .d (.int j)] k := ⟨i, j, rfl, q⟩
theorem g_min2 {i j : Int} (q : k (.d (.int (if j < i then j else i)))) : gMin2 [.d (.int i), .d (.int j)] k := ⟨i, j, rfl, q⟩
theorem g_repr {d : PyData} (e : x.dat = some d) (h : Shw d) (q : k (.d (.str d.shown))) : gRepr [x] k := ⟨x, d, rfl, e, h, q⟩
theorem g_tupL (e : x.lst = some ds) (q : k (.d (.tuple ds))) : gTupOf [x] k := ⟨x, ds, rfl, .inr e, q⟩
theorem g_tupT (e : x.tup = some ds) (q : k (.d (.tuple ds))) : gTupOf [x] k := ⟨x, ds, rfl, .inl e, q⟩
theorem g_lstT (e : x.tup = some ds) (q : k (.l ds)) : gLstOf [x] k := ⟨x, ds, rfl, .inl e, q⟩
theorem g_lstL (e : x.lst = some ds) (q : k (.l ds)) : gLstOf [x] k := ⟨x, ds, rfl, .inr e, q⟩
theorem a_fz (h : α[i]? = some (.own ds)) (q : a A (α.set i (.d (.list ds)))) : aFz i a A α := ⟨ds, h, q⟩
theorem a_swap {ej : AEx} (h : e A.er α fun x => ∃ x', x.cl = some x' ∧ e' A.er α fun y => ∃ y', y.cl = some y' ∧ ∃ ds, α[i]? = some (.own ds) ∧ ei A.er α fun a => ∃ (p : Int) (n : Nat), a = .d (.int p) ∧ ixN ds.length p = some n ∧
  ∃ es, (α.set i (.own (ds.set n x')))[j]? = some (.own es) ∧ ej A.er (α.set i (.own (ds.set n x'))) fun b => ∃ (q : Int) (m : Nat), b = .d (.int q) ∧ ixN es.length q = some m ∧ A.nx ((α.set i (.own (ds.set n x'))).set j (.own (es.set m y')))) : aSwap i j e e' ei ej A α := h
theorem a_len {Q : Prop} (h : Nat.ble ds.length 1000 = true) (q : Q) : ds.length < 100000 ∧ Q := ⟨Nat.lt_of_le_of_lt (Nat.le_of_ble_eq_true h) (by decide), q⟩
theorem a_app (h : α[i]? = some (.own ds)) (q : e A.er α fun av => ∃ x, av.cl = some x ∧ ds.length < 100000 ∧ A.nx (α.set i (.own (ds ++ [x])))) : aApp i e A α := ⟨ds, h, q⟩
theorem a_ext (h : α[i]? = some (.own ds)) (q : e A.er α fun av => ∃ xs, av.lst = some xs ∧ ds.length + xs.length < 100000 ∧ A.nx (α.set i (.own (ds ++ xs)))) : aExt i e A α := ⟨ds, h, q⟩
theorem a_pop (h : α[i]? = some (.own ds)) (q : e A.er α fun av => ∃ (n : Nat) (x : PyData), av = .d (.int n) ∧ ds[n]? = some x ∧ n < 100000 ∧ A.nx ((α.set i (.own (ds.eraseIdx n))).set j (.d x))) : aPop i j e A α := ⟨ds, h, q⟩
theorem a_setI (q : e A.er α fun av => ∃ x, av.cl = some x ∧ ∃ ds, α[i]? = some (.own ds) ∧ ei A.er α fun ai => ∃ (j : Int) (n : Nat), ai = .d (.int j) ∧ ixN ds.length j = some n ∧ A.nx (α.set i (.own (ds.set n x)))) : aSetI i e ei A α := q
theorem a_owned {Q : List PyData → Prop} (h : α[i]? = some (.own ds)) (q : Q ds) : ∃ ds, α[i]? = some (.own ds) ∧ Q ds := ⟨ds, h, q⟩
theorem a_owned' {Q : List PyData → Prop} (q : Q ds) : ∃ es, some (Sot.own ds) = some (.own es) ∧ Q es := ⟨ds, rfl, q⟩
theorem a_for {w : AIt} {gt : ATg} (h : w A.er α fun xs fz => aLoop gt b A xs (aFrz α fz)) : aFor w gt b A α := h
theorem a_loop {gt : ATg} (Pv : Nat → Afr → Prop) (h0 : Pv 0 α) (hs : ∀ i x α, xs[i]? = some x → Pv i α → gt x α fun α1 => b { A with nx := Pv (i + 1), ct := Pv (i + 1), bk := A.nx } α1) (hd : ∀ α, Pv xs.length α → A.nx α) : aLoop gt b A xs α := ⟨Pv, h0, hs, hd⟩
theorem a_while {c : ATx} (I : Nat → Afr → Prop) (m : Nat) (h0 : I m α) (h : ∀ m α, I m α → c A.er α fun t => if t = true then b { A with nx := fun α' => ∃ m', m' < m ∧ I m' α', ct := fun α' => ∃ m', m' < m ∧ I m' α', bk := A.nx } α else A.nx α) : aWhile c b A α := ⟨I, ⟨m, h0⟩, h⟩
abbrev Kfz := List PyData → List Nat → Prop
variable {Kz : Kfz}
def WSeq (x : Avl) (α : Afr) (Kz : Kfz) : Prop := (∃ ds, x = .d (.tuple ds) ∧ Kz ds []) ∨ (∃ ds, x.cl = some (.list ds) ∧ Kz ds []) ∨ ∃ i ds, x = .b i ds ∧ α[i]? = some (.own ds) ∧ Kz ds [i]
theorem i_seq (h : e X α fun av => WSeq av α Kz) : aSeqI e X α Kz := h
theorem i_T (e : x = .d (.tuple ds)) (h : Kz ds []) : WSeq x α Kz := .inl ⟨ds, e, h⟩
theorem i_L (e : x.cl = some (.list ds)) (h : Kz ds []) : WSeq x α Kz := .inr (.inl ⟨ds, e, h⟩)
theorem i_B (e : α[i]? = some (.own ds)) (h : Kz ds [i]) : WSeq (.b i ds) α Kz := .inr (.inr ⟨i, ds, rfl, e, h⟩)
def WR1 (as : List Avl) (Kz : Kfz) : Prop := ∃ j : Int, as = [.d (.int j)] ∧ -1000000 ≤ j ∧ j ≤ 1000000 ∧ Kz ((iota j.toNat).map .int) []
def WR2 (as : List Avl) (Kz : Kfz) : Prop := ∃ i j : Int, as = [.d (.int i), .d (.int j)] ∧ -1000000 ≤ i ∧ i ≤ 1000000 ∧ -1000000 ≤ j ∧ j ≤ 1000000 ∧ Kz ((rgI i j).map .int) []
theorem i_rng1 {r : AAv} (h : r X α fun as => WR1 as Kz) : aRng1 r X α Kz := h
theorem i_rng2 {r : AAv} (h : r X α fun as => WR2 as Kz) : aRng2 r X α Kz := h
theorem i_r1 {j : Int} (h : -1000000 ≤ j ∧ j ≤ 1000000) (q : Kz ((iota j.toNat).map .int) []) : WR1 [.d (.int j)] Kz := ⟨j, rfl, h.1, h.2, q⟩
theorem i_r2 {i j : Int} (h : -1000000 ≤ i ∧ i ≤ 1000000 ∧ -1000000 ≤ j ∧ j ≤ 1000000) (q : Kz ((rgI i j).map .int) []) : WR2 [.d (.int i), .d (.int j)] Kz := ⟨i, j, rfl, h.1, h.2.1, h.2.2.1, h.2.2.2, q⟩
def WEn (as : List Avl) (α : Afr) (Kz : Kfz) : Prop := ∃ av, as = [av] ∧ ((∃ ds, av = .d (.tuple ds) ∧ Kz (enD ds) []) ∨ (∃ ds, av.cl = some (.list ds) ∧ Kz (enD ds) []) ∨ ∃ i ds, av = .b i ds ∧ α[i]? = some (.own ds) ∧ Kz (enD ds) [i])
theorem i_enum {r : AAv} (h : r X α fun as => WEn as α Kz) : aEnum r X α Kz := h
theorem i_one (h : WSeq x α fun ds fz => Kz (enD ds) fz) : WEn [x] α Kz := ⟨x, rfl, h⟩
def WZi (as : List Avl) (Kz : Kfz) : Prop := (∃ xs ys, as = [.d (.tuple xs), .d (.tuple ys)] ∧ Kz (ziD xs ys) []) ∨ (∃ x y xs ys, as = [x, y] ∧ x.cl = some (.list xs) ∧ y.cl = some (.list ys) ∧ Kz (ziD xs ys) [])
theorem i_zip {r : AAv} (h : r X α fun as => WZi as Kz) : aZip r X α Kz := h
theorem a_lc {w : AIt} {gt : ATg} {is : List Nat} (h : w X α fun xs _ => xs.length < 100000 ∧ aLcGo gt t e (awipe α is) k xs) : aLc w gt t e is X α k := h
theorem a_lcgo {gt : ATg} (Pv : Nat → List PyData → Prop) (h0 : Pv 0 []) (hs : ∀ i x acc, xs[i]? = some x → Pv i acc → gt x α fun α2 => t aX0 α2 fun b => if b = true then e aX0 α2 fun av => ∃ y, av.cl = some y ∧ Pv (i + 1) (acc ++ [y]) else Pv (i + 1) acc)
    (hd : ∀ acc, Pv xs.length acc → acc.length ≤ xs.length → k (.l acc)) : aLcGo gt t e α k xs := ⟨Pv, h0, hs, hd⟩
theorem a_raise {C : Addr} (h : A.er α C none) : aRaise C A α := h
theorem a_try {C : Addr} {s : Addr → ASt} (h : b { A with er := fun α' C' f => C' = C ∧ f = none ∧ ∀ a, s a { A with nx := fun α'' => A.nx (α''.set i .x), bk := fun α'' => A.bk (α''.set i .x), ct := fun α'' => A.ct (α''.set i .x) } (α'.set i (.err a)) } α) : aTry C i b s A α := h
/-- a conditional expression, either way -/
theorem a_ifj (M : Avl → Prop) (h : ∀ av, M av → k av) (q : ∀ k', (∀ av, M av → k' av) → aIf t e e' X α k') : aIf t e e' X α k := q k h
end
end UW
namespace UW
open PySem PySem.Spec PyProof.Rows L2
def rRep1 (K : Fg) : R2 := fun x y H Q => ∃ l xs, x = .ref l ∧ y = .int 1 ∧ L2.SqT K H l xs ∧ Q (.ref l) H
section
open AutoSeq1 (wpAny_loadPart')
theorem tuple_mul1 (l : Addr) (items : Array Value) (n : Nat) (dd : Option Addr) (sl : Array (Option Value)) (u : Tok) :
    Meets (Builtin.«tuple.__mul__» ⟨[.ref l, .int 1 u], []⟩) (fun _ R s => s.heap.get? l = some { cls := .type "tuple", dict := dd, data := .seq items n, slots := sl } ∧ R (.ok (.ret (Value.ref l))) s) :=
  .of_wp fun prog w A R s h => by
    obtain ⟨hp, g, d, tk, os⟩ := s
    obtain ⟨hl, h⟩ := h
    have f1 := AutoSeq1.idx_int
    wp_walk using wpAny_loadPart' hl
    repeat (first
      | (refine wpAny_ite_false (by decide) ?_; wp_walk using wpAny_loadPart' hl)
      | (refine wpAny_ite_true (by simp) ?_; wp_walk using wpAny_loadPart' hl))
    exact ⟨_, rfl, h⟩
end
section
variable {X : Cx}
theorem op_rep1 : OpR X (binaryOp .Mult) (rRep1 X.K) := by
  intro pins s σ H x y v u Q I rx ry h
  obtain ⟨l, xs, rfl, rfl, hT, q⟩ := h
  cases rx
  obtain ⟨t, rfl⟩ := ry
  obtain ⟨its, r, ⟨⟨cls, dd, data, sl⟩, ho, hc, n, hd⟩, hs⟩ := I.tuple hT
  simp only at hc hd
  subst hc hd
  refine wpAny_binaryOp_repeat_ref (T := "tuple") (U := "int") (by decide) ⟨_, ho, rfl⟩ (fun s' => typeIs_int s' 1 t) L2.noFill_tuple_mul F.fills_int_mul F.slot_int_rmul L2.repeat_tuple F.slot_int_index.lookup
    (call_meets F.slot_int_rmul (typeIs_int s 1 t) F.entry_int_rmul (F.args_int_rmul_2 _ _) (L2.int_rmul_tuple 1 t l its.toArray n dd sl)
      ⟨ho, rfl, ⟨_, ho, rfl⟩, call_meets F.slot_tuple_mul ⟨_, ho, rfl⟩ F.entry_tuple_mul (F.args_tuple_mul_2 _ _) (tuple_mul1 l its.toArray n dd sl t) ⟨ho, ?_⟩⟩)
  exact ⟨.ref l, H, I, rfl, q⟩
def rMulT (K : Fg) : R2 := fun x y H Q => rRepT K x y H Q ∨ rRep1 K x y H Q
theorem op_mulT : OpR X (binaryOp .Mult) (rMulT X.K) := OpR.u op_repT op_rep1
end
section
variable {K : Fg} {E : WX}
def gMulT : AO2 := fun x y k => ∃ xs n, x.tup = some xs ∧ y = .d (.int n) ∧ xs ≠ [] ∧ 1 ≤ n ∧ n ≤ 1000 ∧ xs.length ≤ 1000 ∧ k (.d (.tuple (List.replicate n.toNat xs).flatten))
theorem ro_mulT : ROp K (rMulT K) gMulT := by
  intro W Hs O S H x y ax ay k Q ok r1 r2 ⟨xs, n, e1, e2, hx, n0, n1, hl, hk⟩ q
  subst e2
  obtain rfl := int_inv r2
  obtain ⟨p, us, rfl, a1, o1⟩ := r1.tup e1
  have l1 := o1.length
  by_cases z : n = 1
  · subst z
    refine .inr ⟨p, us, rfl, rfl, a1.up, ?_⟩
    have e : (List.replicate (1 : Int).toNat xs).flatten = xs := by simp
    rw [e] at hk
    exact Rst.d q ok (Od.tup a1 o1) hk
  · refine .inl ⟨p, n, us, rfl, rfl, a1.up, ?_, by omega, n1, by omega, Rst.newT q ok (o1.rep _) hk⟩
    intro h
    rw [h] at l1
    exact hx (List.length_eq_zero_iff.mp l1.symm)
def aM1 (p : Avl → Prop) (g : AO2) (a b : AEx) : AEx := fun X α k => a X α fun x => p x ∧ b X α fun y => g x y k
def isS (x : Avl) : Prop := ∃ a, x = .d (.str a)
end
section
variable {k : Avl → Prop} {X : AXr} {α : Afr} {a b : AEx}
theorem a_m1 {p : Avl → Prop} {g : AO2} (h : a X α fun x => p x ∧ b X α fun y => g x y k) : aM1 p g a b X α k := h
theorem g_mulT {xs : List PyData} {n : Int} (hx : xs ≠ []) (h0 : 1 ≤ n) (h1 : n ≤ 1000) (hl : xs.length ≤ 1000) (h : k (.d (.tuple (List.replicate n.toNat xs).flatten))) : gMulT (.d (.tuple xs)) (.d (.int n)) k := ⟨xs, n, rfl, rfl, hx, h0, h1, hl, h⟩
theorem a_isS {a : Str} {q : Prop} (h : q) : isS (.d (.str a)) ∧ q := ⟨⟨a, rfl⟩, h⟩
end
end UW
namespace UW
open PySem PySem.Spec PyProof.Rows L2
def kD : L2.Key → PyData
  | .inl i => .int i
  | .inr s => .str s
section
variable {κ : Type} [DecidableEq κ]
def findD (kvs : List (κ × PyData)) (k : κ) : Option PyData := (kvs.find? fun kv => decide (kv.1 = k)).map (·.2)
def putD (kvs : List (κ × PyData)) (k : κ) (x : PyData) : List (κ × PyData) :=
  if (kvs.any fun kv => decide (kv.1 = k)) = true then kvs.map (fun kv => if kv.1 = k then (kv.1, x) else kv) else kvs ++ [(k, x)]
def PrD (K : Fg) (S : Ads) (H : Hp) (a : κ × V) (b : κ × PyData) : Prop := a.1 = b.1 ∧ Od K S H a.2 b.2
variable {K : Fg} {S : Ads} {H : Hp}
theorem prs_find {k : κ} : ∀ {ls : List (κ × V)} {kvs : List (κ × PyData)}, Paired (PrD K S H) ls kvs → (findD kvs k = none → valV ls k = none) ∧ ∀ x, findD kvs k = some x → ∃ v, valV ls k = some v ∧ Od K S H v x
  | _, _, .nil => ⟨fun _ => rfl, fun x h => by cases h⟩
  | a :: ls, b :: kvs, .cons r t => by
    obtain ⟨h1, h2⟩ := prs_find (k := k) t
    by_cases e : b.1 = k
    · have eb : findD (b :: kvs) k = some b.2 := by simp [findD, List.find?_cons, e]
      have ea : valV (a :: ls) k = some a.2 := L2.valV_pos (r.1.trans e)
      rw [eb, ea]
      exact ⟨fun z => (by cases z), fun x z => (by cases z; exact ⟨_, rfl, r.2⟩)⟩
    · have eb : findD (b :: kvs) k = findD kvs k := by simp [findD, List.find?_cons, e]
      have ea : valV (a :: ls) k = valV ls k := L2.valV_neg (fun z => e (r.1.symm.trans z))
      rw [eb, ea]
      exact ⟨h1, h2⟩
theorem prs_any {k : κ} : ∀ {ls : List (κ × V)} {kvs : List (κ × PyData)}, Paired (PrD K S H) ls kvs → (ls.any fun kv => decide (kv.1 = k)) = (kvs.any fun kv => decide (kv.1 = k))
  | _, _, .nil => rfl
  | a :: ls, b :: kvs, .cons r t => by rw [List.any_cons, List.any_cons, prs_any t, r.1]
theorem prs_len : ∀ {ls : List (κ × V)} {kvs : List (κ × PyData)}, Paired (PrD K S H) ls kvs → ls.length = kvs.length
  | _, _, .nil => rfl
  | _ :: _, _ :: _, .cons _ t => by rw [List.length_cons, List.length_cons, prs_len t]
theorem prs_set {k : κ} {v : V} {x : PyData} (o : Od K S H v x) : ∀ {ls : List (κ × V)} {kvs : List (κ × PyData)}, Paired (PrD K S H) ls kvs → Paired (PrD K S H) (ls.map fun kv => if kv.1 = k then (kv.1, v) else kv) (kvs.map fun kv => if kv.1 = k then (kv.1, x) else kv)
  | _, _, .nil => .nil
  | a :: ls, b :: kvs, .cons r t => by
    refine .cons ?_ (prs_set o t)
    show PrD K S H (if a.1 = k then (a.1, v) else a) (if b.1 = k then (b.1, x) else b)
    by_cases e : b.1 = k
    · rw [if_pos e, if_pos (r.1.trans e)]
      exact ⟨r.1, o⟩
    · rw [if_neg e, if_neg (fun z => e (r.1.symm.trans z))]
      exact r
theorem prs_app : ∀ {ls ls' : List (κ × V)} {kvs kvs' : List (κ × PyData)}, Paired (PrD K S H) ls kvs → Paired (PrD K S H) ls' kvs' → Paired (PrD K S H) (ls ++ ls') (kvs ++ kvs')
  | _, _, _, _, .nil, h => h
  | _ :: _, _, _ :: _, _, .cons r t, h => .cons r (prs_app t h)
theorem prs_put {k : κ} {v : V} {x : PyData} (o : Od K S H v x) {ls : List (κ × V)} {kvs : List (κ × PyData)} (h : Paired (PrD K S H) ls kvs) : Paired (PrD K S H) (putK ls k v) (putD kvs k x) := by
  unfold putK putD
  rw [prs_any h]
  split
  · exact prs_set o h
  · exact prs_app h (.cons ⟨rfl, o⟩ .nil)
theorem prs_mp {S1 : Ads} {H1 : Hp} (f : ∀ {v d}, Od K S H v d → Od K S1 H1 v d) {ls : List (κ × V)} {kvs : List (κ × PyData)} (h : Paired (PrD K S H) ls kvs) : Paired (PrD K S1 H1) ls kvs := L2.Paired.mapP h fun _ _ z => ⟨z.1, f z.2⟩
end
/-- what stands under a key -/
def DGetA : Dic → Avl → Option PyData → Prop
  | .k kvs, x, r => ∃ k, x = .d (kD k) ∧ r = findD kvs k
  | .t kvs, x, r => ∃ ks : List L2.Key, x = .d (.tuple (ks.map kD)) ∧ r = findD kvs ks
def DPutA : Dic → Avl → PyData → Dic → Prop
  | .k kvs, x, y, c => ∃ k, x = .d (kD k) ∧ kvs.length < 100000 ∧ c = .k (putD kvs k y)
  | .t kvs, x, y, c => ∃ ks : List L2.Key, x = .d (.tuple (ks.map kD)) ∧ kvs.length < 100000 ∧ c = .t (putD kvs ks y)
section
variable {K : Fg} {W : Wel} {Hs : Hp} {O : Nat → Option Addr} {S : Ads} {H : Hp}
theorem key_inv {v : V} {k : L2.Key} (r : Od K S H v (kD k)) : v = kV k := by
  cases k with
  | inl i => cases r; rfl
  | inr s => cases r; rfl
theorem keys_inv : ∀ {ks : List L2.Key} {vs : List V}, Ods K S H vs (ks.map kD) → vs = ks.map kV
  | [], _, .nil => rfl
  | k :: ks, _, .cons a b => by rw [key_inv a, keys_inv b]; rfl
theorem dget_at {p : Addr} {c : Dic} {y : V} {ax : Avl} {r : Option PyData} (h : DcR K S H p c) (ry : Vrp K W Hs O S H y ax) (g : DGetA c ax r) : ∃ o, DGet H p y o ∧ (r = none → o = none) ∧ ∀ x, r = some x → ∃ v, o = some v ∧ Od K S H v x := by
  cases c with
  | k kvs =>
    obtain ⟨ls, a, b⟩ := h
    obtain ⟨k, rfl, rfl⟩ := g
    have ry' : Od K S H y (kD k) := ry
    rw [key_inv ry']
    exact ⟨_, L2.DGet.k a, prs_find (K := K) b⟩
  | t kvs =>
    obtain ⟨ls, a, b⟩ := h
    obtain ⟨ks, rfl, rfl⟩ := g
    obtain ⟨q, us, rfl, a1, o1⟩ := ry.tup (ds := ks.map kD) rfl
    rw [keys_inv o1] at a1
    exact ⟨_, L2.DGet.t a a1, prs_find (K := K) b⟩
theorem dput_at {p : Addr} {c c' : Dic} {y v : V} {ax : Avl} {x : PyData} (h : DcR K S H p c) (ry : Vrp K W Hs O S H y ax) (ov : Od K S H v x) (g : DPutA c ax x c') : ∃ o, DPut H p y v (upd H p o) ∧ ((∀ {v d}, Od K S H v d → Od K S (upd H p o) v d) → DcR K S (upd H p o) p c') := by
  cases c with
  | k kvs =>
    obtain ⟨ls, a, b⟩ := h
    obtain ⟨k, rfl, hl, rfl⟩ := g
    have ry' : Od K S H y (kD k) := ry
    rw [key_inv ry']
    have ll := prs_len (K := K) b
    exact ⟨_, L2.DPut.k a (Nat.lt_of_lt_of_le (by omega) (show 100000 ≤ sizeLine by decide)), fun f => ⟨_, upd_same, prs_mp f (prs_put ov b)⟩⟩
  | t kvs =>
    obtain ⟨ls, a, b⟩ := h
    obtain ⟨ks, rfl, hl, rfl⟩ := g
    obtain ⟨q, us, rfl, a1, o1⟩ := ry.tup (ds := ks.map kD) rfl
    rw [keys_inv o1] at a1
    have ll := prs_len (K := K) b
    exact ⟨_, L2.DPut.t a a1 (Nat.lt_of_lt_of_le (by omega) (show 100000 ≤ sizeLine by decide)), fun f => ⟨_, upd_same, prs_mp f (prs_put ov b)⟩⟩
end
section
variable {K : Fg} {E : WX} {te te2 : TE} {e e2 : AEx} {i : Nat}
theorem dic_at {W : Wel} {H0 : Hp} {S0 : Ads} {O : Nat → Option Addr} {S : Ads} {α : Afr} {σ : L2.St} {H : Hp} {c : Dic} (f : Frm K W H0 S0 O S α σ H) (h : α[i]? = some (.dic c)) : ∃ p, O i = some p ∧ σ[i]? = some (some (.ref p)) ∧ DcR K S H p c ∧ i < α.length ∧ ¬ W.has p := by
  obtain ⟨p, a, b, d⟩ := f.sl i _ h
  exact ⟨p, a, b, d, (List.getElem?_eq_some_iff.mp h).1, Wel.ne f.w0 (f.o i p a).1⟩
theorem dic_mv {W : Wel} {H0 : Hp} {S0 : Ads} {O : Nat → Option Addr} {S S1 : Ads} {α : Afr} {σ : L2.St} {H H1 : Hp} {c : Dic} {p : Addr} (f : Frm K W H0 S0 O S α σ H) (m : Mvh W S H S1 H1) (d : DcR K S H p c) (nw : ¬ W.has p) : DcR K S1 H1 p c :=
  d.mp (fun o q => m.k _ _ q nw) fun z => m.od f.k.w (fun b z => (f.k.t b z).2) z
/-- x[e], x a slot's dict -/
def aDGet (i : Nat) (e : AEx) : AEx := fun X α k => ∃ c, α[i]? = some (.dic c) ∧ e X α fun av => ∃ x, DGetA c av (some x) ∧ k (.d x)
theorem re_dget (h1 : REx K E te e) : REx K E (tDGet (tVar i) te) (aDGet i e) := by
  intro W H0 S0 O S α σ H X k Q f ⟨c, h0, h⟩ lk q
  obtain ⟨p, a, b, d, hi, nw⟩ := dic_at f h0
  refine ⟨_, b, ?_⟩
  refine h1 f h lk fun v av S1 H1 m r ⟨x, g, hk⟩ => ?_
  obtain ⟨o, g1, _, g3⟩ := dget_at (dic_mv f m d nw) r g
  obtain ⟨w, rfl, ow⟩ := g3 x rfl
  exact ⟨p, w, rfl, g1, q w (.d x) S1 H1 m ow hk⟩
/-- x.get(e, e2) -/
def aDGet2 (i : Nat) (e e2 : AEx) : AEx := fun X α k => ∃ c, α[i]? = some (.dic c) ∧ e X α fun av => e2 X α fun a2 => ∃ r z, DGetA c av r ∧ a2 = .d z ∧ k (.d (r.getD z))
/-- e in x -/
def aDIn (e : AEx) (i : Nat) : AEx := fun X α k => e X α fun av => ∃ c r, α[i]? = some (.dic c) ∧ DGetA c av r ∧ k (.d (.bool r.isSome))
def aDNi (e : AEx) (i : Nat) : AEx := fun X α k => e X α fun av => ∃ c r, α[i]? = some (.dic c) ∧ DGetA c av r ∧ k (.d (.bool (!r.isSome)))
theorem some_eq {K : Fg} {S : Ads} {H : Hp} {r : Option PyData} {o : Option V} (g2 : r = none → o = none) (g3 : ∀ x, r = some x → ∃ v, o = some v ∧ Od K S H v x) : o.isSome = r.isSome := by
  cases r with
  | none => rw [g2 rfl]; rfl
  | some x => obtain ⟨v, rfl, _⟩ := g3 x rfl; rfl
theorem re_dni (h1 : REx K E te e) : REx K E (tDNotIn te (tVar i)) (aDNi e i) := by
  intro W H0 S0 O S α σ H X k Q f h lk q
  refine h1 f h lk fun v av S1 H1 m r ⟨c, o, h0, g, hk⟩ => ?_
  have f1 := f.mv m
  obtain ⟨p, a, b, d, hi, nw⟩ := dic_at f1 h0
  obtain ⟨o', g1, g2, g3⟩ := dget_at d r g
  refine ⟨_, b, p, o', rfl, g1, ?_⟩
  rw [some_eq g2 g3]
  exact q _ (.d (.bool (!o.isSome))) S1 H1 m (Od.bl _) hk
/-- x[ek] = ev -/
def aDPut (i : Nat) (ek ev : AEx) : ASt := fun A α => ev A.er α fun av => ∃ x, av.cl = some x ∧ ∃ c, α[i]? = some (.dic c) ∧ ek A.er α fun ak => ∃ c', DPutA c ak x c' ∧ A.nx (α.set i (.dic c'))
theorem rs_dput (h1 : REx K E te e) (h2 : REx K E te2 e2) : RSt K E (sDPut (tVar i) te te2) (aDPut i e e2) := by
  intro W H0 S0 O S α σ H A D f h l
  refine h2 f h l.er fun v av S1 H1 m r ⟨x, hx, c, h0, h'⟩ => ?_
  obtain ⟨S2, m2, _, od⟩ := keepx f.k m r hx
  have f2 := f.mv m2
  obtain ⟨p, a, b, d, hi, nw⟩ := dic_at f2 h0
  refine ⟨_, b, ?_⟩
  refine h1 f2 h' (l.er.kee (m2.kee f.k)) fun u au S3 H3 m3 r3 ⟨c', g, hk⟩ => ?_
  have f3 := f2.mv m3
  have d3 := dic_mv f2 m3 d nw
  obtain ⟨o, g1, g2⟩ := dput_at d3 r3 (m3.od f2.k.w (fun b z => (f2.k.t b z).2) od) g
  obtain ⟨g4, ke⟩ := f3.chgD a b d3 g2 hi
  exact ⟨p, _, rfl, g1, l.nx O S3 _ σ _ (((m2.trans m3).kee f.k).trans ke) g4 hk⟩
def aDNewT : AEx := fun _ _ k => k (.k (.t []))
theorem re_dnewT : REx K E tDNewT aDNewT := by
  intro W H0 S0 O S α σ H X k Q f h lk q p np
  exact q _ (.k (.t [])) S _ (f.k.same (Same.new np)) ⟨p, rfl, ⟨[], upd_same, .nil⟩, fun z => (f.k.t p z).1 np, np, Wel.ne f.k.w np⟩ h
/-- a dict of one pair -/
def aDOne (e e2 : AEx) : AEx := fun X α k => e X α fun x => e2 X α fun y => ∃ n z, x = .d (kD n) ∧ y = .d z ∧ k (.k (.k [(n, z)]))
theorem re_done (h1 : REx K E te e) (h2 : REx K E te2 e2) : REx K E (tDisp [(te, te2)]) (aDOne e e2) := by
  intro W H0 S0 O S α σ H X k Q f h lk q p np
  have m0 := f.k.same (Same.new (o := .dK []) np)
  have f0 := f.mv m0
  refine h1 f0 h (lk.kee (m0.kee f.k)) fun v av S1 H1 m1 r1 h' => ?_
  have f1 := f0.mv m1
  have m01 := m0.trans m1
  refine h2 f1 h' (lk.kee (m01.kee f.k)) fun u au S2 H2 m2 r2 ⟨n, z, ex, ey, hk⟩ => ?_
  subst ex
  subst ey
  have m12 := m1.trans m2
  have m02 := m0.trans m12
  have nwp : ¬ W.has p := Wel.ne f.k.w np
  have hp : H2 p = some (.dK []) := m12.k _ _ upd_same nwp
  have nS : ¬ S2 p := fun y => by
    rcases m12.n p y with y | y
    · exact (f.k.t p y).1 np
    · rw [upd_same] at y; cases y
  have r1' : Od K S1 H1 v (kD n) := r1
  have r2' : Od K S2 H2 u z := r2
  have ev := key_inv r1'
  subst ev
  refine ⟨hp, [(n, u)], rfl, by show 1 ≤ 15; omega, ?_⟩
  have tm : Tm H2 (upd H2 p (.dK [(n, u)])) := fun a xs y => by
    by_cases e : a = p
    · rw [e, hp] at y; cases y
    · rw [upd_ne e]; exact y
  have fin : Mvh W S H S2 (upd H2 p (.dK [(n, u)])) := by
    refine ⟨fun b o y w => ?_, fun on => ?_, m02.s, m02.n, fun b y => ?_⟩
    · rw [upd_ne fun e => by rw [e, np] at y; cases y]
      exact m02.k b o y w
    · exact m02.w.put nwp on
    · rw [upd_ne fun e => nS (by rw [← e]; exact y)]
      exact m02.t b y
  have ou : Od K S2 (upd H2 p (.dK [(n, u)])) u z := r2'.mv tm fun a o ga y => ⟨ga, by rw [upd_ne fun e => nS (by rw [← e]; exact ga)]; exact y⟩
  exact q _ (.k (.k [(n, z)])) S2 _ fin ⟨p, rfl, ⟨[(n, u)], upd_same, .cons ⟨rfl, ou⟩ .nil⟩, nS, np, nwp⟩ hk
/-- a dict of one pair, as data -/
def aDOneD (e e2 : AEx) : AEx := fun X α k => aDOne e e2 X α fun av => ∃ (n : Int) (z : PyData), av = .k (.k [(.inl n, z)]) ∧ k (.d (.dict [(.int n, z)]))
/-- a dict of a slot leaves -/
def aRetC (i : Nat) : ASt := fun A α => ∃ c, α[i]? = some (.dic c) ∧ A.rt (.k c)
theorem rs_retC : RSt K E (tRet (tVar i)) (aRetC i) := by
  intro W H0 S0 O S α σ H A D f ⟨c, h0, h⟩ l
  obtain ⟨p, a, b, d, hi, nw⟩ := dic_at f h0
  obtain ⟨a1, a2, a3, a4⟩ := f.o i p a
  exact ⟨_, b, l.rt _ (.k c) H ⟨S, f.k.w, f.k0, fun b h => ⟨f.n0 b h, f.k.t b h⟩, p, rfl, d, a3, a1, nw⟩ h⟩
/-- a list is kept as it is from here on, if it is one's own still -/
def aFzq (i : Nat) (a : ASt) : ASt := fun A α => a A (frz1 α i)
/-- len of a dict -/
def rLenD : List V → Hp → VK → Prop := fun vs H Q => ∃ a kvs, vs = [.ref a] ∧ H a = some (.dK kvs) ∧ Q (.int kvs.length) H
theorem cr_lenD {X : Cx} : CallR X (.builtin "len") rLenD := by
  intro pins s σ H vs us Q I r h
  obtain ⟨a, kvs, rfl, ha, q⟩ := h
  obtain ⟨u, rfl, ru⟩ := vals1 r
  obtain rfl : u = Value.ref a := ru
  exact d_len I (.inl ha) fun t s' I' => ⟨.int kvs.length, H, I', ⟨t, rfl⟩, q⟩
def gLenD : AOn := fun as k => ∃ kvs, as = [.k (.k kvs)] ∧ k (.d (.int kvs.length))
theorem rb_lenD : RCb K rLenD gLenD := by
  intro W Hs O S H xs as k Q ok r ⟨kvs, e, hk⟩ q
  subst e
  rcases r with _ | @⟨v1, _, _, _, r1, r2⟩
  cases r2
  obtain ⟨p, rfl, ⟨ls, a, b⟩, _⟩ := r1
  refine ⟨p, ls, rfl, a, ?_⟩
  rw [prs_len (K := K) b]
  exact Rst.int q ok hk
end
section
variable {k : Avl → Prop} {X : AXr} {α : Afr} {e e2 : AEx} {A : AEn} {i : Nat} {c : Dic}
theorem a_dget (h : α[i]? = some (.dic c)) (q : e X α fun av => ∃ x, DGetA c av (some x) ∧ k (.d x)) : aDGet i e X α k := ⟨c, h, q⟩
theorem a_dget2 (h : α[i]? = some (.dic c)) (q : e X α fun av => e2 X α fun a2 => ∃ r z, DGetA c av r ∧ a2 = .d z ∧ k (.d (r.getD z))) : aDGet2 i e e2 X α k := ⟨c, h, q⟩
theorem a_dput (q : e2 A.er α fun av => ∃ x, av.cl = some x ∧ ∃ c, α[i]? = some (.dic c) ∧ e A.er α fun ak => ∃ c', DPutA c ak x c' ∧ A.nx (α.set i (.dic c'))) : aDPut i e e2 A α := q
theorem a_dnewT (h : k (.k (.t []))) : aDNewT X α k := h
theorem a_done (h : e X α fun x => e2 X α fun y => ∃ n z, x = .d (kD n) ∧ y = .d z ∧ k (.k (.k [(n, z)]))) : aDOne e e2 X α k := h
theorem a_doned (h : aDOne e e2 X α fun av => ∃ (n : Int) (z : PyData), av = .k (.k [(.inl n, z)]) ∧ k (.d (.dict [(.int n, z)]))) : aDOneD e e2 X α k := h
theorem a_onedI {j : Int} {y : PyData} {q : Int → PyData → Prop} (h : q j y) : ∃ (n : Int) (z : PyData), Avl.k (.k [(.inl j, y)]) = .k (.k [(.inl n, z)]) ∧ q n z := ⟨j, y, rfl, h⟩
theorem a_oneI {j : Int} {y : PyData} {q : L2.Key → PyData → Prop} (h : q (.inl j) y) : ∃ n z, Avl.d (.int j) = .d (kD n) ∧ Avl.d y = .d z ∧ q n z := ⟨.inl j, y, rfl, rfl, h⟩
theorem a_retC (h : α[i]? = some (.dic c)) (q : A.rt (.k c)) : aRetC i A α := ⟨c, h, q⟩
theorem a_dcx {R : Dic → Prop} (q : R c) : ∃ d, some (Sot.dic c) = some (.dic d) ∧ R d := ⟨c, rfl, q⟩
theorem a_dcy {R : Dic → Prop} (h : α[i]? = some (.dic c)) (q : R c) : ∃ d, α[i]? = some (.dic d) ∧ R d := ⟨c, h, q⟩
theorem a_fzq {a : ASt} {β : Afr} (h : frz1 α i = β) (q : a A β) : aFzq i a A α := by show a A (frz1 α i); rw [h]; exact q
theorem a_din0 (h : e X α fun av => ∃ c r, α[i]? = some (.dic c) ∧ DGetA c av r ∧ k (.d (.bool r.isSome))) : aDIn e i X α k := h
theorem a_dni0 (h : e X α fun av => ∃ c r, α[i]? = some (.dic c) ∧ DGetA c av r ∧ k (.d (.bool (!r.isSome)))) : aDNi e i X α k := h
theorem a_dinI {kvs : List (L2.Key × PyData)} {j : Int} {R : Option PyData → Prop} (h : R (findD kvs (.inl j))) : ∃ c r, some (Sot.dic (.k kvs)) = some (.dic c) ∧ DGetA c (.d (.int j)) r ∧ R r := ⟨_, _, rfl, ⟨.inl j, rfl, rfl⟩, h⟩
theorem a_dgI {kvs : List (L2.Key × PyData)} {j : Int} {x : PyData} {R : PyData → Prop} (e : findD kvs (.inl j) = some x) (h : R x) : ∃ x, DGetA (.k kvs) (.d (.int j)) (some x) ∧ R x := ⟨x, ⟨.inl j, rfl, e.symm⟩, h⟩
theorem a_dpI {kvs : List (L2.Key × PyData)} {j : Int} {x : PyData} {R : Dic → Prop} (hl : kvs.length < 100000) (h : R (.k (putD kvs (.inl j) x))) : ∃ c', DPutA (.k kvs) (.d (.int j)) x c' ∧ R c' := ⟨_, ⟨.inl j, rfl, hl, rfl⟩, h⟩
theorem g_lenD {kvs : List (L2.Key × PyData)} (h : k (.d (.int kvs.length))) : gLenD [.k (.k kvs)] k := ⟨kvs, rfl, h⟩
end
end UW
namespace UW
open PySem PySem.Spec PyProof.Rows L2
section
variable {K : Fg} {E : WX} {i n : Nat} {g : TG} {gs : TGs} {ag : ATg} {ags : ATgs} {is js : List Nat}
end
/-- a list that no slot knows changes -/
theorem Frm.but {K : Fg} {W : Wel} {H0 H H' : Hp} {S0 S : Ads} {O : Nat → Option Addr} {α : Afr} {σ : L2.St} {D : Addr} {us ws : List V} (f : Frm K W H0 S0 O S α σ H) (hD : H D = some (.lst us)) (nS : ¬ S D) (nO : ∀ i, O i ≠ some D) (nW : ¬ W.has D) (n0 : H0 D = none) (a : At D (.lst ws) H H') : Frm K W H0 S0 O S α σ H' := by
  have tm := a.tm hD
  have kk : ∀ b o, S b → H b = some o → H' b = some o := fun b o hb e => a.ne e fun y => nS (y ▸ hb)
  have od : ∀ {v : V} {d : PyData}, Od K S H v d → Od K S H' v d := fun h => h.mv tm fun b o hb e => ⟨hb, kk b o hb e⟩
  have ods : ∀ {v : List V} {d : List PyData}, Ods K S H v d → Ods K S H' v d := fun h => h.mv tm fun b o hb e => ⟨hb, kk b o hb e⟩
  refine ⟨⟨fun on => ?_, fun b hb => ⟨?_, (f.k.t b hb).2⟩⟩, fun b o h z => a.ne (f.k0 b o h z) (fun y => by rw [y, n0] at h; cases h), f.n0, f.w0, fun i p e => ?_, f.len, fun i z e => ?_⟩
  · exact (f.k.w.keep fun b o z e => a.ne e fun y => nW (y ▸ z)) on
  · rw [a.2 b fun y => nS (y ▸ hb)]
    exact (f.k.t b hb).1
  · obtain ⟨h1, h2, h3, h4⟩ := f.o i p e
    exact ⟨h1, by rw [a.2 p fun y => nO i (y ▸ e)]; exact h2, h3, h4⟩
  · have q := f.sl i z e
    cases z with
    | x => trivial
    | d x =>
      obtain ⟨v, h1, h2⟩ := q
      exact ⟨v, h1, od h2⟩
    | own ds =>
      obtain ⟨p, vs, h1, h2, h3, h4⟩ := q
      exact ⟨p, vs, h1, h2, a.ne h3 (fun y => nO i (y ▸ h1)), ods h4⟩
    | wl u => exact q
    | err b => exact q
    | dic c =>
      obtain ⟨p, h1, h2, h3⟩ := q
      exact ⟨p, h1, h2, h3.mp (fun o e => a.ne e (fun y => nO i (y ▸ h1))) od⟩
def aLc2In (g : ATg) (t : ATx) (e : AEx) (α : Afr) (P : List PyData → Prop) (acc ys : List PyData) : Prop := ∃ Pw : Nat → List PyData → Prop, Pw 0 acc ∧
  (∀ j y bcc, ys[j]? = some y → Pw j bcc → g y α fun α3 => t aX0 α3 fun b => if b = true then e aX0 α3 fun av => ∃ z, av.cl = some z ∧ Pw (j + 1) (bcc ++ [z]) else Pw (j + 1) bcc) ∧ ∀ bcc, Pw ys.length bcc → P bcc
def aLc2Go (g : ATg) (t : ATx) (w1 : AIt) (g1 : ATg) (t1 : ATx) (e : AEx) (vs1 : List Nat) (α : Afr) (k : Avl → Prop) (xs : List PyData) : Prop := ∃ Pv : Nat → List PyData → Prop, Pv 0 [] ∧
  (∀ i x acc, xs[i]? = some x → Pv i acc → g x α fun α2 => t aX0 α2 fun b => if b = true then w1 aX0 α2 fun ys fz => fz = [] ∧ ys.length ≤ 300 ∧ aLc2In g1 t1 e (awipe α2 vs1) (Pv (i + 1)) acc ys else Pv (i + 1) acc) ∧ ∀ acc, Pv xs.length acc → k (.l acc)
def aLc2 (w : AIt) (g : ATg) (t : ATx) (w1 : AIt) (g1 : ATg) (t1 : ATx) (e : AEx) (vs vs1 : List Nat) : AEx := fun X α k => w X α fun xs _ => xs.length ≤ 300 ∧ aLc2Go g t w1 g1 t1 e vs1 (awipe α vs) k xs
section
variable {K : Fg} {E : WX} {g g1 : TG} {ag ag1 : ATg} {is is1 : List Nat}
end
section
variable {k : Avl → Prop} {X : AXr} {α : Afr} {w w1 : AIt} {g g1 : ATg} {t t1 : ATx} {e : AEx} {vs vs1 : List Nat} {P : List PyData → Prop} {acc ys xs : List PyData}
theorem a_lc2 (h : w X α fun xs _ => xs.length ≤ 300 ∧ aLc2Go g t w1 g1 t1 e vs1 (awipe α vs) k xs) : aLc2 w g t w1 g1 t1 e vs vs1 X α k := h
end
section
variable {X : Cx} {k : Nat} {f : Addr} {fd : FuncData} {ps : List Str} {sp : Sp} {x : Str} {p pos : Pos}
end
end UW
namespace UW
open PySem PySem.Spec PyProof.Rows L2
/-- a goal's step -/
class Wk (g : Prop) (h : outParam Prop) : Prop where imp : h → g
theorem wk {g h : Prop} [w : Wk g h] (q : h) : g := w.imp q
/-- a goal of a group of steps -/
class Rs (g : Prop) (t : Nat) : Prop where ok : True
theorem rs_go (t : Nat) {g : Prop} [w : Rs g t] (q : g) : g := q
class CAt (α : Afr) (i : Nat) (z : outParam Sot) : Prop where e : α[i]? = some z
class CSet (α : Afr) (i : Nat) (z : Sot) (β : outParam Afr) : Prop where e : α.set i z = β
class CAv (z : Sot) (i : Nat) (av : outParam Avl) : Prop where e : z.av i = some av
class CCl (x : Avl) (w : outParam PyData) : Prop where e : x.cl = some w
class CDat (x : Avl) (w : outParam PyData) : Prop where e : x.dat = some w
class CSot (x : Avl) (w : outParam Sot) : Prop where e : x.sot = some w
class CNb (as : List Avl) : Prop where e : anyB as = false
class CLen (ds : List PyData) (n : Nat) : Prop where e : ds.length = n
section
variable {α β : Afr} {i n : Nat} {z s : Sot} {ds : List PyData} {d : PyData} {u : Nat} {c : Dic} {x : Avl} {xs : List Avl}
instance : CAt (z :: α) 0 z := ⟨rfl⟩
instance [w : CAt α i z] : CAt (s :: α) (i + 1) z := ⟨w.e⟩
instance : CSet (s :: α) 0 z (z :: α) := ⟨rfl⟩
instance [w : CSet α i z β] : CSet (s :: α) (i + 1) z (s :: β) := ⟨by rw [← w.e]; rfl⟩
instance {j : Nat} {y : Sot} [w : CSet α i z β] [v : CAt β j y] : CAt (α.set i z) j y := ⟨by rw [w.e]; exact v.e⟩
instance {j : Nat} {y : Sot} {γ : Afr} [w : CSet α i z β] [v : CSet β j y γ] : CSet (α.set i z) j y γ := ⟨by rw [w.e]; exact v.e⟩
instance : CAv (.d d) i (.d d) := ⟨rfl⟩
instance : CAv (.own ds) i (.b i ds) := ⟨rfl⟩
instance : CAv (.wl u) i (.wl u) := ⟨rfl⟩
instance : CCl (.d d) d := ⟨rfl⟩
instance : CCl (.l ds) (.list ds) := ⟨rfl⟩
instance : CDat (.d d) d := ⟨rfl⟩
instance : CDat (.l ds) (.list ds) := ⟨rfl⟩
instance : CDat (.b i ds) (.list ds) := ⟨rfl⟩
instance : CSot (.d d) (.d d) := ⟨rfl⟩
instance : CSot (.l ds) (.own ds) := ⟨rfl⟩
instance : CSot (.wl u) (.wl u) := ⟨rfl⟩
instance : CSot (.k c) (.dic c) := ⟨rfl⟩
instance : CNb [] := ⟨rfl⟩
instance [w : CNb xs] : CNb (.d d :: xs) := ⟨by have := w.e; unfold anyB at this ⊢; simpa [Avl.isB] using this⟩
instance [w : CNb xs] : CNb (.l ds :: xs) := ⟨by have := w.e; unfold anyB at this ⊢; simpa [Avl.isB] using this⟩
instance [w : CNb xs] : CNb (.wl u :: xs) := ⟨by have := w.e; unfold anyB at this ⊢; simpa [Avl.isB] using this⟩
instance [w : CNb xs] : CNb (.k c :: xs) := ⟨by have := w.e; unfold anyB at this ⊢; simpa [Avl.isB] using this⟩
instance : CLen [] 0 := ⟨rfl⟩
instance [w : CLen ds n] : CLen (d :: ds) (n + 1) := ⟨by rw [List.length_cons, w.e]⟩
end
section
variable {X : AXr} {α : Afr} {k : Avl → Prop} {A : AEn} {a b : ASt} {e e' e2 ei : AEx} {i j n : Nat} {P : Avl → Prop} {d : PyData} {ds xs ys : List PyData} {t u : ATx} {R : Bool → Prop} {g g' : AO2} {x y z : Avl}
variable {Kz : Kfz} {c : Dic}
instance  : Wk (aSeq a b A α) (a { A with nx := b A } α) := ⟨fun h => a_seq h⟩
instance  : Wk (aNext A α) (A.nx α) := ⟨fun h => a_next h⟩
instance  : Wk (aBrk A α) (A.bk α) := ⟨fun h => a_brk h⟩
instance  : Wk (aCont A α) (A.ct α) := ⟨fun h => a_cont h⟩
instance  : Wk (aRet e A α) (e A.er α fun av => A.rt av.out) := ⟨fun h => a_ret h⟩
instance  : Wk (aRetN A α) (A.rt (.d .none)) := ⟨fun h => a_retN h⟩
instance  : Wk (aDrop e A α) (e A.er α fun _ => A.nx α) := ⟨fun h => a_drop h⟩
instance  : Wk (aIfS t a b A α) (t A.er α fun x => if x = true then a A α else b A α) := ⟨fun h => a_ifs h⟩
instance  : Wk (aSet i e A α) (e A.er α fun av => ∃ z, av.sot = some z ∧ A.nx (α.set i z)) := ⟨fun h => a_set h⟩
instance  : Wk (aSet2 i j e e' A α) (e A.er α fun x => e' A.er α fun y => ∃ z w, x.sot = some z ∧ y.sot = some w ∧ A.nx ((α.set i z).set j w)) := ⟨fun h => a_set2 h⟩
instance  : Wk (aSet3 i j n e e' e2 A α) (e A.er α fun x => e' A.er α fun y => e2 A.er α fun x2 => ∃ z w z2, x.sot = some z ∧ y.sot = some w ∧ x2.sot = some z2 ∧ A.nx (((α.set i z).set j w).set n z2)) := ⟨fun h => a_set3 h⟩
instance {r : AAd} : Wk (aParD i j r A α) (r A.er α fun xs => ∃ x y, xs = [x, y] ∧ A.nx ((α.set i (.d x)).set j (.d y))) := ⟨fun h => a_parD h⟩
instance {Q : PyData → PyData → Prop} {x y : PyData} : Wk (∃ x' y', [x, y] = [x', y'] ∧ Q x' y') (Q x y) := ⟨fun h => a_p2 h⟩
instance  : Wk (aC d X α k) (k (.d d)) := ⟨fun h => a_c h⟩
instance {r : AAd} : Wk (aTup r X α k) (r X α fun xs => k (.d (.tuple xs))) := ⟨fun h => a_tup h⟩
instance {r : AAd} : Wk (aLst r X α k) (r X α fun xs => k (.l xs)) := ⟨fun h => a_lst h⟩
instance {R : List PyData → Prop} : Wk (aNil X α R) (R []) := ⟨fun h => a_nil h⟩
instance {r : AAd} {R : List PyData → Prop} : Wk (aCons e r X α R) (e X α fun av => ∃ x, av.cl = some x ∧ r X α fun xs => R (x :: xs)) := ⟨fun h => a_cons h⟩
instance {R : List Avl → Prop} : Wk (bNil X α R) (R []) := ⟨fun h => b_nil h⟩
instance {r : AAv} {R : List Avl → Prop} : Wk (bCons e r X α R) (e X α fun x => r X α fun xs => R (x :: xs)) := ⟨fun h => b_cons h⟩
instance  : Wk (aB e X α R) (e X α fun av => ∃ b, av = .d (.bool b) ∧ R b) := ⟨fun h => a_b h⟩
instance {Q : Bool → Prop} {b : Bool} : Wk (∃ c, Avl.d (.bool b) = .d (.bool c) ∧ Q c) (Q b) := ⟨fun h => a_bl h⟩
instance {Q : Int → Prop} {i : Int} : Wk (∃ j, Avl.d (.int i) = .d (.int j) ∧ Q j) (Q i) := ⟨fun h => a_ii h⟩
instance  : Wk (aYes X α R) (R true) := ⟨fun h => a_yes h⟩
instance  : Wk (aAnd t u X α R) (t X α fun c => if c = true then u X α R else R false) := ⟨fun h => a_and h⟩
instance  : Wk (aOr t u X α R) (t X α fun c => if c = true then R true else u X α R) := ⟨fun h => a_or h⟩
instance  : Wk (aNot t X α R) (t X α fun c => R (!c)) := ⟨fun h => a_not h⟩
instance  : Wk (aAndV e e' X α k) (e X α fun x => ∃ c, x = .d (.bool c) ∧ if c = true then e' X α k else k (.d (.bool false))) := ⟨fun h => a_andV h⟩
instance  : Wk (aOrV e e' X α k) (e X α fun x => ∃ c, x = .d (.bool c) ∧ if c = true then k (.d (.bool true)) else e' X α k) := ⟨fun h => a_orV h⟩
instance  : Wk (aNotV e X α k) (e X α fun x => ∃ c, x = .d (.bool c) ∧ k (.d (.bool (!c)))) := ⟨fun h => a_notV h⟩
instance  : Wk (aOp g e e' X α k) (e X α fun x => e' X α fun y => g x y k) := ⟨fun h => a_op h⟩
instance  : Wk (aChain g g' e e' e2 X α k) (e X α fun x => e' X α fun y => g x y fun z => ∃ p, z = .d (.bool p) ∧ if p = true then e2 X α fun w => g' y w k else k (.d (.bool false))) := ⟨fun h => a_chain h⟩
instance {g : AO1} : Wk (aUn g e X α k) (e X α fun x => g x k) := ⟨fun h => a_un h⟩
instance {g : AOn} {r : AAv} : Wk (aCB g r X α k) (r X α fun xs => g xs k) := ⟨fun h => a_cb h⟩
instance {lo hi : AOp} : Wk (aSl e lo hi X α k) (e X α fun x => lo X α fun l => hi X α fun u => gSl l u x k) := ⟨fun h => a_sl h⟩
instance  : Wk (aRev e X α k) (e X α fun x => (∃ ds, x.tup = some ds ∧ k (.d (.tuple ds.reverse))) ∨ ∃ ds, x.lst = some ds ∧ k (.l ds.reverse)) := ⟨fun h => a_rev h⟩
instance {Q : Option Int → Prop} : Wk (aPart e X α Q) (e X α fun av => ∃ i, av = .d (.int i) ∧ Q (some i)) := ⟨fun h => a_part h⟩
instance {Q : Option Int → Prop} : Wk (aNoPart X α Q) (Q none) := ⟨fun h => a_nopart h⟩
instance {m : AFn} {r : AAv} : Wk (aCall m r X α k) (r X α fun as => m as (fun C f => X α C f ∧ (anyB as = true → f = none)) fun av => k av ∧ (anyB as = true → av.flat = true)) := ⟨fun h => a_call h⟩
instance {m : AFn} {r : AAv} : Wk (aCall0 m r X α k) (r X α fun as => m as (fun _ _ => False) fun av => k av ∧ (anyB as = true → av.flat = true)) := ⟨fun h => a_call0 h⟩
instance {gg : List Avl → List Avl} {r : AAv} {R : List Avl → Prop} : Wk (aKw n gg r X α R) (r X α fun as => R (gg as)) := ⟨fun h => a_kw h⟩
instance {gt : ATg} : Wk (aAsg e gt A α) (e A.er α fun av => ∃ x, av.cl = some x ∧ gt x α A.nx) := ⟨fun h => a_asg h⟩
instance {gt : ATg} {gs : ATgs} {Q : Afr → Prop} : Wk (agCons gt gs (d :: ds) α Q) (gt d α fun α1 => gs ds α1 Q) := ⟨fun h => a_gcons h⟩
instance {Q : Afr → Prop} : Wk (agNil [] α Q) (Q α) := ⟨fun h => a_gnil h⟩
instance {f : PyData → Bool} : Wk (aIsi f e X α k) (e X α fun av => ∃ d, av.dat = some d ∧ k (.d (.bool (f d)))) := ⟨fun h => a_isi h⟩
instance  : Wk (aLstRg e X α k) (e X α fun x => ∃ n : Int, x = .d (.int n) ∧ -1000000 ≤ n ∧ n ≤ 1000000 ∧ k (.l ((iota n.toNat).map .int))) := ⟨fun h => a_lstRg h⟩
instance  : Wk (aDict0 X α k) (k (.d (.dict []))) := ⟨fun h => a_dict0 h⟩
instance {i j : Int} : Wk (gAdd (.d (.int i)) (.d (.int j)) k) (k (.d (.int (i + j)))) := ⟨fun h => g_addI h⟩
instance {i j : Int} : Wk (gSub' (.d (.int i)) (.d (.int j)) k) (k (.d (.int (i - j)))) := ⟨fun h => g_sub h⟩
instance {i j : Int} : Wk (gEq (.d (.int i)) (.d (.int j)) k) (k (.d (.bool (decide (i = j))))) := ⟨fun h => g_eqI h⟩
instance {i j : Int} : Wk (gNe (.d (.int i)) (.d (.int j)) k) (k (.d (.bool (!decide (i = j))))) := ⟨fun h => g_neI h⟩
instance {i j : Str} : Wk (gEq (.d (.str i)) (.d (.str j)) k) (k (.d (.bool (decide (i = j))))) := ⟨fun h => g_eqS h⟩
instance {i j : Str} : Wk (gNe (.d (.str i)) (.d (.str j)) k) (k (.d (.bool (!decide (i = j))))) := ⟨fun h => g_neS h⟩
instance {i j : Int} : Wk (gLt (.d (.int i)) (.d (.int j)) k) (k (.d (.bool (decide (i < j))))) := ⟨fun h => g_ltI h⟩
instance {i j : Int} : Wk (gLe (.d (.int i)) (.d (.int j)) k) (k (.d (.bool (decide (i ≤ j))))) := ⟨fun h => g_le h⟩
instance {i j : Int} : Wk (gGt (.d (.int i)) (.d (.int j)) k) (k (.d (.bool (decide (j < i))))) := ⟨fun h => g_gt h⟩
instance {i j : Int} : Wk (gGe (.d (.int i)) (.d (.int j)) k) (k (.d (.bool (decide (j ≤ i))))) := ⟨fun h => g_ge h⟩
instance {i : Int} : Wk (gNeg (.d (.int i)) k) (k (.d (.int (-i)))) := ⟨fun h => g_neg h⟩
instance {i : Int} : Wk (gAbs [.d (.int i)] k) (k (.d (.int (if i < 0 then -i else i)))) := ⟨fun h => g_abs h⟩
instance {i : Int} : Wk (gInt [.d (.int i)] k) (k (.d (.int i))) := ⟨fun h => g_int h⟩
instance {b : Bool} : Wk (gInt [.d (.bool b)] k) (k (.d (.int (b2i b)))) := ⟨fun h => g_intB h⟩
instance {i j : Int} : Wk (gMax2 [.d (.int i), .d (.int j)] k) (k (.d (.int (if j > i then j else i)))) := ⟨fun h => g_max2 h⟩
instance {i j : Int} : Wk (gMin2 [.d (.int i), .d (.int j)] k) (k (.d (.int (if j < i then j else i)))) := ⟨fun h => g_min2 h⟩
instance {ej : AEx} : Wk (aSwap i j e e' ei ej A α) (e A.er α fun x => ∃ x', x.cl = some x' ∧ e' A.er α fun y => ∃ y', y.cl = some y' ∧ ∃ ds, α[i]? = some (.own ds) ∧ ei A.er α fun a => ∃ (p : Int) (n : Nat), a = .d (.int p) ∧ ixN ds.length p = some n ∧ ∃ es, (α.set i (.own (ds.set n x')))[j]? = some (.own es) ∧ ej A.er (α.set i (.own (ds.set n x'))) fun b => ∃ (q : Int) (m : Nat), b = .d (.int q) ∧ ixN es.length q = some m ∧ A.nx ((α.set i (.own (ds.set n x'))).set j (.own (es.set m y')))) := ⟨fun h => a_swap h⟩
instance  : Wk (aSetI i e ei A α) (e A.er α fun av => ∃ x, av.cl = some x ∧ ∃ ds, α[i]? = some (.own ds) ∧ ei A.er α fun ai => ∃ (j : Int) (n : Nat), ai = .d (.int j) ∧ ixN ds.length j = some n ∧ A.nx (α.set i (.own (ds.set n x)))) := ⟨fun h => a_setI h⟩
instance {Q : List PyData → Prop} : Wk (∃ es, some (Sot.own ds) = some (.own es) ∧ Q es) (Q ds) := ⟨fun h => a_owned' h⟩
instance {w : AIt} {gt : ATg} : Wk (aFor w gt b A α) (w A.er α fun xs fz => aLoop gt b A xs (aFrz α fz)) := ⟨fun h => a_for h⟩
instance  : Wk (aSeqI e X α Kz) (e X α fun av => WSeq av α Kz) := ⟨fun h => i_seq h⟩
instance {r : AAv} : Wk (aRng1 r X α Kz) (r X α fun as => WR1 as Kz) := ⟨fun h => i_rng1 h⟩
instance {r : AAv} : Wk (aRng2 r X α Kz) (r X α fun as => WR2 as Kz) := ⟨fun h => i_rng2 h⟩
instance {r : AAv} : Wk (aEnum r X α Kz) (r X α fun as => WEn as α Kz) := ⟨fun h => i_enum h⟩
instance  : Wk (WEn [x] α Kz) (WSeq x α fun ds fz => Kz (enD ds) fz) := ⟨fun h => i_one h⟩
instance {r : AAv} : Wk (aZip r X α Kz) (r X α fun as => WZi as Kz) := ⟨fun h => i_zip h⟩
instance {w : AIt} {gt : ATg} {is : List Nat} : Wk (aLc w gt t e is X α k) (w X α fun xs _ => xs.length < 100000 ∧ aLcGo gt t e (awipe α is) k xs) := ⟨fun h => a_lc h⟩
instance {C : Addr} : Wk (aRaise C A α) (A.er α C none) := ⟨fun h => a_raise h⟩
instance {C : Addr} {s : Addr → ASt} : Wk (aTry C i b s A α) (b { A with er := fun α' C' f => C' = C ∧ f = none ∧ ∀ a, s a { A with nx := fun α'' => A.nx (α''.set i .x), bk := fun α'' => A.bk (α''.set i .x), ct := fun α'' => A.ct (α''.set i .x) } (α'.set i (.err a)) } α) := ⟨fun h => a_try h⟩
instance  : Wk (aDPut i e e2 A α) (e2 A.er α fun av => ∃ x, av.cl = some x ∧ ∃ c, α[i]? = some (.dic c) ∧ e A.er α fun ak => ∃ c', DPutA c ak x c' ∧ A.nx (α.set i (.dic c'))) := ⟨fun h => a_dput h⟩
instance  : Wk (aDOne e e2 X α k) (e X α fun x => e2 X α fun y => ∃ n z, x = .d (kD n) ∧ y = .d z ∧ k (.k (.k [(n, z)]))) := ⟨fun h => a_done h⟩
instance  : Wk (aDOneD e e2 X α k) (aDOne e e2 X α fun av => ∃ (n : Int) (z : PyData), av = .k (.k [(.inl n, z)]) ∧ k (.d (.dict [(.int n, z)]))) := ⟨fun h => a_doned h⟩
instance {j : Int} {y : PyData} {q : Int → PyData → Prop} : Wk (∃ (n : Int) (z : PyData), Avl.k (.k [(.inl j, y)]) = .k (.k [(.inl n, z)]) ∧ q n z) (q j y) := ⟨fun h => a_onedI h⟩
instance {j : Int} {y : PyData} {q : L2.Key → PyData → Prop} : Wk (∃ n z, Avl.d (.int j) = .d (kD n) ∧ Avl.d y = .d z ∧ q n z) (q (.inl j) y) := ⟨fun h => a_oneI h⟩
instance {R : Dic → Prop} : Wk (∃ d, some (Sot.dic c) = some (.dic d) ∧ R d) (R c) := ⟨fun h => a_dcx h⟩
instance  : Wk (aDIn e i X α k) (e X α fun av => ∃ c r, α[i]? = some (.dic c) ∧ DGetA c av r ∧ k (.d (.bool r.isSome))) := ⟨fun h => a_din0 h⟩
instance  : Wk (aDNi e i X α k) (e X α fun av => ∃ c r, α[i]? = some (.dic c) ∧ DGetA c av r ∧ k (.d (.bool (!r.isSome)))) := ⟨fun h => a_dni0 h⟩
instance (priority := low) {Q : Afr → Prop} : Wk (agName i d α Q) (Q (α.set i (.d d))) := ⟨fun h => h⟩
instance {Q : Afr → Prop} {β : Afr} [w : CSet α i (.d d) β] : Wk (agName i d α Q) (Q β) := ⟨fun h => by show Q (α.set i (.d d)); rw [w.e]; exact h⟩
instance {zz : Sot} {av : Avl} [v : CAt α i zz] [w : CAv zz i av] : Wk (aVar i X α k) (k av) := ⟨fun h => a_var v.e w.e h⟩
instance {Q : PyData → Prop} {w : PyData} [v : CCl x w] : Wk (∃ x', x.cl = some x' ∧ Q x') (Q w) := ⟨fun h => a_cl v.e h⟩
instance {Q : PyData → Prop} {w : PyData} [v : CDat x w] : Wk (∃ x', x.dat = some x' ∧ Q x') (Q w) := ⟨fun h => a_dat v.e h⟩
instance {Q : Sot → Prop} {w : Sot} [v : CSot x w] : Wk (∃ x', x.sot = some x' ∧ Q x') (Q w) := ⟨fun h => a_s1 v.e h⟩
instance {P Q : Prop} {as : List Avl} [v : CNb as] : Wk (P ∧ (anyB as = true → Q)) P := ⟨fun h => a_nb v.e h⟩
instance {gs : ATgs} {Q : Afr → Prop} [v : CLen ds n] : Wk (agTup n gs (.tuple ds) α Q) (gs ds α Q) := ⟨fun h => a_gtup rfl v.e h⟩
instance {A B : Prop} : Wk (if true = true then A else B) A := ⟨fun h => by rw [if_pos rfl]; exact h⟩
instance {A B : Prop} : Wk (if false = true then A else B) B := ⟨fun h => by rw [if_neg (by decide)]; exact h⟩
instance [v : CDat x d] : Wk (gIsN x (.d .none) k) (k (.d (.bool (isNon d)))) := ⟨fun h => g_isN v.e h⟩
instance [v : CDat x d] : Wk (gNotN x (.d .none) k) (k (.d (.bool (!isNon d)))) := ⟨fun h => g_notN v.e h⟩
variable {gs : ATgs} {gt : ATg} {Q : Afr → Prop} {as : List Avl} {lo hi : Option Int} {σ : Type} {S : σ → Prop} {B C : Prop} {c2 : Bool} {aa : Addr}
instance : Rs (aVar i X α k) 1 := ⟨trivial⟩
instance : Rs (agTup n gs d α Q) 1 := ⟨trivial⟩
instance : Rs (agCons gt gs ds α Q) 1 := ⟨trivial⟩
instance : Rs (agNil ds α Q) 1 := ⟨trivial⟩
instance : Rs (gIx x y k) 2 := ⟨trivial⟩
instance : Rs (gLen as k) 3 := ⟨trivial⟩
instance : Rs (gTupOf as k) 3 := ⟨trivial⟩
instance : Rs (gLstOf as k) 3 := ⟨trivial⟩
instance : Rs (gSl lo hi x k) 4 := ⟨trivial⟩
instance : Rs (gAdd x y k) 4 := ⟨trivial⟩
instance : Rs (gMul x y k) 4 := ⟨trivial⟩
instance : Rs (gMod x y k) 4 := ⟨trivial⟩
instance : Rs (gDiv x y k) 4 := ⟨trivial⟩
instance : Rs (gIsN x y k) 4 := ⟨trivial⟩
instance : Rs (gNotN x y k) 4 := ⟨trivial⟩
instance : Rs (aDGet i e X α k) 5 := ⟨trivial⟩
instance : Rs (aDGet2 i e e' X α k) 5 := ⟨trivial⟩
instance : Rs (aFzq i a A α) 5 := ⟨trivial⟩
instance : Rs (aRetC i A α) 5 := ⟨trivial⟩
instance : Rs (aFz i a A α) 5 := ⟨trivial⟩
instance : Rs (aApp i e A α) 5 := ⟨trivial⟩
instance : Rs (aExt i e A α) 5 := ⟨trivial⟩
instance : Rs (aPop i j e A α) 5 := ⟨trivial⟩
instance : Rs (aIsX i aa X α k) 5 := ⟨trivial⟩
instance : Rs (∃ q : σ, S q) 6 := ⟨trivial⟩
instance : Rs (WSeq x α Kz) 7 := ⟨trivial⟩
instance : Rs (WEn as α Kz) 7 := ⟨trivial⟩
instance : Rs (B ∧ C) 8 := ⟨trivial⟩
instance : Rs (B ∨ C) 8 := ⟨trivial⟩
instance : Rs (if (!c2) = true then B else C) 9 := ⟨trivial⟩
instance : Rs (if isNon d = true then B else C) 9 := ⟨trivial⟩
end
section
variable {k : Avl → Prop} {X : AXr} {α : Afr} {a b : AEx}
instance {p : Avl → Prop} {g : AO2} : Wk (aM1 p g a b X α k) (a X α fun x => p x ∧ b X α fun y => g x y k) := ⟨fun h => a_m1 h⟩
instance {a : Str} {q : Prop} : Wk (isS (.d (.str a)) ∧ q) (q) := ⟨fun h => a_isS h⟩
end
section
variable {k : Avl → Prop} {X : AXr} {α : Afr} {w w1 : AIt} {g g1 : ATg} {t t1 : ATx} {e : AEx} {vs vs1 : List Nat} {P : List PyData → Prop} {acc ys xs : List PyData}
instance  : Wk (aLc2 w g t w1 g1 t1 e vs vs1 X α k) (w X α fun xs _ => xs.length ≤ 300 ∧ aLc2Go g t w1 g1 t1 e vs1 (awipe α vs) k xs) := ⟨fun h => a_lc2 h⟩
end
end UW
namespace UW
open PySem PySem.Spec PyProof.Rows L2
/-- one step -/
local macro_rules | `(tactic| walk_at "a1") => `(tactic| first
  | with_reducible refine wk ?_
  | (with_reducible refine rs_go 1 ?_
     first
     | with_reducible refine a_var (by with_unfolding_all rfl) (by with_unfolding_all rfl) ?_
     | with_reducible refine a_gtup (by with_unfolding_all rfl) (by with_unfolding_all rfl) ?_
     | with_reducible refine a_glst (by with_unfolding_all rfl) (by with_unfolding_all rfl) ?_)
  | (with_reducible refine rs_go 2 ?_
     first
     | with_reducible refine g_ixT (by with_unfolding_all rfl) (by first | with_unfolding_all rfl | with_unfolding_all exact at_zero _ _) ?_
     | with_reducible refine g_ixL (by with_unfolding_all rfl) (by first | with_unfolding_all rfl | with_unfolding_all exact at_zero _ _) ?_)
  | (with_reducible refine rs_go 3 ?_
     first
     | with_reducible refine g_lenT (by with_unfolding_all rfl) ?_
     | with_reducible refine g_lenL (by with_unfolding_all rfl) ?_
     | with_reducible refine g_tupL (by with_unfolding_all rfl) ?_
     | with_reducible refine g_tupT (by with_unfolding_all rfl) ?_
     | with_reducible refine g_lstT (by with_unfolding_all rfl) ?_
     | with_reducible refine g_lstL (by with_unfolding_all rfl) ?_)
  | (with_reducible refine rs_go 4 ?_
     first
     | with_reducible refine g_addL (by with_unfolding_all rfl) (by with_unfolding_all rfl) (Nat.le_of_ble_eq_true (by with_unfolding_all rfl)) ?_
     | with_reducible refine g_mulI (by first | exact Or.inl ⟨by decide, by decide⟩ | exact Or.inr ⟨by decide, by decide⟩ | (first | (refine Or.inl ⟨?_, ?_⟩ <;> omega) | (refine Or.inr ⟨?_, ?_⟩ <;> omega))) ?_
     | with_reducible refine g_mod (by first | decide | omega) ?_
     | with_reducible refine g_div (by first | decide | omega) (by first | decide | omega) ?_
     | with_reducible refine g_slT (by with_unfolding_all rfl) ?_
     | with_reducible refine g_slL (by with_unfolding_all rfl) ?_
     | with_reducible refine g_isN (by with_unfolding_all rfl) ?_
     | with_reducible refine g_notN (by with_unfolding_all rfl) ?_)
  | (with_reducible refine rs_go 5 ?_
     first
     | with_reducible refine a_dget (by with_unfolding_all rfl) ?_
     | with_reducible refine a_dget2 (by with_unfolding_all rfl) ?_
     | with_reducible refine a_fzq (by with_unfolding_all rfl) ?_
     | with_reducible refine a_retC (by with_unfolding_all rfl) ?_
     | with_reducible refine a_isX (by with_unfolding_all rfl) ?_
     | with_reducible refine a_app (by with_unfolding_all rfl) ?_
     | with_reducible refine a_ext (by with_unfolding_all rfl) ?_
     | with_reducible refine a_pop (by with_unfolding_all rfl) ?_
     | with_reducible refine a_fz (by with_unfolding_all rfl) ?_
     | with_reducible refine a_lenDV (by with_unfolding_all rfl) ?_)
  | (with_reducible refine rs_go 6 ?_
     first
     | with_reducible refine a_cl (by with_unfolding_all rfl) ?_
     | with_reducible refine a_dat (by with_unfolding_all rfl) ?_
     | with_reducible refine a_s1 (by with_unfolding_all rfl) ?_
     | with_reducible refine a_dcy (by with_unfolding_all rfl) ?_
     | with_reducible refine a_s2 (by with_unfolding_all rfl) (by with_unfolding_all rfl) ?_
     | with_reducible refine a_s3 (by with_unfolding_all rfl) (by with_unfolding_all rfl) (by with_unfolding_all rfl) ?_
     | with_reducible refine a_owned (by with_unfolding_all rfl) ?_)
  | (with_reducible refine rs_go 7 ?_
     first
     | with_reducible refine i_B (by with_unfolding_all rfl) ?_
     | with_reducible refine i_T (by with_unfolding_all rfl) ?_
     | with_reducible refine i_L (by with_unfolding_all rfl) ?_)
  | (with_reducible refine rs_go 8 ?_
     first
     | with_reducible refine a_nb (by with_unfolding_all rfl) ?_
     | with_reducible refine a_len (by with_unfolding_all rfl) ?_
     | with_reducible refine a_revT (by with_unfolding_all rfl) ?_
     | with_reducible refine a_revL (by with_unfolding_all rfl) ?_)
  | (with_reducible refine rs_go 9 ?_
     first
     | with_reducible refine iteNT (by with_unfolding_all rfl) ?_
     | with_reducible refine iteNF (by with_unfolding_all rfl) ?_
     | with_reducible refine iteIT (by with_unfolding_all rfl) ?_
     | with_reducible refine iteIF (by with_unfolding_all rfl) ?_))
local macro_rules | `(tactic| walk_at "ax") => `(tactic| (repeat (first | walk_at "a1" | with_reducible refine a_if ?_); try dsimp only [List.set_cons_zero, List.set_cons_succ, awipe, aFrz, List.getElem?_cons_zero, List.getElem?_cons_succ]))
local macro_rules | `(tactic| walk_at "ay") => `(tactic| (repeat (walk_at "a1"); try dsimp only [List.set_cons_zero, List.set_cons_succ, awipe, aFrz, List.getElem?_cons_zero, List.getElem?_cons_succ]))
def rowsL : List Int → List PyData → List (List Int)
  | ls, [] => [ls]
  | ls, d :: ds => ls :: rowsL (stepL ls d) ds
theorem rowsL_len : ∀ (ds : List PyData) (ls : List Int), (rowsL ls ds).length = ds.length + 1
  | [], _ => rfl
  | e :: ds, ls => by show (rowsL (stepL ls e) ds).length + 1 = _; rw [rowsL_len ds]; rfl
theorem Laid.to {n : Int} {rs : List (Int × Int)} {ms ls ls' : List Int} (L : Laid n rs ms ls) (h : ls'.length = ls.length) : Laid n rs ms ls' := ⟨L.ok, L.lm, by rw [h]; exact L.ll, L.n0, L.n1, L.r1⟩
theorem enD_at {ds : List PyData} {i : Nat} {x : PyData} (h : (enD ds)[i]? = some x) : ∃ d, ds[i]? = some d ∧ x = .tuple [.int (i : Int), d] := by
  have hi := (List.getElem?_eq_some_iff.mp h).1
  rw [enD_len] at hi
  have e := List.getElem?_eq_getElem hi
  rw [enD_get e] at h
  exact ⟨_, e, (Option.some.inj h).symm⟩
section
variable {n : Int} {rs : List (Int × Int)} {ms ls : List Int} {x : AXc} {k : Avl → Prop} {C : Cl}
end
end UW
namespace UW
open PySem PySem.Spec PyProof.Rows L2
section
variable {k : Avl → Prop}
theorem shw {d : PyData} {k n : Nat} (h : Okx d k n) (hk : k ≤ 60 := by decide) (hn : n ≤ 10000000 := by decide) : Shw d := ⟨h.sh, Nat.le_trans h.dp hk, Nat.le_trans h.ln hn⟩
theorem rows_len {ls : List Int} {W : List (Int × Int)} (h : (W.length : Int) ≤ 12) : (rowsL ls (W.map dP)).length ≤ 101 := by rw [rowsL_len, List.length_map]; omega
def Itm (d : PyData) : Prop := Okx d 3 2000
def Its' (ds : List PyData) : Prop := ∀ d ∈ ds, Itm d
theorem Its'.one {d : PyData} (h : Itm d) : Its' [d] := fun e he => by rw [List.mem_singleton.mp he]; exact h
theorem Its'.sub {ds es : List PyData} (h : Its' ds) (s : ∀ d ∈ es, d ∈ ds) : Its' es := fun d hd => h d (s d hd)
theorem small120 {i : Int} (h : i.natAbs < 100) : i.natAbs < 2 ^ 120 := Nat.lt_of_lt_of_le h (by decide)
theorem okx_int {i : Int} (h : i.natAbs < 100) : Okx (.int i) 0 121 := (Okd.int (small120 h)).x
theorem okx_t2 {d e : PyData} {k n k' n' : Nat} (h : Okx d k n) (g : Okx e k' n') : Okx (.tuple [d, e]) (max k k' + 1) (2 * (max n n' + 2) + 2) := by
  refine Okx.tup (fun x hx => ?_) (Nat.le_refl _)
  rcases List.mem_cons.mp hx with rfl | hx
  · exact h.mono (Nat.le_max_left _ _) (Nat.le_max_left _ _)
  rcases List.mem_cons.mp hx with rfl | hx
  · exact g.mono (Nat.le_max_right _ _) (Nat.le_max_right _ _)
  · cases hx
theorem okx_l2 {d e : PyData} {k n k' n' : Nat} (h : Okx d k n) (g : Okx e k' n') : Okx (.list [d, e]) (max k k' + 1) (2 * (max n n' + 2) + 2) := by
  refine Okx.lst (fun x hx => ?_) (Nat.le_refl _)
  rcases List.mem_cons.mp hx with rfl | hx
  · exact h.mono (Nat.le_max_left _ _) (Nat.le_max_left _ _)
  rcases List.mem_cons.mp hx with rfl | hx
  · exact g.mono (Nat.le_max_right _ _) (Nat.le_max_right _ _)
  · cases hx
end
end UW
namespace UW
open PySem PySem.Spec PyProof.Rows L2
section
end
end UW
namespace UW
open PySem PySem.Spec PyProof.Rows L2
def Adj (rs : List (Int × Int)) (x y : Int) : Prop := (x, y) ∈ rs ∨ (y, x) ∈ rs
theorem Adj.symm {rs : List (Int × Int)} {x y : Int} (h : Adj rs x y) : Adj rs y x := h.elim .inr .inl
/-- y may be come to from x in k steps -/
inductive Rch (rs : List (Int × Int)) : Int → Nat → Int → Prop
  | z (p : Int) : Rch rs p 0 p
  | s {p : Int} {k : Nat} {x y : Int} : Rch rs p k x → Adj rs x y → Rch rs p (k + 1) y
section
variable {rs : List (Int × Int)} {p x y : Int} {j k : Nat}
theorem Rch.trans (a : Rch rs p j x) (b : Rch rs x k y) : Rch rs p (j + k) y := by
  induction b with
  | z => exact a
  | s _ h ih => exact .s ih h
theorem Rch.rev (a : Rch rs p k x) : Rch rs x k p := by
  induction a with
  | z => exact .z _
  | @s k x y _ h ih =>
    have := Rch.trans (.s (.z y) h.symm) ih
    rwa [show 0 + 1 + k = k + 1 from by omega] at this
/-- the fewest steps -/
def Dst (rs : List (Int × Int)) (p x : Int) (k : Nat) : Prop := Rch rs p k x ∧ ∀ e, e < k → ¬ Rch rs p e x
theorem Dst.uniq (a : Dst rs p x k) (b : Dst rs p x j) : k = j := by
  rcases Nat.lt_trichotomy k j with h | h | h
  · exact absurd a.1 (b.2 k h)
  · exact h
  · exact absurd b.1 (a.2 j h)
theorem Dst.ex (h : Rch rs p k x) : ∃ j, j ≤ k ∧ Dst rs p x j := by
  induction k using Nat.strongRecOn with
  | ind k ih =>
    by_cases q : ∃ e, e < k ∧ Rch rs p e x
    · obtain ⟨e, he, r⟩ := q
      obtain ⟨j, hj, d⟩ := ih e he r
      exact ⟨j, by omega, d⟩
    · exact ⟨k, Nat.le_refl _, h, fun e he r => q ⟨e, he, r⟩⟩
theorem Dst.zero : Dst rs p p 0 := ⟨.z p, fun e h => absurd h (by omega)⟩
theorem Dst.nil (h : Dst rs p x 0) : x = p := by cases h.1; rfl
theorem Dst.pred (h : Dst rs p y (k + 1)) : ∃ x, Dst rs p x k ∧ Adj rs x y := by
  obtain ⟨r, m⟩ := h
  cases r with
  | s r a => exact ⟨_, ⟨r, fun e he q => m (e + 1) (by omega) (.s q a)⟩, a⟩
theorem Dst.next (h : Dst rs p x k) (a : Adj rs x y) : ∃ j, j ≤ k + 1 ∧ Dst rs p y j := Dst.ex (.s h.1 a)
theorem conn_rch {n : Int} (sh : Shape n rs) (h0 : 0 ≤ p) (h1 : p < n) (h2 : 0 ≤ x) (h3 : x < n) : ∃ k, Rch rs p k x := by
  have go : ∀ i, 0 ≤ i → i < n → ∃ k, Rch rs 0 k i := sh.cn (fun i => ∃ k, Rch rs 0 k i) ⟨0, .z 0⟩ fun q hq => ⟨fun ⟨k, r⟩ => ⟨k + 1, .s r (.inl hq)⟩, fun ⟨k, r⟩ => ⟨k + 1, .s r (.inr hq)⟩⟩
  obtain ⟨j, a⟩ := go p h0 h1
  obtain ⟨k, b⟩ := go x h2 h3
  exact ⟨j + k, a.rev.trans b⟩
theorem nodup_len : ∀ {l r : List Int}, l.Nodup → (∀ x ∈ l, x ∈ r) → l.length ≤ r.length
  | [], _, _, _ => Nat.zero_le _
  | x :: l, r, nd, h => by
    obtain ⟨n1, n2⟩ := List.nodup_cons.mp nd
    have hx := h x List.mem_cons_self
    have := nodup_len (l := l) (r := r.erase x) n2 fun y hy => by
      have : y ≠ x := fun e => n1 (e ▸ hy)
      exact (List.mem_erase_of_ne this).mpr (h y (List.mem_cons_of_mem _ hy))
    rw [List.length_erase_of_mem hx] at this
    have := List.length_pos_of_mem hx
    rw [List.length_cons]
    omega
def dI (m : List (Int × Nat)) : List (L2.Key × PyData) := m.map fun q => (.inl q.1, .int (q.2 : Int))
def lk (m : List (Int × Nat)) (x : Int) : Option Nat := (m.find? fun q => decide (q.1 = x)).map (·.2)
theorem find_dI (m : List (Int × Nat)) (x : Int) : findD (dI m) (.inl x) = (lk m x).map fun (k : Nat) => PyData.int (k : Int) := by
  induction m with
  | nil => rfl
  | cons q m ih =>
    by_cases e : q.1 = x
    · have a : findD (dI (q :: m)) (.inl x) = some (.int (q.2 : Int)) := by simp [findD, dI, List.find?_cons, e]
      have b : lk (q :: m) x = some q.2 := by simp [lk, List.find?_cons, e]
      rw [a, b]; rfl
    · have a : findD (dI (q :: m)) (.inl x) = findD (dI m) (.inl x) := by simp [findD, dI, List.find?_cons, e]
      have b : lk (q :: m) x = lk m x := by simp [lk, List.find?_cons, e]
      rw [a, b]; exact ih
theorem lk_none {m : List (Int × Nat)} {x : Int} (h : lk m x = none) : ∀ q ∈ m, q.1 ≠ x := by
  intro q hq e
  unfold lk at h
  rw [Option.map_eq_none_iff, List.find?_eq_none] at h
  exact h q hq (decide_eq_true e)
theorem lk_mem {m : List (Int × Nat)} {x : Int} {k : Nat} (h : lk m x = some k) : (x, k) ∈ m := by
  unfold lk at h
  cases q : m.find? fun q => decide (q.1 = x) with
  | none => rw [q] at h; cases h
  | some z =>
    rw [q] at h
    have h2 := List.find?_some q
    have h3 := List.mem_of_find?_eq_some q
    have e1 : z.1 = x := of_decide_eq_true h2
    have e2 : z.2 = k := Option.some.inj h
    rw [← e1, ← e2]
    exact h3
theorem put_dI {m : List (Int × Nat)} {x : Int} {k : Nat} (h : lk m x = none) : putD (dI m) (.inl x) (.int (k : Int)) = dI (m ++ [(x, k)]) := by
  unfold putD
  rw [if_neg]
  · unfold dI
    rw [List.map_append]
    rfl
  · intro z
    obtain ⟨a, ha, e⟩ := List.any_eq_true.mp z
    obtain ⟨q, hq, rfl⟩ := List.mem_map.mp ha
    have e' : (Sum.inl q.1 : L2.Key) = .inl x := of_decide_eq_true e
    exact lk_none h q hq (by injection e')
theorem lk_snoc {m : List (Int × Nat)} {x : Int} {k : Nat} (h : lk m x = none) (y : Int) : lk (m ++ [(x, k)]) y = if y = x then some k else lk m y := by
  unfold lk at h ⊢
  rw [List.find?_append]
  by_cases e : y = x
  · subst e
    rw [if_pos rfl]
    have : (m.find? fun q => decide (q.1 = y)) = none := by simpa using h
    rw [this]
    simp
  · rw [if_neg e]
    cases q : m.find? fun q => decide (q.1 = y) with
    | some z => rfl
    | none => simp [Ne.symm e]
/-- keys are apart, and places -/
def Kys (n : Int) (m : List (Int × Nat)) : Prop := (m.map (·.1)).Nodup ∧ ∀ q ∈ m, 0 ≤ q.1 ∧ q.1 < n
theorem Kys.len {n : Int} {m : List (Int × Nat)} (h : Kys n m) : m.length ≤ n.toNat := by
  have := nodup_len (l := m.map (·.1)) (r := iota n.toNat) h.1 fun x hx => by
    obtain ⟨q, hq, rfl⟩ := List.mem_map.mp hx
    have := h.2 q hq
    unfold iota
    exact List.mem_map.mpr ⟨q.1.toNat, List.mem_range.mpr (by omega), by omega⟩
  rwa [List.length_map, iota_len] at this
theorem Kys.snoc {n : Int} {m : List (Int × Nat)} (h : Kys n m) (h1 : lk m x = none) (h0 : 0 ≤ x) (h2 : x < n) : Kys n (m ++ [(x, k)]) := by
  refine ⟨?_, fun q hq => ?_⟩
  · rw [List.map_append, List.nodup_append]
    refine ⟨h.1, by simp, fun a ha b hb => ?_⟩
    obtain ⟨q, hq, rfl⟩ := List.mem_map.mp ha
    simp at hb
    rw [hb]
    exact lk_none h1 q hq
  · rcases List.mem_append.mp hq with hq | hq
    · exact h.2 q hq
    · rw [List.mem_singleton.mp hq]
      exact ⟨h0, h2⟩
theorem Kys.one {n : Int} (h0 : 0 ≤ p) (h1 : p < n) : Kys n [(p, 0)] := ⟨by simp, fun q hq => by rw [List.mem_singleton.mp hq]; exact ⟨h0, h1⟩⟩
structure Bf (rs : List (Int × Int)) (p : Int) (d : Nat) (A B : List Int) (m : List (Int × Nat)) (U : Int → Prop) : Prop where
  i1 : ∀ x k, lk m x = some k → Dst rs p x k
  ia : ∀ a ∈ A, lk m a = some d
  ib : ∀ b ∈ B, lk m b = some (d + 1)
  i4 : ∀ x, lk m x ≠ none → x ∉ A → x ∉ B → ¬ U x → ∀ y, Adj rs x y → lk m y ≠ none
  i5 : ∀ y e, Dst rs p y e → e ≤ d → lk m y ≠ none
theorem some_of {o : Option Nat} (h : o ≠ none) : ∃ k, o = some k := by cases o with | none => exact absurd rfl h | some k => exact ⟨k, rfl⟩
variable {d : Nat} {A B : List Int} {m : List (Int × Nat)} {U : Int → Prop} {u : Int}
theorem Bf.start : Bf rs p 0 [p] [] [(p, 0)] fun _ => False := by
  have l1 : lk [(p, 0)] p = some 0 := by simp [lk]
  have l2 : ∀ x k, lk [(p, 0)] x = some k → x = p ∧ k = 0 := fun x k h => by
    have := lk_mem h
    simp at this
    exact this
  refine ⟨fun x k h => ?_, fun a ha => ?_, fun b hb => (by cases hb), fun x hx ha => ?_, fun y e h he => ?_⟩
  · obtain ⟨rfl, rfl⟩ := l2 x k h
    exact .zero
  · rw [List.mem_singleton.mp ha]; exact l1
  · obtain ⟨k, e⟩ := some_of hx
    obtain ⟨rfl, rfl⟩ := l2 x k e
    exact absurd List.mem_cons_self ha
  · obtain rfl : e = 0 := by omega
    rw [h.nil, l1]
    intro z
    cases z
theorem Bf.pop (h : Bf rs p d (u :: A) B m fun _ => False) : Bf rs p d A B m fun x => x = u :=
  ⟨h.i1, fun a ha => h.ia a (List.mem_cons_of_mem _ ha), h.ib, fun x hx ha hb hu => h.i4 x hx (fun z => (List.mem_cons.mp z).elim hu ha) hb id, h.i5⟩
theorem Bf.add (h : Bf rs p d A B m fun x => x = u) (hu : lk m u = some d) (ha : Adj rs u y) (hy : lk m y = none) : Bf rs p d A (B ++ [y]) (m ++ [(y, d + 1)]) fun x => x = u := by
  have ls := lk_snoc (k := d + 1) hy
  have ne : ∀ x, lk m x ≠ none → x ≠ y := fun x hx e => hx (e ▸ hy)
  have mono : ∀ x, lk m x ≠ none → lk (m ++ [(y, d + 1)]) x ≠ none := fun x hx => by rw [ls, if_neg (ne x hx)]; exact hx
  refine ⟨fun x k e => ?_, fun a q => ?_, fun b q => ?_, fun x hx h1 h2 h3 z hz => ?_, fun z e q he => mono z (h.i5 z e q he)⟩
  · rw [ls] at e
    by_cases q : x = y
    · rw [if_pos q] at e
      cases e
      rw [q]
      obtain ⟨j, hj, dj⟩ := (h.i1 u d hu).next ha
      by_cases z : j ≤ d
      · exact absurd hy (h.i5 y j dj z)
      · obtain rfl : j = d + 1 := by omega
        exact dj
    · rw [if_neg q] at e
      exact h.i1 x k e
  · have := h.ia a q
    rw [ls, if_neg (ne a (by rw [this]; intro z; cases z))]
    exact this
  · rcases List.mem_append.mp q with q | q
    · have := h.ib b q
      rw [ls, if_neg (ne b (by rw [this]; intro z; cases z))]
      exact this
    · rw [ls, if_pos (List.mem_singleton.mp q)]
  · rw [ls] at hx
    have nx : x ≠ y := fun q => h2 (List.mem_append.mpr (.inr (List.mem_singleton.mpr q)))
    rw [if_neg nx] at hx
    exact mono z (h.i4 x hx h1 (fun q => h2 (List.mem_append.mpr (.inl q))) h3 z hz)
theorem Bf.close (h : Bf rs p d A B m fun x => x = u) (hn : ∀ y, Adj rs u y → lk m y ≠ none) : Bf rs p d A B m fun _ => False :=
  ⟨h.i1, h.ia, h.ib, fun x hx ha hb _ => by
    by_cases q : x = u
    · rw [q]; exact hn
    · exact h.i4 x hx ha hb q, h.i5⟩
theorem Bf.shift (h : Bf rs p d [] B m fun _ => False) : Bf rs p (d + 1) B [] m fun _ => False := by
  refine ⟨h.i1, h.ib, fun b hb => (by cases hb), fun x hx ha _ _ => h.i4 x hx (fun z => by cases z) ha id, fun y e q he => ?_⟩
  by_cases z : e ≤ d
  · exact h.i5 y e q z
  · obtain rfl : e = d + 1 := by omega
    obtain ⟨x, dx, a⟩ := q.pred
    have vx := h.i5 x d dx (Nat.le_refl _)
    refine h.i4 x vx (fun z => by cases z) (fun z => ?_) id y a
    have e1 := h.i1 _ _ (h.ib x z)
    have := e1.uniq dx
    omega
theorem Bf.done (h : Bf rs p d [] [] m fun _ => False) : ∀ x k, Dst rs p x k → lk m x = some k := by
  have vis : ∀ k x, Rch rs p k x → lk m x ≠ none := by
    intro k x r
    induction r with
    | z => exact h.i5 _ 0 .zero (Nat.zero_le _)
    | s _ a ih => exact h.i4 _ ih (fun z => by cases z) (fun z => by cases z) id _ a
  intro x k q
  obtain ⟨j, e⟩ := some_of (vis k x q.1)
  rw [e, (h.i1 x j e).uniq q]
end
/-- the roads at a place, as they stand -/
def rdsN : List (Int × Int) → Int → Nat → List (Int × Int)
  | [], _, _ => []
  | q :: rs, p, i => if q.1 = p ∨ q.2 = p then (q.1 + q.2 - p, (i : Int)) :: rdsN rs p (i + 1) else rdsN rs p (i + 1)
theorem rdsN_snoc : ∀ (as : List (Int × Int)) (q : Int × Int) (p : Int) (k : Nat), rdsN (as ++ [q]) p k = rdsN as p k ++ (if q.1 = p ∨ q.2 = p then [(q.1 + q.2 - p, ((k + as.length : Nat) : Int))] else [])
  | [], q, p, k => by
    show (if q.1 = p ∨ q.2 = p then (q.1 + q.2 - p, (k : Int)) :: [] else []) = _
    rfl
  | a :: as, q, p, k => by
    have ih := rdsN_snoc as q p (k + 1)
    have e : k + 1 + as.length = k + (a :: as).length := by rw [List.length_cons]; omega
    rw [e] at ih
    show (if a.1 = p ∨ a.2 = p then _ :: rdsN (as ++ [q]) p (k + 1) else rdsN (as ++ [q]) p (k + 1)) = (if a.1 = p ∨ a.2 = p then _ :: rdsN as p (k + 1) else rdsN as p (k + 1)) ++ _
    rw [ih]
    split <;> rfl
theorem rdsN_len : ∀ (as : List (Int × Int)) (p : Int) (k : Nat), (rdsN as p k).length ≤ as.length
  | [], _, _ => Nat.le_refl _
  | a :: as, p, k => by
    have ih := rdsN_len as p (k + 1)
    show (if a.1 = p ∨ a.2 = p then _ :: rdsN as p (k + 1) else rdsN as p (k + 1)).length ≤ _
    split
    · rw [List.length_cons, List.length_cons]; omega
    · rw [List.length_cons]; omega
theorem rdsN_mem {y r p : Int} : ∀ (as : List (Int × Int)) (k : Nat), (y, r) ∈ rdsN as p k → Adj as p y
  | a :: as, k, h => by
    have h' : (y, r) ∈ (if a.1 = p ∨ a.2 = p then (a.1 + a.2 - p, (k : Int)) :: rdsN as p (k + 1) else rdsN as p (k + 1)) := h
    have more : (y, r) ∈ rdsN as p (k + 1) → Adj (a :: as) p y := fun z => (rdsN_mem as (k + 1) z).elim (fun z => .inl (List.mem_cons_of_mem _ z)) fun z => .inr (List.mem_cons_of_mem _ z)
    split at h'
    · rename_i c
      rcases List.mem_cons.mp h' with e | z
      · have e1 : y = a.1 + a.2 - p := congrArg Prod.fst e
        rcases c with c | c
        · refine .inl (List.mem_cons.mpr (.inl ?_))
          exact Prod.ext c.symm (by show y = a.2; omega)
        · refine .inr (List.mem_cons.mpr (.inl ?_))
          exact Prod.ext (by show y = a.1; omega) c.symm
      · exact more z
    · exact more h'
theorem rdsN_adj {y p : Int} : ∀ (as : List (Int × Int)) (k : Nat), Adj as p y → ∃ r, (y, r) ∈ rdsN as p k
  | [], _, h => by rcases h with h | h <;> cases h
  | a :: as, k, h => by
    have more : Adj as p y → ∃ r, (y, r) ∈ rdsN (a :: as) p k := fun z => by
      obtain ⟨r, hr⟩ := rdsN_adj as (k + 1) z
      refine ⟨r, ?_⟩
      show (y, r) ∈ (if a.1 = p ∨ a.2 = p then _ :: rdsN as p (k + 1) else rdsN as p (k + 1))
      split
      · exact List.mem_cons_of_mem _ hr
      · exact hr
    have here : (a.1 = p ∨ a.2 = p) → a.1 + a.2 - p = y → ∃ r, (y, r) ∈ rdsN (a :: as) p k := fun c e => by
      refine ⟨(k : Int), ?_⟩
      show (y, (k : Int)) ∈ (if a.1 = p ∨ a.2 = p then (a.1 + a.2 - p, (k : Int)) :: rdsN as p (k + 1) else rdsN as p (k + 1))
      rw [if_pos c, e]
      exact List.mem_cons_self
    rcases h with h | h
    · rcases List.mem_cons.mp h with e | z
      · subst e
        exact here (.inl rfl) (by show p + y - p = y; omega)
      · exact more (.inl z)
    · rcases List.mem_cons.mp h with e | z
      · subst e
        exact here (.inr rfl) (by show y + p - p = y; omega)
      · exact more (.inr z)
theorem dp_at {rs : List (Int × Int)} {i : Nat} {d : PyData} (h : (rs.map dP)[i]? = some d) : ∃ q, rs[i]? = some q ∧ d = dP q := by
  rw [List.getElem?_map] at h
  cases e : rs[i]? with
  | none => rw [e] at h; cases h
  | some l => rw [e] at h; exact ⟨l, rfl, (Option.some.inj h).symm⟩
theorem eqv_ii (a b : Int) : PyData.eqv (.int a) (.int b) = decide (a = b) := by simp only [PyData.eqv]; first | rfl | exact beq_eq_decide a b
theorem g_in2 {a b p : Int} {k : Avl → Prop} (h : k (.d (.bool (decide (a = p ∨ b = p))))) : gIn false (.d (.int p)) (.d (.tuple [.int a, .int b])) k := by
  refine ⟨_, _, rfl, .inl rfl, rfl, rfl, ?_⟩
  have e : (([.int a, .int b] : List PyData).any fun z => PyData.eqv z (.int p)) = decide (a = p ∨ b = p) := by
    rw [List.any_cons, List.any_cons, List.any_nil, Bool.or_false, eqv_ii, eqv_ii, Bool.decide_or]
  show k (.d (.bool (([.int a, .int b] : List PyData).any fun z => PyData.eqv z (.int p))))
  rw [e]
  exact h
theorem eqv_ints_nil (ws : List Int) : PyData.eqv (.list (ws.map .int)) (.list []) = decide (ws = []) := by cases ws <;> rfl
def Inr (n : Int) (rs : List (Int × Int)) : Prop := ∀ p ∈ rs, 0 ≤ p.1 ∧ p.1 < p.2 ∧ p.2 < n
theorem adj_rng {n : Int} {rs : List (Int × Int)} {x y : Int} (sh : Inr n rs) (h : Adj rs x y) : 0 ≤ y ∧ y < n := by
  rcases h with h | h
  · have := sh _ h; constructor <;> simp at this <;> omega
  · have := sh _ h; constructor <;> simp at this <;> omega
theorem any_ints (ws : List Int) (a : Int) : ((ws.map PyData.int).any fun z => PyData.eqv z (.int a)) = decide (a ∈ ws) := by
  induction ws with
  | nil => rfl
  | cons w ws ih =>
    rw [List.map_cons, List.any_cons, ih, eqv_ii]
    by_cases h : w = a
    · rw [decide_eq_true h, Bool.true_or, decide_eq_true (List.mem_cons.mpr (.inl h.symm))]
    · rw [decide_eq_false h, Bool.false_or]
      by_cases g : a ∈ ws
      · rw [decide_eq_true g, decide_eq_true (List.mem_cons_of_mem _ g)]
      · rw [decide_eq_false g, decide_eq_false (fun z => (List.mem_cons.mp z).elim (fun e => h e.symm) g)]
theorem shaped_ti (ws : List Int) : SeqAt.shaped (.tuple (ws.map .int)) = true := by
  refine shaped_of ?_ ?_
  · simp only [PyData.canLay0]
    exact canLay_ints ws
  · simp only [PyData.depth, depth_ints]
    omega
theorem g_niI {y : Avl} {ws : List Int} {a : Int} {k : Avl → Prop} (e : y.lst = some (ws.map .int)) (h : k (.d (.bool (!decide (a ∈ ws))))) : gIn true (.d (.int a)) y k := by
  refine ⟨_, _, rfl, .inr e, rfl, shaped_ti ws, ?_⟩
  show k (.d (.bool (!((ws.map PyData.int).any fun z => PyData.eqv z (.int a)))))
  rw [any_ints]
  exact h
structure Lv (rs : List (Int × Int)) (p : Int) (c : Nat) (m : List (Int × Nat)) (near : List Int) : Prop where
  v1 : ∀ x k, lk m x = some k → Dst rs p x k ∧ k ≤ c
  v2 : ∀ x k, Dst rs p x k → k ≤ c → lk m x = some k
  v3 : ∀ x, x ∈ near ↔ Dst rs p x c
section
variable {rs : List (Int × Int)} {p : Int} {c : Nat} {m m' : List (Int × Nat)} {near F : List Int}
theorem Lv.start : Lv rs p 0 [(p, 0)] [p] := by
  have l1 : lk [(p, 0)] p = some 0 := by simp [lk]
  refine ⟨fun x k h => ?_, fun x k h hk => ?_, fun x => ?_⟩
  · have := lk_mem h
    simp at this
    obtain ⟨rfl, rfl⟩ := this
    exact ⟨.zero, Nat.le_refl _⟩
  · obtain rfl : k = 0 := by omega
    rw [h.nil]; exact l1
  · rw [List.mem_singleton]
    exact ⟨fun e => e ▸ .zero, fun h => h.nil⟩
/-- what an edge from a near place to one not found tells -/
theorem Lv.new {x y : Int} (h : Lv rs p c m near) (hx : x ∈ near) (hy : lk m y = none) (a : Adj rs x y) : Dst rs p y (c + 1) := by
  obtain ⟨j, hj, d⟩ := ((h.v3 x).mp hx).next a
  by_cases z : j ≤ c
  · rw [h.v2 y j d z] at hy; cases hy
  · obtain rfl : j = c + 1 := by omega
    exact d
theorem Lv.next (h : Lv rs p c m near) (hF : ∀ y ∈ F, Dst rs p y (c + 1)) (hG : ∀ x y, x ∈ near → Adj rs x y → lk m y = none → y ∈ F) (hm : ∀ y, lk m' y = if y ∈ F then some (c + 1) else lk m y) : Lv rs p (c + 1) m' F := by
  have no : ∀ y, Dst rs p y (c + 1) → lk m y = none := fun y d => by
    cases q : lk m y with
    | none => rfl
    | some k =>
      obtain ⟨d2, hk⟩ := h.v1 y k q
      have := d.uniq d2
      omega
  have full : ∀ y, Dst rs p y (c + 1) → y ∈ F := fun y d => by
    obtain ⟨x, dx, a⟩ := d.pred
    exact hG x y ((h.v3 x).mpr dx) a (no y d)
  refine ⟨fun x k e => ?_, fun x k d hk => ?_, fun x => ⟨hF x, full x⟩⟩
  · rw [hm] at e
    split at e
    · rename_i c1
      cases e
      exact ⟨hF x c1, Nat.le_refl _⟩
    · obtain ⟨d, hk⟩ := h.v1 x k e
      exact ⟨d, by omega⟩
  · rw [hm]
    by_cases z : k ≤ c
    · have e := h.v2 x k d z
      rw [if_neg (fun q => by rw [no x (hF x q)] at e; cases e)]
      exact e
    · obtain rfl : k = c + 1 := by omega
      rw [if_pos (full x d)]
theorem dst_down {x : Int} : ∀ {k : Nat}, Dst rs p x k → c ≤ k → ∃ y, Dst rs p y c := by
  intro k
  induction k generalizing x with
  | zero => intro d h; obtain rfl : c = 0 := (by omega); exact ⟨x, d⟩
  | succ k ih =>
    intro d h
    by_cases z : c = k + 1
    · subst z; exact ⟨x, d⟩
    · obtain ⟨w, dw, _⟩ := d.pred
      exact ih dw (by omega)
theorem Lv.done (h : Lv rs p c m []) : ∀ x k, Dst rs p x k → lk m x = some k := fun x k d => by
  by_cases z : c ≤ k
  · obtain ⟨y, dy⟩ := dst_down d z
    exact absurd ((h.v3 y).mpr dy) (by simp)
  · exact h.v2 x k d (by omega)
/-- all steps from a place -/
def DsL (n : Int) (rs : List (Int × Int)) (p : Int) (ds : List Int) : Prop := ds.length = n.toNat ∧ ∀ i : Nat, i < n.toNat → ∃ d : Nat, ds[i]? = some (d : Int) ∧ Dst rs p (i : Int) d
theorem DsL.uniq {n : Int} {ds es : List Int} (h : DsL n rs p ds) (g : DsL n rs p es) : ds = es := by
  refine List.ext_getElem? fun i => ?_
  by_cases hi : i < n.toNat
  · obtain ⟨d, e1, d1⟩ := h.2 i hi
    obtain ⟨e, e2, d2⟩ := g.2 i hi
    rw [e1, e2, d1.uniq d2]
  · rw [List.getElem?_eq_none (by rw [h.1]; omega), List.getElem?_eq_none (by rw [g.1]; omega)]
end
theorem intd_at {ls : List Int} {i : Nat} {y : PyData} (h : (ls.map PyData.int)[i]? = some y) : ∃ l, ls[i]? = some l ∧ y = .int l := by
  rw [List.getElem?_map] at h
  cases e : ls[i]? with
  | none => rw [e] at h; cases h
  | some l => rw [e] at h; exact ⟨l, rfl, (Option.some.inj h).symm⟩
theorem sort_uniq {qs ts rs : List (Int × Int)} (p1 : qs.Perm rs) (s1 : qs.Pairwise (fun p q => SrtO.lexB q p = false)) (p2 : ts.Perm rs) (s2 : ts.Pairwise (fun p q => SrtO.lexB q p = false)) : qs = ts := by
  refine List.Perm.eq_of_pairwise (fun a b _ _ h1 h2 => ?_) s1 s2 (p1.trans p2.symm)
  have a1 := SrtO.lexB_no.mp h1
  have a2 := SrtO.lexB_no.mp h2
  exact Prod.ext (by omega) (by omega)
theorem dst_row {n : Int} {rs : List (Int × Int)} {p : Int} (sh : Inr n rs) (p0 : 0 ≤ p) (p1 : p < n) : ∀ {k : Nat} {x : Int}, Dst rs p x k → ∃ l : List Int, l.length = k + 1 ∧ l.Nodup ∧ ∀ y ∈ l, (0 ≤ y ∧ y < n) ∧ ∃ c, c ≤ k ∧ Dst rs p y c := by
  intro k
  induction k with
  | zero =>
    intro x d
    have e := d.nil
    subst e
    exact ⟨[x], rfl, by simp, fun y hy => by rw [List.mem_singleton.mp hy]; exact ⟨⟨p0, p1⟩, 0, Nat.le_refl _, d⟩⟩
  | succ k ih =>
    intro x d
    obtain ⟨w, dw, a⟩ := d.pred
    obtain ⟨l, l1, l2, l3⟩ := ih dw
    refine ⟨x :: l, by rw [List.length_cons, l1], List.nodup_cons.mpr ⟨fun h => ?_, l2⟩, fun y hy => ?_⟩
    · obtain ⟨_, c, hc, dc⟩ := l3 x h
      have := d.uniq dc
      omega
    · rcases List.mem_cons.mp hy with e | h
      · rw [e]; exact ⟨adj_rng sh a, k + 1, Nat.le_refl _, d⟩
      · obtain ⟨r, c, hc, dc⟩ := l3 y h
        exact ⟨r, c, by omega, dc⟩
theorem dst_le {n : Int} {rs : List (Int × Int)} {p x : Int} {k : Nat} (sh : Inr n rs) (p0 : 0 ≤ p) (p1 : p < n) (d : Dst rs p x k) : (k : Int) < n := by
  obtain ⟨l, l1, l2, l3⟩ := dst_row sh p0 p1 d
  have := nodup_len (r := iota n.toNat) l2 fun y hy => by
    obtain ⟨r, _⟩ := l3 y hy
    unfold iota
    exact List.mem_map.mpr ⟨y.toNat, List.mem_range.mpr (by omega), by omega⟩
  rw [l1, iota_len] at this
  omega
theorem DsL.at {n : Int} {rs : List (Int × Int)} {p q : Int} {ds : List Int} (h : DsL n rs p ds) (h0 : 0 ≤ q) (h1 : q < n) : ∃ d : Nat, atI (ds.map PyData.int) q = some (.int (d : Int)) ∧ Dst rs p q d := by
  obtain ⟨d, e, dd⟩ := h.2 q.toNat (by omega)
  rw [show ((q.toNat : Nat) : Int) = q from by omega] at dd
  refine ⟨d, ?_, dd⟩
  have := atI_nat (xs := ds.map PyData.int) (j := q.toNat) (v := .int (d : Int)) (by rw [List.getElem?_map, e]; rfl)
  rwa [show ((q.toNat : Nat) : Int) = q from by omega] at this
theorem DsL.okd {n : Int} {rs : List (Int × Int)} {p : Int} {ds : List Int} (h : DsL n rs p ds) (sh : Shape n rs) (hn : n ≤ 40) (p0 : 0 ≤ p) (p1 : p < n) : Okx (dIs ds) 1 4922 := by
  refine (okd_dIs (m := 40) (fun i hi => ?_) (by rw [h.1]; omega)).x
  obtain ⟨j, hj, rfl⟩ := List.mem_iff_getElem.mp hi
  rw [h.1] at hj
  obtain ⟨d, e, dd⟩ := h.2 j hj
  have := dst_le sh.ok p0 p1 dd
  have e2 : ds[j] = (d : Int) := Option.some.inj ((List.getElem?_eq_getElem _).symm.trans e)
  rw [e2]
  omega
end UW
namespace UW
open PySem PySem.Spec PyProof.Rows L2
/-- one step -/
local macro_rules | `(tactic| walk_at "a1") => `(tactic| first
  | with_reducible refine wk ?_
  | (with_reducible refine rs_go 1 ?_
     first
     | with_reducible refine a_var (by with_unfolding_all rfl) (by with_unfolding_all rfl) ?_
     | with_reducible refine a_gtup (by with_unfolding_all rfl) (by with_unfolding_all rfl) ?_
     | with_reducible refine a_glst (by with_unfolding_all rfl) (by with_unfolding_all rfl) ?_)
  | (with_reducible refine rs_go 2 ?_
     first
     | with_reducible refine g_ixT (by with_unfolding_all rfl) (by first | with_unfolding_all rfl | with_unfolding_all exact at_zero _ _) ?_
     | with_reducible refine g_ixL (by with_unfolding_all rfl) (by first | with_unfolding_all rfl | with_unfolding_all exact at_zero _ _) ?_)
  | (with_reducible refine rs_go 3 ?_
     first
     | with_reducible refine g_lenT (by with_unfolding_all rfl) ?_
     | with_reducible refine g_lenL (by with_unfolding_all rfl) ?_
     | with_reducible refine g_tupL (by with_unfolding_all rfl) ?_
     | with_reducible refine g_tupT (by with_unfolding_all rfl) ?_
     | with_reducible refine g_lstT (by with_unfolding_all rfl) ?_
     | with_reducible refine g_lstL (by with_unfolding_all rfl) ?_)
  | (with_reducible refine rs_go 4 ?_
     first
     | with_reducible refine g_addL (by with_unfolding_all rfl) (by with_unfolding_all rfl) (Nat.le_of_ble_eq_true (by with_unfolding_all rfl)) ?_
     | with_reducible refine g_mulI (by first | exact Or.inl ⟨by decide, by decide⟩ | exact Or.inr ⟨by decide, by decide⟩ | (first | (refine Or.inl ⟨?_, ?_⟩ <;> omega) | (refine Or.inr ⟨?_, ?_⟩ <;> omega))) ?_
     | with_reducible refine g_mod (by first | decide | omega) ?_
     | with_reducible refine g_div (by first | decide | omega) (by first | decide | omega) ?_
     | with_reducible refine g_slT (by with_unfolding_all rfl) ?_
     | with_reducible refine g_slL (by with_unfolding_all rfl) ?_
     | with_reducible refine g_isN (by with_unfolding_all rfl) ?_
     | with_reducible refine g_notN (by with_unfolding_all rfl) ?_)
  | (with_reducible refine rs_go 5 ?_
     first
     | with_reducible refine a_dget (by with_unfolding_all rfl) ?_
     | with_reducible refine a_dget2 (by with_unfolding_all rfl) ?_
     | with_reducible refine a_fzq (by with_unfolding_all rfl) ?_
     | with_reducible refine a_retC (by with_unfolding_all rfl) ?_
     | with_reducible refine a_isX (by with_unfolding_all rfl) ?_
     | with_reducible refine a_app (by with_unfolding_all rfl) ?_
     | with_reducible refine a_ext (by with_unfolding_all rfl) ?_
     | with_reducible refine a_pop (by with_unfolding_all rfl) ?_
     | with_reducible refine a_fz (by with_unfolding_all rfl) ?_
     | with_reducible refine a_lenDV (by with_unfolding_all rfl) ?_)
  | (with_reducible refine rs_go 6 ?_
     first
     | with_reducible refine a_cl (by with_unfolding_all rfl) ?_
     | with_reducible refine a_dat (by with_unfolding_all rfl) ?_
     | with_reducible refine a_s1 (by with_unfolding_all rfl) ?_
     | with_reducible refine a_dcy (by with_unfolding_all rfl) ?_
     | with_reducible refine a_s2 (by with_unfolding_all rfl) (by with_unfolding_all rfl) ?_
     | with_reducible refine a_s3 (by with_unfolding_all rfl) (by with_unfolding_all rfl) (by with_unfolding_all rfl) ?_
     | with_reducible refine a_owned (by with_unfolding_all rfl) ?_)
  | (with_reducible refine rs_go 7 ?_
     first
     | with_reducible refine i_B (by with_unfolding_all rfl) ?_
     | with_reducible refine i_T (by with_unfolding_all rfl) ?_
     | with_reducible refine i_L (by with_unfolding_all rfl) ?_)
  | (with_reducible refine rs_go 8 ?_
     first
     | with_reducible refine a_nb (by with_unfolding_all rfl) ?_
     | with_reducible refine a_len (by with_unfolding_all rfl) ?_
     | with_reducible refine a_revT (by with_unfolding_all rfl) ?_
     | with_reducible refine a_revL (by with_unfolding_all rfl) ?_)
  | (with_reducible refine rs_go 9 ?_
     first
     | with_reducible refine iteNT (by with_unfolding_all rfl) ?_
     | with_reducible refine iteNF (by with_unfolding_all rfl) ?_
     | with_reducible refine iteIT (by with_unfolding_all rfl) ?_
     | with_reducible refine iteIF (by with_unfolding_all rfl) ?_))
local macro_rules | `(tactic| walk_at "ax") => `(tactic| (repeat (first | walk_at "a1" | with_reducible refine a_if ?_); try dsimp only [List.set_cons_zero, List.set_cons_succ, awipe, aFrz, List.getElem?_cons_zero, List.getElem?_cons_succ]))
local macro_rules | `(tactic| walk_at "ay") => `(tactic| (repeat (walk_at "a1"); try dsimp only [List.set_cons_zero, List.set_cons_succ, awipe, aFrz, List.getElem?_cons_zero, List.getElem?_cons_succ]))
/-- roads_at, slots web, place, found, road, one, other -/
def t_roads_at (K : Fg) : TS :=
  (tSeq (tAsg (tLst tNil) (gName 2)) (tSeq (tFor (iEnumV K (tCons (tOp (rIx K) (tVar 0) (tC (.int 1))) tNil)) (gTup K 2 (gCons (gName 3)
    (gCons (gTup K 2 (gCons (gName 4) (gCons (gName 5) gNil))) gNil))) (tIfS (tTest (tOp (rInU K) (tVar 1) (tTup (tCons (tVar 4) (tCons (tVar 5) tNil))))) (tDrop (tBM K "list" rAppend (tVar 2) (tCons (tTup (tCons (tOp rSubI (tOp
    (rAddU K) (tVar 4) (tVar 5)) (tVar 1)) (tCons (tVar 3) tNil))) tNil))) tNext)) (tRet (tCB (rTupOf K) (tCons (tCB (rSortP K) (tCons (tVar 2) tNil)) tNil)))))
abbrev a_roads_at_0 : ASt :=
  (aRet (aCB gTupOf (bCons (aCB gSortP (bCons (aVar 2) bNil)) bNil)))
abbrev a_roads_at_1 : ASt :=
  (aSeq (aFor (aEnum (bCons (aOp gIx (aVar 0) (aC (.int 1))) bNil)) (agTup 2 (agCons (agName 3) (agCons (agTup 2 (agCons (agName 4) (agCons (agName 5) agNil))) agNil))) (aIfS (aB (aOp (gIn false) (aVar
    1) (aTup (aCons (aVar 4) (aCons (aVar 5) aNil))))) (aApp 2 (aTup (aCons (aOp gSub' (aOp gAdd (aVar 4) (aVar 5)) (aVar 1)) (aCons (aVar 3) aNil)))) aNext)) a_roads_at_0)
abbrev a_roads_at : ASt :=
  (aSeq (aSet 2 (aLst aNil)) a_roads_at_1)
theorem f_roads_at {K : Fg} {E : WX} : RSt K E (t_roads_at K) a_roads_at :=
  (rs_seq (rs_set (re_lst ra_nil)) (rs_seq (rs_for (ri_enum (rv_cons (re_op ro_ix re_var re_int) rv_nil)) (rg_tup (rgs_cons rg_name (rgs_cons (rg_tup
    (rgs_cons rg_name (rgs_cons rg_name rgs_nil))) rgs_nil))) (rs_ifs (rt_test (re_op ro_in re_var (re_tup (ra_cons re_var (ra_cons re_var ra_nil))))) (rs_app (re_tup (ra_cons (re_op ro_sub (re_op ro_add re_var re_var) re_var)
    (ra_cons re_var ra_nil)))) rs_next)) (rs_ret (re_cb rb_tupOf (rv_cons (re_cb rb_sortP (rv_cons re_var rv_nil)) rv_nil)))))
def m_roads_at : AFn := mOf 4 a_roads_at
def sp_roads_at (K : Fg) : Sp := SpA K 2 m_roads_at
theorem br_roads_at {K : Fg} : ∀ vs H Q E, SpA K 2 m_roads_at vs H Q E → sp_roads_at K vs H Q E := fun _ _ _ _ h => h
theorem l_roads_at {K : Fg} : ∀ vs H Q E, sp_roads_at K vs H Q E → vs.length = 2 := l_spa
theorem p_roads_at {K : Fg} {vs : List V} {H : Hp} {Q : VK} {E : XK} (h : sp_roads_at K vs H Q E) : t_roads_at K { nx := fun _ H' => Q .non H', rt := Q } (L2.start ["web", "place", "found", "road", "one", "other"] vs) H :=
  p_spa (f_roads_at) h rfl
/-- steps_known, slots web, place, waiting, here, mate, road, steps -/
def t_steps_known (K : Fg) : TS :=
  (tSeq (tPar 6 2 (tCons (tDisp [((tVar 1), (tC (.int 0)))]) (tCons (tLst (tCons (tVar 1) tNil)) tNil))) (tSeq (tWhile (tTest
    (tOp (rNeU K) (tVar 2) (tLst tNil))) (tSeq (tAsg (tBM K "list" rPopAt (tVar 2) (tCons (tC (.int 0)) tNil)) (gName 3)) (tFor (iSeq K (tG (sp_roads_at K) E00 (tCons (tVar 0) (tCons (tVar 3) tNil)))) (gTup K 2 (gCons (gName 4)
    (gCons (gName 5) gNil))) (tIfS (tB (tDNotIn (tVar 4) (tVar 6))) (tSeq (sDPut (tVar 6) (tVar 4) (tOp (rAddU K) (tDGet (tVar 6) (tVar 3)) (tC (.int 1)))) (tDrop (tBM K "list" rAppend (tVar 2) (tCons (tVar 4) tNil)))) tNext))))
    (tRet (tVar 6))))
abbrev a_steps_known_0 : ASt :=
  (aFor (aSeqI (aCall0 m_roads_at (bCons (aVar 0) (bCons (aVar 3) bNil)))) (agTup 2 (agCons (agName 4) (agCons (agName 5) agNil))) (aIfS (aB (aDNi (aVar 4) 6)) (aSeq (aDPut 6 (aVar 4) (aOp gAdd
    (aDGet 6 (aVar 3)) (aC (.int 1)))) (aApp 2 (aVar 4))) aNext))
abbrev a_steps_known_1 : ASt :=
  (aSeq (aWhile (aB (aOp gNe (aVar 2) (aLst aNil))) (aSeq (aPop 2 3 (aC (.int 0))) a_steps_known_0)) (aRetC 6))
abbrev a_steps_known : ASt :=
  (aSeq (aSet2 6 2 (aDOne (aVar 1) (aC (.int 0))) (aLst (aCons (aVar 1) aNil))) a_steps_known_1)
theorem f_steps_known {K : Fg} {E : WX} : RSt K E (t_steps_known K) a_steps_known :=
  (rs_seq (rs_set2 (re_done re_var re_int) (re_lst (ra_cons re_var ra_nil))) (rs_seq (rs_while (rt_test (re_op ro_ne re_var (re_lst ra_nil)))
    (rs_seq (rs_pop re_int) (rs_for (ri_seq (re_call0 br_roads_at (rv_cons re_var (rv_cons re_var rv_nil)))) (rg_tup (rgs_cons rg_name (rgs_cons rg_name rgs_nil))) (rs_ifs (rt_b (re_dni re_var)) (rs_seq (rs_dput re_var (re_op
    ro_add (re_dget re_var) re_int)) (rs_app re_var)) rs_next)))) rs_retC))
def m_steps_known : AFn := mOf 5 a_steps_known
def sp_steps_known (K : Fg) : Sp := SpA K 2 m_steps_known
theorem br_steps_known {K : Fg} : ∀ vs H Q E, SpA K 2 m_steps_known vs H Q E → sp_steps_known K vs H Q E := fun _ _ _ _ h => h
theorem l_steps_known {K : Fg} : ∀ vs H Q E, sp_steps_known K vs H Q E → vs.length = 2 := l_spa
theorem p_steps_known {K : Fg} {vs : List V} {H : Hp} {Q : VK} {E : XK} (h : sp_steps_known K vs H Q E) : t_steps_known K { nx := fun _ H' => Q .non H', rt := Q } (L2.start ["web", "place", "waiting", "here", "mate", "road", "steps"] vs) H :=
  p_spa (f_steps_known) h rfl
section
variable {n : Int} {rs : List (Int × Int)} {ms ls : List Int} {x : AXc} {k : Avl → Prop} {C : Cl}
theorem s_roads_at {p : Int} (hl : rs.length ≤ 1000) (h : ∀ qs : List (Int × Int), qs.Perm (rdsN rs p 0) → qs.Pairwise (fun p q => SrtO.lexB q p = false) → k (.d (dPs qs))) : m_roads_at [.d (dWeb n rs ms), .d (.int p)] x k := by
  show a_roads_at _ [.d (dWeb n rs ms), .d (.int p), .x, .x, .x, .x]
  walk_at "ax"
  refine a_loop (fun i α => ∃ x3 x4 x5, α = [.d (dWeb n rs ms), .d (.int p), .own ((rdsN (rs.take i) p 0).map dP), x3, x4, x5]) ?_ ?_ ?_
  · exact ⟨_, _, _, rfl⟩
  · rintro i y α hy ⟨x3, x4, x5, rfl⟩
    obtain ⟨d, hd, rfl⟩ := enD_at hy
    obtain ⟨q, hq, rfl⟩ := dp_at hd
    have hi := (List.getElem?_eq_some_iff.mp hq).1
    have et : rs.take (i + 1) = rs.take i ++ [q] := by rw [List.take_add_one, hq]; rfl
    have es := rdsN_snoc (rs.take i) q p 0
    rw [← et, List.length_take, Nat.min_eq_left (by omega), Nat.zero_add] at es
    have ln := rdsN_len (rs.take i) p 0
    rw [List.length_take] at ln
    walk_at "ax"
    refine g_in2 ?_
    walk_at "ax"
    refine s_dec (fun c => ?_) (fun c => ?_)
    · walk_at "ax"
      rw [if_pos c] at es
      rw [es, List.map_append]
      exact ⟨by rw [List.length_map]; omega, _, _, _, rfl⟩
    · walk_at "ax"
      rw [if_neg c, List.append_nil] at es
      rw [es]
      exact ⟨_, _, _, rfl⟩
  · rintro α ⟨x3, x4, x5, rfl⟩
    rw [enD_len, List.length_map, List.take_length]
    walk_at "ax"
    refine ⟨_, rdsN rs p 0, rfl, rfl, fun qs pm sr => ?_⟩
    walk_at "ax"
    exact h qs pm sr
theorem s_steps_known {p : Int} (sh : Inr n rs) (hl : rs.length ≤ 1000) (hn : n ≤ 1000) (p0 : 0 ≤ p) (p1 : p < n) (h : ∀ m : List (Int × Nat), Kys n m → (∀ x k, Dst rs p x k → lk m x = some k) → (∀ x k, lk m x = some k → Dst rs p x k) → k (.k (.k (dI m)))) : m_steps_known [.d (dWeb n rs ms), .d (.int p)] x k := by
  show a_steps_known _ [.d (dWeb n rs ms), .d (.int p), .x, .x, .x, .x, .x]
  walk_at "ax"
  refine a_while (fun c α => ∃ m d A B x3 x4 x5, α = [.d (dWeb n rs ms), .d (.int p), .own ((A ++ B).map .int), x3, x4, x5, .dic (.k (dI m))] ∧ Bf rs p d A B m (fun _ => False) ∧ Kys n m ∧ (A = [] → B = []) ∧ c = 2 * (n.toNat - m.length) + (A ++ B).length ∧ c ≤ 2001) (2 * (n.toNat - 1) + 1) ?_ ?_
  · exact ⟨[(p, 0)], 0, [p], [], _, _, _, rfl, Bf.start, Kys.one p0 p1, fun z => (by cases z), rfl, by omega⟩
  · rintro c α ⟨m, d, A, B, x3, x4, x5, rfl, bf, ky, ab, hc, hcc⟩
    walk_at "ax"
    refine g_neD rfl rfl (shaped_ints (A ++ B)) rfl ?_
    rw [eqv_ints_nil]
    walk_at "ax"
    refine s_ndec (fun z => ?_) (fun z => ?_)
    · obtain ⟨u, A, rfl⟩ : ∃ u A', A = u :: A' := by
        cases A with
        | nil => exact absurd (by rw [ab rfl]; rfl) z
        | cons u A => exact ⟨u, A, rfl⟩
      have hu := bf.ia u List.mem_cons_self
      have ur := ky.2 _ (lk_mem hu)
      walk_at "ax"
      refine ⟨0, .int u, rfl, rfl, by decide, ?_⟩
      walk_at "ax"
      refine s_roads_at hl fun qs pm sr => ⟨?_, fun z => by cases z⟩
      walk_at "ax"
      refine a_loop (fun i α => ∃ m B x4 x5, α = [.d (dWeb n rs ms), .d (.int p), .own ((A ++ B).map .int), .d (.int u), x4, x5, .dic (.k (dI m))] ∧ Bf rs p d A B m (fun x => x = u) ∧ Kys n m ∧ lk m u = some d ∧ (∀ q ∈ qs.take i, lk m q.1 ≠ none) ∧ 2 * (n.toNat - m.length) + (A ++ B).length + 1 ≤ c) ?_ ?_ ?_
      · refine ⟨m, B, _, _, rfl, bf.pop, ky, hu, fun q hq => (by cases hq), ?_⟩
        rw [hc]
        simp only [List.length_append, List.length_cons]
        omega
      · rintro i y α hy ⟨m, B, x4, x5, rfl, bf, ky, hu, hv, hm⟩
        obtain ⟨q, hq, rfl⟩ := dp_at hy
        have et : qs.take (i + 1) = qs.take i ++ [q] := by rw [List.take_add_one, hq]; rfl
        have ha : Adj rs u q.1 := rdsN_mem (r := q.2) rs 0 (pm.mem_iff.mp (List.mem_of_getElem? hq))
        have qr := adj_rng sh ha
        have kl := ky.len
        walk_at "ax"
        refine a_dinI ?_
        rw [find_dI]
        cases q1 : lk m q.1 with
        | some j =>
          walk_at "ax"
          refine iteF ?_
          walk_at "ax"
          refine ⟨m, B, _, _, rfl, bf, ky, hu, fun r hr => ?_, hm⟩
          rw [et] at hr
          rcases List.mem_append.mp hr with hr | hr
          · exact hv r hr
          · rw [List.mem_singleton.mp hr, q1]
            intro z
            cases z
        | none =>
          have ne : q.1 ≠ u := fun e => by rw [e, hu] at q1; cases q1
          have l2 := lk_snoc (k := d + 1) q1
          have k2 := ky.snoc (k := d + 1) q1 qr.1 qr.2
          have kl2 := k2.len
          rw [List.length_append, List.length_singleton] at kl2
          walk_at "ax"
          refine iteT ?_
          walk_at "ax"
          refine a_dgI (x := .int (d : Int)) (by rw [find_dI, hu]; rfl) ?_
          walk_at "ax"
          refine a_dpI (kvs := dI m) (by unfold dI; rw [List.length_map]; omega) ?_
          rw [show ((d : Int) + 1) = ((d + 1 : Nat) : Int) from by omega, put_dI q1]
          walk_at "ax"
          refine ⟨?_, m ++ [(q.1, d + 1)], B ++ [q.1], _, _, by rw [← List.append_assoc, List.map_append (f := PyData.int) (l₂ := [q.1])]; rfl, bf.add hu ha q1, k2, ?_, fun r hr => ?_, ?_⟩
          · rw [List.length_map]; omega
          · rw [l2, if_neg (fun e => ne e.symm)]
            exact hu
          · rw [l2]
            split
            · intro z; cases z
            · rename_i c2
              rw [et] at hr
              rcases List.mem_append.mp hr with hr | hr
              · exact hv r hr
              · exact absurd (congrArg Prod.fst (List.mem_singleton.mp hr)) c2
          · simp only [List.length_append, List.length_cons, List.length_nil] at hm ⊢
            omega
      · rintro α ⟨m, B, x4, x5, rfl, bf, ky, hu, hv, hm⟩
        rw [List.length_map, List.take_length] at hv
        have bf2 := bf.close fun y hy => by
          obtain ⟨r, hr⟩ := rdsN_adj rs 0 hy
          exact hv (y, r) (pm.mem_iff.mpr hr)
        cases A with
        | nil =>
          refine ⟨2 * (n.toNat - m.length) + ([] ++ B : List Int).length, by omega, m, d + 1, B, [], _, _, _, by rw [List.append_nil]; rfl, bf2.shift, ky, fun _ => rfl, by rw [List.append_nil]; rfl, by omega⟩
        | cons a A =>
          exact ⟨2 * (n.toNat - m.length) + (a :: A ++ B).length, by omega, m, d, a :: A, B, _, _, _, rfl, bf2, ky, fun z => (by cases z), rfl, by omega⟩
    · obtain ⟨rfl, rfl⟩ := List.append_eq_nil_iff.mp z
      walk_at "ax"
      exact h m ky bf.done bf.i1
end
end UW
namespace UW
open PySem PySem.Spec PyProof.Rows L2
/-- one step -/
local macro_rules | `(tactic| walk_at "a1") => `(tactic| first
  | with_reducible refine wk ?_
  | (with_reducible refine rs_go 1 ?_
     first
     | with_reducible refine a_var (by with_unfolding_all rfl) (by with_unfolding_all rfl) ?_
     | with_reducible refine a_gtup (by with_unfolding_all rfl) (by with_unfolding_all rfl) ?_
     | with_reducible refine a_glst (by with_unfolding_all rfl) (by with_unfolding_all rfl) ?_)
  | (with_reducible refine rs_go 2 ?_
     first
     | with_reducible refine g_ixT (by with_unfolding_all rfl) (by first | with_unfolding_all rfl | with_unfolding_all exact at_zero _ _) ?_
     | with_reducible refine g_ixL (by with_unfolding_all rfl) (by first | with_unfolding_all rfl | with_unfolding_all exact at_zero _ _) ?_)
  | (with_reducible refine rs_go 3 ?_
     first
     | with_reducible refine g_lenT (by with_unfolding_all rfl) ?_
     | with_reducible refine g_lenL (by with_unfolding_all rfl) ?_
     | with_reducible refine g_tupL (by with_unfolding_all rfl) ?_
     | with_reducible refine g_tupT (by with_unfolding_all rfl) ?_
     | with_reducible refine g_lstT (by with_unfolding_all rfl) ?_
     | with_reducible refine g_lstL (by with_unfolding_all rfl) ?_)
  | (with_reducible refine rs_go 4 ?_
     first
     | with_reducible refine g_addL (by with_unfolding_all rfl) (by with_unfolding_all rfl) (Nat.le_of_ble_eq_true (by with_unfolding_all rfl)) ?_
     | with_reducible refine g_mulI (by first | exact Or.inl ⟨by decide, by decide⟩ | exact Or.inr ⟨by decide, by decide⟩ | (first | (refine Or.inl ⟨?_, ?_⟩ <;> omega) | (refine Or.inr ⟨?_, ?_⟩ <;> omega))) ?_
     | with_reducible refine g_mod (by first | decide | omega) ?_
     | with_reducible refine g_div (by first | decide | omega) (by first | decide | omega) ?_
     | with_reducible refine g_slT (by with_unfolding_all rfl) ?_
     | with_reducible refine g_slL (by with_unfolding_all rfl) ?_
     | with_reducible refine g_isN (by with_unfolding_all rfl) ?_
     | with_reducible refine g_notN (by with_unfolding_all rfl) ?_)
  | (with_reducible refine rs_go 5 ?_
     first
     | with_reducible refine a_dget (by with_unfolding_all rfl) ?_
     | with_reducible refine a_dget2 (by with_unfolding_all rfl) ?_
     | with_reducible refine a_fzq (by with_unfolding_all rfl) ?_
     | with_reducible refine a_retC (by with_unfolding_all rfl) ?_
     | with_reducible refine a_isX (by with_unfolding_all rfl) ?_
     | with_reducible refine a_app (by with_unfolding_all rfl) ?_
     | with_reducible refine a_ext (by with_unfolding_all rfl) ?_
     | with_reducible refine a_pop (by with_unfolding_all rfl) ?_
     | with_reducible refine a_fz (by with_unfolding_all rfl) ?_
     | with_reducible refine a_lenDV (by with_unfolding_all rfl) ?_)
  | (with_reducible refine rs_go 6 ?_
     first
     | with_reducible refine a_cl (by with_unfolding_all rfl) ?_
     | with_reducible refine a_dat (by with_unfolding_all rfl) ?_
     | with_reducible refine a_s1 (by with_unfolding_all rfl) ?_
     | with_reducible refine a_dcy (by with_unfolding_all rfl) ?_
     | with_reducible refine a_s2 (by with_unfolding_all rfl) (by with_unfolding_all rfl) ?_
     | with_reducible refine a_s3 (by with_unfolding_all rfl) (by with_unfolding_all rfl) (by with_unfolding_all rfl) ?_
     | with_reducible refine a_owned (by with_unfolding_all rfl) ?_)
  | (with_reducible refine rs_go 7 ?_
     first
     | with_reducible refine i_B (by with_unfolding_all rfl) ?_
     | with_reducible refine i_T (by with_unfolding_all rfl) ?_
     | with_reducible refine i_L (by with_unfolding_all rfl) ?_)
  | (with_reducible refine rs_go 8 ?_
     first
     | with_reducible refine a_nb (by with_unfolding_all rfl) ?_
     | with_reducible refine a_len (by with_unfolding_all rfl) ?_
     | with_reducible refine a_revT (by with_unfolding_all rfl) ?_
     | with_reducible refine a_revL (by with_unfolding_all rfl) ?_)
  | (with_reducible refine rs_go 9 ?_
     first
     | with_reducible refine iteNT (by with_unfolding_all rfl) ?_
     | with_reducible refine iteNF (by with_unfolding_all rfl) ?_
     | with_reducible refine iteIT (by with_unfolding_all rfl) ?_
     | with_reducible refine iteIF (by with_unfolding_all rfl) ?_))
local macro_rules | `(tactic| walk_at "ax") => `(tactic| (repeat (first | walk_at "a1" | with_reducible refine a_if ?_); try dsimp only [List.set_cons_zero, List.set_cons_succ, awipe, aFrz, List.getElem?_cons_zero, List.getElem?_cons_succ]))
local macro_rules | `(tactic| walk_at "ay") => `(tactic| (repeat (walk_at "a1"); try dsimp only [List.set_cons_zero, List.set_cons_succ, awipe, aFrz, List.getElem?_cons_zero, List.getElem?_cons_succ]))
/-- is_within, slots value, least, most -/
def t_is_within (K : Fg) : TS :=
  (tRet (tAndV (tG (sp_is_integer K) E00 (tCons (tVar 0) tNil)) (tChain rLeI rLeI (tVar 1) (tVar 0) (tVar 2))))
abbrev a_is_within : ASt :=
  (aRet (aAndV (aCall0 m_is_integer (bCons (aVar 0) bNil)) (aChain gLe gLe (aVar 1) (aVar 0) (aVar 2))))
theorem f_is_within {K : Fg} {E : WX} : RSt K E (t_is_within K) a_is_within :=
  (rs_ret (re_andV (re_call0 br_is_integer (rv_cons re_var rv_nil)) (re_chain ro_le ro_le re_var re_var re_var)))
def m_is_within : AFn := mOf 0 a_is_within
def sp_is_within (K : Fg) : Sp := SpA K 3 m_is_within
theorem br_is_within {K : Fg} : ∀ vs H Q E, SpA K 3 m_is_within vs H Q E → sp_is_within K vs H Q E := fun _ _ _ _ h => h
theorem l_is_within {K : Fg} : ∀ vs H Q E, sp_is_within K vs H Q E → vs.length = 3 := l_spa
theorem p_is_within {K : Fg} {vs : List V} {H : Hp} {Q : VK} {E : XK} (h : sp_is_within K vs H Q E) : t_is_within K { nx := fun _ H' => Q .non H', rt := Q } (L2.start ["value", "least", "most"] vs) H :=
  p_spa (f_is_within) h rfl
/-- is_road, slots n, value -/
def t_is_road (K : Fg) : TS :=
  (tSeq (tIfS (tOr (tNot (tB (tCB (rIsi K) (tCons (tVar 1) (tCons (tC (.ty "tuple")) tNil))))) (tOr (tTest (tOp (rNeU K) (tCB (rLenU K) (tCons (tVar 1) tNil)) (tC (.int
    2)))) (tNot (tB (tG (sp_is_within K) E00 (tCons (tOp (rIx K) (tVar 1) (tC (.int 0))) (tCons (tC (.int 0)) (tCons (tOp rSubI (tVar 0) (tC (.int 1))) tNil)))))))) (tRet (tC (.bl false))) tNext) (tRet (tG (sp_is_within K) E00
    (tCons (tOp (rIx K) (tVar 1) (tC (.int 1))) (tCons (tOp (rAddU K) (tOp (rIx K) (tVar 1) (tC (.int 0))) (tC (.int 1))) (tCons (tOp rSubI (tVar 0) (tC (.int 1))) tNil))))))
abbrev a_is_road_0 : ASt :=
  (aRet (aCall0 m_is_within (bCons (aOp gIx (aVar 1) (aC (.int 1))) (bCons (aOp gAdd (aOp gIx (aVar 1) (aC (.int 0))) (aC (.int 1))) (bCons (aOp gSub' (aVar 0) (aC (.int 1))) bNil)))))
abbrev a_is_road : ASt :=
  (aSeq (aIfS (aOr (aNot (aB (aIsi isTup (aVar 1)))) (aOr (aB (aOp gNe (aCB gLen (bCons (aVar 1) bNil)) (aC (.int 2)))) (aNot (aB (aCall0 m_is_within (bCons (aOp gIx (aVar 1) (aC (.int 0))) (bCons (aC
    (.int 0)) (bCons (aOp gSub' (aVar 0) (aC (.int 1))) bNil)))))))) (aRet (aC (.bool false))) aNext) a_is_road_0)
theorem f_is_road {K : Fg} {E : WX} : RSt K E (t_is_road K) a_is_road :=
  (rs_seq (rs_ifs (rt_or (rt_not (rt_b (re_isTup re_var))) (rt_or (rt_test (re_op ro_ne (re_cb rb_len (rv_cons re_var rv_nil)) re_int)) (rt_not (rt_b
    (re_call0 br_is_within (rv_cons (re_op ro_ix re_var re_int) (rv_cons re_int (rv_cons (re_op ro_sub re_var re_int) rv_nil)))))))) (rs_ret re_bl) rs_next) (rs_ret (re_call0 br_is_within (rv_cons (re_op ro_ix re_var re_int)
    (rv_cons (re_op ro_add (re_op ro_ix re_var re_int) re_int) (rv_cons (re_op ro_sub re_var re_int) rv_nil))))))
def m_is_road : AFn := mOf 0 a_is_road
def sp_is_road (K : Fg) : Sp := SpA K 2 m_is_road
theorem br_is_road {K : Fg} : ∀ vs H Q E, SpA K 2 m_is_road vs H Q E → sp_is_road K vs H Q E := fun _ _ _ _ h => h
theorem l_is_road {K : Fg} : ∀ vs H Q E, sp_is_road K vs H Q E → vs.length = 2 := l_spa
theorem p_is_road {K : Fg} {vs : List V} {H : Hp} {Q : VK} {E : XK} (h : sp_is_road K vs H Q E) : t_is_road K { nx := fun _ H' => Q .non H', rt := Q } (L2.start ["n", "value"] vs) H :=
  p_spa (f_is_road) h rfl
/-- roads_error, slots n, roads, road, place -/
def t_roads_error (K : Fg) : TS :=
  (tSeq (tIfS (tNot (tTest (tChain rLeI rLeI (tC (.int 1)) (tCB (rLenU K) (tCons (tVar 1) tNil)) (tC (.int 40))))) (tRet (tC (.str "roads"))) tNext)
    (tSeq (tFor (iEnumV K (tCons (tVar 1) tNil)) (gTup K 2 (gCons (gName 3) (gCons (gName 2) gNil))) (tIfS (tNot (tB (tG (sp_is_road K) E00 (tCons (tVar 0) (tCons (tVar 2) tNil))))) (tRet (tTup (tCons (tC (.str "road")) (tCons
    (tVar 3) tNil)))) tNext)) (tSeq (tFor (iRng2 (tCons (tC (.int 1)) (tCons (tCB (rLenU K) (tCons (tVar 1) tNil)) tNil))) (gName 3) (tIfS (tNot (tTest (tOp (rLtU K) (tOp (rIx K) (tVar 1) (tOp rSubI (tVar 3) (tC (.int 1)))) (tOp
    (rIx K) (tVar 1) (tVar 3))))) (tRet (tTup (tCons (tC (.str "order")) (tCons (tVar 3) tNil)))) tNext)) (tRet (tC .non)))))
abbrev a_roads_error_0 : ASt :=
  (aSeq (aFor (aRng2 (bCons (aC (.int 1)) (bCons (aCB gLen (bCons (aVar 1) bNil)) bNil))) (agName 3) (aIfS (aNot (aB (aOp gLt (aOp gIx (aVar 1) (aOp gSub' (aVar 3) (aC (.int 1)))) (aOp gIx (aVar 1)
    (aVar 3))))) (aRet (aTup (aCons (aC (.str "order")) (aCons (aVar 3) aNil)))) aNext)) (aRet (aC .none)))
abbrev a_roads_error_1 : ASt :=
  (aSeq (aFor (aEnum (bCons (aVar 1) bNil)) (agTup 2 (agCons (agName 3) (agCons (agName 2) agNil))) (aIfS (aNot (aB (aCall0 m_is_road (bCons (aVar 0) (bCons (aVar 2) bNil))))) (aRet (aTup (aCons (aC
    (.str "road")) (aCons (aVar 3) aNil)))) aNext)) a_roads_error_0)
abbrev a_roads_error : ASt :=
  (aSeq (aIfS (aNot (aB (aChain gLe gLe (aC (.int 1)) (aCB gLen (bCons (aVar 1) bNil)) (aC (.int 40))))) (aRet (aC (.str "roads"))) aNext) a_roads_error_1)
theorem f_roads_error {K : Fg} {E : WX} : RSt K E (t_roads_error K) a_roads_error :=
  (rs_seq (rs_ifs (rt_not (rt_test (re_chain ro_le ro_le re_int (re_cb rb_len (rv_cons re_var rv_nil)) re_int))) (rs_ret re_str) rs_next) (rs_seq
    (rs_for (ri_enum (rv_cons re_var rv_nil)) (rg_tup (rgs_cons rg_name (rgs_cons rg_name rgs_nil))) (rs_ifs (rt_not (rt_b (re_call0 br_is_road (rv_cons re_var (rv_cons re_var rv_nil))))) (rs_ret (re_tup (ra_cons re_str (ra_cons
    re_var ra_nil)))) rs_next)) (rs_seq (rs_for (ri_rng2 (rv_cons re_int (rv_cons (re_cb rb_len (rv_cons re_var rv_nil)) rv_nil))) rg_name (rs_ifs (rt_not (rt_test (re_op ro_lt (re_op ro_ix re_var (re_op ro_sub re_var re_int))
    (re_op ro_ix re_var re_var)))) (rs_ret (re_tup (ra_cons re_str (ra_cons re_var ra_nil)))) rs_next)) (rs_ret re_non))))
def m_roads_error : AFn := mOf 2 a_roads_error
def sp_roads_error (K : Fg) : Sp := SpA K 2 m_roads_error
theorem br_roads_error {K : Fg} : ∀ vs H Q E, SpA K 2 m_roads_error vs H Q E → sp_roads_error K vs H Q E := fun _ _ _ _ h => h
theorem l_roads_error {K : Fg} : ∀ vs H Q E, sp_roads_error K vs H Q E → vs.length = 2 := l_spa
theorem p_roads_error {K : Fg} {vs : List V} {H : Hp} {Q : VK} {E : XK} (h : sp_roads_error K vs H Q E) : t_roads_error K { nx := fun _ H' => Q .non H', rt := Q } (L2.start ["n", "roads", "road", "place"] vs) H :=
  p_spa (f_roads_error) h rfl
section
variable {n : Int} {rs : List (Int × Int)} {ms ls : List Int} {x : AXc} {k : Avl → Prop} {C : Cl}
def fitD (lo hi : Int) : PyData → Bool
  | .int i => decide (lo ≤ i) && decide (i ≤ hi)
  | _ => false
theorem fit_no {lo hi : Int} {d : PyData} (h : isInt d = false) : fitD lo hi d = false := by cases d <;> first | rfl | cases h
theorem s_is_within {d : PyData} {lo hi : Int} (h : k (.d (.bool (fitD lo hi d)))) : m_is_within [.d d, .d (.int lo), .d (.int hi)] x k := by
  show a_is_within _ [.d d, .d (.int lo), .d (.int hi)]
  walk_at "ax"
  refine ⟨.d d, d, rfl, rfl, ?_⟩
  walk_at "ax"
  refine s_i1 _ (fun c => ?_) (fun c => ?_)
  · obtain ⟨i, rfl⟩ := isInt_ex c
    walk_at "ax"
    refine s_dec (fun c1 => ?_) (fun c1 => ?_)
    · walk_at "ax"
      have e : fitD lo hi (.int i) = decide (i ≤ hi) := by show (decide (lo ≤ i) && decide (i ≤ hi)) = _; rw [decide_eq_true c1, Bool.true_and]
      rw [e] at h
      exact h
    · walk_at "ax"
      have e : fitD lo hi (.int i) = false := by show (decide (lo ≤ i) && decide (i ≤ hi)) = _; rw [decide_eq_false c1, Bool.false_and]
      rw [e] at h
      exact h
  · walk_at "ax"
    rw [fit_no c] at h
    exact h
def vI : PyData → Int
  | .int i => i
  | _ => 0
def rdD (n : Int) : PyData → Bool
  | .tuple [a, b] => fitD 0 (n - 1) a && fitD (vI a + 1) (n - 1) b
  | _ => false
theorem fit_int {lo hi : Int} {d : PyData} (h : fitD lo hi d = true) : ∃ i, d = .int i ∧ lo ≤ i ∧ i ≤ hi := by
  cases d with
  | int i =>
    have h' : (decide (lo ≤ i) && decide (i ≤ hi)) = true := h
    rw [Bool.and_eq_true] at h'
    exact ⟨i, rfl, of_decide_eq_true h'.1, of_decide_eq_true h'.2⟩
  | _ => cases h
theorem rd_len {n : Int} {ds : List PyData} (h : ds.length ≠ 2) : rdD n (.tuple ds) = false := by
  match ds, h with
  | [], _ => rfl
  | [_], _ => rfl
  | [_, _], h => exact absurd rfl h
  | _ :: _ :: _ :: _, _ => rfl
theorem rd_tup {n : Int} {d : PyData} (h : isTup d = false) : rdD n d = false := by cases d <;> first | rfl | cases h
theorem s_is_road {d : PyData} (h : k (.d (.bool (rdD n d)))) : m_is_road [.d (.int n), .d d] x k := by
  show a_is_road _ [.d (.int n), .d d]
  walk_at "ax"
  refine s_i1 _ (fun c => ?_) (fun c => ?_)
  · walk_at "ax"
    rw [rd_tup (by simpa using c)] at h
    exact h
  obtain ⟨ds, rfl⟩ := isTup_ex (by simpa using c)
  walk_at "ax"
  refine s_ndec (fun c => ?_) (fun c => ?_)
  · walk_at "ax"
    rw [rd_len (by omega)] at h
    exact h
  obtain ⟨a, b, rfl⟩ := len_two (by omega : ds.length = 2)
  walk_at "ax"
  refine s_is_within ⟨?_, fun z => by cases z⟩
  walk_at "ax"
  cases q : fitD 0 (n - 1) a with
  | false =>
    walk_at "ax"
    refine iteT ?_
    walk_at "ax"
    have e : rdD n (.tuple [a, b]) = false := by show (fitD 0 (n - 1) a && _) = false; rw [q]; rfl
    rw [e] at h
    exact h
  | true =>
    obtain ⟨i, rfl, i0, i1⟩ := fit_int q
    walk_at "ax"
    refine iteF ?_
    walk_at "ax"
    refine s_is_within ⟨?_, fun z => by cases z⟩
    have e : rdD n (.tuple [.int i, b]) = fitD (i + 1) (n - 1) b := by show (fitD 0 (n - 1) (.int i) && fitD (i + 1) (n - 1) b) = _; rw [q]; rfl
    rw [e] at h
    exact h
theorem rgI_len {i j : Int} : (rgI i j).length = (j - i).toNat := by unfold rgI; rw [List.length_map, List.length_range]
theorem rgI_at {a b : Int} {i : Nat} {y : PyData} (h : ((rgI a b).map PyData.int)[i]? = some y) : i < (b - a).toNat ∧ y = .int (a + (i : Int)) := by
  have hi := (List.getElem?_eq_some_iff.mp h).1
  rw [List.length_map, rgI_len] at hi
  refine ⟨hi, ?_⟩
  rw [List.getElem?_map] at h
  unfold rgI at h
  rw [List.getElem?_map, List.getElem?_range hi] at h
  exact (Option.some.inj h).symm
def rdAt (n : Int) (ds : List PyData) (j : Nat) : Bool := match ds[j]? with
  | some d => rdD n d
  | none => false
def toP : PyData → Int × Int
  | .tuple [.int a, .int b] => (a, b)
  | _ => (0, 0)
def ltP (p q : Int × Int) : Bool := HT.lexLt [p.1, p.2] [q.1, q.2]
def orAt (rs : List (Int × Int)) (j : Nat) : Bool := match rs[j - 1]?, rs[j]? with
  | some p, some q => ltP p q
  | _, _ => false
def rdsO (n : Int) (ds : List PyData) : PyData :=
  if 1 ≤ ds.length ∧ ds.length ≤ 40 then
    match (List.range ds.length).find? fun j => !rdAt n ds j with
    | some i => .tuple [.str "road", .int (i : Int)]
    | none => match (List.range ds.length).find? fun j => decide (1 ≤ j) && !orAt (ds.map toP) j with
      | some i => .tuple [.str "order", .int (i : Int)]
      | none => .none
  else .str "roads"
theorem rd_pair {d : PyData} (h : rdD n d = true) : d = dP (toP d) ∧ 0 ≤ (toP d).1 ∧ (toP d).1 < (toP d).2 ∧ (toP d).2 < n := by
  cases c : isTup d with
  | false => rw [rd_tup c] at h; cases h
  | true =>
    obtain ⟨ds, rfl⟩ := isTup_ex c
    by_cases z : ds.length = 2
    · obtain ⟨a, b, rfl⟩ := len_two z
      have h' : (fitD 0 (n - 1) a && fitD (vI a + 1) (n - 1) b) = true := h
      rw [Bool.and_eq_true] at h'
      obtain ⟨i, rfl, i0, i1⟩ := fit_int h'.1
      obtain ⟨j, rfl, j0, j1⟩ := fit_int h'.2
      have j0' : i + 1 ≤ j := j0
      exact ⟨rfl, i0, by show i < j; omega, by show j < n; omega⟩
    · rw [rd_len z] at h; cases h
theorem rd_all {ds : List PyData} (h : ∀ j, j < ds.length → rdAt n ds j = true) : ds = (ds.map toP).map dP ∧ ∀ p ∈ ds.map toP, 0 ≤ p.1 ∧ p.1 < p.2 ∧ p.2 < n := by
  have each : ∀ d ∈ ds, rdD n d = true := fun d hd => by
    obtain ⟨j, hj, rfl⟩ := List.mem_iff_getElem.mp hd
    have := h j hj
    unfold rdAt at this
    rw [List.getElem?_eq_getElem hj] at this
    exact this
  refine ⟨?_, fun p hp => ?_⟩
  · rw [List.map_map]
    conv => lhs; rw [← List.map_id ds]
    exact List.map_congr_left fun d hd => (rd_pair (each d hd)).1
  · obtain ⟨d, hd, rfl⟩ := List.mem_map.mp hp
    exact (rd_pair (each d hd)).2
theorem s_roads_error {ds : List PyData} (h : k (.d (rdsO n ds))) : m_roads_error [.d (.int n), .d (.tuple ds)] x k := by
  show a_roads_error _ [.d (.int n), .d (.tuple ds), .x, .x]
  have big : ¬ (1 ≤ ds.length ∧ ds.length ≤ 40) → k (.d (.str "roads")) := fun z => by unfold rdsO at h; rw [if_neg z] at h; exact h
  walk_at "ax"
  refine s_dec (fun c1 => ?_) (fun c1 => ?_)
  · walk_at "ax"
    refine s_ndec (fun c2 => ?_) (fun c2 => ?_)
    · walk_at "ax"
      exact big (by omega)
    have ln : 1 ≤ ds.length ∧ ds.length ≤ 40 := by omega
    unfold rdsO at h
    rw [if_pos ln] at h
    walk_at "ax"
    refine a_loop (fun i α => ∃ x2 x3, α = [.d (.int n), .d (.tuple ds), x2, x3] ∧ ∀ j, j < i → rdAt n ds j = true) ?_ ?_ ?_
    · exact ⟨_, _, rfl, fun j hj => absurd hj (by omega)⟩
    · rintro i y α hy ⟨x2, x3, rfl, hw⟩
      obtain ⟨d, hd, rfl⟩ := enD_at hy
      have hi : i < ds.length := (List.getElem?_eq_some_iff.mp hd).1
      have e : rdAt n ds i = rdD n d := by unfold rdAt; rw [hd]
      walk_at "ax"
      refine s_is_road ⟨?_, fun z => by cases z⟩
      walk_at "ax"
      rw [← e]
      cases q : rdAt n ds i with
      | true =>
        walk_at "ax"
        refine iteF ?_
        walk_at "ax"
        exact ⟨_, _, rfl, fun j hj => by rcases Nat.lt_succ_iff_lt_or_eq.mp hj with z | z; exact hw j z; rw [z]; exact q⟩
      | false =>
        walk_at "ax"
        refine iteT ?_
        walk_at "ax"
        have f : (List.range ds.length).find? (fun j => !rdAt n ds j) = some i := List.find?_range_eq_some.mpr ⟨by rw [q]; rfl, List.mem_range.mpr hi, fun j hj => by rw [hw j hj]; rfl⟩
        rw [f] at h
        exact h
    · rintro α ⟨x2, x3, rfl, hw⟩
      rw [enD_len] at hw
      have f : (List.range ds.length).find? (fun j => !rdAt n ds j) = none := List.find?_range_eq_none.mpr fun j hj => by rw [hw j hj]; rfl
      rw [f] at h
      obtain ⟨ed, hr⟩ := rd_all hw
      walk_at "ax"
      refine i_r2 ⟨by decide, by decide, by omega, by omega⟩ ?_
      have gt : ∀ j, j < ds.length → ∃ p, (ds.map toP)[j]? = some p ∧ ds[j]? = some (dP p) := fun j hj => by
        have e1 : (ds.map toP)[j]? = some ((ds.map toP)[j]'(by rw [List.length_map]; exact hj)) := List.getElem?_eq_getElem _
        refine ⟨_, e1, ?_⟩
        have e2 : ds[j]? = ((ds.map toP).map dP)[j]? := congrArg (fun l => l[j]?) ed
        rw [e2, List.getElem?_map, e1]
        rfl
      refine a_loop (fun i α => ∃ x2 x3, α = [.d (.int n), .d (.tuple ds), x2, x3] ∧ ∀ j, j < i + 1 → (decide (1 ≤ j) && !orAt (ds.map toP) j) = false) ?_ ?_ ?_
      · exact ⟨_, _, rfl, fun j hj => by obtain rfl : j = 0 := (by omega); rfl⟩
      · rintro i y α hy ⟨x2, x3, rfl, hw2⟩
        obtain ⟨hi, rfl⟩ := rgI_at hy
        obtain ⟨p, p1, p2⟩ := gt i (by omega)
        obtain ⟨q, q1, q2⟩ := gt (i + 1) (by omega)
        have eo : orAt (ds.map toP) (i + 1) = ltP p q := by unfold orAt; rw [Nat.add_sub_cancel, p1, q1]
        have h1 : atI ds (1 + (i : Int) - 1) = some (dP p) := by rw [show (1 + (i : Int) - 1) = ((i : Nat) : Int) from by omega]; exact atI_nat p2
        have h2 : atI ds (1 + (i : Int)) = some (dP q) := by rw [show (1 + (i : Int)) = ((i + 1 : Nat) : Int) from by omega]; exact atI_nat q2
        walk_at "ax"
        refine g_ixT rfl h1 ?_
        walk_at "ax"
        refine g_ixT rfl h2 ?_
        refine .inr ⟨[p.1, p.2], [q.1, q.2], rfl, rfl, ?_⟩
        walk_at "ax"
        rw [show HT.lexLt [p.1, p.2] [q.1, q.2] = orAt (ds.map toP) (i + 1) from eo.symm]
        cases z : orAt (ds.map toP) (i + 1) with
        | true =>
          refine iteF ?_
          walk_at "ax"
          refine ⟨_, _, rfl, fun j hj => ?_⟩
          rcases Nat.lt_succ_iff_lt_or_eq.mp hj with y | y
          · exact hw2 j y
          · rw [y, z]; rfl
        | false =>
          refine iteT ?_
          walk_at "ax"
          have g : (List.range ds.length).find? (fun j => decide (1 ≤ j) && !orAt (ds.map toP) j) = some (i + 1) := List.find?_range_eq_some.mpr ⟨by rw [z]; simp, List.mem_range.mpr (by omega), fun j hj => by rw [hw2 j hj]; rfl⟩
          rw [g] at h
          have e1 : (1 + (i : Int)) = ((i + 1 : Nat) : Int) := by omega
          rw [e1]
          exact h
      · rintro α ⟨x2, x3, rfl, hw2⟩
        walk_at "ax"
        have g : (List.range ds.length).find? (fun j => decide (1 ≤ j) && !orAt (ds.map toP) j) = none := List.find?_range_eq_none.mpr fun j hj => by
          have := hw2 j (by rw [List.length_map, rgI_len]; omega)
          rw [this]; rfl
        rw [g] at h
        exact h
  · walk_at "ax"
    refine iteT ?_
    walk_at "ax"
    exact big (by omega)
/-- how many places are come to from the place 0 -/
def Joined (n : Int) (rs : List (Int × Int)) : Prop := ∀ i, 0 ≤ i → i < n → ∃ k, Rch rs 0 k i
theorem keys_all {m : List (Int × Nat)} (ky : Kys n m) (dn : ∀ x k, Dst rs 0 x k → lk m x = some k) (d1 : ∀ x k, lk m x = some k → Dst rs 0 x k) (n0 : 0 ≤ n) : (m.length : Int) = n ↔ Joined n rs := by
  constructor
  · intro e i i0 i1
    have sub : ∀ x ∈ iota n.toNat, x ∈ m.map (·.1) := by
      have nd := ky.1
      have h1 : ∀ x ∈ m.map (·.1), x ∈ iota n.toNat := fun x hx => by
        obtain ⟨q, hq, rfl⟩ := List.mem_map.mp hx
        have := ky.2 q hq
        unfold iota
        exact List.mem_map.mpr ⟨q.1.toNat, List.mem_range.mpr (by omega), by omega⟩
      intro x hx
      refine Classical.byContradiction fun z => ?_
      have := nodup_len (l := x :: m.map (·.1)) (r := iota n.toNat) (List.nodup_cons.mpr ⟨z, nd⟩) fun y hy => (List.mem_cons.mp hy).elim (fun e => e ▸ hx) (h1 y)
      rw [List.length_cons, List.length_map, iota_len] at this
      omega
    obtain ⟨q, hq, e1⟩ := List.mem_map.mp (sub i (by unfold iota; exact List.mem_map.mpr ⟨i.toNat, List.mem_range.mpr (by omega), by omega⟩))
    cases l : lk m i with
    | none => exact absurd e1 (lk_none l q hq)
    | some k => exact ⟨k, (d1 i k l).1⟩
  · intro j
    have h1 := ky.len
    have h2 := nodup_len (l := iota n.toNat) (r := m.map (·.1)) (nodup_iota _) fun x hx => by
      unfold iota at hx
      obtain ⟨t, ht, rfl⟩ := List.mem_map.mp hx
      have := List.mem_range.mp ht
      obtain ⟨k, r⟩ := j (t : Int) (by omega) (by omega)
      obtain ⟨c, _, dc⟩ := Dst.ex r
      exact List.mem_map.mpr ⟨_, lk_mem (dn _ _ dc), rfl⟩
    rw [List.length_map, iota_len] at h2
    omega
end
end UW
namespace UW
open PySem PySem.Spec PyProof.Rows L2
/-- one step -/
local macro_rules | `(tactic| walk_at "a1") => `(tactic| first
  | with_reducible refine wk ?_
  | (with_reducible refine rs_go 1 ?_
     first
     | with_reducible refine a_var (by with_unfolding_all rfl) (by with_unfolding_all rfl) ?_
     | with_reducible refine a_gtup (by with_unfolding_all rfl) (by with_unfolding_all rfl) ?_
     | with_reducible refine a_glst (by with_unfolding_all rfl) (by with_unfolding_all rfl) ?_)
  | (with_reducible refine rs_go 2 ?_
     first
     | with_reducible refine g_ixT (by with_unfolding_all rfl) (by first | with_unfolding_all rfl | with_unfolding_all exact at_zero _ _) ?_
     | with_reducible refine g_ixL (by with_unfolding_all rfl) (by first | with_unfolding_all rfl | with_unfolding_all exact at_zero _ _) ?_)
  | (with_reducible refine rs_go 3 ?_
     first
     | with_reducible refine g_lenT (by with_unfolding_all rfl) ?_
     | with_reducible refine g_lenL (by with_unfolding_all rfl) ?_
     | with_reducible refine g_tupL (by with_unfolding_all rfl) ?_
     | with_reducible refine g_tupT (by with_unfolding_all rfl) ?_
     | with_reducible refine g_lstT (by with_unfolding_all rfl) ?_
     | with_reducible refine g_lstL (by with_unfolding_all rfl) ?_)
  | (with_reducible refine rs_go 4 ?_
     first
     | with_reducible refine g_addL (by with_unfolding_all rfl) (by with_unfolding_all rfl) (Nat.le_of_ble_eq_true (by with_unfolding_all rfl)) ?_
     | with_reducible refine g_mulI (by first | exact Or.inl ⟨by decide, by decide⟩ | exact Or.inr ⟨by decide, by decide⟩ | (first | (refine Or.inl ⟨?_, ?_⟩ <;> omega) | (refine Or.inr ⟨?_, ?_⟩ <;> omega))) ?_
     | with_reducible refine g_mod (by first | decide | omega) ?_
     | with_reducible refine g_div (by first | decide | omega) (by first | decide | omega) ?_
     | with_reducible refine g_slT (by with_unfolding_all rfl) ?_
     | with_reducible refine g_slL (by with_unfolding_all rfl) ?_
     | with_reducible refine g_isN (by with_unfolding_all rfl) ?_
     | with_reducible refine g_notN (by with_unfolding_all rfl) ?_)
  | (with_reducible refine rs_go 5 ?_
     first
     | with_reducible refine a_dget (by with_unfolding_all rfl) ?_
     | with_reducible refine a_dget2 (by with_unfolding_all rfl) ?_
     | with_reducible refine a_fzq (by with_unfolding_all rfl) ?_
     | with_reducible refine a_retC (by with_unfolding_all rfl) ?_
     | with_reducible refine a_isX (by with_unfolding_all rfl) ?_
     | with_reducible refine a_app (by with_unfolding_all rfl) ?_
     | with_reducible refine a_ext (by with_unfolding_all rfl) ?_
     | with_reducible refine a_pop (by with_unfolding_all rfl) ?_
     | with_reducible refine a_fz (by with_unfolding_all rfl) ?_
     | with_reducible refine a_lenDV (by with_unfolding_all rfl) ?_)
  | (with_reducible refine rs_go 6 ?_
     first
     | with_reducible refine a_cl (by with_unfolding_all rfl) ?_
     | with_reducible refine a_dat (by with_unfolding_all rfl) ?_
     | with_reducible refine a_s1 (by with_unfolding_all rfl) ?_
     | with_reducible refine a_dcy (by with_unfolding_all rfl) ?_
     | with_reducible refine a_s2 (by with_unfolding_all rfl) (by with_unfolding_all rfl) ?_
     | with_reducible refine a_s3 (by with_unfolding_all rfl) (by with_unfolding_all rfl) (by with_unfolding_all rfl) ?_
     | with_reducible refine a_owned (by with_unfolding_all rfl) ?_)
  | (with_reducible refine rs_go 7 ?_
     first
     | with_reducible refine i_B (by with_unfolding_all rfl) ?_
     | with_reducible refine i_T (by with_unfolding_all rfl) ?_
     | with_reducible refine i_L (by with_unfolding_all rfl) ?_)
  | (with_reducible refine rs_go 8 ?_
     first
     | with_reducible refine a_nb (by with_unfolding_all rfl) ?_
     | with_reducible refine a_len (by with_unfolding_all rfl) ?_
     | with_reducible refine a_revT (by with_unfolding_all rfl) ?_
     | with_reducible refine a_revL (by with_unfolding_all rfl) ?_)
  | (with_reducible refine rs_go 9 ?_
     first
     | with_reducible refine iteNT (by with_unfolding_all rfl) ?_
     | with_reducible refine iteNF (by with_unfolding_all rfl) ?_
     | with_reducible refine iteIT (by with_unfolding_all rfl) ?_
     | with_reducible refine iteIF (by with_unfolding_all rfl) ?_))
local macro_rules | `(tactic| walk_at "ax") => `(tactic| (repeat (first | walk_at "a1" | with_reducible refine a_if ?_); try dsimp only [List.set_cons_zero, List.set_cons_succ, awipe, aFrz, List.getElem?_cons_zero, List.getElem?_cons_succ]))
local macro_rules | `(tactic| walk_at "ay") => `(tactic| (repeat (walk_at "a1"); try dsimp only [List.set_cons_zero, List.set_cons_succ, awipe, aFrz, List.getElem?_cons_zero, List.getElem?_cons_succ]))
section
variable {n : Int} {rs : List (Int × Int)} {ms ls : List Int} {x : AXc} {k : Avl → Prop} {C : Cl}
structure Mk (n : Int) (rs : List (Int × Int)) (M : List Int) : Prop where
  nd : M.Nodup
  r : ∀ x ∈ M, (∃ k, Rch rs 0 k x) ∧ 0 ≤ x ∧ x < n
theorem Mk.len {M : List Int} (h : Mk n rs M) : M.length ≤ n.toNat := by
  have := nodup_len (r := iota n.toNat) h.nd fun x hx => by
    have := (h.r x hx).2
    unfold iota
    exact List.mem_map.mpr ⟨x.toNat, List.mem_range.mpr (by omega), by omega⟩
  rwa [iota_len] at this
theorem Mk.all {M : List Int} (h : Mk n rs M) (n0 : 0 ≤ n) (full : ∀ x k, Rch rs 0 k x → 0 ≤ x → x < n → x ∈ M) : ((M.length : Int) < n) ↔ ¬ Joined n rs := by
  have hl := h.len
  constructor
  · intro lt j
    have := nodup_len (l := iota n.toNat) (r := M) (nodup_iota _) fun x hx => by
      unfold iota at hx
      obtain ⟨t, ht, rfl⟩ := List.mem_map.mp hx
      have := List.mem_range.mp ht
      obtain ⟨k, r⟩ := j (t : Int) (by omega) (by omega)
      exact full _ k r (by omega) (by omega)
    rw [iota_len] at this
    omega
  · intro nj
    refine Classical.byContradiction fun ge => nj fun i i0 i1 => ?_
    refine Classical.byContradiction fun z => ?_
    have ni : i ∉ M := fun m => z (h.r i m).1
    have := nodup_len (l := i :: M) (r := iota n.toNat) (List.nodup_cons.mpr ⟨ni, h.nd⟩) fun x hx => by
      have hx' : 0 ≤ x ∧ x < n := by
        rcases List.mem_cons.mp hx with e | e
        · rw [e]; exact ⟨i0, i1⟩
        · exact (h.r x e).2
      unfold iota
      exact List.mem_map.mpr ⟨x.toNat, List.mem_range.mpr (by omega), by omega⟩
    rw [List.length_cons, iota_len] at this
    omega
theorem Mk.add {M : List Int} {x y : Int} (h : Mk n rs M) (hx : x ∈ M) (hy : y ∉ M) (a : Adj rs x y) (hr : Inr n rs) : Mk n rs (M ++ [y]) := by
  refine ⟨?_, fun z hz => ?_⟩
  · rw [List.nodup_append]
    exact ⟨h.nd, by simp, fun c hc b hb e => hy (by rw [List.mem_singleton.mp hb] at e; rw [← e]; exact hc)⟩
  · rcases List.mem_append.mp hz with hz | hz
    · exact h.r z hz
    · rw [List.mem_singleton.mp hz]
      obtain ⟨⟨k, r⟩, _⟩ := h.r x hx
      exact ⟨⟨k + 1, .s r a⟩, adj_rng hr a⟩
end
end UW
namespace UW
open PySem PySem.Spec PyProof.Rows L2
section
variable {K : Fg} {E : WX} {te ti te2 : TE} {e ei e2 : AEx} {i j : Nat}
def aAppPop (i j : Nat) (e : AEx) : ASt := fun A α => ∃ ds rest, α[i]? = some (.own ds) ∧ α[j]? = some (.own rest) ∧ i ≠ j ∧ e A.er α fun av => ∃ (n : Nat) (x : PyData), av = .d (.int n) ∧ rest[n]? = some x ∧ n < 100000 ∧ ds.length < 100000 ∧
  A.nx ((α.set j (.own (rest.eraseIdx n))).set i (.own (ds ++ [x])))
theorem rs_appPop (h1 : REx K E te e) : RSt K E (tDrop (tBM K "list" rAppend (tVar i) (tCons (tBM K "list" rPopAt (tVar j) (tCons te tNil)) tNil))) (aAppPop i j e) := by
  intro W H0 S0 O S α σ H A D f ⟨ds, rest, h0, h0', hij, h⟩ l
  obtain ⟨p, vs, a, b, c, d, hi, nw, ln⟩ := own_at f h0
  obtain ⟨p2, vs2, a2, b2, c2, d2, hi2, nw2, ln2⟩ := own_at f h0'
  have ne : p ≠ p2 := fun z => hij ((f.o j p2 a2).2.2.2 i (by rw [a, z]))
  refine ⟨_, b, o_tyL c ?_⟩
  refine ⟨_, b2, o_tyL c2 ?_⟩
  refine h1 f h l.er fun v av S1 H1 m r ⟨n, x, ev, hx, hl, hd, k⟩ => ?_
  subst ev
  cases r
  have c' := own_mv f m a c
  have c2' := own_mv f m a2 c2
  have f2 := f.mv m
  have od1 := m.ods f.k.w (fun b z => (f.k.t b z).2) d
  have od2 := m.ods f.k.w (fun b z => (f.k.t b z).2) d2
  obtain ⟨y, hy, oy⟩ := od2.nth hx
  obtain ⟨g, ke⟩ := f2.chg a2 b2 c2' (od2.erase n) hi2
  refine o_popAt c2' rfl hy hl fun H2 aa => ?_
  have e2 : H2 = upd H1 p2 (.lst (vs2.eraseIdx n)) := by
    funext q
    by_cases z : q = p2
    · rw [z, upd_same]; exact aa.1
    · rw [upd_ne z]; exact aa.2 q z
  rw [e2]
  have c'' : upd H1 p2 (.lst (vs2.eraseIdx n)) p = some (.lst vs) := by rw [upd_ne ne]; exact c'
  obtain ⟨g2, ke2⟩ := g.chg (i := i) a b c'' ((ke.ods od1).append (.cons (ke.od oy) .nil)) (by rw [List.length_set]; exact hi)
  exact ⟨p, vs, y, rfl, rfl, c'', Nat.lt_of_lt_of_le (by omega) (show 100000 ≤ sizeLine by decide), l.nx O S1 _ σ _ (((m.kee f.k).trans ke).trans ke2) g2 k⟩
def aSetIN (i j : Nat) (e e2 ei : AEx) : ASt := fun A α => e A.er α fun av => ∃ x, av.cl = some x ∧ e2 A.er α fun bv => ∃ y, bv.cl = some y ∧ ∃ ds, α[i]? = some (.own ds) ∧ ei A.er α fun ai => ∃ (z : Int) (n : Nat), ai = .d (.int z) ∧ ixN ds.length z = some n ∧
  A.nx ((α.set i (.own (ds.set n x))).set j (.d y))
end
def aTryM (C : Addr) (b s : ASt) : ASt := fun A α => b { A with er := fun α' C' f => C' = C ∧ f = none ∧ s A α' } α
section
variable {K : Fg} {E : WX} {C : Addr}
theorem a_tryM {b s : ASt} {A : AEn} {α : Afr} (h : b { A with er := fun α' C' f => C' = C ∧ f = none ∧ s A α' } α) : aTryM C b s A α := h
theorem a_appPop {i j : Nat} {e : AEx} {A : AEn} {α : Afr} (h : ∃ ds rest, α[i]? = some (.own ds) ∧ α[j]? = some (.own rest) ∧ i ≠ j ∧ e A.er α fun av => ∃ (n : Nat) (x : PyData), av = .d (.int n) ∧ rest[n]? = some x ∧ n < 100000 ∧ ds.length < 100000 ∧
  A.nx ((α.set j (.own (rest.eraseIdx n))).set i (.own (ds ++ [x])))) : aAppPop i j e A α := h
theorem a_setIN {i j : Nat} {e e2 ei : AEx} {A : AEn} {α : Afr} (h : e A.er α fun av => ∃ x, av.cl = some x ∧ e2 A.er α fun bv => ∃ y, bv.cl = some y ∧ ∃ ds, α[i]? = some (.own ds) ∧ ei A.er α fun ai => ∃ (z : Int) (n : Nat), ai = .d (.int z) ∧ ixN ds.length z = some n ∧
  A.nx ((α.set i (.own (ds.set n x))).set j (.d y))) : aSetIN i j e e2 ei A α := h
end
instance {b s : ASt} {A : AEn} {α : Afr} : Wk (aTryM C b s A α) (b { A with er := fun α' C' f => C' = C ∧ f = none ∧ s A α' } α) := ⟨fun h => a_tryM h⟩
instance {i j : Nat} {e e2 ei : AEx} {A : AEn} {α : Afr} : Wk (aSetIN i j e e2 ei A α) (e A.er α fun av => ∃ x, av.cl = some x ∧ e2 A.er α fun bv => ∃ y, bv.cl = some y ∧ ∃ ds, α[i]? = some (.own ds) ∧ ei A.er α fun ai => ∃ (z : Int) (n : Nat), ai = .d (.int z) ∧ ixN ds.length z = some n ∧ A.nx ((α.set i (.own (ds.set n x))).set j (.d y))) := ⟨fun h => a_setIN h⟩
end UW
namespace UW.Un
open PySem PySem.Spec PyProof.Rows L2 UW
/-- one step -/
local macro_rules | `(tactic| walk_at "s1") => `(tactic| first
  | with_reducible refine s_seq ?_
  | with_reducible refine s_for ?_
  | with_reducible refine s_lc ?_
  | with_reducible refine w_seq ?_
  | with_reducible refine w_rng1 ?_
  | with_reducible refine w_rng2 ?_
  | with_reducible refine w_zip ?_
  | with_reducible refine s_asg ?_
  | with_reducible refine s_gname ?_
  | with_reducible refine s_ret ?_
  | with_reducible refine s_drop ?_
  | with_reducible refine s_next ?_
  | with_reducible refine s_ifs ?_
  | with_reducible refine s_var (by with_unfolding_all rfl) ?_
  | with_reducible refine s_c ?_
  | with_reducible refine s_op ?_
  | with_reducible refine s_un ?_
  | with_reducible refine s_neg ?_
  | with_reducible refine s_test ?_
  | with_reducible refine s_yes ?_
  | with_reducible refine s_tB ?_
  | with_reducible refine s_bl ?_
  | with_reducible refine s_not ?_
  | with_reducible refine s_and ?_
  | with_reducible refine s_or ?_
  | with_reducible refine s_andV ?_
  | with_reducible refine s_orV ?_
  | with_reducible refine s_notV ?_
  | with_reducible refine s_chain ?_
  | with_reducible refine s_nil ?_
  | with_reducible refine s_cons ?_
  | with_reducible refine s_tup ?_
  | with_reducible refine s_lst ?_
  | with_reducible refine s_call ?_
  | with_reducible refine s_cb ?_
  | with_reducible refine s_part ?_
  | with_reducible refine s_nopart ?_
  | with_reducible refine s_ii ?_
  | with_reducible refine s_sl ?_
  | with_reducible refine s_par ?_
  | with_reducible refine s_par2 ?_
  | with_reducible refine s_bm ?_
  | with_reducible refine s_gsub ?_
  | with_reducible refine s_gcons ?_
  | with_reducible refine s_gnil ?_
  | with_reducible refine o_addI ?_
  | with_reducible refine o_sub ?_
  | with_reducible refine o_eqI ?_
  | with_reducible refine o_neI ?_
  | with_reducible refine o_ltI ?_
  | with_reducible refine o_le ?_
  | with_reducible refine o_gt ?_
  | with_reducible refine o_ge ?_
  | with_reducible refine o_int ?_
  | with_reducible refine o_intB ?_
  | with_reducible refine o_abs ?_
  | with_reducible refine o_max2 ?_
  | with_reducible refine o_min2 ?_
  | with_reducible refine o_isN ?_
  | with_reducible refine o_notN ?_
  | with_reducible refine o_mulI (by first | exact Or.inl ⟨by decide, by decide⟩ | exact Or.inr ⟨by decide, by decide⟩ | (first | (refine Or.inl ⟨?_, ?_⟩ <;> omega) | (refine Or.inr ⟨?_, ?_⟩ <;> omega))) ?_
  | with_reducible refine o_mod (by first | decide | omega) ?_
  | with_reducible refine o_div (by first | decide | omega) (by first | decide | omega) ?_
  | with_reducible refine s_blx ?_
  | with_reducible refine o_ixL (SqL.of (by assumption)) (by first | with_unfolding_all rfl | with_unfolding_all exact at_zero _ _) ?_
  | with_reducible refine o_ixT (by assumption) (by first | with_unfolding_all rfl | with_unfolding_all exact at_zero _ _) ?_
  | with_reducible refine o_tyL (by assumption) ?_
  | with_reducible refine iteT ?_
  | with_reducible refine iteF ?_)
local macro_rules | `(tactic| walk_at "sx") => `(tactic| repeat (walk_at "s1"))
theorem s_par3 {i j n : Nat} {ta : TA} {D : Ends} {σ : L2.St} {H : Hp} (k : ta σ H fun vs H1 => ∃ a b c, vs = [a, b, c] ∧ D.nx (((σ.set i (some a)).set j (some b)).set n (some c)) H1) : tPar3 i j n ta D σ H := k
theorem s_bm0 {K : PySem.W.Frag} {T : String} {r : V → List V → Hp → VK → Prop} {to : TE} {σ : L2.St} {H : Hp} {Q : VK} (k : to σ H fun x H1 => tyV K T x H1 ∧ r x [] H1 Q) : tBM0 K T r to σ H Q := k
def sp__law_draw (K : Fg) : Sp := fun vs H Q _ => ∃ (a l : Addr) (m : Int), vs = [.ref a, .int m] ∧ Urn H a l ∧ 0 < m ∧ m < 1073741824 ∧ ∀ (r : Int) (H' : Hp), 0 ≤ r → r < m → Urn H' a l → Kp a l H H' → Q (.int r) H'
theorem l__law_draw {K : Fg} : ∀ vs H Q E, sp__law_draw K vs H Q E → vs.length = 2 := by
  rintro vs H Q E ⟨a, l, m, rfl, _⟩
  rfl
theorem _root_.UW.Urn.ne {H : Hp} {a l : Addr} (w : Urn H a l) : a ≠ l := by
  obtain ⟨cs, s, t, c, h1, h2, _⟩ := w
  refine ne_of h1 h2 fun z => ?_
  have e : ([.ref l, .int s, .int t, .int c] : List V) = cs.map V.int := by
    injection z
  cases cs with
  | nil => cases e
  | cons x r => cases e
/-- _law_draw, slots urn, size, cell, much -/
def t__law_draw (K : Fg) : TS :=
  (tSeq (tIfS (tTest (tOp (rNeU K) (tOp (rIx K) (tVar 0) (tC (.int 0))) (tLst tNil))) (tSeq (tAsg (tBM0 K "list" rPop (tOp (rIx K) (tVar 0) (tC (.int
    0)))) (gName 2)) (Evl.tCut (tIfS (tTest (tOp rGeI (tVar 2) (tVar 1))) (tDrop (tBM K "list" rAppend (tOp (rIx K) (tVar 0) (tC (.int 0))) (tCons (tOp rDivI (tVar 2) (tVar 1)) tNil))) tNext) (tRet (tOp rModI (tCB rInt (tCons (tVar
    2) tNil)) (tVar 1))))) tNext) (tSeq (tAsg (tOp (rAddU K) (tOp (rIx K) (tVar 0) (tC (.int 3))) (tC (.int 1))) (gSub (tVar 0) (tC (.int 3)) rSetL)) (tSeq (tAsg (tOp rModI (tCB rInt (tCons (tOp (rAddU K) (tOp (rIx K) (tVar 0) (tC
    (.int 1))) (tOp (rMulU K) (tOp (rIx K) (tVar 0) (tC (.int 3))) (tC (.int 2246822519)))) tNil)) (tC (.int 4294967291))) (gName 3)) (tSeq (tAsg (tOp rModI (tCB rInt (tCons (tOp (rAddU K) (tOp (rAddU K) (tOp (rMulU K) (tVar 3)
    (tVar 3)) (tOp (rMulU K) (tOp (rIx K) (tVar 0) (tC (.int 2))) (tOp (rIx K) (tVar 0) (tC (.int 3))))) (tC (.int 17))) tNil)) (tC (.int 4294967279))) (gName 3)) (tSeq (tAsg (tOp rModI (tCB rInt (tCons (tOp (rAddU K) (tOp (rAddU
    K) (tOp (rMulU K) (tVar 3) (tVar 3)) (tOp (rIx K) (tVar 0) (tC (.int 1)))) (tC (.int 5))) tNil)) (tC (.int 4294967231))) (gName 3)) (tRet (tOp rModI (tCB rInt (tCons (tOp rDivI (tVar 3) (tC (.int 64))) tNil)) (tVar 1))))))))
theorem p__law_draw {K : Fg} {vs : List V} {H : Hp} {Q : VK} {E : XK} (h : sp__law_draw K vs H Q E) : t__law_draw K { nx := fun _ H' => Q .non H', rt := Q } (start ["urn", "size", "cell", "much"] vs) H := by
  obtain ⟨a, l, m, rfl, w, m0, m1, k⟩ := h
  have al := w.ne
  obtain ⟨cs, s, t, c, ha, hl, hc, t0, t1⟩ := w
  show t__law_draw K _ [some (.ref a), some (.int m), none, none] H
  unfold t__law_draw
  walk_at "sx"
  refine n_of rfl fun p H1 np e1 hp _ => ?_
  have ha1 := e1 _ _ ha
  have hl1 := e1 _ _ hl
  refine o_neD (.lst (SqL.of hl1) (Tps.of_ints cs).dp) (.lst (SqL.of hp) .nil) (shaped_ints cs) rfl ?_
  walk_at "sx"
  refine s_i1 _ (fun hc1 => ?_) (fun hc1 => ?_)
  · have hne : cs ≠ [] := by rintro rfl; cases hc1
    obtain ⟨ds, x, rfl⟩ : ∃ ds x, cs = ds ++ [x] := ⟨cs.dropLast, cs.getLast hne, (List.dropLast_concat_getLast hne).symm⟩
    have hlast : ((ds ++ [x]).map V.int)[((ds ++ [x]).map V.int).length - 1]? = some (V.int x) := by simp
    walk_at "sx"
    refine s_bm0 ?_
    walk_at "sx"
    refine ⟨l, _, .int x, rfl, rfl, hl1, hlast, ?_⟩
    have l2 : At l (.lst ((ds ++ [x]).map V.int).dropLast) H1 (upd H1 l (.lst ((ds ++ [x]).map V.int).dropLast)) := At.upd _ _ _
    rw [← List.map_dropLast, List.dropLast_concat] at l2 ⊢
    generalize upd H1 l (.lst (ds.map V.int)) = H2 at l2 ⊢
    have ha2 := l2.ne ha1 al
    have hl2 := l2.1
    have hd : ds.length < 64 := by simp at hc; omega
    have kp : Kp a l H1 H2 := fun b o h n1 n2 => l2.ne h n2
    refine s_gname ?_
    refine s_cut (fun σ' H' => σ' = [some (.ref a), some (.int m), some (.int x), none] ∧ Urn H' a l ∧ Kp a l H1 H') ?_ ?_
    · walk_at "sx"
      refine s_dec (fun _ => ?_) (fun _ => ?_)
      · walk_at "sx"
        refine o_append hl2 (by rw [List.length_map]; omega) fun H3 l3 => ?_
        exact ⟨rfl, ⟨ds ++ [x / m], s, t, c, l3.ne ha2 al, by rw [List.map_append]; exact l3.1, by rw [List.length_append, List.length_singleton]; omega, t0, t1⟩, fun b o h n1 n2 => l3.ne (kp b o h n1 n2) n2⟩
      · walk_at "sx"
        exact ⟨rfl, ⟨ds, s, t, c, ha2, hl2, by omega, t0, t1⟩, kp⟩
    · rintro σ' H' ⟨rfl, w', kp⟩
      walk_at "sx"
      exact k _ _ (Int.emod_nonneg _ (by omega)) (Int.emod_lt_of_pos _ m0) w' ((Kp.same e1).trans kp)
  · walk_at "sx"
    refine o_setL ha1 rfl fun H2 a2 => ?_
    have ha2 : H2 a = some (.lst [.ref l, .int s, .int t, .int (c + 1)]) := a2.1
    have hl2 := a2.ne hl1 (Ne.symm al)
    walk_at "sx"
    have r1 := Int.emod_nonneg (s + (c + 1) * 2246822519) (b := 4294967291) (by decide)
    have r2 := Int.emod_lt_of_pos (s + (c + 1) * 2246822519) (b := 4294967291) (by decide)
    generalize (s + (c + 1) * 2246822519) % 4294967291 = f1 at r1 r2 ⊢
    walk_at "sx"
    have r3 := Int.emod_nonneg (f1 * f1 + t * (c + 1) + 17) (b := 4294967279) (by decide)
    have r4 := Int.emod_lt_of_pos (f1 * f1 + t * (c + 1) + 17) (b := 4294967279) (by decide)
    generalize (f1 * f1 + t * (c + 1) + 17) % 4294967279 = f2 at r3 r4 ⊢
    walk_at "sx"
    refine k _ _ (Int.emod_nonneg _ (by omega)) (Int.emod_lt_of_pos _ m0) ⟨cs, s, t, c + 1, ha2, hl2, hc, t0, t1⟩ ?_
    exact fun b o h n1 n2 => a2.ne (e1 _ _ h) n1
def sp__law_urn (K : Fg) : Sp := fun vs H Q _ => ∃ (a : Addr) (ns : List Int), vs = [.ref a] ∧ SqL K H a (ns.map V.int) ∧ ns.length ≤ 63 ∧ ∀ (p l : Addr) (H' : Hp), H p = none → H l = none → Same H H' → Urn H' p l → Q (.ref p) H'
theorem l__law_urn {K : Fg} : ∀ vs H Q E, sp__law_urn K vs H Q E → vs.length = 1 := by
  rintro vs H Q E ⟨a, ns, rfl, _⟩
  rfl
def cutJ (ns : List Int) : List Int := (ns.drop (HT.sIx ns.length 0 none)).take (HT.sIx ns.length ns.length (some 64) - HT.sIx ns.length 0 none)
theorem cut_intsJ (ns : List Int) : cutV (ns.map V.int) none (some 64) = (cutJ ns).map V.int := by
  unfold cutV cutJ
  rw [List.length_map, List.map_take, List.map_drop]
theorem cut_lenJ (ns : List Int) : (cutJ ns).length ≤ 64 := by
  unfold cutJ
  rw [List.length_take]
  have : HT.sIx ns.length ns.length (some 64) ≤ 64 := by
    have e := HT.sIx_nat ns.length ns.length 64
    have e2 : HT.sIx ns.length ns.length (some 64) = min 64 ns.length := e
    rw [e2]
    exact Nat.min_le_left _ _
  omega
/-- _law_urn, slots script, one, two, cell, cells -/
def t__law_urn (K : Fg) : TS :=
  (tSeq (tPar3 4 1 2 (tCons (tLc (iSeq K (tSl (rSlU K) (tVar 0) tNoPart (tPart (tC (.int 64))))) (gName 3) tYes (tIf (tTest (tOp rGeI (tVar 3) (tC
    (.int 0)))) (tOp (rMulU K) (tC (.int 2)) (tVar 3)) (tOp rSubI (tUn (rU fun i => .int (-i)) (tC (.int 1))) (tOp (rMulU K) (tC (.int 2)) (tVar 3)))) [3]) (tCons (tC (.int 8191)) (tCons (tOp (rAddU K) (tC (.int 131)) (tCB (rLenU
    K) (tCons (tVar 0) tNil))) tNil)))) (tSeq (tFor (iSeq K (tVar 4)) (gName 3) (tPar 1 2 (tCons (tOp rModI (tCB rInt (tCons (tOp (rAddU K) (tOp (rMulU K) (tVar 1) (tC (.int 48271))) (tVar 3)) tNil)) (tC (.int 4294967291))) (tCons
    (tOp rModI (tCB rInt (tCons (tOp (rAddU K) (tOp (rAddU K) (tOp (rMulU K) (tVar 2) (tC (.int 69621))) (tOp (rMulU K) (tC (.int 3)) (tVar 3))) (tC (.int 1))) tNil)) (tC (.int 4294967279))) tNil)))) (tRet (tLst (tCons (tLc (iSeq K
    (tVar 4)) (gName 3) (tTest (tOp rGtI (tVar 3) (tOp rPowI (tC (.int 10)) (tC (.int 16))))) (tVar 3) [3]) (tCons (tVar 1) (tCons (tVar 2) (tCons (tC (.int 0)) tNil))))))))
theorem p__law_urn {K : Fg} {vs : List V} {H : Hp} {Q : VK} {E : XK} (h : sp__law_urn K vs H Q E) : t__law_urn K { nx := fun _ H' => Q .non H', rt := Q } (start ["script", "one", "two", "cell", "cells"] vs) H := by
  obtain ⟨a, ns, rfl, hs, hn, k⟩ := h
  show t__law_urn K _ [some (.ref a), none, none, none, none] H
  unfold t__law_urn
  walk_at "sx"
  refine s_par3 ?_
  walk_at "sx"
  refine o_slL hs ?_
  refine n_new fun c H1 nc e1 hc _ => ?_
  rw [cut_intsJ ns] at hc
  refine w_seqL (SqL.of hc) ?_
  refine lc_inv walk_list (fun D i ys H' => Same H1 H' ∧ ∃ zs : List Int, ys = zs.map V.int ∧ zs.length ≤ i) (by rw [List.length_map]; have := cut_lenJ ns; omega) (fun D H' hD e _ => ⟨e, [], rfl, Nat.le_refl _⟩) (fun D i ys H' _ p => SqL.of (p.1 _ _ hc)) ?_ ?_
  · rintro D i ys x H2 H3 hD hi ⟨e2, zs, rfl, hz⟩ hy ⟨rfl, hx⟩ Yes No hyes hno
    obtain ⟨z, rfl⟩ := map_at hx
    walk_at "sx"
    refine ⟨rfl, ?_⟩
    walk_at "sx"
    refine s_ifj (fun v H' => H' = H3 ∧ ∃ q : Int, v = .int q) ?_ ?_
    · rintro v H' ⟨rfl, q, rfl⟩
      exact hyes _ _ hy fun H6 a6 => ⟨a6.same e2 hD, zs ++ [_], by rw [List.map_append]; rfl, by rw [List.length_append, List.length_singleton]; omega⟩
    · intro hk
      walk_at "sx"
      refine s_dec (fun _ => ?_) (fun _ => ?_)
      · walk_at "sx"
        exact hk _ _ ⟨rfl, _, rfl⟩
      · walk_at "sx"
        exact hk _ _ ⟨rfl, _, rfl⟩
  · rintro cl ys H2 nl ⟨e2, zs, rfl, hz⟩ hy -
    rw [List.length_map] at hz
    have hz2 := Nat.le_trans hz (cut_lenJ ns)
    walk_at "sx"
    refine o_lenL ((Same.trans e1 e2).seq hs) ?_
    walk_at "sx"
    refine ⟨_, _, _, rfl, ?_⟩
    walk_at "sx"
    refine w_seqL (SqL.of hy) ?_
    refine f_go walk_list (fun i σ H' => H' = H2 ∧ ∃ (s t : Int) (z : Option V), σ = [some (.ref a), some (.int s), some (.int t), z, some (.ref cl)] ∧ 0 ≤ t ∧ t < 4294967296) ⟨rfl, _, _, _, rfl, by omega, by rw [List.length_map]; omega⟩ (fun i σ H' _ p => by rw [p.1]; exact SqL.of hy) ?_ ?_
    · rintro i x σ H3 H4 hi ⟨rfl, s, t, z, rfl, t0, t1⟩ ⟨rfl, hx⟩
      obtain ⟨n, rfl⟩ := map_at hx
      walk_at "sx"
      have r1 := Int.emod_nonneg (t * 69621 + 3 * n + 1) (b := 4294967279) (by decide)
      have r2 := Int.emod_lt_of_pos (t * 69621 + 3 * n + 1) (b := 4294967279) (by decide)
      exact ⟨rfl, _, _, _, rfl, r1, by omega⟩
    · rintro σ H3 ⟨rfl, s, t, z, rfl, t0, t1⟩
      walk_at "sx"
      refine w_seqL (SqL.of hy) ?_
      refine lc_inv walk_list (fun D i ys H' => Same H3 H' ∧ ∃ zs : List Int, ys = zs.map V.int ∧ zs.length ≤ i) (by rw [List.length_map]; omega) (fun D H' hD e _ => ⟨e, [], rfl, Nat.le_refl _⟩) (fun D i ys H' _ p => SqL.of (p.1 _ _ hy)) ?_ ?_
      · rintro D i ys x H4 H5 hD hi ⟨e4, ws, rfl, hw⟩ hy4 ⟨rfl, hx⟩ Yes No hyes hno
        obtain ⟨n, rfl⟩ := map_at hx
        walk_at "sx"
        refine ⟨rfl, ?_⟩
        walk_at "sx"
        refine ⟨_, _, rfl, rfl, ⟨by decide, by decide, by decide⟩, ?_⟩
        walk_at "sx"
        refine s_dec (fun _ => ?_) (fun _ => ?_)
        · walk_at "sx"
          exact hyes _ _ hy4 fun H6 a6 => ⟨a6.same e4 hD, ws ++ [_], by rw [List.map_append]; rfl, by rw [List.length_append, List.length_singleton]; omega⟩
        · exact hno _ hy4 ⟨e4, ws, rfl, by omega⟩
      · rintro l ws H4 nl2 ⟨e4, us, rfl, hu⟩ hl4 -
        rw [List.length_map] at hu
        walk_at "sx"
        refine n_of rfl fun p H5 np e5 hp _ => ?_
        have e14 := Same.trans (Same.trans e1 e2) e4
        exact k p l H5 (e14.free np) ((Same.trans e1 e2).free nl2) (Same.trans e14 e5) ⟨us, s, t, 0, hp, e5 _ _ hl4, by omega, t0, t1⟩
end UW.Un
namespace UW.Un
open PySem PySem.Spec PyProof.Rows L2 UW
section
variable {K : Fg} {W : Wel} {Hs H H' : Hp} {O : Nat → Option Addr} {S S0 : Ads} {v : V} {av : Avl}
theorem rtn_urn (ok : Oks W S H) (on : W.is 1) (w : Urn H' W.a W.l) (e : Kp W.a W.l H H') (hs : ∀ b, S b → S0 b) (r : Vrp K W H (fun _ => none) S H' v av) : Rtn K W H S0 v av H' := by
  refine ⟨S, fun _ => by rw [on.2]; exact ⟨w, (ok.w.of on).2⟩, fun b o h z => e b o h (fun y => z ⟨on.1, .inl y⟩) (fun y => z ⟨on.1, .inr (.inl y)⟩), fun b hb => ⟨.inl (hs b hb), ?_, (ok.t b hb).2⟩, r⟩
  cases q : H b with
  | none => exact absurd q (ok.t b hb).1
  | some o =>
    rw [e b o q (fun y => (ok.t b hb).2 ⟨on.1, .inl y⟩) (fun y => (ok.t b hb).2 ⟨on.1, .inr (.inl y)⟩)]
    intro y
    cases y
def m__law_draw : AFn := fun as _ k => ∃ m : Int, as = [.wl 1, .d (.int m)] ∧ 0 < m ∧ m < 1073741824 ∧ ∀ r : Int, 0 ≤ r → r < m → k (.d (.int r))
theorem br__law_draw : ∀ vs H Q E, SpA K 2 m__law_draw vs H Q E → sp__law_draw K vs H Q E := by
  rintro vs H Q E ⟨W, Hs, O, S, as, x, k, _, ok, _, pr, ⟨m, rfl, m0, m1, h⟩, hq, _⟩
  obtain ⟨v, u, rfl, r1, r2⟩ := two_inv pr
  obtain ⟨on, rfl⟩ := r1
  obtain rfl := int_inv r2
  exact ⟨W.a, W.l, m, rfl, (ok.w.of on).1, m0, m1, fun r H' r0 r1 w' k' => hq _ (.d (.int r)) _ (rtn_urn ok on w' k' argS_S (Od.int r)) (h r r0 r1)⟩
end
section
variable {K : Fg}
theorem p_lawU {t : TS} {a : ASt} {N : List Str} {x : Nat} {vs : List V} {H : Hp} {Q : VK} {E : XK} (hr : RSt K (fun c d _ H => E c d H) t a) (hN : N.length = x + 2)
    (hm : a { nx := fun _ => False, rt := fun av => av = .d (.bool true) } (.x :: .wl 1 :: List.replicate x .x)) (h : sp_law K vs H Q E) : (tSeq (tAsg (tG (sp__law_urn K) E00 (tCons (tVar 0) tNil)) (gName 1)) t) { nx := fun _ H' => Q .non H', rt := Q } (L2.start N vs) H := by
  obtain ⟨p, ns, rfl, hs, hl, k⟩ := h
  match N, hN with
  | n0 :: n1 :: N, hN =>
    have lN : N.length = x := by simpa using hN
    have es : L2.start (n0 :: n1 :: N) [.ref p] = some (.ref p) :: none :: List.replicate x none := by
      unfold L2.start
      simp only [List.map_cons, List.map_nil, List.length_cons, List.length_nil]
      rw [show N.length + 1 + 1 - (0 + 1) = N.length + 1 from by omega, List.replicate_succ, lN]
      rfl
    rw [es]
    refine s_seq (s_asg (s_call (s_cons (s_var rfl (s_nil ⟨p, ns, rfl, hs, hl, fun w l H1 nw nl e1 wl => ?_⟩)))))
    refine s_gname ?_
    show t { nx := fun _ H' => Q .non H', rt := Q } (some (.ref p) :: some (.ref w) :: List.replicate x none) H1
    have f0 : Frm K ⟨w, l, l, 1, true⟩ H1 (fun _ => False) (fun _ => none) (fun _ => False) (.x :: .wl 1 :: List.replicate x .x) (some (.ref p) :: some (.ref w) :: List.replicate x none) H1 := by
      refine ⟨⟨fun _ => ⟨wl, rfl⟩, fun b z => z.elim⟩, fun b o h _ => h, fun b h => .inl h, fun _ => ⟨wl, rfl⟩, (fun i p z => by cases z), by simp, fun i z ez => ?_⟩
      match i, ez with
      | 0, ez => cases ez; trivial
      | 1, ez => cases ez; exact ⟨⟨rfl, rfl⟩, rfl⟩
      | i + 2, ez =>
        have ez' : (List.replicate x Sot.x)[i]? = some z := ez
        rw [List.getElem?_replicate] at ez'
        split at ez'
        · cases ez'; trivial
        · cases ez'
    refine hr (D := { nx := fun _ H' => Q .non H', rt := Q }) f0 hm ⟨fun O' S' α' σ' H' ke f' z => z.elim, fun O' S' α' σ' H' ke f' z => z.elim, fun O' S' α' σ' H' ke f' z => z.elim, fun v av H' rt e => ?_, fun O' S' α' σ' H' C d fs ke f' xr z => z.elim⟩
    subst e
    obtain ⟨S', _, _, _, r⟩ := rt
    cases r
    exact k H'
end
end UW.Un
namespace UW
open PySem PySem.Spec PyProof.Rows L2
section
variable {X : Cx} {a b c d : Expr} {ta tb tc td : TE} {pos : Pos}
end
section
variable {K : Fg} {E : WX}
def aChain3 (g g' g'' : AO2) (a b c d : AEx) : ATx := fun X α k => a X α fun x => b X α fun y => g x y fun z => ∃ p, z = .d (.bool p) ∧ if p = true then c X α fun w => g' y w fun z2 => ∃ p2, z2 = .d (.bool p2) ∧ if p2 = true then d X α fun u => g'' w u fun z3 => ∃ p3, z3 = .d (.bool p3) ∧ k p3 else k false else k false
theorem a_chain3 {g g' g'' : AO2} {a b c d : AEx} {X : AXr} {α : Afr} {k : Bool → Prop} (h : a X α fun x => b X α fun y => g x y fun z => ∃ p, z = .d (.bool p) ∧ if p = true then c X α fun w => g' y w fun z2 => ∃ p2, z2 = .d (.bool p2) ∧ if p2 = true then d X α fun u => g'' w u fun z3 => ∃ p3, z3 = .d (.bool p3) ∧ k p3 else k false else k false) : aChain3 g g' g'' a b c d X α k := h
end
section
variable {prog : Program} {w : World} {A : Around} {E : Value → Shared → Prop} {s : Shared}
theorem collect_tuple {l : Addr} {o : Obj} {n0 : Nat} {vs : List Value} {Q : List Value → Shared → Prop} (ho : s.heap.get? l = some o) (hc : o.cls = .type "tuple") (hd : o.data = .seq vs.toArray n0)
    (h : Q vs { s with heap := (s.heap.push (seqObj "list" #[] 0)).update s.heap.objs.size (Obj.mapSeq (· ++ vs.toArray)) }) (hsz : vs.length ≤ sizeLine) :
    wpAny (model prog w) A (collect (.ref l)) Q E s := by
  unfold collect
  refine wpAny_bind (wpAny_runValue (codeAny_builtin entry_proto_collect' ?_))
  show wpAny _ _ (do again (.builtin "list.__iadd__" ⟨[← newList [], .ref l], []⟩)) _ _ s
  refine wpAny_bind (wpAny_newList (wpAny_pure ⟨Code.quiet_builtin _ (by decide +kernel), codeAny_builtin entry_list_iadd' ?_⟩))
  show wpAny _ _ (Builtin.List.listExtendWith (.ref s.heap.objs.size) (.ref l) (.ref s.heap.objs.size)) _ _ { s with heap := s.heap.push (seqObj "list" #[] 0) }
  unfold Builtin.List.listExtendWith
  have ho' : (s.heap.push (seqObj "list" #[] 0)).get? l = some o := Heap.get?_push_of_some _ ho
  refine wpAny_bind (wpAny_typeOf (T := "tuple") ⟨o, ho', hc⟩ ?_)
  have ht : (Value.type "tuple" == Value.type "tuple") = true := by rfl
  rw [if_pos (by rw [ht]; simp)]
  refine wpAny_bind (listItems_at ho' hd ?_)
  refine wpAny_bind (listItems_at (xs := #[]) (n := 0) (Heap.get?_push_size _ rfl) rfl ?_)
  rw [if_neg (by simp)]
  refine wpAny_bind (listUpdate_at (xs := #[]) (n := 0) (Heap.get?_push_size _ rfl) rfl ?_ (Nat.zero_le _) (by show (#[] ++ vs.toArray).size ≤ sizeLine + 1; simp only [Array.size_append, List.size_toArray, List.length_nil]; omega))
  refine wpAny_pure ?_
  show wpAny (model prog w) A (do
      let o ← load s.heap.objs.size
      match o.data with
      | .seq xs _ => pure xs.toList
      | _ => unsupported "internal:collect") Q E { s with heap := (s.heap.push (seqObj "list" #[] 0)).update s.heap.objs.size (Obj.mapSeq (· ++ vs.toArray)) }
  refine wpAny_bind (wpAny_load (get?_update_seq (Heap.get?_push_size _ rfl) _) ?_)
  show wpAny _ _ (pure ((#[] : Array Value) ++ vs.toArray).toList) Q E _
  rw [show ((#[] : Array Value) ++ vs.toArray).toList = vs by simp]
  exact wpAny_pure h
open SrtO in
theorem sorted_pairsT {l : Addr} {o : Obj} {n0 : Nat} {vs : List Value} {k : Value → Int × Int} {Q : Value → Shared → Prop} (ho : s.heap.get? l = some o) (hc : o.cls = .type "tuple") (hd : o.data = .seq vs.toArray n0) (hz : vs.length ≤ sizeLine) (hp : ∀ v ∈ vs, Srt.IsPair s.heap v (k v).1 (k v).2)
    (h : ∀ (h' : Heap) (d : Addr) (out : List Value), Srtd (fun v u => lexB (k v) (k u)) out → Stb (fun v u => lexB (k v) (k u)) out vs → (∀ b o, s.heap.get? b = some o → h'.get? b = some o) → s.heap.objs.size ≤ d → (∃ n, h'.get? d = some (seqObj "list" out.toArray n)) → Q (.ref d) { s with heap := h' }) :
    wpAny (model prog w) A (call (.builtin "sorted") [.ref l]) Q E s := by
  refine Calls.call_function_entry kind_sorted plain_sorted entry_sorted (args_sorted1 _) ?_
  unfold Builtin.«sorted»
  refine wpAny_bind (m := checkCount "sorted" 1 1 _) (wpAny_pure ?_)
  refine wpAny_bind (collect_tuple ho hc hd ?_ hz)
  refine wpAny_bind (wpAny_newList ?_ hz)
  have hsz : ((s.heap.push (seqObj "list" #[] 0)).update s.heap.objs.size (Obj.mapSeq (· ++ vs.toArray))).objs.size = s.heap.objs.size + 1 := by
    rw [Heap.size_update, size_push']
  have hoL : (((s.heap.push (seqObj "list" #[] 0)).update s.heap.objs.size (Obj.mapSeq (· ++ vs.toArray))).push (seqObj "list" vs.toArray 0)).get? (s.heap.objs.size + 1) = some (seqObj "list" vs.toArray 0) := by
    rw [← hsz]; exact Heap.get?_push_size _ rfl
  have keep : ∀ b o, s.heap.get? b = some o → b ≠ s.heap.objs.size + 1 ∧ (((s.heap.push (seqObj "list" #[] 0)).update s.heap.objs.size (Obj.mapSeq (· ++ vs.toArray))).push (seqObj "list" vs.toArray 0)).get? b = some o := fun b o q => by
    have hlt : b < s.heap.objs.size := Heap.lt_size q
    refine ⟨Nat.ne_of_lt (Nat.lt_succ_of_lt hlt), Heap.get?_push_of_some _ ?_⟩
    rw [Heap.get?_update_ne _ _ _ _ (Nat.ne_of_lt hlt)]
    exact Heap.get?_push_of_some _ q
  show wpAny _ _ _ _ _ { s with heap := ((s.heap.push (seqObj "list" #[] 0)).update s.heap.objs.size (Obj.mapSeq (· ++ vs.toArray))).push (seqObj "list" vs.toArray 0) }
  rw [hsz]
  refine wpAny_bind (wpAny_holding (wpAny_call_entry slot_list_sort ⟨_, hoL, rfl⟩ entry_list_sort (list_sort_ord (swo_lex k) hoL hz (fun h2 => ?_) fun out hs hb => ⟨_, rfl, ?_⟩) (args_list_sort _)))
  · refine pairs_sortableO (by omega) (fun v hm => (hp v hm).keeps fun b o e _ => (keep b o e).2) fun o e => ?_
    have e' : some o = some (seqObj "list" vs.toArray 0) := e.symm.trans hoL
    cases e'
    intro c
    exact absurd (Value.type.inj c) (by decide)
  · exact wpAny_pure ⟨_, rfl, h (sortedAll s.heap vs out.toArray) _ out hs hb (fun b o e => sortedAll_old e) (Nat.le_succ _) (sortedAll_at s.heap vs out.toArray)⟩
end
def rSortPT (K : Fg) : List V → Hp → VK → Prop := fun vs H Q => ∃ (a : Addr) (xs : List V) (rs : List (Int × Int)), vs = [V.ref a] ∧ SqT K H a xs ∧ Tps K H xs (rs.map dP) ∧
  ∀ (ys : List V) (qs : List (Int × Int)), qs.Perm rs → qs.Pairwise (fun p q => SrtO.lexB q p = false) → Tps K H ys (qs.map dP) → New Q H (.lst ys)
section
variable {X : Cx}
theorem cr_sortPT : CallR X (.builtin "sorted") (rSortPT X.K) := by
  intro pins s σ H vs us Q I r h
  obtain ⟨a, xs, rs, rfl, hs, tx, q⟩ := h
  obtain ⟨its, rv, ⟨o0, ho0, hc0, n0, hd0⟩, hz⟩ := I.tuple hs.up
  obtain ⟨u, rfl, ru⟩ := vals1 r
  obtain rfl : u = Value.ref a := ru
  have isref : ∀ x ∈ xs, ∃ t, x = V.ref t := fun x m => by
    obtain ⟨p, hp⟩ := tps_mem tx m
    obtain ⟨t, e, _⟩ := hp.pair
    exact ⟨t, e⟩
  obtain ⟨e1, e2⟩ := refs_back rv isref
  refine sorted_pairsT (k := fun u => pairAt X.K H (backV u)) ho0 hc0 hd0 (by rw [← rv.length]; exact hz) ?_ ?_
  · intro v hv
    obtain ⟨t, rfl⟩ := e2 v hv
    have hm : V.ref t ∈ xs := by rw [e1]; exact List.mem_map.mpr ⟨_, hv, rfl⟩
    obtain ⟨p, hp⟩ := tps_mem tx hm
    have ek : pairAt X.K H (backV (.ref t)) = p := pair_one I hp
    obtain ⟨t', e, ht⟩ := hp.pair
    cases e
    obtain ⟨its2, r2, ⟨o, ho, hc, n, hd⟩, _⟩ := I.tuple ht.up
    obtain ⟨u1, u2, rfl, ri, rj⟩ := vals2 r2
    obtain ⟨t1, rfl⟩ := ri
    obtain ⟨t2, rfl⟩ := rj
    rw [ek]
    exact ⟨t, o, t1, t2, n, rfl, ho, hc, hd⟩
  · intro h' d out h1 h2 kp hd hn
    have h3 : ∀ u ∈ out, ∃ a, u = Value.ref a := fun u hu => e2 u (h2.perm.mem_iff.mp hu)
    obtain ⟨n, hn⟩ := hn
    have pm : (out.map backV).Perm xs := by rw [e1]; exact h2.perm.map _
    have qp : ((out.map backV).map (pairAt X.K H)).Perm rs := by
      have := pm.map (pairAt X.K H)
      rw [pairs_map I tx] at this
      exact this
    have ty : Tps X.K H (out.map backV) (((out.map backV).map (pairAt X.K H)).map dP) := by
      refine tps_of_map _ fun y hy => ?_
      obtain ⟨p, hp⟩ := tps_mem tx (pm.mem_iff.mp hy)
      rw [pair_one I hp]
      exact hp
    have srt : ((out.map backV).map (pairAt X.K H)).Pairwise (fun p q => SrtO.lexB q p = false) := by
      rw [List.pairwise_map, List.pairwise_map]
      exact h1
    refine ⟨.ref d, upd H d (.lst (out.map backV)), I.laid (t' := s.toks) kp hd ⟨?_, out, n, vals_back h3, hn⟩, rfl, q _ _ qp srt ty d (I.hok.fresh hd)⟩
    rw [pm.length_eq]
    exact hz
def rSortPU (K : Fg) : List V → Hp → VK → Prop := fun vs H Q => rSortP K vs H Q ∨ rSortPT K vs H Q
theorem cr_sortPU : CallR X (.builtin "sorted") (rSortPU X.K) := cr_sortP.or cr_sortPT
end
def gSortPU : AOn := fun as k => ∃ (a : Avl) (rs : List (Int × Int)), as = [a] ∧ (a.tup = some (rs.map dP) ∨ a.lst = some (rs.map dP)) ∧ ∀ qs : List (Int × Int), qs.Perm rs → qs.Pairwise (fun p q => SrtO.lexB q p = false) → k (.l (qs.map dP))
theorem rb_sortPU {K : Fg} : RCb K (rSortPU K) gSortPU := by
  intro W Hs O S H xs as k Q ok r ⟨a, rs, e, h, hk⟩ q
  subst e
  obtain ⟨v, rfl, r1⟩ := one_inv r
  obtain ⟨p, vs, rfl, o, a⟩ := r1.seq h
  rcases a with a | a
  · exact .inr ⟨p, vs, rs, rfl, a, o.tps (flat_dPs rs), fun ys qs h1 h2 t => Rst.new q ok t.ods (hk qs h1 h2)⟩
  · exact .inl ⟨p, vs, rs, rfl, SqL.of a, o.tps (flat_dPs rs), fun ys qs h1 h2 t => Rst.new q ok t.ods (hk qs h1 h2)⟩
/-- x[a], x[b] = v, w -/
def aDPut2 (i : Nat) (e e' ek ek' : AEx) : ASt := fun A α => e A.er α fun x => ∃ x', x.cl = some x' ∧ e' A.er α fun y => ∃ y', y.cl = some y' ∧ ∃ c, α[i]? = some (.dic c) ∧ ek A.er α fun ak => ∃ c', DPutA c ak x' c' ∧ ek' A.er (α.set i (.dic c')) fun ak' => ∃ c2, DPutA c' ak' y' c2 ∧ A.nx ((α.set i (.dic c')).set i (.dic c2))
section
variable {K : Fg} {E : WX} {i : Nat}
theorem a_dput2 {e e' ek ek' : AEx} {A : AEn} {α : Afr} (h : e A.er α fun x => ∃ x', x.cl = some x' ∧ e' A.er α fun y => ∃ y', y.cl = some y' ∧ ∃ c, α[i]? = some (.dic c) ∧ ek A.er α fun ak => ∃ c', DPutA c ak x' c' ∧ ek' A.er (α.set i (.dic c')) fun ak' => ∃ c2, DPutA c' ak' y' c2 ∧ A.nx ((α.set i (.dic c')).set i (.dic c2))) : aDPut2 i e e' ek ek' A α := h
end
/-- len of a slot's dict -/
def aLenDV (i : Nat) : AEx := fun _ α k => ∃ kvs, α[i]? = some (.dic (.k kvs)) ∧ k (.d (.int kvs.length))
theorem a_lenDV {i : Nat} {kvs : List (L2.Key × PyData)} {X : AXr} {α : Afr} {k : Avl → Prop} (e : α[i]? = some (.dic (.k kvs))) (h : k (.d (.int kvs.length))) : aLenDV i X α k := ⟨kvs, e, h⟩
instance {g g' g'' : AO2} {a b c d : AEx} {X : AXr} {α : Afr} {k : Bool → Prop} : Wk (aChain3 g g' g'' a b c d X α k) (a X α fun x => b X α fun y => g x y fun z => ∃ p, z = .d (.bool p) ∧ if p = true then c X α fun w => g' y w fun z2 => ∃ p2, z2 = .d (.bool p2) ∧ if p2 = true then d X α fun u => g'' w u fun z3 => ∃ p3, z3 = .d (.bool p3) ∧ k p3 else k false else k false) := ⟨fun h => a_chain3 h⟩
instance {e e' ek ek' : AEx} {A : AEn} {α : Afr} : Wk (aDPut2 i e e' ek ek' A α) (e A.er α fun x => ∃ x', x.cl = some x' ∧ e' A.er α fun y => ∃ y', y.cl = some y' ∧ ∃ c, α[i]? = some (.dic c) ∧ ek A.er α fun ak => ∃ c', DPutA c ak x' c' ∧ ek' A.er (α.set i (.dic c')) fun ak' => ∃ c2, DPutA c' ak' y' c2 ∧ A.nx ((α.set i (.dic c')).set i (.dic c2))) := ⟨fun h => a_dput2 h⟩
instance {i : Nat} {X : AXr} {α : Afr} {k : Avl → Prop} : Rs (aLenDV i X α k) 5 := ⟨trivial⟩
end UW
namespace UW.Un
open PySem PySem.Spec PyProof.Rows L2 UW
/-- one step -/
local macro_rules | `(tactic| walk_at "a1") => `(tactic| first
  | with_reducible refine wk ?_
  | (with_reducible refine rs_go 1 ?_
     first
     | with_reducible refine a_var (by with_unfolding_all rfl) (by with_unfolding_all rfl) ?_
     | with_reducible refine a_gtup (by with_unfolding_all rfl) (by with_unfolding_all rfl) ?_
     | with_reducible refine a_glst (by with_unfolding_all rfl) (by with_unfolding_all rfl) ?_)
  | (with_reducible refine rs_go 2 ?_
     first
     | with_reducible refine g_ixT (by with_unfolding_all rfl) (by first | with_unfolding_all rfl | with_unfolding_all exact at_zero _ _) ?_
     | with_reducible refine g_ixL (by with_unfolding_all rfl) (by first | with_unfolding_all rfl | with_unfolding_all exact at_zero _ _) ?_)
  | (with_reducible refine rs_go 3 ?_
     first
     | with_reducible refine g_lenT (by with_unfolding_all rfl) ?_
     | with_reducible refine g_lenL (by with_unfolding_all rfl) ?_
     | with_reducible refine g_tupL (by with_unfolding_all rfl) ?_
     | with_reducible refine g_tupT (by with_unfolding_all rfl) ?_
     | with_reducible refine g_lstT (by with_unfolding_all rfl) ?_
     | with_reducible refine g_lstL (by with_unfolding_all rfl) ?_)
  | (with_reducible refine rs_go 4 ?_
     first
     | with_reducible refine g_addL (by with_unfolding_all rfl) (by with_unfolding_all rfl) (Nat.le_of_ble_eq_true (by with_unfolding_all rfl)) ?_
     | with_reducible refine g_mulI (by first | exact Or.inl ⟨by decide, by decide⟩ | exact Or.inr ⟨by decide, by decide⟩ | (first | (refine Or.inl ⟨?_, ?_⟩ <;> omega) | (refine Or.inr ⟨?_, ?_⟩ <;> omega))) ?_
     | with_reducible refine g_mod (by first | decide | omega) ?_
     | with_reducible refine g_div (by first | decide | omega) (by first | decide | omega) ?_
     | with_reducible refine g_slT (by with_unfolding_all rfl) ?_
     | with_reducible refine g_slL (by with_unfolding_all rfl) ?_
     | with_reducible refine g_isN (by with_unfolding_all rfl) ?_
     | with_reducible refine g_notN (by with_unfolding_all rfl) ?_)
  | (with_reducible refine rs_go 5 ?_
     first
     | with_reducible refine a_dget (by with_unfolding_all rfl) ?_
     | with_reducible refine a_dget2 (by with_unfolding_all rfl) ?_
     | with_reducible refine a_fzq (by with_unfolding_all rfl) ?_
     | with_reducible refine a_retC (by with_unfolding_all rfl) ?_
     | with_reducible refine a_isX (by with_unfolding_all rfl) ?_
     | with_reducible refine a_app (by with_unfolding_all rfl) ?_
     | with_reducible refine a_ext (by with_unfolding_all rfl) ?_
     | with_reducible refine a_pop (by with_unfolding_all rfl) ?_
     | with_reducible refine a_fz (by with_unfolding_all rfl) ?_
     | with_reducible refine a_lenDV (by with_unfolding_all rfl) ?_)
  | (with_reducible refine rs_go 6 ?_
     first
     | with_reducible refine a_cl (by with_unfolding_all rfl) ?_
     | with_reducible refine a_dat (by with_unfolding_all rfl) ?_
     | with_reducible refine a_s1 (by with_unfolding_all rfl) ?_
     | with_reducible refine a_dcy (by with_unfolding_all rfl) ?_
     | with_reducible refine a_s2 (by with_unfolding_all rfl) (by with_unfolding_all rfl) ?_
     | with_reducible refine a_s3 (by with_unfolding_all rfl) (by with_unfolding_all rfl) (by with_unfolding_all rfl) ?_
     | with_reducible refine a_owned (by with_unfolding_all rfl) ?_)
  | (with_reducible refine rs_go 7 ?_
     first
     | with_reducible refine i_B (by with_unfolding_all rfl) ?_
     | with_reducible refine i_T (by with_unfolding_all rfl) ?_
     | with_reducible refine i_L (by with_unfolding_all rfl) ?_)
  | (with_reducible refine rs_go 8 ?_
     first
     | with_reducible refine a_nb (by with_unfolding_all rfl) ?_
     | with_reducible refine a_len (by with_unfolding_all rfl) ?_
     | with_reducible refine a_revT (by with_unfolding_all rfl) ?_
     | with_reducible refine a_revL (by with_unfolding_all rfl) ?_)
  | (with_reducible refine rs_go 9 ?_
     first
     | with_reducible refine iteNT (by with_unfolding_all rfl) ?_
     | with_reducible refine iteNF (by with_unfolding_all rfl) ?_
     | with_reducible refine iteIT (by with_unfolding_all rfl) ?_
     | with_reducible refine iteIF (by with_unfolding_all rfl) ?_))
local macro_rules | `(tactic| walk_at "ax") => `(tactic| (repeat (first | walk_at "a1" | with_reducible refine a_if ?_); try dsimp only [List.set_cons_zero, List.set_cons_succ, awipe, aFrz, List.getElem?_cons_zero, List.getElem?_cons_succ]))
local macro_rules | `(tactic| walk_at "ay") => `(tactic| (repeat (walk_at "a1"); try dsimp only [List.set_cons_zero, List.set_cons_succ, awipe, aFrz, List.getElem?_cons_zero, List.getElem?_cons_succ]))
/-- _law_mixed, slots urn, items, left, found -/
def t__law_mixed (K : Fg) : TS :=
  (tSeq (tPar 2 3 (tCons (tCB (rLstOf K) (tCons (tVar 1) tNil)) (tCons (tLst tNil) tNil))) (tSeq (tWhile (tTest (tOp (rNeU K) (tVar 2) (tLst tNil)))
    (tDrop (tBM K "list" rAppend (tVar 3) (tCons (tBM K "list" rPopAt (tVar 2) (tCons (tG (sp__law_draw K) E00 (tCons (tVar 0) (tCons (tCB (rLenU K) (tCons (tVar 2) tNil)) tNil))) tNil)) tNil)))) (tRet (tVar 3))))
abbrev a__law_mixed_0 : ASt :=
  (aSeq (aWhile (aB (aOp gNe (aVar 2) (aLst aNil))) (aAppPop 3 2 (aCall0 m__law_draw (bCons (aVar 0) (bCons (aCB gLen (bCons (aVar 2) bNil)) bNil))))) (aRet (aVar 3)))
abbrev a__law_mixed : ASt :=
  (aSeq (aSet2 2 3 (aCB gLstOf (bCons (aVar 1) bNil)) (aLst aNil)) a__law_mixed_0)
theorem f__law_mixed {K : Fg} {E : WX} : RSt K E (t__law_mixed K) a__law_mixed :=
  (rs_seq (rs_set2 (re_cb rb_lstOf (rv_cons re_var rv_nil)) (re_lst ra_nil)) (rs_seq (rs_while (rt_test (re_op ro_ne re_var (re_lst ra_nil)))
    (rs_appPop (re_call0 br__law_draw (rv_cons re_var (rv_cons (re_cb rb_len (rv_cons re_var rv_nil)) rv_nil))))) (rs_ret re_var)))
def m__law_mixed : AFn := mOf 2 a__law_mixed
def sp__law_mixed (K : Fg) : Sp := SpA K 2 m__law_mixed
theorem br__law_mixed {K : Fg} : ∀ vs H Q E, SpA K 2 m__law_mixed vs H Q E → sp__law_mixed K vs H Q E := fun _ _ _ _ h => h
theorem l__law_mixed {K : Fg} : ∀ vs H Q E, sp__law_mixed K vs H Q E → vs.length = 2 := l_spa
theorem p__law_mixed {K : Fg} {vs : List V} {H : Hp} {Q : VK} {E : XK} (h : sp__law_mixed K vs H Q E) : t__law_mixed K { nx := fun _ H' => Q .non H', rt := Q } (L2.start ["urn", "items", "left", "found"] vs) H :=
  p_spa (f__law_mixed) h rfl
/-- _law_tree, slots urn, s, names, pairs, place, pair -/
def t__law_tree (K : Fg) : TS :=
  (tSeq (tAsg (tG (sp__law_mixed K) E00 (tCons (tVar 0) (tCons (tLstRg (tRg1 (tVar 1))) tNil))) (gName 2)) (tSeq (tAsg (tLc (iRng2 (tCons
    (tC (.int 1)) (tCons (tVar 1) tNil))) (gName 4) tYes (tTup (tCons (tOp (rIx K) (tVar 2) (tG (sp__law_draw K) E00 (tCons (tVar 0) (tCons (tVar 4) tNil)))) (tCons (tOp (rIx K) (tVar 2) (tVar 4)) tNil))) [4]) (gName 3)) (tRet (tCB
    (rTupOf K) (tCons (tCB (rSortPU K) (tCons (tLc (iSeq K (tVar 3)) (gName 5) tYes (tTup (tCons (tCB (rMinU K) (tCons (tVar 5) tNil)) (tCons (tCB (rMaxU K) (tCons (tVar 5) tNil)) tNil))) [5]) tNil)) tNil)))))
abbrev a__law_tree_0 : ASt :=
  (aRet (aCB gTupOf (bCons (aCB gSortPU (bCons (aLc (aSeqI (aVar 3)) (agName 5) aYes (aTup (aCons (aCB gMin (bCons (aVar 5) bNil)) (aCons (aCB gMax (bCons (aVar 5) bNil)) aNil))) [5]) bNil)) bNil)))
abbrev a__law_tree_1 : ASt :=
  (aSeq (aAsg (aLc (aRng2 (bCons (aC (.int 1)) (bCons (aVar 1) bNil))) (agName 4) aYes (aTup (aCons (aOp gIx (aVar 2) (aCall0 m__law_draw (bCons (aVar 0) (bCons (aVar 4) bNil)))) (aCons (aOp gIx (aVar
    2) (aVar 4)) aNil))) [4]) (agName 3)) a__law_tree_0)
abbrev a__law_tree : ASt :=
  (aSeq (aAsg (aCall0 m__law_mixed (bCons (aVar 0) (bCons (aLstRg (aVar 1)) bNil))) (agName 2)) a__law_tree_1)
theorem f__law_tree {K : Fg} {E : WX} : RSt K E (t__law_tree K) a__law_tree :=
  (rs_seq (rs_asg (re_call0 br__law_mixed (rv_cons re_var (rv_cons (re_lstRg re_var) rv_nil))) rg_name) (rs_seq (rs_asg (re_lc (ri_rng2 (rv_cons re_int
    (rv_cons re_var rv_nil))) rg_name rt_yes (re_tup (ra_cons (re_op ro_ix re_var (re_call0 br__law_draw (rv_cons re_var (rv_cons re_var rv_nil)))) (ra_cons (re_op ro_ix re_var re_var) ra_nil))) (by rfl)) rg_name) (rs_ret (re_cb
    rb_tupOf (rv_cons (re_cb rb_sortPU (rv_cons (re_lc (ri_seq re_var) rg_name rt_yes (re_tup (ra_cons (re_cb rb_min (rv_cons re_var rv_nil)) (ra_cons (re_cb rb_max (rv_cons re_var rv_nil)) ra_nil))) (by rfl)) rv_nil)) rv_nil)))))
def m__law_tree : AFn := mOf 4 a__law_tree
def sp__law_tree (K : Fg) : Sp := SpA K 2 m__law_tree
theorem br__law_tree {K : Fg} : ∀ vs H Q E, SpA K 2 m__law_tree vs H Q E → sp__law_tree K vs H Q E := fun _ _ _ _ h => h
theorem l__law_tree {K : Fg} : ∀ vs H Q E, sp__law_tree K vs H Q E → vs.length = 2 := l_spa
theorem p__law_tree {K : Fg} {vs : List V} {H : Hp} {Q : VK} {E : XK} (h : sp__law_tree K vs H Q E) : t__law_tree K { nx := fun _ H' => Q .non H', rt := Q } (L2.start ["urn", "s", "names", "pairs", "place", "pair"] vs) H :=
  p_spa (f__law_tree) h rfl
/-- _law_parted, slots s, tree, roads, j, a, b -/
def t__law_parted (K : Fg) : TS :=
  (tSeq (tAsg (tLst tNil) (gName 2)) (tSeq (tFor (iEnumV K (tCons (tVar 1) tNil)) (gTup K 2 (gCons (gName 3) (gCons (gTup K 2 (gCons (gName 4)
    (gCons (gName 5) gNil))) gNil))) (tAsg (tOp (rAddU K) (tVar 2) (tLst (tCons (tTup (tCons (tVar 4) (tCons (tOp (rAddU K) (tVar 0) (tVar 3)) tNil))) (tCons (tTup (tCons (tVar 5) (tCons (tOp (rAddU K) (tVar 0) (tVar 3)) tNil)))
    tNil)))) (gName 2))) (tRet (tTup (tCons (tOp rSubI (tOp (rMulU K) (tC (.int 2)) (tVar 0)) (tC (.int 1))) (tCons (tCB (rTupOf K) (tCons (tCB (rSortPU K) (tCons (tVar 2) tNil)) tNil)) (tCons (tOp (rMulT K) (tTup (tCons (tC (.int
    1)) tNil)) (tCB (rLenU K) (tCons (tVar 2) tNil))) tNil)))))))
abbrev a__law_parted_0 : ASt :=
  (aRet (aTup (aCons (aOp gSub' (aOp gMul (aC (.int 2)) (aVar 0)) (aC (.int 1))) (aCons (aCB gTupOf (bCons (aCB gSortPU (bCons (aVar 2) bNil)) bNil)) (aCons (aOp gMulT (aTup (aCons (aC (.int 1))
    aNil)) (aCB gLen (bCons (aVar 2) bNil))) aNil)))))
abbrev a__law_parted_1 : ASt :=
  (aSeq (aFor (aEnum (bCons (aVar 1) bNil)) (agTup 2 (agCons (agName 3) (agCons (agTup 2 (agCons (agName 4) (agCons (agName 5) agNil))) agNil))) (aAsg (aOp gAdd (aVar 2) (aLst (aCons (aTup (aCons
    (aVar 4) (aCons (aOp gAdd (aVar 0) (aVar 3)) aNil))) (aCons (aTup (aCons (aVar 5) (aCons (aOp gAdd (aVar 0) (aVar 3)) aNil))) aNil)))) (agName 2))) a__law_parted_0)
abbrev a__law_parted : ASt :=
  (aSeq (aAsg (aLst aNil) (agName 2)) a__law_parted_1)
theorem f__law_parted {K : Fg} {E : WX} : RSt K E (t__law_parted K) a__law_parted :=
  (rs_seq (rs_asg (re_lst ra_nil) rg_name) (rs_seq (rs_for (ri_enum (rv_cons re_var rv_nil)) (rg_tup (rgs_cons rg_name (rgs_cons (rg_tup (rgs_cons
    rg_name (rgs_cons rg_name rgs_nil))) rgs_nil))) (rs_asg (re_op ro_add re_var (re_lst (ra_cons (re_tup (ra_cons re_var (ra_cons (re_op ro_add re_var re_var) ra_nil))) (ra_cons (re_tup (ra_cons re_var (ra_cons (re_op ro_add
    re_var re_var) ra_nil))) ra_nil)))) rg_name)) (rs_ret (re_tup (ra_cons (re_op ro_sub (re_op ro_mul re_int re_var) re_int) (ra_cons (re_cb rb_tupOf (rv_cons (re_cb rb_sortPU (rv_cons re_var rv_nil)) rv_nil)) (ra_cons (re_op
    ro_mulT (re_tup (ra_cons re_int ra_nil)) (re_cb rb_len (rv_cons re_var rv_nil))) ra_nil)))))))
def m__law_parted : AFn := mOf 4 a__law_parted
def sp__law_parted (K : Fg) : Sp := SpA K 2 m__law_parted
theorem br__law_parted {K : Fg} : ∀ vs H Q E, SpA K 2 m__law_parted vs H Q E → sp__law_parted K vs H Q E := fun _ _ _ _ h => h
theorem l__law_parted {K : Fg} : ∀ vs H Q E, sp__law_parted K vs H Q E → vs.length = 2 := l_spa
theorem p__law_parted {K : Fg} {vs : List V} {H : Hp} {Q : VK} {E : XK} (h : sp__law_parted K vs H Q E) : t__law_parted K { nx := fun _ H' => Q .non H', rt := Q } (L2.start ["s", "tree", "roads", "j", "a", "b"] vs) H :=
  p_spa (f__law_parted) h rfl
/-- is_elder, slots s, tree -/
def t_is_elder (K : Fg) : TS :=
  (tSeq (tIfS (tOr (tTest (tOp (rLtU K) (tCB (rLenU K) (tCons (tVar 1) tNil)) (tC (.int 2)))) (tOr (tTest (tOp (rNeU K) (tCB (rLenU K) (tCons (tVar 1) tNil)) (tOp rSubI
    (tVar 0) (tC (.int 1))))) (tTest (tOp rNotN (tG (sp_roads_error K) E00 (tCons (tVar 0) (tCons (tVar 1) tNil))) (tC .non))))) (tRet (tC (.bl false))) tNext) (tRet (tOp (rEqU K) (tCB rLenD (tCons (tG (sp_steps_known K) E00 (tCons
    (tTup (tCons (tVar 0) (tCons (tVar 1) (tCons (tTup tNil) tNil)))) (tCons (tC (.int 0)) tNil))) tNil)) (tVar 0))))
abbrev a_is_elder_0 : ASt :=
  (aRet (aOp gEq (aCB gLenD (bCons (aCall0 m_steps_known (bCons (aTup (aCons (aVar 0) (aCons (aVar 1) (aCons (aTup aNil) aNil)))) (bCons (aC (.int 0)) bNil))) bNil)) (aVar 0)))
abbrev a_is_elder : ASt :=
  (aSeq (aIfS (aOr (aB (aOp gLt (aCB gLen (bCons (aVar 1) bNil)) (aC (.int 2)))) (aOr (aB (aOp gNe (aCB gLen (bCons (aVar 1) bNil)) (aOp gSub' (aVar 0) (aC (.int 1))))) (aB (aOp gNotN (aCall0
    m_roads_error (bCons (aVar 0) (bCons (aVar 1) bNil))) (aC .none))))) (aRet (aC (.bool false))) aNext) a_is_elder_0)
theorem f_is_elder {K : Fg} {E : WX} : RSt K E (t_is_elder K) a_is_elder :=
  (rs_seq (rs_ifs (rt_or (rt_test (re_op ro_lt (re_cb rb_len (rv_cons re_var rv_nil)) re_int)) (rt_or (rt_test (re_op ro_ne (re_cb rb_len (rv_cons re_var
    rv_nil)) (re_op ro_sub re_var re_int))) (rt_test (re_op ro_notN (re_call0 br_roads_error (rv_cons re_var (rv_cons re_var rv_nil))) re_non)))) (rs_ret re_bl) rs_next) (rs_ret (re_op ro_eq (re_cb rb_lenD (rv_cons (re_call0
    br_steps_known (rv_cons (re_tup (ra_cons re_var (ra_cons re_var (ra_cons (re_tup ra_nil) ra_nil)))) (rv_cons re_int rv_nil))) rv_nil)) re_var)))
def m_is_elder : AFn := mOf 0 a_is_elder
def sp_is_elder (K : Fg) : Sp := SpA K 2 m_is_elder
theorem br_is_elder {K : Fg} : ∀ vs H Q E, SpA K 2 m_is_elder vs H Q E → sp_is_elder K vs H Q E := fun _ _ _ _ h => h
theorem l_is_elder {K : Fg} : ∀ vs H Q E, sp_is_elder K vs H Q E → vs.length = 2 := l_spa
theorem p_is_elder {K : Fg} {vs : List V} {H : Hp} {Q : VK} {E : XK} (h : sp_is_elder K vs H Q E) : t_is_elder K { nx := fun _ H' => Q .non H', rt := Q } (L2.start ["s", "tree"] vs) H :=
  p_spa (f_is_elder) h rfl
/-- parted_web, slots s, tree, roads, number, one, other -/
def t_parted_web (K : Fg) (C : Cl) (W0 : WX) : TS :=
  (tSeq (tIfS (tOr (tTest (tOp rGtI (tOp rSubI (tOp (rMulU K) (tC (.int 2)) (tVar 0)) (tC (.int 1))) (tC (.int 24))))
    (tNot (tB (tG (sp_is_elder K) E00 (tCons (tVar 0) (tCons (tVar 1) tNil)))))) (tRaise (tMkB C.Unfit (sp_bare K)) W0) tNext) (tSeq (tAsg (tLst tNil) (gName 2)) (tSeq (tFor (iEnumV K (tCons (tVar 1) tNil)) (gTup K 2 (gCons (gName
    3) (gCons (gTup K 2 (gCons (gName 4) (gCons (gName 5) gNil))) gNil))) (tDrop (tBM K "list" rExtend (tVar 2) (tCons (tLst (tCons (tTup (tCons (tVar 4) (tCons (tOp (rAddU K) (tVar 0) (tVar 3)) tNil))) (tCons (tTup (tCons (tVar 5)
    (tCons (tOp (rAddU K) (tVar 0) (tVar 3)) tNil))) tNil))) tNil)))) (tRet (tTup (tCons (tOp rSubI (tOp (rMulU K) (tC (.int 2)) (tVar 0)) (tC (.int 1))) (tCons (tCB (rTupOf K) (tCons (tCB (rSortPU K) (tCons (tVar 2) tNil)) tNil))
    (tCons (tOp (rMulT K) (tTup (tCons (tC (.int 1)) tNil)) (tCB (rLenU K) (tCons (tVar 2) tNil))) tNil))))))))
abbrev a_parted_web_0 (C : Cl) : ASt :=
  (aRet (aTup (aCons (aOp gSub' (aOp gMul (aC (.int 2)) (aVar 0)) (aC (.int 1))) (aCons (aCB gTupOf (bCons (aCB gSortPU (bCons (aVar 2) bNil)) bNil)) (aCons (aOp gMulT (aTup (aCons (aC (.int
    1)) aNil)) (aCB gLen (bCons (aVar 2) bNil))) aNil)))))
abbrev a_parted_web_1 (C : Cl) : ASt :=
  (aSeq (aFor (aEnum (bCons (aVar 1) bNil)) (agTup 2 (agCons (agName 3) (agCons (agTup 2 (agCons (agName 4) (agCons (agName 5) agNil))) agNil))) (aExt 2 (aLst (aCons (aTup (aCons (aVar 4)
    (aCons (aOp gAdd (aVar 0) (aVar 3)) aNil))) (aCons (aTup (aCons (aVar 5) (aCons (aOp gAdd (aVar 0) (aVar 3)) aNil))) aNil))))) (a_parted_web_0 C))
abbrev a_parted_web_2 (C : Cl) : ASt :=
  (aSeq (aSet 2 (aLst aNil)) (a_parted_web_1 C))
abbrev a_parted_web (C : Cl) : ASt :=
  (aSeq (aIfS (aOr (aB (aOp gGt (aOp gSub' (aOp gMul (aC (.int 2)) (aVar 0)) (aC (.int 1))) (aC (.int 24)))) (aNot (aB (aCall0 m_is_elder (bCons (aVar 0) (bCons (aVar 1) bNil)))))) (aRaise
    C.Unfit) aNext) (a_parted_web_2 C))
theorem f_parted_web {K : Fg} {C : Cl} {E : WX} (T_Unfit : ExT K C.Unfit C.UnevenError) : RSt K E (t_parted_web K C E) (a_parted_web C) :=
  (rs_seq (rs_ifs (rt_or (rt_test (re_op ro_gt (re_op ro_sub (re_op ro_mul re_int re_var)
    re_int) re_int)) (rt_not (rt_b (re_call0 br_is_elder (rv_cons re_var (rv_cons re_var rv_nil)))))) (rs_raise T_Unfit.o) rs_next) (rs_seq (rs_set (re_lst ra_nil)) (rs_seq (rs_for (ri_enum (rv_cons re_var rv_nil)) (rg_tup
    (rgs_cons rg_name (rgs_cons (rg_tup (rgs_cons rg_name (rgs_cons rg_name rgs_nil))) rgs_nil))) (rs_ext (re_lst (ra_cons (re_tup (ra_cons re_var (ra_cons (re_op ro_add re_var re_var) ra_nil))) (ra_cons (re_tup (ra_cons re_var
    (ra_cons (re_op ro_add re_var re_var) ra_nil))) ra_nil))))) (rs_ret (re_tup (ra_cons (re_op ro_sub (re_op ro_mul re_int re_var) re_int) (ra_cons (re_cb rb_tupOf (rv_cons (re_cb rb_sortPU (rv_cons re_var rv_nil)) rv_nil))
    (ra_cons (re_op ro_mulT (re_tup (ra_cons re_int ra_nil)) (re_cb rb_len (rv_cons re_var rv_nil))) ra_nil))))))))
def m_parted_web (C : Cl) : AFn := mOf 4 (a_parted_web C)
def sp_parted_web (K : Fg) (C : Cl) : Sp := SpA K 2 (m_parted_web C)
theorem br_parted_web {K : Fg} {C : Cl} : ∀ vs H Q E, SpA K 2 (m_parted_web C) vs H Q E → sp_parted_web K C vs H Q E := fun _ _ _ _ h => h
theorem l_parted_web {K : Fg} {C : Cl} : ∀ vs H Q E, sp_parted_web K C vs H Q E → vs.length = 2 := l_spa
theorem p_parted_web {K : Fg} {C : Cl} (T_Unfit : ExT K C.Unfit C.UnevenError) {vs : List V} {H : Hp} {Q : VK} {E : XK} (h : sp_parted_web K C vs H Q E) : t_parted_web K C (fun c d _ H => E c d H) { nx := fun _ H' => Q .non H', rt := Q } (L2.start ["s", "tree", "roads", "number", "one", "other"] vs) H :=
  p_spa (f_parted_web T_Unfit) h rfl
section
variable {x : AXc} {k : Avl → Prop} {s : Int} {rs : List (Int × Int)} {C : Cl}
theorem atI_toNat {α : Type} {xs : List α} {r : Int} {y : α} (h0 : 0 ≤ r) (h : xs[r.toNat]? = some y) : atI xs r = some y := by
  obtain ⟨n, rfl⟩ : ∃ n : Nat, r = n := ⟨r.toNat, by omega⟩
  exact atI_nat h
theorem erase_perm {α : Type} : ∀ {l : List α} {i : Nat} (h : i < l.length), (l[i] :: l.eraseIdx i).Perm l
  | x :: l, 0, _ => .refl _
  | x :: l, i + 1, h => by
    rw [List.getElem_cons_succ, List.eraseIdx_cons_succ]
    exact (List.Perm.swap ..).trans ((erase_perm (by simpa using h)).cons x)
theorem eqv_list_nil (ds : List PyData) : PyData.eqv (.list ds) (.list []) = decide (ds = []) := by
  cases ds with
  | nil => simp [PyData.eqv, PyData.eqvAll]
  | cons d ds => simp [PyData.eqv, PyData.eqvAll]
/-- plain enough to be compared -/
def Pln (d : PyData) : Prop := d.canLay0 = true ∧ d.depth ≤ 5
theorem shaped_list : ∀ {ds : List PyData}, (∀ d ∈ ds, Pln d) → SeqAt.shaped (.list ds) = true := by
  intro ds h
  have a : PyData.canLayAll0 ds = true ∧ PyData.depthAll ds ≤ 5 := by
    induction ds with
    | nil => exact ⟨by simp [PyData.canLayAll0], by simp [PyData.depthAll]⟩
    | cons d ds ih =>
      obtain ⟨h1, h2⟩ := ih fun e he => h e (List.mem_cons_of_mem _ he)
      obtain ⟨h3, h4⟩ := h d (List.mem_cons_self ..)
      refine ⟨by simp [PyData.canLayAll0, h1, h3], ?_⟩
      simp only [PyData.depthAll]
      omega
  exact shaped_of (by simp only [PyData.canLay0]; exact a.1) (by simp only [PyData.depth]; omega)
theorem s__law_mixed {a : Avl} {ds : List PyData} (ha : a.inn = .d (.list ds)) (hl : ds.length ≤ 60000) (hp : ∀ d ∈ ds, Pln d) (h : ∀ es : List PyData, es.Perm ds → k (.l es)) : m__law_mixed [.wl 1, a] x k := by
  show a__law_mixed _ [.wl 1, a.inn, .x, .x]
  rw [ha]
  walk_at "ax"
  refine a_while (fun m α => ∃ rest found : List PyData, α = [.wl 1, .d (.list ds), .own rest, .own found] ∧ (found ++ rest).Perm ds ∧ rest.length = m) ds.length ⟨ds, [], rfl, .refl _, rfl⟩ ?_
  rintro m α ⟨rest, found, rfl, pm, rfl⟩
  have pl := pm.length_eq
  rw [List.length_append] at pl
  walk_at "ax"
  refine g_neD rfl rfl (shaped_list fun d hd => hp d (pm.mem_iff.mp (List.mem_append.mpr (.inr hd)))) rfl ?_
  rw [eqv_list_nil]
  walk_at "ax"
  refine s_ndec (fun hne => ?_) (fun hne => ?_)
  · have := List.length_pos_iff.mpr hne
    refine a_appPop ⟨found, rest, rfl, rfl, by decide, ?_⟩
    walk_at "ax"
    refine ⟨_, rfl, by omega, by omega, fun r r0 r1 => ?_⟩
    walk_at "ax"
    have hr : r.toNat < rest.length := by omega
    refine ⟨r.toNat, rest[r.toNat], by rw [show ((r.toNat : Nat) : Int) = r by omega], List.getElem?_eq_getElem hr, by omega, by omega, ?_⟩
    refine ⟨_, ?_, _, _, rfl, ?_, rfl⟩
    · rw [List.length_eraseIdx, if_pos hr]
      omega
    · refine List.Perm.trans ?_ pm
      rw [List.append_assoc]
      refine List.Perm.append_left _ ?_
      exact erase_perm hr
  · subst hne
    walk_at "ax"
    rw [List.append_nil] at pm
    exact h _ pm
theorem iota_at' {n i : Nat} {d : PyData} (h : ((iota n).map PyData.int)[i]? = some d) : d = .int i ∧ i < n := by
  unfold iota at h
  rw [List.map_map, List.getElem?_map] at h
  cases e : (List.range n)[i]? with
  | none => rw [e] at h; cases h
  | some j =>
    rw [e] at h
    have hi := (List.getElem?_eq_some_iff.mp e).1
    rw [List.length_range] at hi
    rw [List.getElem?_range hi] at e
    cases e
    exact ⟨(Option.some.inj h).symm, hi⟩
theorem pln_int (i : Int) : Pln (.int i) := ⟨by simp [PyData.canLay0], by simp [PyData.depth]⟩
theorem pln_map {κ : Type} {f : κ → PyData} (h : ∀ c, Pln (f c)) {l : List κ} : ∀ d ∈ l.map f, Pln d := fun d hd => by
  obtain ⟨c, _, rfl⟩ := List.mem_map.mp hd
  exact h c
theorem perm_unmap {κ β : Type} {f : κ → β} {es ds : List β} (pm : es.Perm ds) : ∀ {l : List κ}, ds = l.map f → ∃ ns : List κ, ns.Perm l ∧ es = ns.map f := by
  induction pm with
  | nil =>
    intro l e
    cases l with
    | nil => exact ⟨[], .refl _, rfl⟩
    | cons p l => cases e
  | cons x _ ih =>
    intro l e
    cases l with
    | nil => cases e
    | cons p l =>
      obtain ⟨rfl, e2⟩ := List.cons.inj e
      obtain ⟨ns, a, rfl⟩ := ih e2
      exact ⟨p :: ns, a.cons p, rfl⟩
  | swap x y r =>
    intro l e
    cases l with
    | nil => cases e
    | cons p l =>
      cases l with
      | nil => cases (List.cons.inj e).2
      | cons q l =>
        obtain ⟨rfl, e2⟩ := List.cons.inj e
        obtain ⟨rfl, rfl⟩ := List.cons.inj e2
        exact ⟨q :: p :: l, .swap .., rfl⟩
  | trans _ _ ih1 ih2 =>
    intro l e
    obtain ⟨ns, a, rfl⟩ := ih2 e
    obtain ⟨ts, b, rfl⟩ := ih1 rfl
    exact ⟨ts, b.trans a, rfl⟩
/-- the roads of the web that comes of a tree -/
def prR (s : Int) : List (Int × Int) → Int → List (Int × Int)
  | [], _ => []
  | p :: ps, j => (p.1, s + j) :: (p.2, s + j) :: prR s ps (j + 1)
theorem prR_snoc (s : Int) (p : Int × Int) : ∀ (as : List (Int × Int)) (j : Int), prR s (as ++ [p]) j = prR s as j ++ [(p.1, s + (j + as.length)), (p.2, s + (j + as.length))]
  | [], j => by simp [prR]
  | a :: as, j => by
    show (a.1, s + j) :: (a.2, s + j) :: prR s (as ++ [p]) (j + 1) = (a.1, s + j) :: (a.2, s + j) :: (prR s as (j + 1) ++ _)
    rw [prR_snoc s p as (j + 1), List.length_cons]
    rw [show j + 1 + (as.length : Int) = j + ((as.length + 1 : Nat) : Int) by omega]
theorem prR_len (s : Int) : ∀ (as : List (Int × Int)) (j : Int), (prR s as j).length = 2 * as.length
  | [], _ => rfl
  | a :: as, j => by
    show (prR s as (j + 1)).length + 1 + 1 = _
    rw [prR_len s as, List.length_cons]
    omega
theorem s__law_parted (h0 : rs ≠ []) (hl : rs.length ≤ 40) (h : ∀ qs : List (Int × Int), qs.Perm (prR s rs 0) → qs.Pairwise (fun p q => SrtO.lexB q p = false) → k (.d (dWeb (2 * s - 1) qs (List.replicate (2 * rs.length) 1)))) : m__law_parted [.d (.int s), .d (dPs rs)] x k := by
  show a__law_parted _ [.d (.int s), .d (dPs rs), .x, .x, .x, .x]
  have l0 := List.length_pos_iff.mpr h0
  walk_at "ax"
  refine a_loop (fun i α => ∃ x3 x4 x5, α = [.d (.int s), .d (dPs rs), .d (.list ((prR s (rs.take i) 0).map dP)), x3, x4, x5]) ?_ ?_ ?_
  · exact ⟨_, _, _, rfl⟩
  · rintro i y α hy ⟨x3, x4, x5, rfl⟩
    obtain ⟨d, hd, rfl⟩ := enD_at hy
    obtain ⟨q, hq, rfl⟩ := dp_at hd
    have hi := (List.getElem?_eq_some_iff.mp hq).1
    have et : rs.take (i + 1) = rs.take i ++ [q] := by rw [List.take_add_one, hq]; rfl
    have ln := prR_len s (rs.take i) 0
    rw [List.length_take] at ln
    walk_at "ax"
    refine g_addL rfl rfl (by rw [List.length_map]; simp; omega) ?_
    walk_at "ax"
    rw [et, prR_snoc, List.map_append, List.length_take, Nat.min_eq_left (by omega), Int.zero_add]
    exact ⟨_, _, _, rfl⟩
  · rintro α ⟨x3, x4, x5, rfl⟩
    rw [enD_len, List.length_map, List.take_length]
    have ln := prR_len s rs 0
    walk_at "ax"
    refine g_mulI (.inl ⟨by decide, by decide⟩) ?_
    walk_at "ax"
    refine ⟨_, prR s rs 0, rfl, .inr rfl, fun qs pm sr => ?_⟩
    walk_at "ax"
    refine g_mulT (by simp) (by rw [List.length_map]; omega) (by rw [List.length_map]; omega) (Nat.le_of_ble_eq_true rfl) ?_
    walk_at "ax"
    rw [List.length_map, ln, flat_rep]
    have e := h qs pm sr
    unfold dWeb dIs at e
    rw [List.map_replicate] at e
    exact e
theorem s__law_tree (s0 : 2 ≤ s) (s1 : s ≤ 13) (h : ∀ rs : List (Int × Int), (rs.length : Int) = s - 1 → (∀ p ∈ rs, 0 ≤ p.1 ∧ p.1 < s ∧ 0 ≤ p.2 ∧ p.2 < s) → k (.d (dPs rs))) : m__law_tree [.wl 1, .d (.int s)] x k := by
  show a__law_tree _ [.wl 1, .d (.int s), .x, .x, .x, .x]
  walk_at "ax"
  refine ⟨by omega, by omega, ?_⟩
  walk_at "ax"
  refine s__law_mixed rfl (by rw [List.length_map, iota_len]; omega) (pln_map pln_int) fun es pm => ⟨?_, fun z => by cases z⟩
  obtain ⟨ns, pn, rfl⟩ := perm_unmap pm rfl
  have ln : ns.length = s.toNat := by rw [pn.length_eq, iota_len]
  have at' : ∀ {i : Int}, 0 ≤ i → i < s → ∃ v : Int, 0 ≤ v ∧ v < s ∧ atI (ns.map PyData.int) i = some (.int v) := fun {i} i0 i1 => by
    have hi : i.toNat < ns.length := by omega
    refine ⟨ns[i.toNat], ?_⟩
    have m := pn.mem_iff.mp (List.getElem_mem hi)
    unfold iota at m
    obtain ⟨j, hj, e⟩ := List.mem_map.mp m
    have := List.mem_range.mp hj
    refine ⟨by omega, by omega, atI_toNat i0 (by rw [List.getElem?_map, List.getElem?_eq_getElem hi]; rfl)⟩
  walk_at "ax"
  refine i_r2 (by omega) ⟨by rw [List.length_map, rgI_len]; omega, ?_⟩
  refine a_lcgo (fun i acc => ∃ qs : List (Int × Int), acc = qs.map dP ∧ qs.length = i ∧ ∀ p ∈ qs, 0 ≤ p.1 ∧ p.1 < s ∧ 0 ≤ p.2 ∧ p.2 < s) ⟨[], rfl, rfl, fun p hp => by cases hp⟩ ?_ ?_
  · rintro i y acc hy ⟨qs, rfl, hl, hb⟩
    obtain ⟨hi, rfl⟩ := rgI_at hy
    walk_at "ax"
    refine ⟨_, rfl, by omega, by omega, fun r r0 r1 => ⟨?_, fun z => by cases z⟩⟩
    obtain ⟨v, v0, v1, ev⟩ := at' (i := r) r0 (by omega)
    obtain ⟨u, u0, u1, eu⟩ := at' (i := 1 + (i : Int)) (by omega) (by omega)
    walk_at "ax"
    refine g_ixL rfl ev ?_
    walk_at "ax"
    refine g_ixL rfl eu ?_
    walk_at "ax"
    refine ⟨qs ++ [(v, u)], by rw [List.map_append]; rfl, by rw [List.length_append, hl]; rfl, fun p hp => ?_⟩
    rcases List.mem_append.mp hp with hp | hp
    · exact hb p hp
    · rw [List.mem_singleton.mp hp]
      exact ⟨v0, v1, u0, u1⟩
  rintro acc ⟨qs, rfl, hl, hb⟩ -
  rw [List.length_map, rgI_len] at hl
  walk_at "ax"
  refine ⟨by rw [List.length_map]; omega, ?_⟩
  refine a_lcgo (fun i acc => ∃ ts : List (Int × Int), acc = ts.map dP ∧ ts.length = i ∧ ∀ p ∈ ts, 0 ≤ p.1 ∧ p.1 < s ∧ 0 ≤ p.2 ∧ p.2 < s) ⟨[], rfl, rfl, fun p hp => by cases hp⟩ ?_ ?_
  · rintro i y acc hy ⟨ts, rfl, hl2, hb2⟩
    obtain ⟨q, hq, rfl⟩ := dp_at hy
    have rq := hb q (List.mem_of_getElem? hq)
    walk_at "ax"
    refine ⟨_, [q.1, q.2], rfl, .inl rfl, by simp, fun m hm _ => ?_⟩
    walk_at "ax"
    refine ⟨_, [q.1, q.2], rfl, .inl rfl, by simp, fun m' hm' _ => ?_⟩
    walk_at "ax"
    refine ⟨ts ++ [(m, m')], by rw [List.map_append]; rfl, by rw [List.length_append, hl2]; rfl, fun p hp => ?_⟩
    rcases List.mem_append.mp hp with hp | hp
    · exact hb2 p hp
    · rw [List.mem_singleton.mp hp]
      simp only [List.mem_cons, List.not_mem_nil, or_false] at hm hm'
      rcases hm with rfl | rfl <;> rcases hm' with rfl | rfl <;> simp <;> omega
  rintro acc ⟨ts, rfl, hl2, hb2⟩ -
  rw [List.length_map] at hl2
  walk_at "ax"
  refine ⟨_, ts, rfl, .inr rfl, fun us pm sr => ?_⟩
  walk_at "ax"
  exact h us (by have := pm.length_eq; omega) fun p hp => hb2 p (pm.mem_iff.mp hp)
/-- what parted_web takes -/
def treeOk (s : Int) (rs : List (Int × Int)) : Prop := 3 ≤ s ∧ s ≤ 12 ∧ (rs.length : Int) = s - 1 ∧ Inr s rs ∧ (∀ j, 1 ≤ j → j < rs.length → orAt rs j = true) ∧ Joined s rs
theorem toP_dP (rs : List (Int × Int)) : (rs.map dP).map toP = rs := by
  rw [List.map_map]
  conv => rhs; rw [← List.map_id rs]
  exact List.map_congr_left fun p _ => rfl
theorem rdAt_dP {n : Int} {j : Nat} {p : Int × Int} (h : rs[j]? = some p) : rdAt n (rs.map dP) j = true ↔ 0 ≤ p.1 ∧ p.1 < p.2 ∧ p.2 < n := by
  unfold rdAt
  rw [List.getElem?_map, h]
  show (fitD 0 (n - 1) (.int p.1) && fitD (p.1 + 1) (n - 1) (.int p.2)) = true ↔ _
  show ((decide (0 ≤ p.1) && decide (p.1 ≤ n - 1)) && (decide (p.1 + 1 ≤ p.2) && decide (p.2 ≤ n - 1))) = true ↔ _
  rw [Bool.and_eq_true, Bool.and_eq_true, Bool.and_eq_true, decide_eq_true_iff, decide_eq_true_iff, decide_eq_true_iff, decide_eq_true_iff]
  omega
theorem rdsO_dP {n : Int} (h1 : 1 ≤ rs.length) (h2 : rs.length ≤ 40) : isNon (rdsO n (rs.map dP)) = true ↔ Inr n rs ∧ ∀ j, 1 ≤ j → j < rs.length → orAt rs j = true := by
  unfold rdsO
  rw [List.length_map, if_pos ⟨h1, h2⟩, toP_dP]
  constructor
  · intro h
    cases e : (List.range rs.length).find? fun j => !rdAt n (rs.map dP) j with
    | some i => rw [e] at h; cases h
    | none =>
      rw [e] at h
      dsimp only at h
      cases e2 : (List.range rs.length).find? fun j => decide (1 ≤ j) && !orAt rs j with
      | some i => rw [e2] at h; cases h
      | none =>
        rw [List.find?_eq_none] at e e2
        refine ⟨fun p hp => ?_, fun j j1 j2 => ?_⟩
        · obtain ⟨j, hj⟩ := List.mem_iff_getElem?.mp hp
          have := e j (List.mem_range.mpr (List.getElem?_eq_some_iff.mp hj).1)
          exact (rdAt_dP hj).mp (by simpa using this)
        · have := e2 j (List.mem_range.mpr j2)
          simpa [j1] using this
  · rintro ⟨h3, h4⟩
    have e : ((List.range rs.length).find? fun j => !rdAt n (rs.map dP) j) = none := by
      rw [List.find?_eq_none]
      intro j hj
      have lt := List.mem_range.mp hj
      have hp : rs[j]? = some rs[j] := List.getElem?_eq_getElem lt
      rw [(rdAt_dP hp).mpr (h3 _ (List.getElem_mem lt))]
      simp
    have e2 : ((List.range rs.length).find? fun j => decide (1 ≤ j) && !orAt rs j) = none := by
      rw [List.find?_eq_none]
      intro j hj
      by_cases j1 : 1 ≤ j
      · rw [h4 j j1 (List.mem_range.mp hj)]
        simp
      · simp [j1]
    rw [e, e2]
    rfl
open Classical in
theorem s_is_elder (hs : s ≤ 12) (hl : rs.length ≤ 1000) (h : k (.d (.bool (decide (treeOk s rs))))) : m_is_elder [.d (.int s), .d (dPs rs)] x k := by
  show a_is_elder _ [.d (.int s), .d (dPs rs)]
  have no : ¬ treeOk s rs → k (.d (.bool false)) := fun z => by rw [decide_eq_false z] at h; exact h
  walk_at "ax"
  rw [List.length_map]
  by_cases c1 : (rs.length : Int) < 2
  · refine iteT' (decide_eq_true c1) ?_
    refine iteT' rfl ?_
    walk_at "ax"
    exact no fun z => by have := z.1; have := z.2.2.1; omega
  · refine iteF' (decide_eq_false c1) ?_
    walk_at "ax"
    rw [List.length_map]
    by_cases c2 : (rs.length : Int) = s - 1
    · refine iteF' (by rw [decide_eq_true c2]; rfl) ?_
      walk_at "ax"
      refine s_roads_error ⟨?_, fun z => by cases z⟩
      walk_at "ax"
      cases e : isNon (rdsO s (rs.map dP)) with
      | false =>
        refine iteT' rfl ?_
        walk_at "ax"
        exact no fun z => by
          have := (rdsO_dP (n := s) (by omega) (by omega)).mpr ⟨z.2.2.2.1, z.2.2.2.2.1⟩
          rw [e] at this
          cases this
      | true =>
        obtain ⟨hr, ord⟩ := (rdsO_dP (n := s) (by omega) (by omega)).mp e
        refine iteF' rfl ?_
        walk_at "ax"
        refine s_steps_known (ms := []) hr (by omega) (by omega) (by omega) (by omega) fun m ky dn d1 => ⟨?_, fun z => by cases z⟩
        have ka := keys_all ky dn d1 (by omega)
        walk_at "ax"
        refine g_lenD ?_
        walk_at "ax"
        unfold dI
        rw [List.length_map]
        have e3 : decide ((m.length : Int) = s) = decide (treeOk s rs) := by
          rw [decide_eq_decide]
          exact ⟨fun z => ⟨by omega, hs, c2, hr, ord, ka.mp z⟩, fun z => ka.mpr z.2.2.2.2.2⟩
        rw [e3]
        exact h
    · refine iteT' (by rw [decide_eq_false c2]; rfl) ?_
      refine iteT' rfl ?_
      walk_at "ax"
      exact no fun z => c2 z.2.2.1
open Classical in
theorem s_parted_web (hl : rs.length ≤ 1000) (h1 : treeOk s rs → ∀ qs : List (Int × Int), qs.Perm (prR s rs 0) → qs.Pairwise (fun p q => SrtO.lexB q p = false) → k (.d (dWeb (2 * s - 1) qs (List.replicate (2 * rs.length) 1)))) (h2 : ¬ treeOk s rs → x C.Unfit none) : m_parted_web C [.d (.int s), .d (dPs rs)] x k := by
  show a_parted_web C _ [.d (.int s), .d (dPs rs), .x, .x, .x, .x]
  walk_at "ax"
  refine g_mulI (.inl ⟨by decide, by decide⟩) ?_
  walk_at "ax"
  by_cases c1 : 24 < 2 * s - 1
  · refine iteT' (decide_eq_true c1) ?_
    refine iteT' rfl ?_
    walk_at "ax"
    exact h2 fun z => by have := z.2.1; omega
  · refine iteF' (decide_eq_false c1) ?_
    walk_at "ax"
    refine s_is_elder (by omega) hl ⟨?_, fun z => by cases z⟩
    walk_at "ax"
    by_cases c2 : treeOk s rs
    · rw [decide_eq_true c2]
      refine iteF' rfl ?_
      have ln0 := c2.2.2.1
      have s3 := c2.1
      walk_at "ax"
      refine a_loop (fun i α => ∃ x3 x4 x5, α = [.d (.int s), .d (dPs rs), .own ((prR s (rs.take i) 0).map dP), x3, x4, x5]) ?_ ?_ ?_
      · exact ⟨_, _, _, rfl⟩
      · rintro i y α hy ⟨x3, x4, x5, rfl⟩
        obtain ⟨d, hd, rfl⟩ := enD_at hy
        obtain ⟨q, hq, rfl⟩ := dp_at hd
        have hi := (List.getElem?_eq_some_iff.mp hq).1
        have et : rs.take (i + 1) = rs.take i ++ [q] := by rw [List.take_add_one, hq]; rfl
        have ln := prR_len s (rs.take i) 0
        rw [List.length_take] at ln
        walk_at "ax"
        refine ⟨_, rfl, by rw [List.length_map]; simp; omega, ?_⟩
        rw [et, prR_snoc, List.map_append, List.length_take, Nat.min_eq_left (by omega), Int.zero_add]
        exact ⟨_, _, _, rfl⟩
      · rintro α ⟨x3, x4, x5, rfl⟩
        rw [enD_len, List.length_map, List.take_length]
        have ln := prR_len s rs 0
        walk_at "ax"
        refine g_mulI (.inl ⟨by decide, by decide⟩) ?_
        walk_at "ax"
        refine ⟨_, prR s rs 0, rfl, .inr rfl, fun qs pm sr => ?_⟩
        walk_at "ax"
        refine g_mulT (by simp) (by rw [List.length_map]; omega) (by rw [List.length_map]; omega) (Nat.le_of_ble_eq_true rfl) ?_
        walk_at "ax"
        rw [List.length_map, ln, flat_rep]
        have e := h1 c2 qs pm sr
        unfold dWeb dIs at e
        rw [List.map_replicate] at e
        exact e
    · rw [decide_eq_false c2]
      refine iteT' rfl ?_
      walk_at "ax"
      exact h2 c2
end
end UW.Un
namespace UW
open PySem PySem.Spec PyProof.Rows L2
def pk (p : Int × Int) : List L2.Key := [.inl p.1, .inl p.2]
def rSortDT (K : Fg) : List V → Hp → VK → Prop := fun vs H Q => ∃ (a : Addr) (kvs : List (List L2.Key × V)) (rs : List (Int × Int)), vs = [V.ref a] ∧ H a = some (.dT kvs) ∧ kvs.map (·.1) = rs.map pk ∧
  ∀ (ys : List V) (qs : List (Int × Int)), qs.Perm rs → qs.Pairwise (fun p q => SrtO.lexB q p = false) → Tps K H ys (qs.map dP) → New Q H (.lst ys)
theorem keys_tps {K : Fg} {H : Hp} : ∀ {kvs : List (List L2.Key × V)} {xs : List (List L2.Key × Addr × Value)} {rs : List (Int × Int)}, Paired (fun (p : List L2.Key × V) (q : List L2.Key × Addr × Value) => p.1 = q.1 ∧ H q.2.1 = some (.tup (p.1.map kV)) ∧ RelV p.2 q.2.2) kvs xs →
    kvs.map (·.1) = rs.map pk → Tps K H (xs.map fun x => V.ref x.2.1) (rs.map dP)
  | _, _, [], .nil, _ => .nil
  | _, _, r :: rs, .nil, h => by cases h
  | _, _, [], .cons _ _, h => by cases h
  | _, _, r :: rs, .cons p t, h => by
    obtain ⟨h1, h2⟩ := List.cons.inj h
    refine .cons ?_ (keys_tps t h2)
    have e := p.2.1
    dsimp only at h1
    rw [h1] at e
    exact Tp.mkpair (SqT.of e)
section
variable {X : Cx}
open SrtO in
theorem cr_sortDT (hcalm : X.calm = true) : CallR X (.builtin "sorted") (rSortDT X.K) := by
  intro pins s σ H vs us Q I r h
  obtain ⟨a, kvs, rs, rfl, hd, hk, q⟩ := h
  obtain ⟨u, rfl, ru⟩ := vals1 r
  obtain rfl : u = Value.ref a := ru
  obtain ⟨hz, lo, xs, pr, o, es, ep, ho, hx, hdat, hes, nd⟩ := (show ObjOk X.prog X.w H s.heap a (.dT kvs) from I.hok a _ hd)
  have tx : Tps X.K H (xs.map fun x => V.ref x.2.1) (rs.map dP) := keys_tps pr hk
  have lx : xs.length = kvs.length := pr.length.symm
  have les : es.size = xs.length := by rw [← Array.length_toList, hes, List.length_map]
  refine Calls.call_function_entry kind_sorted plain_sorted entry_sorted (args_sorted1 _) ?_
  unfold Builtin.«sorted»
  refine wpAny_bind (m := checkCount "sorted" 1 1 _) (wpAny_pure ?_)
  refine wpAny_bind (PySem.W.kdu_collect (A := X.A.in1) (PySem.KdlSrc.rawDict (es := es) (ep := ep) lo) (I.ok.hd hcalm) ⟨o, ho, hx, hdat⟩ (by omega) fun h' tk acc hkp hacc => ?_)
  have eacc : acc.toList = xs.map fun x => Value.ref x.2.1 := by
    refine List.ext_getElem? fun j => ?_
    by_cases hj : j < xs.length
    · have ha : j < acc.size := by rw [hacc.1]; omega
      rw [List.getElem?_map, List.getElem?_eq_getElem hj, Array.getElem?_toList, Array.getElem?_eq_getElem ha]
      obtain ⟨hi, e⟩ := hacc.2 j acc[j] (Array.getElem?_eq_getElem ha)
      rw [e]
      have e2 : es.toList[j]? = some (entryOfKey (tupleKind (mixKind X.prog X.w)) xs[j]) := by rw [hes, List.getElem?_map, List.getElem?_eq_getElem hj]; rfl
      rw [Array.getElem?_toList, Array.getElem?_eq_getElem hi] at e2
      rw [Option.some.inj e2]
      rfl
    · rw [List.getElem?_eq_none (by rw [Array.length_toList, hacc.1]; omega), List.getElem?_eq_none (by rw [List.length_map]; omega)]
  rw [eacc]
  generalize hvs : (xs.map fun x => Value.ref x.2.1) = vs
  have e1 : (xs.map fun x => V.ref x.2.1) = vs.map backV := by rw [← hvs, List.map_map]; rfl
  have e2 : ∀ v ∈ vs, ∃ a, v = Value.ref a := fun v hv => by
    rw [← hvs] at hv
    obtain ⟨y, _, rfl⟩ := List.mem_map.mp hv
    exact ⟨_, rfl⟩
  have lvs : vs.length = xs.length := by rw [← hvs, List.length_map]
  have hzv : vs.length ≤ sizeLine := by omega
  rw [e1] at tx
  have I1 : Inv X pins σ H { s with heap := h', toks := tk } := I.kept hkp
  refine wpAny_bind (wpAny_newList ?_ hzv)
  have hoL : (h'.push (seqObj "list" vs.toArray 0)).get? h'.objs.size = some (seqObj "list" vs.toArray 0) := Heap.get?_push_size _ rfl
  show wpAny _ _ _ _ _ { s with heap := h'.push (seqObj "list" vs.toArray 0), toks := tk }
  have hp : ∀ v ∈ vs, Srt.IsPair h' v (pairAt X.K H (backV v)).1 (pairAt X.K H (backV v)).2 := by
    intro v hv
    obtain ⟨t, rfl⟩ := e2 v hv
    have hm : V.ref t ∈ vs.map backV := List.mem_map.mpr ⟨_, hv, rfl⟩
    obtain ⟨p, hp⟩ := tps_mem tx hm
    have ek : pairAt X.K H (backV (.ref t)) = p := pair_one I hp
    obtain ⟨t', e, ht⟩ := hp.pair
    cases e
    obtain ⟨its2, r2, ⟨o, ho, hc, n, hd⟩, _⟩ := I1.tuple ht.up
    obtain ⟨u1, u2, rfl, ri, rj⟩ := vals2 r2
    obtain ⟨t1, rfl⟩ := ri
    obtain ⟨t2, rfl⟩ := rj
    rw [ek]
    exact ⟨t, o, t1, t2, n, rfl, ho, hc, hd⟩
  have keep : ∀ b o, h'.get? b = some o → b ≠ h'.objs.size ∧ (h'.push (seqObj "list" vs.toArray 0)).get? b = some o := fun b o q => ⟨Nat.ne_of_lt (Heap.lt_size q), Heap.get?_push_of_some _ q⟩
  refine wpAny_bind (wpAny_holding (wpAny_call_entry slot_list_sort ⟨_, hoL, rfl⟩ entry_list_sort (list_sort_ord (s := { s with heap := h'.push (seqObj "list" vs.toArray 0), toks := tk }) (swo_lex fun u => pairAt X.K H (backV u)) hoL hzv (fun h2 => ?_) fun out h1 hb => ⟨_, rfl, ?_⟩) (args_list_sort _)))
  · refine pairs_sortableO (by omega) (fun v hm => (hp v hm).keeps fun b o e _ => (keep b o e).2) fun o e => ?_
    have e' : some o = some (seqObj "list" vs.toArray 0) := e.symm.trans hoL
    cases e'
    intro c
    exact absurd (Value.type.inj c) (by decide)
  · obtain ⟨e', he'⟩ := sortedHeap_at (vs := vs) (out := out.toArray) hoL
    have h3 : ∀ u ∈ out, ∃ a, u = Value.ref a := fun u hu => e2 u (hb.perm.mem_iff.mp hu)
    have pm : (out.map backV).Perm (vs.map backV) := hb.perm.map _
    have qp : ((out.map backV).map (pairAt X.K H)).Perm rs := by
      have := pm.map (pairAt X.K H)
      rw [pairs_map I tx] at this
      exact this
    have ty : Tps X.K H (out.map backV) (((out.map backV).map (pairAt X.K H)).map dP) := by
      refine tps_of_map _ fun y hy => ?_
      obtain ⟨p, hp⟩ := tps_mem tx (pm.mem_iff.mp hy)
      rw [pair_one I hp]
      exact hp
    have srt : ((out.map backV).map (pairAt X.K H)).Pairwise (fun p q => SrtO.lexB q p = false) := by
      rw [List.pairwise_map, List.pairwise_map]
      exact h1
    refine wpAny_pure ⟨_, rfl, .ref h'.objs.size, upd H h'.objs.size (.lst (out.map backV)), I1.laid (t' := tk) (fun b u e => ?_) (Nat.le_refl _) ⟨?_, out, e', vals_back h3, he'⟩, rfl, q _ _ qp srt ty h'.objs.size (I1.hok.fresh (Nat.le_refl _))⟩
    · have hb : b < h'.objs.size := Heap.lt_size e
      rw [sortedHeap_old (Nat.ne_of_lt hb) (by rw [size_push']; exact Nat.lt_succ_of_lt hb)]
      exact Heap.get?_push_of_some _ e
    · rw [pm.length_eq, List.length_map]
      exact hzv
end
/-- sorted(x), x a slot's dict -/
def aSrtKeys (i : Nat) : AEx := fun _ α k => ∃ (kvs : List (List L2.Key × PyData)) (rs : List (Int × Int)), α[i]? = some (.dic (.t kvs)) ∧ kvs.map (·.1) = rs.map pk ∧ ∀ qs : List (Int × Int), qs.Perm rs → qs.Pairwise (fun p q => SrtO.lexB q p = false) → k (.l (qs.map dP))
theorem prs_keys {κ : Type} [DecidableEq κ] {K : Fg} {S : Ads} {H : Hp} : ∀ {ls : List (κ × V)} {kvs : List (κ × PyData)}, Paired (PrD K S H) ls kvs → ls.map (·.1) = kvs.map (·.1)
  | _, _, .nil => rfl
  | _, _, .cons p t => by rw [List.map_cons, List.map_cons, p.1, prs_keys t]
theorem re_srtKeys {K : Fg} {E : WX} {i : Nat} : REx K E (tCB (rSortDT K) (tCons (tVar i) tNil)) (aSrtKeys i) := by
  intro W H0 S0 O S α σ H X k Q f h lk q
  obtain ⟨kvs, rs, h0, hk, h⟩ := h
  obtain ⟨p, a, b, d, hi, nw⟩ := dic_at f h0
  obtain ⟨ls, hp, pr⟩ := d
  refine ⟨_, b, p, ls, rs, rfl, hp, (prs_keys pr).trans hk, fun ys qs h1 h2 t => ?_⟩
  exact Rst.new q f.k t.ods (h qs h1 h2)
end UW
namespace UW.Un
open PySem PySem.Spec PyProof.Rows L2 UW
/-- one step -/
local macro_rules | `(tactic| walk_at "a1") => `(tactic| first
  | with_reducible refine wk ?_
  | (with_reducible refine rs_go 1 ?_
     first
     | with_reducible refine a_var (by with_unfolding_all rfl) (by with_unfolding_all rfl) ?_
     | with_reducible refine a_gtup (by with_unfolding_all rfl) (by with_unfolding_all rfl) ?_
     | with_reducible refine a_glst (by with_unfolding_all rfl) (by with_unfolding_all rfl) ?_)
  | (with_reducible refine rs_go 2 ?_
     first
     | with_reducible refine g_ixT (by with_unfolding_all rfl) (by first | with_unfolding_all rfl | with_unfolding_all exact at_zero _ _) ?_
     | with_reducible refine g_ixL (by with_unfolding_all rfl) (by first | with_unfolding_all rfl | with_unfolding_all exact at_zero _ _) ?_)
  | (with_reducible refine rs_go 3 ?_
     first
     | with_reducible refine g_lenT (by with_unfolding_all rfl) ?_
     | with_reducible refine g_lenL (by with_unfolding_all rfl) ?_
     | with_reducible refine g_tupL (by with_unfolding_all rfl) ?_
     | with_reducible refine g_tupT (by with_unfolding_all rfl) ?_
     | with_reducible refine g_lstT (by with_unfolding_all rfl) ?_
     | with_reducible refine g_lstL (by with_unfolding_all rfl) ?_)
  | (with_reducible refine rs_go 4 ?_
     first
     | with_reducible refine g_addL (by with_unfolding_all rfl) (by with_unfolding_all rfl) (Nat.le_of_ble_eq_true (by with_unfolding_all rfl)) ?_
     | with_reducible refine g_mulI (by first | exact Or.inl ⟨by decide, by decide⟩ | exact Or.inr ⟨by decide, by decide⟩ | (first | (refine Or.inl ⟨?_, ?_⟩ <;> omega) | (refine Or.inr ⟨?_, ?_⟩ <;> omega))) ?_
     | with_reducible refine g_mod (by first | decide | omega) ?_
     | with_reducible refine g_div (by first | decide | omega) (by first | decide | omega) ?_
     | with_reducible refine g_slT (by with_unfolding_all rfl) ?_
     | with_reducible refine g_slL (by with_unfolding_all rfl) ?_
     | with_reducible refine g_isN (by with_unfolding_all rfl) ?_
     | with_reducible refine g_notN (by with_unfolding_all rfl) ?_)
  | (with_reducible refine rs_go 5 ?_
     first
     | with_reducible refine a_dget (by with_unfolding_all rfl) ?_
     | with_reducible refine a_dget2 (by with_unfolding_all rfl) ?_
     | with_reducible refine a_fzq (by with_unfolding_all rfl) ?_
     | with_reducible refine a_retC (by with_unfolding_all rfl) ?_
     | with_reducible refine a_isX (by with_unfolding_all rfl) ?_
     | with_reducible refine a_app (by with_unfolding_all rfl) ?_
     | with_reducible refine a_ext (by with_unfolding_all rfl) ?_
     | with_reducible refine a_pop (by with_unfolding_all rfl) ?_
     | with_reducible refine a_fz (by with_unfolding_all rfl) ?_
     | with_reducible refine a_lenDV (by with_unfolding_all rfl) ?_)
  | (with_reducible refine rs_go 6 ?_
     first
     | with_reducible refine a_cl (by with_unfolding_all rfl) ?_
     | with_reducible refine a_dat (by with_unfolding_all rfl) ?_
     | with_reducible refine a_s1 (by with_unfolding_all rfl) ?_
     | with_reducible refine a_dcy (by with_unfolding_all rfl) ?_
     | with_reducible refine a_s2 (by with_unfolding_all rfl) (by with_unfolding_all rfl) ?_
     | with_reducible refine a_s3 (by with_unfolding_all rfl) (by with_unfolding_all rfl) (by with_unfolding_all rfl) ?_
     | with_reducible refine a_owned (by with_unfolding_all rfl) ?_)
  | (with_reducible refine rs_go 7 ?_
     first
     | with_reducible refine i_B (by with_unfolding_all rfl) ?_
     | with_reducible refine i_T (by with_unfolding_all rfl) ?_
     | with_reducible refine i_L (by with_unfolding_all rfl) ?_)
  | (with_reducible refine rs_go 8 ?_
     first
     | with_reducible refine a_nb (by with_unfolding_all rfl) ?_
     | with_reducible refine a_len (by with_unfolding_all rfl) ?_
     | with_reducible refine a_revT (by with_unfolding_all rfl) ?_
     | with_reducible refine a_revL (by with_unfolding_all rfl) ?_)
  | (with_reducible refine rs_go 9 ?_
     first
     | with_reducible refine iteNT (by with_unfolding_all rfl) ?_
     | with_reducible refine iteNF (by with_unfolding_all rfl) ?_
     | with_reducible refine iteIT (by with_unfolding_all rfl) ?_
     | with_reducible refine iteIF (by with_unfolding_all rfl) ?_))
local macro_rules | `(tactic| walk_at "ax") => `(tactic| (repeat (first | walk_at "a1" | with_reducible refine a_if ?_); try dsimp only [List.set_cons_zero, List.set_cons_succ, awipe, aFrz, List.getElem?_cons_zero, List.getElem?_cons_succ]))
local macro_rules | `(tactic| walk_at "ay") => `(tactic| (repeat (walk_at "a1"); try dsimp only [List.set_cons_zero, List.set_cons_succ, awipe, aFrz, List.getElem?_cons_zero, List.getElem?_cons_succ]))
section
variable {x : AXc} {k : Avl → Prop}
/-- pairs of places that hang together -/
structure Pairs (n : Int) (ps : List (Int × Int)) : Prop where
  two : 2 ≤ n
  n24 : n ≤ 24
  ok : ∀ p ∈ ps, 0 ≤ p.1 ∧ p.1 < n ∧ 0 ≤ p.2 ∧ p.2 < n ∧ p.1 ≠ p.2
  cn : Conn n ps
  l : ps.length ≤ 40
theorem Pairs.of {n : Int} {ps : List (Int × Int)} (sh : Shape n ps) (h24 : n ≤ 24) (hl : ps.length ≤ 40) : Pairs n ps :=
  ⟨sh.two, h24, fun p hp => by have := sh.ok p hp; omega, sh.cn, hl⟩
theorem Pairs.add {n a b : Int} {ps : List (Int × Int)} (h : Pairs n ps) (a0 : 0 ≤ a) (a1 : a < n) (b0 : 0 ≤ b) (b1 : b < n) (ab : a ≠ b) (hl : ps.length < 40) : Pairs n (ps ++ [(a, b)]) := by
  refine ⟨h.two, h.n24, fun p hp => ?_, h.cn.more fun p hp => List.mem_append.mpr (.inl hp), by rw [List.length_append, List.length_singleton]; omega⟩
  rcases List.mem_append.mp hp with hp | hp
  · exact h.ok p hp
  · rw [List.mem_singleton.mp hp]; exact ⟨a0, a1, b0, b1, ab⟩
theorem pathR_len (n : Int) : (pathR n).length = (n - 1).toNat := by unfold pathR; rw [List.length_map, List.length_range]
end
end UW.Un
namespace UW.Un
open PySem PySem.Spec PyProof.Rows L2 UW
/-- one step -/
local macro_rules | `(tactic| walk_at "a1") => `(tactic| first
  | with_reducible refine wk ?_
  | (with_reducible refine rs_go 1 ?_
     first
     | with_reducible refine a_var (by with_unfolding_all rfl) (by with_unfolding_all rfl) ?_
     | with_reducible refine a_gtup (by with_unfolding_all rfl) (by with_unfolding_all rfl) ?_
     | with_reducible refine a_glst (by with_unfolding_all rfl) (by with_unfolding_all rfl) ?_)
  | (with_reducible refine rs_go 2 ?_
     first
     | with_reducible refine g_ixT (by with_unfolding_all rfl) (by first | with_unfolding_all rfl | with_unfolding_all exact at_zero _ _) ?_
     | with_reducible refine g_ixL (by with_unfolding_all rfl) (by first | with_unfolding_all rfl | with_unfolding_all exact at_zero _ _) ?_)
  | (with_reducible refine rs_go 3 ?_
     first
     | with_reducible refine g_lenT (by with_unfolding_all rfl) ?_
     | with_reducible refine g_lenL (by with_unfolding_all rfl) ?_
     | with_reducible refine g_tupL (by with_unfolding_all rfl) ?_
     | with_reducible refine g_tupT (by with_unfolding_all rfl) ?_
     | with_reducible refine g_lstT (by with_unfolding_all rfl) ?_
     | with_reducible refine g_lstL (by with_unfolding_all rfl) ?_)
  | (with_reducible refine rs_go 4 ?_
     first
     | with_reducible refine g_addL (by with_unfolding_all rfl) (by with_unfolding_all rfl) (Nat.le_of_ble_eq_true (by with_unfolding_all rfl)) ?_
     | with_reducible refine g_mulI (by first | exact Or.inl ⟨by decide, by decide⟩ | exact Or.inr ⟨by decide, by decide⟩ | (first | (refine Or.inl ⟨?_, ?_⟩ <;> omega) | (refine Or.inr ⟨?_, ?_⟩ <;> omega))) ?_
     | with_reducible refine g_mod (by first | decide | omega) ?_
     | with_reducible refine g_div (by first | decide | omega) (by first | decide | omega) ?_
     | with_reducible refine g_slT (by with_unfolding_all rfl) ?_
     | with_reducible refine g_slL (by with_unfolding_all rfl) ?_
     | with_reducible refine g_isN (by with_unfolding_all rfl) ?_
     | with_reducible refine g_notN (by with_unfolding_all rfl) ?_)
  | (with_reducible refine rs_go 5 ?_
     first
     | with_reducible refine a_dget (by with_unfolding_all rfl) ?_
     | with_reducible refine a_dget2 (by with_unfolding_all rfl) ?_
     | with_reducible refine a_fzq (by with_unfolding_all rfl) ?_
     | with_reducible refine a_retC (by with_unfolding_all rfl) ?_
     | with_reducible refine a_isX (by with_unfolding_all rfl) ?_
     | with_reducible refine a_app (by with_unfolding_all rfl) ?_
     | with_reducible refine a_ext (by with_unfolding_all rfl) ?_
     | with_reducible refine a_pop (by with_unfolding_all rfl) ?_
     | with_reducible refine a_fz (by with_unfolding_all rfl) ?_
     | with_reducible refine a_lenDV (by with_unfolding_all rfl) ?_)
  | (with_reducible refine rs_go 6 ?_
     first
     | with_reducible refine a_cl (by with_unfolding_all rfl) ?_
     | with_reducible refine a_dat (by with_unfolding_all rfl) ?_
     | with_reducible refine a_s1 (by with_unfolding_all rfl) ?_
     | with_reducible refine a_dcy (by with_unfolding_all rfl) ?_
     | with_reducible refine a_s2 (by with_unfolding_all rfl) (by with_unfolding_all rfl) ?_
     | with_reducible refine a_s3 (by with_unfolding_all rfl) (by with_unfolding_all rfl) (by with_unfolding_all rfl) ?_
     | with_reducible refine a_owned (by with_unfolding_all rfl) ?_)
  | (with_reducible refine rs_go 7 ?_
     first
     | with_reducible refine i_B (by with_unfolding_all rfl) ?_
     | with_reducible refine i_T (by with_unfolding_all rfl) ?_
     | with_reducible refine i_L (by with_unfolding_all rfl) ?_)
  | (with_reducible refine rs_go 8 ?_
     first
     | with_reducible refine a_nb (by with_unfolding_all rfl) ?_
     | with_reducible refine a_len (by with_unfolding_all rfl) ?_
     | with_reducible refine a_revT (by with_unfolding_all rfl) ?_
     | with_reducible refine a_revL (by with_unfolding_all rfl) ?_)
  | (with_reducible refine rs_go 9 ?_
     first
     | with_reducible refine iteNT (by with_unfolding_all rfl) ?_
     | with_reducible refine iteNF (by with_unfolding_all rfl) ?_
     | with_reducible refine iteIT (by with_unfolding_all rfl) ?_
     | with_reducible refine iteIF (by with_unfolding_all rfl) ?_))
local macro_rules | `(tactic| walk_at "ax") => `(tactic| (repeat (first | walk_at "a1" | with_reducible refine a_if ?_); try dsimp only [List.set_cons_zero, List.set_cons_succ, awipe, aFrz, List.getElem?_cons_zero, List.getElem?_cons_succ]))
local macro_rules | `(tactic| walk_at "ay") => `(tactic| (repeat (walk_at "a1"); try dsimp only [List.set_cons_zero, List.set_cons_succ, awipe, aFrz, List.getElem?_cons_zero, List.getElem?_cons_succ]))
section
variable {x : AXc} {k : Avl → Prop}
/-- a dict from pairs to numbers -/
def dM (M : List ((Int × Int) × Int)) : List (List L2.Key × PyData) := M.map fun q => (pk q.1, .int q.2)
def putM (M : List ((Int × Int) × Int)) (p : Int × Int) (v : Int) : List ((Int × Int) × Int) := if p ∈ M.map (·.1) then M.map (fun q => if q.1 = p then (p, v) else q) else M ++ [(p, v)]
theorem pk_inj {p q : Int × Int} (h : pk p = pk q) : p = q := by
  unfold pk at h
  simp only [List.cons.injEq, Sum.inl.injEq, and_true] at h
  exact Prod.ext h.1 h.2
theorem put_dM (M : List ((Int × Int) × Int)) (p : Int × Int) (v : Int) : putD (dM M) (pk p) (.int v) = dM (putM M p v) := by
  unfold putD putM
  by_cases c : p ∈ M.map (·.1)
  · rw [if_pos c, if_pos]
    · unfold dM
      rw [List.map_map, List.map_map]
      refine List.map_congr_left fun q _ => ?_
      show (if pk q.1 = pk p then (pk q.1, PyData.int v) else (pk q.1, .int q.2)) = (pk (if q.1 = p then (p, v) else q).1, PyData.int (if q.1 = p then (p, v) else q).2)
      by_cases e : q.1 = p
      · rw [if_pos (congrArg pk e), if_pos e, e]
      · rw [if_neg fun z => e (pk_inj z), if_neg e]
    · obtain ⟨q, hq, e⟩ := List.mem_map.mp c
      exact List.any_eq_true.mpr ⟨(pk q.1, .int q.2), List.mem_map.mpr ⟨q, hq, rfl⟩, decide_eq_true (congrArg pk e)⟩
  · rw [if_neg c, if_neg]
    · unfold dM
      rw [List.map_append]
      rfl
    · intro z
      obtain ⟨a, ha, e⟩ := List.any_eq_true.mp z
      obtain ⟨q, hq, rfl⟩ := List.mem_map.mp ha
      exact c (List.mem_map.mpr ⟨q, hq, pk_inj (of_decide_eq_true e)⟩)
theorem keys_putM (M : List ((Int × Int) × Int)) (p : Int × Int) (v : Int) : (putM M p v).map (·.1) = if p ∈ M.map (·.1) then M.map (·.1) else M.map (·.1) ++ [p] := by
  unfold putM
  split
  · rw [List.map_map]
    refine List.map_congr_left fun q _ => ?_
    show (if q.1 = p then (p, v) else q).1 = q.1
    split
    · rename_i e; exact e.symm
    · rfl
  · rw [List.map_append]
    rfl
theorem mem_putM {M : List ((Int × Int) × Int)} {p : Int × Int} {v : Int} {q : (Int × Int) × Int} (h : q ∈ putM M p v) : q ∈ M ∨ q = (p, v) := by
  unfold putM at h
  split at h
  · obtain ⟨z, hz, e⟩ := List.mem_map.mp h
    split at e
    · exact .inr e.symm
    · exact .inl (e ▸ hz)
  · rcases List.mem_append.mp h with h | h
    · exact .inl h
    · exact .inr (List.mem_singleton.mp h)
theorem find_dM {M : List ((Int × Int) × Int)} {p : Int × Int} (h : p ∈ M.map (·.1)) : ∃ v, (p, v) ∈ M ∧ findD (dM M) (pk p) = some (.int v) := by
  induction M with
  | nil => cases h
  | cons q M ih =>
    unfold findD dM
    rw [List.map_cons, List.find?_cons]
    by_cases c : q.1 = p
    · rw [decide_eq_true (congrArg pk c)]
      exact ⟨q.2, by rw [← c]; exact List.mem_cons_self .., rfl⟩
    · rw [decide_eq_false fun z => c (pk_inj z)]
      rw [List.map_cons] at h
      obtain ⟨v, hv, e⟩ := ih ((List.mem_cons.mp h).resolve_left fun z => c z.symm)
      exact ⟨v, List.mem_cons_of_mem _ hv, e⟩
end
end UW.Un
namespace UW.Un
open PySem PySem.Spec PyProof.Rows L2 UW
/-- one step -/
local macro_rules | `(tactic| walk_at "s1") => `(tactic| first
  | with_reducible refine s_seq ?_
  | with_reducible refine s_for ?_
  | with_reducible refine s_lc ?_
  | with_reducible refine w_seq ?_
  | with_reducible refine w_rng1 ?_
  | with_reducible refine w_rng2 ?_
  | with_reducible refine w_zip ?_
  | with_reducible refine s_asg ?_
  | with_reducible refine s_gname ?_
  | with_reducible refine s_ret ?_
  | with_reducible refine s_drop ?_
  | with_reducible refine s_next ?_
  | with_reducible refine s_ifs ?_
  | with_reducible refine s_var (by with_unfolding_all rfl) ?_
  | with_reducible refine s_c ?_
  | with_reducible refine s_op ?_
  | with_reducible refine s_un ?_
  | with_reducible refine s_neg ?_
  | with_reducible refine s_test ?_
  | with_reducible refine s_yes ?_
  | with_reducible refine s_tB ?_
  | with_reducible refine s_bl ?_
  | with_reducible refine s_not ?_
  | with_reducible refine s_and ?_
  | with_reducible refine s_or ?_
  | with_reducible refine s_andV ?_
  | with_reducible refine s_orV ?_
  | with_reducible refine s_notV ?_
  | with_reducible refine s_chain ?_
  | with_reducible refine s_nil ?_
  | with_reducible refine s_cons ?_
  | with_reducible refine s_tup ?_
  | with_reducible refine s_lst ?_
  | with_reducible refine s_call ?_
  | with_reducible refine s_cb ?_
  | with_reducible refine s_part ?_
  | with_reducible refine s_nopart ?_
  | with_reducible refine s_ii ?_
  | with_reducible refine s_sl ?_
  | with_reducible refine s_par ?_
  | with_reducible refine s_par2 ?_
  | with_reducible refine s_bm ?_
  | with_reducible refine s_gsub ?_
  | with_reducible refine s_gcons ?_
  | with_reducible refine s_gnil ?_
  | with_reducible refine o_addI ?_
  | with_reducible refine o_sub ?_
  | with_reducible refine o_eqI ?_
  | with_reducible refine o_neI ?_
  | with_reducible refine o_ltI ?_
  | with_reducible refine o_le ?_
  | with_reducible refine o_gt ?_
  | with_reducible refine o_ge ?_
  | with_reducible refine o_int ?_
  | with_reducible refine o_intB ?_
  | with_reducible refine o_abs ?_
  | with_reducible refine o_max2 ?_
  | with_reducible refine o_min2 ?_
  | with_reducible refine o_isN ?_
  | with_reducible refine o_notN ?_
  | with_reducible refine o_mulI (by first | exact Or.inl ⟨by decide, by decide⟩ | exact Or.inr ⟨by decide, by decide⟩ | (first | (refine Or.inl ⟨?_, ?_⟩ <;> omega) | (refine Or.inr ⟨?_, ?_⟩ <;> omega))) ?_
  | with_reducible refine o_mod (by first | decide | omega) ?_
  | with_reducible refine o_div (by first | decide | omega) (by first | decide | omega) ?_
  | with_reducible refine s_blx ?_
  | with_reducible refine o_ixL (SqL.of (by assumption)) (by first | with_unfolding_all rfl | with_unfolding_all exact at_zero _ _) ?_
  | with_reducible refine o_ixT (by assumption) (by first | with_unfolding_all rfl | with_unfolding_all exact at_zero _ _) ?_
  | with_reducible refine o_tyL (by assumption) ?_
  | with_reducible refine iteT ?_
  | with_reducible refine iteF ?_)
local macro_rules | `(tactic| walk_at "sx") => `(tactic| repeat (walk_at "s1"))
/-- the neighbours along the first i roads, in the order of the roads -/
def nbTo (rs : List (Int × Int)) (i j : Nat) : List Int := (rdsN (rs.take i) (j : Int) 0).map (·.1)
def nb (rs : List (Int × Int)) (j : Nat) : List Int := nbTo rs rs.length j
theorem nbTo_succ {rs : List (Int × Int)} {i : Nat} {p : Int × Int} (h : rs[i]? = some p) (j : Nat) : nbTo rs (i + 1) j = nbTo rs i j ++ (if p.1 = (j : Int) ∨ p.2 = (j : Int) then [p.1 + p.2 - (j : Int)] else []) := by
  have et : rs.take (i + 1) = rs.take i ++ [p] := by rw [List.take_add_one, h]; rfl
  unfold nbTo
  rw [et, rdsN_snoc, List.map_append]
  congr 1
  split <;> rfl
/-- the lists at qs, under p -/
structure Nsi (K : Fg) (H H' : Hp) (p : Addr) (qs : List Addr) (F : Nat → List Int) : Prop where
  s : Same H H'
  np : H p = none
  p' : H' p = some (.lst (qs.map V.ref))
  nd : qs.Nodup
  pq : p ∉ qs
  nq : ∀ q ∈ qs, H q = none
  at' : ∀ j q, qs[j]? = some q → H' q = some (.lst ((F j).map V.int))
section
variable {K : Fg} {H H1 H2 H3 : Hp} {p q : Addr} {qs : List Addr} {F G : Nat → List Int} {j : Nat}
theorem Nsi.same (N : Nsi K H H1 p qs F) (e : Same H1 H2) : Nsi K H H2 p qs F :=
  ⟨N.s.trans e, N.np, e _ _ N.p', N.nd, N.pq, N.nq, fun j q h => e _ _ (N.at' j q h)⟩
end
theorem ods_of {K : Fg} {G : Ads} {H : Hp} : ∀ {vs : List V} {ds : List PyData}, vs.length = ds.length → (∀ (i : Nat) (v : V) (d : PyData), vs[i]? = some v → ds[i]? = some d → Od K G H v d) → Ods K G H vs ds
  | [], [], _, _ => .nil
  | v :: vs, d :: ds, h, k => .cons (k 0 v d rfl rfl) (ods_of (by simpa using h) fun i v d a b => k (i + 1) v d a b)
  | [], _ :: _, h, _ => by cases h
  | _ :: _, [], h, _ => by cases h
end UW.Un
namespace UW.Un
open PySem PySem.Spec PyProof.Rows L2 UW
/-- who is beside whom -/
structure Grf (n : Int) (N : Int → List Int) : Prop where
  two : 2 ≤ n
  r : ∀ x y, 0 ≤ x → x < n → y ∈ N x → 0 ≤ y ∧ y < n ∧ y ≠ x ∧ x ∈ N y
  nd : ∀ x, 0 ≤ x → x < n → (N x).Nodup
  cn : ∀ S : Int → Prop, (∀ x y, 0 ≤ x → x < n → y ∈ N x → S x → S y) → ∀ x y, 0 ≤ x → x < n → 0 ≤ y → y < n → S x → S y
theorem three {l : List Int} {a b c : Int} (h : l.length ≤ 2) (nd : l.Nodup) (ha : a ∈ l) (hb : b ∈ l) (hc : c ∈ l) (ab : a ≠ b) : c = a ∨ c = b := by
  match l, h, nd with
  | [], _, _ => cases ha
  | [x], _, _ =>
    rw [List.mem_singleton] at ha hb
    exact absurd (ha.trans hb.symm) ab
  | [x, y], _, _ =>
    simp only [List.mem_cons, List.not_mem_nil, or_false] at ha hb hc
    rcases ha with rfl | rfl <;> rcases hb with rfl | rfl <;> rcases hc with rfl | rfl <;> simp_all
  | _ :: _ :: _ :: _, h, _ => simp at h
theorem another {l : List Int} {a : Int} (nd : l.Nodup) (ha : a ∈ l) (h : l.length ≠ 1) : ∃ b ∈ l, b ≠ a := by
  match l, nd, h with
  | [], _, _ => cases ha
  | [x], _, h => exact absurd rfl h
  | x :: y :: l, nd, _ =>
    by_cases c : x = a
    · refine ⟨y, by simp, fun e => ?_⟩
      rw [List.nodup_cons] at nd
      exact nd.1 (by rw [c, ← e]; exact List.mem_cons_self ..)
    · exact ⟨x, List.mem_cons_self .., c⟩
structure Row (n : Int) (N : Int → List Int) (st : Int) (row : List Int) : Prop where
  nd : row.Nodup
  hd : row[0]? = some st
  r : ∀ x ∈ row, 0 ≤ x ∧ x < n
  ad : ∀ (i : Nat) x y, row[i]? = some x → row[i + 1]? = some y → y ∈ N x
  cl : ∀ (i : Nat) x, row[i]? = some x → i + 1 < row.length → (i ≠ 0 ∨ (N st).length = 1) → ∀ y ∈ N x, y ∈ row
section
variable {n : Int} {N : Int → List Int} {st x a : Int} {row : List Int}
theorem Row.one (h0 : 0 ≤ st) (h1 : st < n) : Row n N st [st] := by
  refine ⟨by simp, rfl, fun x hx => by rw [List.mem_singleton.mp hx]; exact ⟨h0, h1⟩, fun i x y _ h => ?_, fun i x _ h => ?_⟩
  · rw [List.getElem?_eq_none (by simp)] at h; cases h
  · simp at h
theorem Row.pos (h : Row n N st row) : 0 < row.length := (List.getElem?_eq_some_iff.mp h.hd).1
theorem Row.add (g : Grf n N) (deg : ∀ x, 0 ≤ x → x < n → (N x).length ≤ 2) (h : Row n N st row) (hx : row[row.length - 1]? = some x) (ha : a ∈ N x) (na : a ∉ row) : Row n N st (row ++ [a]) := by
  have rx := h.r x (List.mem_of_getElem? hx)
  have ga := g.r x a rx.1 rx.2 ha
  have pos := h.pos
  have at1 : ∀ {i : Nat} {y : Int}, i < row.length → (row ++ [a])[i]? = some y → row[i]? = some y := fun hi e => by rwa [List.getElem?_append_left hi] at e
  refine ⟨?_, ?_, ?_, ?_, ?_⟩
  · rw [List.nodup_append]
    exact ⟨h.nd, by simp, fun c hc b hb e => na (by rw [List.mem_singleton.mp hb] at e; rw [← e]; exact hc)⟩
  · rw [List.getElem?_append_left pos]; exact h.hd
  · intro z hz
    rcases List.mem_append.mp hz with hz | hz
    · exact h.r z hz
    · rw [List.mem_singleton.mp hz]; exact ⟨ga.1, ga.2.1⟩
  · intro i u v hu hv
    have hi := (List.getElem?_eq_some_iff.mp hv).1
    rw [List.length_append, List.length_singleton] at hi
    by_cases c : i + 1 < row.length
    · exact h.ad i u v (at1 (by omega) hu) (at1 c hv)
    · have e : i + 1 = row.length := by omega
      rw [e, List.getElem?_concat_length] at hv
      cases hv
      have := at1 (by omega) hu
      rw [show i = row.length - 1 by omega, hx] at this
      cases this
      exact ha
  · intro i u hu hi ho y hy
    rw [List.length_append, List.length_singleton] at hi
    have hu := at1 (by omega) hu
    by_cases c : i + 1 < row.length
    · exact List.mem_append.mpr (.inl (h.cl i u hu c ho y hy))
    · have e : i = row.length - 1 := by omega
      rw [e, hx] at hu
      cases hu
      by_cases c0 : i = 0
      · have e1 : x = st := by
          have := h.hd
          rw [← c0, e, hx] at this
          exact Option.some.inj this
        have l1 := ho.resolve_left fun z => z c0
        rw [← e1] at l1
        obtain ⟨z, hz⟩ := List.length_eq_one_iff.mp l1
        rw [hz] at ha hy
        rw [List.mem_singleton.mp hy, List.mem_singleton.mp ha]
        simp
      · obtain ⟨p, hp⟩ : ∃ p, row[row.length - 2]? = some p := ⟨_, List.getElem?_eq_getElem (by omega)⟩
        have mp := List.mem_of_getElem? hp
        have rp := h.r p mp
        have hxp : x ∈ N p := h.ad (row.length - 2) p x hp (by rw [show row.length - 2 + 1 = row.length - 1 by omega]; exact hx)
        have hpx := (g.r p x rp.1 rp.2 hxp).2.2.2
        have pa : p ≠ a := fun z => na (z ▸ mp)
        rcases three (deg x rx.1 rx.2) (g.nd x rx.1 rx.2) hpx ha hy pa with rfl | rfl
        · exact List.mem_append.mpr (.inl mp)
        · simp
/-- the last one has no other neighbour than the one before it and, perhaps, the first -/
theorem Row.back (g : Grf n N) (deg : ∀ x, 0 ≤ x → x < n → (N x).length ≤ 2) (h : Row n N st row) (hl : 2 ≤ row.length) (hx : row[row.length - 1]? = some x) {o p : Int} (hp : row[row.length - 2]? = some p) (ho : o ∈ N x) (mo : o ∈ row) (op : o ≠ p) : o = st := by
  have rx := h.r x (List.mem_of_getElem? hx)
  have go := g.r x o rx.1 rx.2 ho
  obtain ⟨j, hj⟩ := List.mem_iff_getElem?.mp mo
  have hjl := (List.getElem?_eq_some_iff.mp hj).1
  have inj : ∀ {i j : Nat} {z : Int}, row[i]? = some z → row[j]? = some z → i = j := fun a b => (List.getElem?_inj (List.getElem?_eq_some_iff.mp a).1 h.nd).mp (a.trans b.symm)
  by_cases j0 : j = 0
  · rw [j0, h.hd] at hj
    exact (Option.some.inj hj).symm
  exfalso
  have jl : j ≠ row.length - 1 := fun z => by
    rw [z, hx] at hj
    exact go.2.2.1 (Option.some.inj hj).symm
  obtain ⟨u, hu⟩ : ∃ u, row[j - 1]? = some u := ⟨_, List.getElem?_eq_getElem (by omega)⟩
  obtain ⟨v, hv⟩ : ∃ v, row[j + 1]? = some v := ⟨_, List.getElem?_eq_getElem (by omega)⟩
  have ru := h.r u (List.mem_of_getElem? hu)
  have hou : o ∈ N u := h.ad (j - 1) u o hu (by rw [show j - 1 + 1 = j by omega]; exact hj)
  have huo := (g.r u o ru.1 ru.2 hou).2.2.2
  have hvo : v ∈ N o := h.ad j o v hj hv
  have uv : u ≠ v := fun z => by
    rw [z] at hu
    have := inj hu hv
    omega
  rcases three (deg o go.1 go.2.1) (g.nd o go.1 go.2.1) huo hvo go.2.2.2 uv with z | z
  · rw [← z] at hu
    have := inj hu hx
    omega
  · rw [← z] at hv
    have := inj hv hx
    rw [show j = row.length - 2 by omega, hp] at hj
    exact op (Option.some.inj hj).symm
theorem Row.full (g : Grf n N) (deg : ∀ x, 0 ≤ x → x < n → (N x).length ≤ 2) (h : Row n N st row) (hx : row[row.length - 1]? = some x) (stop : ∀ y ∈ N x, y ∈ row) (he : (N st).length = 1 ∨ ∀ z, 0 ≤ z → z < n → (N z).length ≠ 1) : ∀ z, 0 ≤ z → z < n → z ∈ row := by
  have pos := h.pos
  have rst := h.r st (List.mem_of_getElem? h.hd)
  have closed : ∀ z y, 0 ≤ z → z < n → y ∈ N z → z ∈ row → y ∈ row := by
    intro z y z0 z1 hy mz
    obtain ⟨i, hi⟩ := List.mem_iff_getElem?.mp mz
    have hil := (List.getElem?_eq_some_iff.mp hi).1
    by_cases c : i + 1 < row.length
    · by_cases c0 : i ≠ 0 ∨ (N st).length = 1
      · exact h.cl i z hi c c0 y hy
      · have i0 : i = 0 := by omega
        have no := he.resolve_left fun q => c0 (.inr q)
        subst i0
        have ez : z = st := by
          have := h.hd
          rw [hi] at this
          exact Option.some.inj this
        subst ez
        refine Classical.byContradiction fun ny => ?_
        obtain ⟨p, hp⟩ : ∃ p, row[row.length - 2]? = some p := ⟨_, List.getElem?_eq_getElem (by omega)⟩
        obtain ⟨w, hw⟩ : ∃ w, row[1]? = some w := ⟨_, List.getElem?_eq_getElem (by omega)⟩
        have rx := h.r x (List.mem_of_getElem? hx)
        have rp := h.r p (List.mem_of_getElem? hp)
        have hxp : x ∈ N p := h.ad (row.length - 2) p x hp (by rw [show row.length - 2 + 1 = row.length - 1 by omega]; exact hx)
        have hpx := (g.r p x rp.1 rp.2 hxp).2.2.2
        obtain ⟨o, ho, op⟩ := another (g.nd x rx.1 rx.2) hpx (no x rx.1 rx.2)
        have eo := h.back g deg (by omega) hx hp ho (stop o ho) op
        subst eo
        have hxo := (g.r x o rx.1 rx.2 ho).2.2.2
        have hwo : w ∈ N o := h.ad 0 o w h.hd hw
        have wy : w ≠ y := fun q => ny (q ▸ List.mem_of_getElem? hw)
        rcases three (deg o rst.1 rst.2) (g.nd o rst.1 rst.2) hwo hy hxo wy with q | q
        · rw [← q] at hw
          have := (List.getElem?_inj (by omega) h.nd).mp (hw.trans hx.symm)
          rw [show row.length - 2 = 0 by omega, h.hd] at hp
          exact op (Option.some.inj hp)
        · exact ny (q ▸ List.mem_of_getElem? hx)
    · rw [show i = row.length - 1 by omega, hx] at hi
      cases hi
      exact stop y hy
  intro z z0 z1
  exact g.cn (fun z => z ∈ row) (fun a b a0 a1 hb ha => closed a b a0 a1 hb ha) st z rst.1 rst.2 z0 z1 (List.mem_of_getElem? h.hd)
theorem Row.len_le (h : Row n N st row) : row.length ≤ n.toNat := by
  have := nodup_len (r := iota n.toNat) h.nd fun x hx => by
    have := h.r x hx
    exact mem_iota.mpr (by omega)
  rwa [iota_len] at this
theorem Row.len_eq (h : Row n N st row) (full : ∀ z, 0 ≤ z → z < n → z ∈ row) : row.length = n.toNat := by
  have := nodup_len (l := iota n.toNat) (r := row) (nodup_iota _) fun x hx => by
    have := mem_iota.mp hx
    exact full x this.1 (by omega)
  rw [iota_len] at this
  exact Nat.le_antisymm h.len_le this
/-- the places with one neighbour -/
def endL (n : Int) (N : Int → List Int) : List Int := (iota n.toNat).filter fun p => decide ((N p).length = 1)
def stt (n : Int) (N : Int → List Int) : Int := if endL n N = [] then 0 else (endL n N).headD 0
theorem mem_endL {z : Int} : z ∈ endL n N ↔ (0 ≤ z ∧ z < n) ∧ (N z).length = 1 := by
  unfold endL
  rw [List.mem_filter, mem_iota, decide_eq_true_iff]
  constructor
  · rintro ⟨h, e⟩; exact ⟨by omega, e⟩
  · rintro ⟨h, e⟩; exact ⟨by omega, e⟩
theorem stt_is (h2 : 2 ≤ n) : 0 ≤ stt n N ∧ stt n N < n ∧ ((N (stt n N)).length = 1 ∨ ∀ z, 0 ≤ z → z < n → (N z).length ≠ 1) := by
  unfold stt
  cases e : endL n N with
  | nil =>
    rw [if_pos rfl]
    exact ⟨by omega, by omega, .inr fun z z0 z1 q => by have := mem_endL.mpr ⟨⟨z0, z1⟩, q⟩; rw [e] at this; cases this⟩
  | cons a l =>
    rw [if_neg (by simp)]
    have := mem_endL.mp (show a ∈ endL n N by rw [e]; exact List.mem_cons_self ..)
    exact ⟨this.1.1, this.1.2, .inl this.2⟩
/-- the places ahead of the last one -/
def ahd (N : Int → List Int) (row : List Int) : List Int := match row[row.length - 1]? with
  | some x => (N x).filter fun y => decide (y ∉ row)
  | none => []
def rowK (N : Int → List Int) (st : Int) : Nat → List Int
  | 0 => [st]
  | k + 1 => match ahd N (rowK N st k) with
    | [] => rowK N st k
    | a :: _ => rowK N st k ++ [a]
theorem rowK_cons {k : Nat} {l : List Int} (h : ahd N (rowK N st k) = a :: l) : rowK N st (k + 1) = rowK N st k ++ [a] := by
  rw [rowK, h]
theorem ahd_mem {l : List Int} (hx : row[row.length - 1]? = some x) (h : ahd N row = a :: l) : a ∈ N x ∧ a ∉ row := by
  unfold ahd at h
  rw [hx] at h
  dsimp only at h
  have := List.mem_filter.mp (show a ∈ (N x).filter fun y => decide (y ∉ row) by rw [h]; exact List.mem_cons_self ..)
  exact ⟨this.1, of_decide_eq_true this.2⟩
theorem ahd_nil (hx : row[row.length - 1]? = some x) (h : ahd N row = []) : ∀ y ∈ N x, y ∈ row := by
  intro y hy
  refine Classical.byContradiction fun ny => ?_
  unfold ahd at h
  rw [hx] at h
  have : y ∈ (N x).filter fun y => decide (y ∉ row) := List.mem_filter.mpr ⟨hy, decide_eq_true ny⟩
  dsimp only at h
  rw [h] at this
  cases this
/-- the row, as far as k more places -/
structure Far (n : Int) (N : Int → List Int) (k : Nat) : Prop where
  w : Row n N (stt n N) (rowK N (stt n N) k)
  l : (rowK N (stt n N) k).length = k + 1
theorem Far.zero (g : Grf n N) : Far n N 0 := by
  obtain ⟨s0, s1, _⟩ := stt_is (N := N) g.two
  exact ⟨Row.one s0 s1, rfl⟩
theorem Far.last {k : Nat} (h : Far n N k) : ∃ x, (rowK N (stt n N) k)[(rowK N (stt n N) k).length - 1]? = some x ∧ 0 ≤ x ∧ x < n := by
  have pos := h.w.pos
  have e : (rowK N (stt n N) k)[(rowK N (stt n N) k).length - 1]? = some ((rowK N (stt n N) k)[(rowK N (stt n N) k).length - 1]'(by omega)) := List.getElem?_eq_getElem (by omega)
  exact ⟨_, e, h.w.r _ (List.mem_of_getElem? e)⟩
theorem Far.next {k : Nat} {l : List Int} (g : Grf n N) (deg : ∀ x, 0 ≤ x → x < n → (N x).length ≤ 2) (h : Far n N k) (e : ahd N (rowK N (stt n N) k) = a :: l) : Far n N (k + 1) := by
  obtain ⟨x, hx, _⟩ := h.last
  obtain ⟨m1, m2⟩ := ahd_mem hx e
  refine ⟨?_, ?_⟩
  · rw [rowK_cons e]; exact h.w.add g deg hx m1 m2
  · rw [rowK_cons e, List.length_append, h.l]; rfl
theorem Far.stop {k : Nat} (g : Grf n N) (deg : ∀ x, 0 ≤ x → x < n → (N x).length ≤ 2) (h : Far n N k) (e : ahd N (rowK N (stt n N) k) = []) : (k : Int) + 1 = n ∧ ∀ z, 0 ≤ z → z < n → z ∈ rowK N (stt n N) k := by
  obtain ⟨x, hx, _⟩ := h.last
  obtain ⟨_, _, he⟩ := stt_is (N := N) g.two
  have full := h.w.full g deg hx (ahd_nil hx e) he
  have := h.w.len_eq full
  have := h.l
  have := g.two
  exact ⟨by omega, full⟩
theorem Far.le {k : Nat} (h : Far n N k) : k + 1 ≤ n.toNat := by
  have := h.w.len_le
  rw [h.l] at this
  exact this
end
end UW.Un
namespace UW.Un
open PySem PySem.Spec PyProof.Rows L2 UW
/-- one step -/
local macro_rules | `(tactic| walk_at "a1") => `(tactic| first
  | with_reducible refine wk ?_
  | (with_reducible refine rs_go 1 ?_
     first
     | with_reducible refine a_var (by with_unfolding_all rfl) (by with_unfolding_all rfl) ?_
     | with_reducible refine a_gtup (by with_unfolding_all rfl) (by with_unfolding_all rfl) ?_
     | with_reducible refine a_glst (by with_unfolding_all rfl) (by with_unfolding_all rfl) ?_)
  | (with_reducible refine rs_go 2 ?_
     first
     | with_reducible refine g_ixT (by with_unfolding_all rfl) (by first | with_unfolding_all rfl | with_unfolding_all exact at_zero _ _) ?_
     | with_reducible refine g_ixL (by with_unfolding_all rfl) (by first | with_unfolding_all rfl | with_unfolding_all exact at_zero _ _) ?_)
  | (with_reducible refine rs_go 3 ?_
     first
     | with_reducible refine g_lenT (by with_unfolding_all rfl) ?_
     | with_reducible refine g_lenL (by with_unfolding_all rfl) ?_
     | with_reducible refine g_tupL (by with_unfolding_all rfl) ?_
     | with_reducible refine g_tupT (by with_unfolding_all rfl) ?_
     | with_reducible refine g_lstT (by with_unfolding_all rfl) ?_
     | with_reducible refine g_lstL (by with_unfolding_all rfl) ?_)
  | (with_reducible refine rs_go 4 ?_
     first
     | with_reducible refine g_addL (by with_unfolding_all rfl) (by with_unfolding_all rfl) (Nat.le_of_ble_eq_true (by with_unfolding_all rfl)) ?_
     | with_reducible refine g_mulI (by first | exact Or.inl ⟨by decide, by decide⟩ | exact Or.inr ⟨by decide, by decide⟩ | (first | (refine Or.inl ⟨?_, ?_⟩ <;> omega) | (refine Or.inr ⟨?_, ?_⟩ <;> omega))) ?_
     | with_reducible refine g_mod (by first | decide | omega) ?_
     | with_reducible refine g_div (by first | decide | omega) (by first | decide | omega) ?_
     | with_reducible refine g_slT (by with_unfolding_all rfl) ?_
     | with_reducible refine g_slL (by with_unfolding_all rfl) ?_
     | with_reducible refine g_isN (by with_unfolding_all rfl) ?_
     | with_reducible refine g_notN (by with_unfolding_all rfl) ?_)
  | (with_reducible refine rs_go 5 ?_
     first
     | with_reducible refine a_dget (by with_unfolding_all rfl) ?_
     | with_reducible refine a_dget2 (by with_unfolding_all rfl) ?_
     | with_reducible refine a_fzq (by with_unfolding_all rfl) ?_
     | with_reducible refine a_retC (by with_unfolding_all rfl) ?_
     | with_reducible refine a_isX (by with_unfolding_all rfl) ?_
     | with_reducible refine a_app (by with_unfolding_all rfl) ?_
     | with_reducible refine a_ext (by with_unfolding_all rfl) ?_
     | with_reducible refine a_pop (by with_unfolding_all rfl) ?_
     | with_reducible refine a_fz (by with_unfolding_all rfl) ?_
     | with_reducible refine a_lenDV (by with_unfolding_all rfl) ?_)
  | (with_reducible refine rs_go 6 ?_
     first
     | with_reducible refine a_cl (by with_unfolding_all rfl) ?_
     | with_reducible refine a_dat (by with_unfolding_all rfl) ?_
     | with_reducible refine a_s1 (by with_unfolding_all rfl) ?_
     | with_reducible refine a_dcy (by with_unfolding_all rfl) ?_
     | with_reducible refine a_s2 (by with_unfolding_all rfl) (by with_unfolding_all rfl) ?_
     | with_reducible refine a_s3 (by with_unfolding_all rfl) (by with_unfolding_all rfl) (by with_unfolding_all rfl) ?_
     | with_reducible refine a_owned (by with_unfolding_all rfl) ?_)
  | (with_reducible refine rs_go 7 ?_
     first
     | with_reducible refine i_B (by with_unfolding_all rfl) ?_
     | with_reducible refine i_T (by with_unfolding_all rfl) ?_
     | with_reducible refine i_L (by with_unfolding_all rfl) ?_)
  | (with_reducible refine rs_go 8 ?_
     first
     | with_reducible refine a_nb (by with_unfolding_all rfl) ?_
     | with_reducible refine a_len (by with_unfolding_all rfl) ?_
     | with_reducible refine a_revT (by with_unfolding_all rfl) ?_
     | with_reducible refine a_revL (by with_unfolding_all rfl) ?_)
  | (with_reducible refine rs_go 9 ?_
     first
     | with_reducible refine iteNT (by with_unfolding_all rfl) ?_
     | with_reducible refine iteNF (by with_unfolding_all rfl) ?_
     | with_reducible refine iteIT (by with_unfolding_all rfl) ?_
     | with_reducible refine iteIF (by with_unfolding_all rfl) ?_))
local macro_rules | `(tactic| walk_at "ax") => `(tactic| (repeat (first | walk_at "a1" | with_reducible refine a_if ?_); try dsimp only [List.set_cons_zero, List.set_cons_succ, awipe, aFrz, List.getElem?_cons_zero, List.getElem?_cons_succ]))
local macro_rules | `(tactic| walk_at "ay") => `(tactic| (repeat (walk_at "a1"); try dsimp only [List.set_cons_zero, List.set_cons_succ, awipe, aFrz, List.getElem?_cons_zero, List.getElem?_cons_succ]))
/-- road_counts, slots web, found, one, other -/
def t_road_counts (K : Fg) : TS :=
  (tSeq (tAsg (tOp (rMulU K) (tLst (tCons (tC (.int 0)) tNil)) (tOp (rIx K) (tVar 0) (tC (.int 0)))) (gName 1)) (tSeq (tFor (iSeq K (tOp (rIx K)
    (tVar 0) (tC (.int 1)))) (gTup K 2 (gCons (gName 2) (gCons (gName 3) gNil))) (tSeq (tAsg (tOp (rAddU K) (tOp (rIx K) (tVar 1) (tVar 2)) (tC (.int 1))) (gSub (tVar 1) (tVar 2) rSetL)) (tAsg (tOp (rAddU K) (tOp (rIx K) (tVar 1)
    (tVar 3)) (tC (.int 1))) (gSub (tVar 1) (tVar 3) rSetL)))) (tRet (tVar 1))))
abbrev a_road_counts_0 : ASt :=
  (aSetI 1 (aOp gAdd (aOp gIx (aVar 1) (aVar 3)) (aC (.int 1))) (aVar 3))
abbrev a_road_counts_1 : ASt :=
  (aSeq (aFor (aSeqI (aOp gIx (aVar 0) (aC (.int 1)))) (agTup 2 (agCons (agName 2) (agCons (agName 3) agNil))) (aSeq (aSetI 1 (aOp gAdd (aOp gIx (aVar 1) (aVar 2)) (aC (.int 1))) (aVar 2))
    a_road_counts_0)) (aRet (aVar 1)))
abbrev a_road_counts : ASt :=
  (aSeq (aSet 1 (aOp gMul (aLst (aCons (aC (.int 0)) aNil)) (aOp gIx (aVar 0) (aC (.int 0))))) a_road_counts_1)
theorem f_road_counts {K : Fg} {E : WX} : RSt K E (t_road_counts K) a_road_counts :=
  (rs_seq (rs_set (re_op ro_mul (re_lst (ra_cons re_int ra_nil)) (re_op ro_ix re_var re_int))) (rs_seq (rs_for (ri_seq (re_op ro_ix re_var
    re_int)) (rg_tup (rgs_cons rg_name (rgs_cons rg_name rgs_nil))) (rs_seq (rs_setI (re_op ro_add (re_op ro_ix re_var re_var) re_int) re_var) (rs_setI (re_op ro_add (re_op ro_ix re_var re_var) re_int) re_var))) (rs_ret re_var)))
def m_road_counts : AFn := mOf 3 a_road_counts
def sp_road_counts (K : Fg) : Sp := SpA K 1 m_road_counts
theorem br_road_counts {K : Fg} : ∀ vs H Q E, SpA K 1 m_road_counts vs H Q E → sp_road_counts K vs H Q E := fun _ _ _ _ h => h
theorem l_road_counts {K : Fg} : ∀ vs H Q E, sp_road_counts K vs H Q E → vs.length = 1 := l_spa
theorem p_road_counts {K : Fg} {vs : List V} {H : Hp} {Q : VK} {E : XK} (h : sp_road_counts K vs H Q E) : t_road_counts K { nx := fun _ H' => Q .non H', rt := Q } (L2.start ["web", "found", "one", "other"] vs) H :=
  p_spa (f_road_counts) h rfl
section
variable {x : AXc} {k : Avl → Prop} {n : Int} {rs : List (Int × Int)} {ms : List Int} {C : Cl}
theorem nb_all (rs : List (Int × Int)) (j : Nat) : nb rs j = (rdsN rs (j : Int) 0).map (·.1) := by unfold nb nbTo; rw [List.take_length]
theorem mem_nb (j : Nat) (y : Int) : y ∈ nb rs j ↔ Adj rs (j : Int) y := by
  rw [nb_all, List.mem_map]
  constructor
  · rintro ⟨q, hq, rfl⟩
    exact rdsN_mem (r := q.2) rs 0 hq
  · intro h
    obtain ⟨r, hr⟩ := rdsN_adj rs 0 h
    exact ⟨_, hr, rfl⟩
/-- the neighbours, ascending, of each place -/
def NbS (n : Int) (rs : List (Int × Int)) (N : Int → List Int) : Prop := ∀ j : Nat, (j : Int) < n → (N (j : Int)).Perm (nb rs j) ∧ (N (j : Int)).Pairwise (· ≤ ·)
theorem NbS.mem {N : Int → List Int} (h : NbS n rs N) {z y : Int} (z0 : 0 ≤ z) (z1 : z < n) : y ∈ N z ↔ Adj rs z y := by
  have a := (h z.toNat (by omega)).1.mem_iff (a := y)
  have b := mem_nb (rs := rs) z.toNat y
  rw [show ((z.toNat : Nat) : Int) = z by omega] at a b
  exact a.trans b
/-- how many roads stand at each place, of the first i -/
def cnt (n : Int) (rs : List (Int × Int)) (i : Nat) : List Int := (List.range n.toNat).map fun j => ((nbTo rs i j).length : Int)
theorem cnt_get {i j : Nat} (h : j < n.toNat) : (cnt n rs i)[j]? = some ((nbTo rs i j).length : Int) := by
  unfold cnt
  rw [List.getElem?_map, List.getElem?_range h]
  rfl
theorem cnt_len (i : Nat) : (cnt n rs i).length = n.toNat := by unfold cnt; rw [List.length_map, List.length_range]
theorem cnt_step {i : Nat} {p : Int × Int} (hp : rs[i]? = some p) (h0 : 0 ≤ p.1) (h1 : p.1 < p.2) (h2 : p.2 < n) : ((cnt n rs i).set p.1.toNat (((nbTo rs i p.1.toNat).length : Int) + 1)).set p.2.toNat (((nbTo rs i p.2.toNat).length : Int) + 1) = cnt n rs (i + 1) := by
  refine List.ext_getElem? fun j => ?_
  rw [List.getElem?_set, List.getElem?_set, List.length_set, cnt_len]
  by_cases hj : j < n.toNat
  · rw [cnt_get hj, cnt_get hj, nbTo_succ hp, List.length_append]
    by_cases c2 : p.2.toNat = j
    · subst c2
      rw [if_pos rfl, if_pos (by omega), if_pos (.inr (by omega)), List.length_singleton]
      rfl
    · rw [if_neg c2]
      by_cases c1 : p.1.toNat = j
      · subst c1
        rw [if_pos rfl, if_pos (by omega), if_pos (.inl (by omega)), List.length_singleton]
        rfl
      · rw [if_neg c1, if_neg (by omega)]
        rfl
  · rw [List.getElem?_eq_none (l := cnt n rs (i + 1)) (by rw [cnt_len]; omega), List.getElem?_eq_none (l := cnt n rs i) (by rw [cnt_len]; omega), if_neg (by omega), if_neg (by omega)]
theorem set_ints (ms : List Int) (j : Nat) (v : Int) : (ms.map PyData.int).set j (.int v) = (ms.set j v).map .int := by rw [List.map_set]
theorem s_road_counts (sh : Shape n rs) (hn : n ≤ 1000) (hl : rs.length ≤ 1000) (h : k (.l ((cnt n rs rs.length).map .int))) : m_road_counts [.d (dWeb n rs ms)] x k := by
  show a_road_counts _ [.d (dWeb n rs ms), .x, .x, .x]
  have two := sh.two
  walk_at "ax"
  refine .inr ⟨_, _, rfl, rfl, by omega, by omega, by simp; omega, ?_⟩
  walk_at "ax"
  have e0 : (List.replicate n.toNat [PyData.int 0]).flatten = (cnt n rs 0).map .int := by
    rw [flat_rep]
    symm
    refine List.eq_replicate_iff.mpr ⟨by rw [List.length_map, cnt_len], fun b hb => ?_⟩
    obtain ⟨z, hz, rfl⟩ := List.mem_map.mp hb
    unfold cnt at hz
    obtain ⟨j, _, rfl⟩ := List.mem_map.mp hz
    rfl
  rw [e0]
  refine a_loop (fun i α => ∃ x2 x3 : Sot, α = [.d (dWeb n rs ms), .own ((cnt n rs i).map .int), x2, x3]) ⟨_, _, rfl⟩ ?_ ?_
  · rintro i y α hy ⟨x2, x3, rfl⟩
    obtain ⟨p, hp, rfl⟩ := dp_at hy
    have o := sh.ok p (List.mem_of_getElem? hp)
    walk_at "ax"
    refine g_ixL rfl (atI_toNat o.1 (by rw [List.getElem?_map, cnt_get (by omega)]; rfl)) ?_
    walk_at "ax"
    refine ⟨p.1, p.1.toNat, rfl, by rw [List.length_map, cnt_len]; exact ix_int o.1 (by omega), ?_⟩
    rw [set_ints]
    walk_at "ax"
    refine g_ixL rfl (atI_toNat (by omega) (by rw [List.getElem?_map, List.getElem?_set_ne (by omega), cnt_get (by omega)]; rfl)) ?_
    walk_at "ax"
    refine ⟨p.2, p.2.toNat, rfl, by rw [List.length_map, List.length_set, cnt_len]; exact ix_int (by omega) (by omega), ?_⟩
    rw [set_ints, cnt_step hp o.1 o.2.1 o.2.2]
    exact ⟨_, _, rfl⟩
  · rintro α ⟨x2, x3, rfl⟩
    rw [List.length_map]
    walk_at "ax"
    exact h
theorem NbS.deg {N : Int → List Int} (h : NbS n rs N) {j : Nat} (hj : (j : Int) < n) : (nb rs j).length = (N (j : Int)).length := (h j hj).1.length_eq.symm
end
end UW.Un
namespace UW
open PySem PySem.Spec PyProof.Rows L2
def dT (p : (Int × Int) × Int) : PyData := .tuple [.int p.1.1, .int p.1.2, .int p.2]
def iT (p : (Int × Int) × Int) : List Int := [p.1.1, p.1.2, p.2]
/-- the order of threes -/
def leT (p q : (Int × Int) × Int) : Prop := p.1.1 < q.1.1 ∨ (p.1.1 = q.1.1 ∧ (p.1.2 < q.1.2 ∨ (p.1.2 = q.1.2 ∧ p.2 ≤ q.2)))
def inB (p : (Int × Int) × Int) : Prop := (0 ≤ p.1.1 ∧ p.1.1 < 64) ∧ (0 ≤ p.1.2 ∧ p.1.2 < 64) ∧ (0 ≤ p.2 ∧ p.2 < 64)
def gSortT : AOn := fun as k => ∃ (a : Avl) (rs : List ((Int × Int) × Int)), as = [a] ∧ a.lst = some (rs.map dT) ∧ rs.length < 64 ∧ (∀ r ∈ rs, inB r) ∧ ∀ qs : List ((Int × Int) × Int), qs.Perm rs → qs.Pairwise leT → k (.l (qs.map dT))
theorem flat_dTs : ∀ rs : List ((Int × Int) × Int), flatDs (rs.map dT) = true
  | [] => by simp [flatDs]
  | p :: rs => by simp [flatDs, flatD, dT, flat_dTs rs]
theorem tp_dT {K : Fg} {H : Hp} {v : V} {p : (Int × Int) × Int} (h : Tp K H v (dT p)) : TupI K H v (iT p) ∧ ∃ t, v = .ref t ∧ SqT K H t ((iT p).map V.int) := by
  obtain ⟨t, xs, rfl, h1, h2⟩ := Tp.tup_inv h
  have e : xs = (iT p).map V.int := Tps.ints (ns := iT p) h2
  subst e
  exact ⟨⟨t, rfl, h1.up⟩, t, rfl, h1⟩
theorem tps_perm {K : Fg} {H : Hp} {κ : Type} {f : κ → PyData} {ys xs : List V} (pm : ys.Perm xs) : ∀ {rs : List κ}, Tps K H xs (rs.map f) → ∃ qs : List κ, qs.Perm rs ∧ Tps K H ys (qs.map f) := by
  induction pm with
  | nil =>
    intro rs h
    cases rs with
    | nil => exact ⟨[], .refl _, .nil⟩
    | cons p rs => cases h
  | cons x _ ih =>
    intro rs h
    cases rs with
    | nil => cases h
    | cons p rs =>
      cases h with
      | cons h1 h2 =>
        obtain ⟨qs, h3, h4⟩ := ih h2
        exact ⟨p :: qs, h3.cons p, .cons h1 h4⟩
  | swap x y l =>
    intro rs h
    cases rs with
    | nil => cases h
    | cons p rs =>
      cases h with
      | cons h1 h2 =>
        cases rs with
        | nil => cases h2
        | cons q rs =>
          cases h2 with
          | cons h2 h3 => exact ⟨q :: p :: rs, .swap .., .cons h2 (.cons h1 h3)⟩
  | trans _ _ ih1 ih2 =>
    intro rs h
    obtain ⟨qs, a, b⟩ := ih2 h
    obtain ⟨ts, c, d⟩ := ih1 b
    exact ⟨ts, c.trans a, d⟩
theorem leT_of {p q : (Int × Int) × Int} (hp : inB p) (hq : inB q) (h : TS.code 64 (iT p) ≤ TS.code 64 (iT q)) : leT p q := by
  have e : ∀ r : (Int × Int) × Int, TS.code 64 (iT r) = r.1.1 * 4096 + (r.1.2 * 64 + r.2) := by
    intro r
    unfold iT
    simp only [TS.code, List.length_cons, List.length_nil]
    have : (64 : Int) ^ (0 + 1 + 1) = 4096 := by decide
    have h2 : (64 : Int) ^ (0 + 1) = 64 := by decide
    have h3 : (64 : Int) ^ 0 = 1 := by decide
    rw [this, h2, h3]
    omega
  rw [e, e] at h
  unfold leT
  unfold inB at hp hq
  omega
theorem tps_pw {K : Fg} {H : Hp} {R : (Int × Int) × Int → (Int × Int) × Int → Prop} {S : V → V → Prop} (hS : ∀ x y p q, Tp K H x (dT p) → Tp K H y (dT q) → inB p → inB q → S x y → R p q) : ∀ {ys : List V} {qs : List ((Int × Int) × Int)}, Tps K H ys (qs.map dT) → (∀ q ∈ qs, inB q) → ys.Pairwise S → qs.Pairwise R
  | _, [], _, _, _ => .nil
  | ys, q :: qs, h, b, pw => by
    obtain ⟨v, vs, rfl, h1, h2⟩ := Tps.cons_inv h
    obtain ⟨p1, p2⟩ := List.pairwise_cons.mp pw
    refine List.pairwise_cons.mpr ⟨fun r hr => ?_, tps_pw hS h2 (fun z hz => b z (List.mem_cons_of_mem _ hz)) p2⟩
    obtain ⟨i, hi, ei⟩ := List.mem_iff_getElem.mp hr
    obtain ⟨x, hx, tx⟩ := h2.at (i := i) (d := dT r) (by rw [List.getElem?_map, List.getElem?_eq_getElem hi, ei]; rfl)
    exact hS v x q r h1 tx (b q (List.mem_cons_self ..)) (b r (List.mem_cons_of_mem _ hr)) (p1 x (List.mem_of_getElem? hx))
theorem rb_sortT {K : Fg} : RCb K (rSortU K 3 64) gSortT := by
  intro W Hs O S H xs as k Q ok r ⟨a, rs, e, h, h64, hb, hk⟩ q
  subst e
  obtain ⟨v, rfl, r1⟩ := one_inv r
  obtain ⟨p, vs, rfl, a, o⟩ := r1.lst h
  have t := o.tps (flat_dTs rs)
  have lv := t.length
  rw [List.length_map] at lv
  refine ⟨p, vs, rfl, SqL.of a, by omega, fun x hx => ?_, fun ys d pm pw hd => ?_⟩
  · obtain ⟨i, hi, rfl⟩ := List.mem_iff_getElem.mp hx
    obtain ⟨d, hd, td⟩ := t.get (List.getElem?_eq_getElem hi)
    rw [List.getElem?_map] at hd
    cases e : rs[i]? with
    | none => rw [e] at hd; cases hd
    | some r =>
      rw [e] at hd
      obtain rfl : dT r = d := Option.some.inj hd
      have b := hb r (List.mem_of_getElem? e)
      refine ⟨iT r, (tp_dT td).1, rfl, fun m hm => ?_⟩
      unfold inB at b
      unfold iT at hm
      simp only [List.mem_cons, List.not_mem_nil, or_false] at hm
      rcases hm with rfl | rfl | rfl <;> omega
  · obtain ⟨qs, h1, h2⟩ := tps_perm pm t
    have hb' : ∀ r ∈ qs, inB r := fun r hr => hb r (h1.mem_iff.mp hr)
    refine Rst.new q ok h2.ods (hk qs h1 (tps_pw (fun x y m n hx hy bm bn hc => leT_of bm bn (hc _ _ (tp_dT hx).1 (tp_dT hy).1)) h2 hb' pw)) d hd
end UW
namespace UW
open PySem PySem.Spec PyProof.Rows L2
section
variable {X : Cx} {a : Expr} {ta : TE} {x : Str} {ns : List Int} {p1 p2 : Pos}
end
def gAll : AOn := fun as k => ∃ (a : Avl) (bs : List Bool), as = [a] ∧ a.lst = some (bs.map .bool) ∧ k (.d (.bool (bs.all id)))
theorem Ods.bls {K : Fg} {G : Addr → Prop} {H : Hp} {bs : List Bool} : ∀ {vs : List V}, Ods K G H vs (bs.map .bool) → vs = bs.map V.bl := by
  induction bs with
  | nil => intro vs h; cases h; rfl
  | cons b bs ih =>
    intro vs h
    cases h with
    | cons h1 h2 =>
      cases h1
      rw [List.map_cons, ih h2]
theorem rb_all {K : Fg} : RCb K (rAll K) gAll := by
  intro W Hs O S H xs as k Q ok r ⟨a, bs, e, h, hk⟩ q
  subst e
  obtain ⟨v, rfl, r1⟩ := one_inv r
  obtain ⟨p, vs, rfl, a, o⟩ := r1.lst h
  rw [Ods.bls o] at a
  exact ⟨p, bs, rfl, SqL.of a, Rst.bl q ok hk⟩
end UW
namespace UW
open PySem PySem.Spec PyProof.Rows L2
def gSortI : AOn := fun as k => ∃ (a : Avl) (ns : List Int), as = [a] ∧ a.lst = some (ns.map .int) ∧ ∀ qs : List Int, qs.Perm ns → qs.Pairwise (· ≤ ·) → k (.l (qs.map .int))
theorem ods_ints {K : Fg} {G : Addr → Prop} {H : Hp} : ∀ ns : List Int, Ods K G H (ns.map V.int) (ns.map .int)
  | [] => .nil
  | n :: ns => .cons (Od.int n) (ods_ints ns)
theorem rb_sortI {K : Fg} : RCb K (rSortedI K) gSortI := by
  intro W Hs O S H xs as k Q ok r ⟨a, ns, e, h, hk⟩ q
  subst e
  obtain ⟨v, rfl, r1⟩ := one_inv r
  obtain ⟨p, vs, rfl, a, o⟩ := r1.lst h
  rw [o.ints] at a
  exact ⟨p, ns, rfl, SqL.of a, fun qs p' h1 h2 np => Rst.new q ok (ods_ints qs) (hk qs h1 h2) p' np⟩
end UW
namespace UW.Un
open PySem PySem.Spec PyProof.Rows L2 UW
section
variable {n : Int} {rs : List (Int × Int)}
theorem dsl_ex (sh : Shape n rs) : ∃ ds, DsL n rs 0 ds := by
  have two := sh.two
  have key : ∀ i : Nat, i ≤ n.toNat → ∃ ds : List Int, ds.length = i ∧ ∀ j : Nat, j < i → ∃ d : Nat, ds[j]? = some (d : Int) ∧ Dst rs 0 (j : Int) d := by
    intro i
    induction i with
    | zero => intro _; exact ⟨[], rfl, fun j h => absurd h (by omega)⟩
    | succ i ih =>
      intro hi
      obtain ⟨ds, hl, hd⟩ := ih (by omega)
      obtain ⟨k1, r⟩ := conn_rch (p := 0) (x := (i : Int)) sh (by omega) (by omega) (by omega) (by omega)
      obtain ⟨d, _, dj⟩ := Dst.ex r
      refine ⟨ds ++ [(d : Int)], by simp [hl], fun j hj => ?_⟩
      by_cases e : j < i
      · rw [List.getElem?_append_left (by omega)]
        exact hd j e
      · have : j = i := by omega
        subst this
        exact ⟨d, by rw [List.getElem?_append_right (by omega), hl]; simp, dj⟩
  obtain ⟨ds, h⟩ := key n.toNat (Nat.le_refl _)
  exact ⟨ds, h⟩
open Classical in
noncomputable def dsO (n : Int) (rs : List (Int × Int)) : List Int := if h : ∃ ds, DsL n rs 0 ds then Classical.choose h else []
theorem dsO_is (sh : Shape n rs) : DsL n rs 0 (dsO n rs) := by
  unfold dsO
  rw [dif_pos (dsl_ex sh)]
  exact Classical.choose_spec (dsl_ex sh)
theorem dsl_isO {ds : List Int} (h : DsL n rs 0 ds) (sh : Shape n rs) : ds = dsO n rs := h.uniq (dsO_is sh)
/-- how many roads a place has -/
def deg (rs : List (Int × Int)) (z : Int) : Int := ((nb rs z.toNat).length : Int)
/-- the places with steps of this evenness -/
noncomputable def sideL (n : Int) (rs : List (Int × Int)) (s : Int) : List Int := (iota n.toNat).filter fun p => decide ((dsO n rs).getD p.toNat 0 % 2 = s)
def OkS (n : Int) (rs : List (Int × Int)) (s : Int) : Prop := ∀ p ∈ sideL n rs s, deg rs p = 2
open Classical in
noncomputable def mids (n : Int) (rs : List (Int × Int)) : Option (List Int) :=
  if n < 3 ∨ (rs.length : Int) ≠ n - 1 then none else if OkS n rs 0 then some (sideL n rs 0) else if OkS n rs 1 then some (sideL n rs 1) else none
theorem mem_sideL {s p : Int} : p ∈ sideL n rs s → 0 ≤ p ∧ p < n := by
  intro h
  have := (List.mem_filter.mp h).1
  rw [mem_iota] at this
  omega
theorem sideL_len (s : Int) : (sideL n rs s).length ≤ n.toNat := by
  have := List.length_filter_le (fun p => decide ((dsO n rs).getD p.toNat 0 % 2 = s)) (iota n.toNat)
  rw [iota_len] at this
  exact this
theorem mids_mem {M : List Int} (h : mids n rs = some M) : (∀ p ∈ M, (0 ≤ p ∧ p < n) ∧ deg rs p = 2) ∧ M.length ≤ n.toNat := by
  unfold mids at h
  split at h
  · cases h
  · split at h
    · rename_i c
      cases h
      exact ⟨fun p hp => ⟨mem_sideL hp, c p hp⟩, sideL_len 0⟩
    · split at h
      · rename_i c
        cases h
        exact ⟨fun p hp => ⟨mem_sideL hp, c p hp⟩, sideL_len 1⟩
      · cases h
/-- the data of a list of places, if any -/
def mO : Option (List Int) → PyData
  | none => .none
  | some l => .list (l.map .int)
/-- sorted -/
def srt (l : List Int) : List Int := l.mergeSort fun a b => decide (a ≤ b)
theorem srt_perm (l : List Int) : (srt l).Perm l := List.mergeSort_perm _ _
theorem srt_pw (l : List Int) : (srt l).Pairwise (· ≤ ·) := by
  have := List.pairwise_mergeSort (le := fun a b : Int => decide (a ≤ b)) (fun a b c h1 h2 => by
    have h1 := of_decide_eq_true h1
    have h2 := of_decide_eq_true h2
    exact decide_eq_true (Int.le_trans h1 h2)) (fun a b => by
    rcases Int.le_total a b with c | c
    · rw [decide_eq_true c]; rfl
    · rw [decide_eq_true c, Bool.or_true]) l
  exact this.imp fun h => of_decide_eq_true h
theorem srt_eq {l qs : List Int} (pm : qs.Perm l) (pw : qs.Pairwise (· ≤ ·)) : qs = srt l :=
  (pm.trans (srt_perm l).symm).eq_of_pairwise (fun a b _ _ h1 h2 => Int.le_antisymm h1 h2) pw (srt_pw l)
/-- threes sorted -/
def leTb (p q : (Int × Int) × Int) : Bool := decide (p.1.1 < q.1.1 ∨ (p.1.1 = q.1.1 ∧ (p.1.2 < q.1.2 ∨ (p.1.2 = q.1.2 ∧ p.2 ≤ q.2))))
def srtT (l : List ((Int × Int) × Int)) : List ((Int × Int) × Int) := l.mergeSort leTb
theorem srtT_perm (l : List ((Int × Int) × Int)) : (srtT l).Perm l := List.mergeSort_perm _ _
theorem srtT_pw (l : List ((Int × Int) × Int)) : (srtT l).Pairwise leT := by
  have := List.pairwise_mergeSort (le := leTb) (fun a b c h1 h2 => by
    have h1 := of_decide_eq_true h1
    have h2 := of_decide_eq_true h2
    exact decide_eq_true (by omega)) (fun a b => by
    unfold leTb
    rw [← Bool.decide_or]
    exact decide_eq_true (by omega)) l
  exact this.imp fun h => of_decide_eq_true h
theorem srtT_eq {l qs : List ((Int × Int) × Int)} (pm : qs.Perm l) (pw : qs.Pairwise leT) : qs = srtT l :=
  (pm.trans (srtT_perm l).symm).eq_of_pairwise (fun a b _ _ h1 h2 => by
    unfold leT at h1 h2
    exact Prod.ext (Prod.ext (by omega) (by omega)) (by omega)) pw (srtT_pw l)
end
end UW.Un
namespace UW.Un
open PySem PySem.Spec PyProof.Rows L2 UW
/-- one step -/
local macro_rules | `(tactic| walk_at "a1") => `(tactic| first
  | with_reducible refine wk ?_
  | (with_reducible refine rs_go 1 ?_
     first
     | with_reducible refine a_var (by with_unfolding_all rfl) (by with_unfolding_all rfl) ?_
     | with_reducible refine a_gtup (by with_unfolding_all rfl) (by with_unfolding_all rfl) ?_
     | with_reducible refine a_glst (by with_unfolding_all rfl) (by with_unfolding_all rfl) ?_)
  | (with_reducible refine rs_go 2 ?_
     first
     | with_reducible refine g_ixT (by with_unfolding_all rfl) (by first | with_unfolding_all rfl | with_unfolding_all exact at_zero _ _) ?_
     | with_reducible refine g_ixL (by with_unfolding_all rfl) (by first | with_unfolding_all rfl | with_unfolding_all exact at_zero _ _) ?_)
  | (with_reducible refine rs_go 3 ?_
     first
     | with_reducible refine g_lenT (by with_unfolding_all rfl) ?_
     | with_reducible refine g_lenL (by with_unfolding_all rfl) ?_
     | with_reducible refine g_tupL (by with_unfolding_all rfl) ?_
     | with_reducible refine g_tupT (by with_unfolding_all rfl) ?_
     | with_reducible refine g_lstT (by with_unfolding_all rfl) ?_
     | with_reducible refine g_lstL (by with_unfolding_all rfl) ?_)
  | (with_reducible refine rs_go 4 ?_
     first
     | with_reducible refine g_addL (by with_unfolding_all rfl) (by with_unfolding_all rfl) (Nat.le_of_ble_eq_true (by with_unfolding_all rfl)) ?_
     | with_reducible refine g_mulI (by first | exact Or.inl ⟨by decide, by decide⟩ | exact Or.inr ⟨by decide, by decide⟩ | (first | (refine Or.inl ⟨?_, ?_⟩ <;> omega) | (refine Or.inr ⟨?_, ?_⟩ <;> omega))) ?_
     | with_reducible refine g_mod (by first | decide | omega) ?_
     | with_reducible refine g_div (by first | decide | omega) (by first | decide | omega) ?_
     | with_reducible refine g_slT (by with_unfolding_all rfl) ?_
     | with_reducible refine g_slL (by with_unfolding_all rfl) ?_
     | with_reducible refine g_isN (by with_unfolding_all rfl) ?_
     | with_reducible refine g_notN (by with_unfolding_all rfl) ?_)
  | (with_reducible refine rs_go 5 ?_
     first
     | with_reducible refine a_dget (by with_unfolding_all rfl) ?_
     | with_reducible refine a_dget2 (by with_unfolding_all rfl) ?_
     | with_reducible refine a_fzq (by with_unfolding_all rfl) ?_
     | with_reducible refine a_retC (by with_unfolding_all rfl) ?_
     | with_reducible refine a_isX (by with_unfolding_all rfl) ?_
     | with_reducible refine a_app (by with_unfolding_all rfl) ?_
     | with_reducible refine a_ext (by with_unfolding_all rfl) ?_
     | with_reducible refine a_pop (by with_unfolding_all rfl) ?_
     | with_reducible refine a_fz (by with_unfolding_all rfl) ?_
     | with_reducible refine a_lenDV (by with_unfolding_all rfl) ?_)
  | (with_reducible refine rs_go 6 ?_
     first
     | with_reducible refine a_cl (by with_unfolding_all rfl) ?_
     | with_reducible refine a_dat (by with_unfolding_all rfl) ?_
     | with_reducible refine a_s1 (by with_unfolding_all rfl) ?_
     | with_reducible refine a_dcy (by with_unfolding_all rfl) ?_
     | with_reducible refine a_s2 (by with_unfolding_all rfl) (by with_unfolding_all rfl) ?_
     | with_reducible refine a_s3 (by with_unfolding_all rfl) (by with_unfolding_all rfl) (by with_unfolding_all rfl) ?_
     | with_reducible refine a_owned (by with_unfolding_all rfl) ?_)
  | (with_reducible refine rs_go 7 ?_
     first
     | with_reducible refine i_B (by with_unfolding_all rfl) ?_
     | with_reducible refine i_T (by with_unfolding_all rfl) ?_
     | with_reducible refine i_L (by with_unfolding_all rfl) ?_)
  | (with_reducible refine rs_go 8 ?_
     first
     | with_reducible refine a_nb (by with_unfolding_all rfl) ?_
     | with_reducible refine a_len (by with_unfolding_all rfl) ?_
     | with_reducible refine a_revT (by with_unfolding_all rfl) ?_
     | with_reducible refine a_revL (by with_unfolding_all rfl) ?_)
  | (with_reducible refine rs_go 9 ?_
     first
     | with_reducible refine iteNT (by with_unfolding_all rfl) ?_
     | with_reducible refine iteNF (by with_unfolding_all rfl) ?_
     | with_reducible refine iteIT (by with_unfolding_all rfl) ?_
     | with_reducible refine iteIF (by with_unfolding_all rfl) ?_))
local macro_rules | `(tactic| walk_at "ax") => `(tactic| (repeat (first | walk_at "a1" | with_reducible refine a_if ?_); try dsimp only [List.set_cons_zero, List.set_cons_succ, awipe, aFrz, List.getElem?_cons_zero, List.getElem?_cons_succ]))
local macro_rules | `(tactic| walk_at "ay") => `(tactic| (repeat (walk_at "a1"); try dsimp only [List.set_cons_zero, List.set_cons_succ, awipe, aFrz, List.getElem?_cons_zero, List.getElem?_cons_succ]))
/-- steps_from, slots web, place, steps, other -/
def t_steps_from (K : Fg) : TS :=
  (tSeq (tAsg (tG (sp_steps_known K) E00 (tCons (tVar 0) (tCons (tVar 1) tNil))) (gName 2)) (tRet (tCB (rTupOf K) (tCons (tLc (iRng1 (tCons (tOp
    (rIx K) (tVar 0) (tC (.int 0))) tNil)) (gName 3) tYes (tDGet (tVar 2) (tVar 3)) [3]) tNil))))
abbrev a_steps_from_0 : ASt :=
  (aRet (aCB gTupOf (bCons (aLc (aRng1 (bCons (aOp gIx (aVar 0) (aC (.int 0))) bNil)) (agName 3) aYes (aDGet 2 (aVar 3)) [3]) bNil)))
abbrev a_steps_from : ASt :=
  (aSeq (aSet 2 (aCall0 m_steps_known (bCons (aVar 0) (bCons (aVar 1) bNil)))) a_steps_from_0)
theorem f_steps_from {K : Fg} {E : WX} : RSt K E (t_steps_from K) a_steps_from :=
  (rs_seq (rs_set (re_call0 br_steps_known (rv_cons re_var (rv_cons re_var rv_nil)))) (rs_ret (re_cb rb_tupOf (rv_cons (re_lc (ri_rng1 (rv_cons
    (re_op ro_ix re_var re_int) rv_nil)) rg_name rt_yes (re_dget re_var) (by rfl)) rv_nil))))
def m_steps_from : AFn := mOf 2 a_steps_from
def sp_steps_from (K : Fg) : Sp := SpA K 2 m_steps_from
theorem br_steps_from {K : Fg} : ∀ vs H Q E, SpA K 2 m_steps_from vs H Q E → sp_steps_from K vs H Q E := fun _ _ _ _ h => h
theorem l_steps_from {K : Fg} : ∀ vs H Q E, sp_steps_from K vs H Q E → vs.length = 2 := l_spa
theorem p_steps_from {K : Fg} {vs : List V} {H : Hp} {Q : VK} {E : XK} (h : sp_steps_from K vs H Q E) : t_steps_from K { nx := fun _ H' => Q .non H', rt := Q } (L2.start ["web", "place", "steps", "other"] vs) H :=
  p_spa (f_steps_from) h rfl
/-- middles_of, slots web, n, roads, most, steps, many, side, places, place -/
def t_middles_of (K : Fg) : TS :=
  (tSeq (tAsg (tVar 0) (gTup K 3 (gCons (gName 1) (gCons (gName 2) (gCons (gName 3) gNil))))) (tSeq (tIfS (tOr (tTest
    (tOp (rLtU K) (tVar 1) (tC (.int 3)))) (tTest (tOp (rNeU K) (tCB (rLenU K) (tCons (tVar 2) tNil)) (tOp rSubI (tVar 1) (tC (.int 1)))))) (tRet (tC .non)) tNext) (tSeq (tAsg (tTup (tCons (tG (sp_steps_from K) E00 (tCons (tVar 0)
    (tCons (tC (.int 0)) tNil))) (tCons (tG (sp_road_counts K) E00 (tCons (tVar 0) tNil)) tNil))) (gTup K 2 (gCons (gName 4) (gCons (gName 5) gNil)))) (tSeq (tFor (iSeq K (tTup (tCons (tC (.int 0)) (tCons (tC (.int 1)) tNil))))
    (gName 6) (tSeq (tAsg (tLc (iRng1 (tCons (tVar 1) tNil)) (gName 8) (tTest (tOp (rEqU K) (tOp rModI (tOp (rIx K) (tVar 4) (tVar 8)) (tC (.int 2))) (tVar 6))) (tVar 8) [8]) (gName 7)) (tIfS (tB (tCB (rAll K) (tCons (tLc (iSeq K
    (tVar 7)) (gName 8) tYes (tOp (rEqU K) (tOp (rIx K) (tVar 5) (tVar 8)) (tC (.int 2))) [8]) tNil))) (tRet (tVar 7)) tNext))) (tRet (tC .non))))))
abbrev a_middles_of_0 : ASt :=
  (aIfS (aB (aCB gAll (bCons (aLc (aSeqI (aVar 7)) (agName 8) aYes (aOp gEq (aOp gIx (aVar 5) (aVar 8)) (aC (.int 2))) [8]) bNil))) (aRet (aVar 7)) aNext)
abbrev a_middles_of_1 : ASt :=
  (aSeq (aFor (aSeqI (aTup (aCons (aC (.int 0)) (aCons (aC (.int 1)) aNil)))) (agName 6) (aSeq (aAsg (aLc (aRng1 (bCons (aVar 1) bNil)) (agName 8) (aB (aOp gEq (aOp gMod (aOp gIx (aVar 4) (aVar 8))
    (aC (.int 2))) (aVar 6))) (aVar 8) [8]) (agName 7)) a_middles_of_0)) (aRet (aC .none)))
abbrev a_middles_of_2 : ASt :=
  (aSeq (aAsg (aTup (aCons (aCall0 m_steps_from (bCons (aVar 0) (bCons (aC (.int 0)) bNil))) (aCons (aCall0 m_road_counts (bCons (aVar 0) bNil)) aNil))) (agTup 2 (agCons (agName 4) (agCons (agName 5)
    agNil)))) a_middles_of_1)
abbrev a_middles_of_3 : ASt :=
  (aSeq (aIfS (aOr (aB (aOp gLt (aVar 1) (aC (.int 3)))) (aB (aOp gNe (aCB gLen (bCons (aVar 2) bNil)) (aOp gSub' (aVar 1) (aC (.int 1)))))) (aRet (aC .none)) aNext) a_middles_of_2)
abbrev a_middles_of : ASt :=
  (aSeq (aAsg (aVar 0) (agTup 3 (agCons (agName 1) (agCons (agName 2) (agCons (agName 3) agNil))))) a_middles_of_3)
theorem f_middles_of {K : Fg} {E : WX} : RSt K E (t_middles_of K) a_middles_of :=
  (rs_seq (rs_asg re_var (rg_tup (rgs_cons rg_name (rgs_cons rg_name (rgs_cons rg_name rgs_nil))))) (rs_seq (rs_ifs (rt_or (rt_test (re_op ro_lt
    re_var re_int)) (rt_test (re_op ro_ne (re_cb rb_len (rv_cons re_var rv_nil)) (re_op ro_sub re_var re_int)))) (rs_ret re_non) rs_next) (rs_seq (rs_asg (re_tup (ra_cons (re_call0 br_steps_from (rv_cons re_var (rv_cons re_int
    rv_nil))) (ra_cons (re_call0 br_road_counts (rv_cons re_var rv_nil)) ra_nil))) (rg_tup (rgs_cons rg_name (rgs_cons rg_name rgs_nil)))) (rs_seq (rs_for (ri_seq (re_tup (ra_cons re_int (ra_cons re_int ra_nil)))) rg_name (rs_seq
    (rs_asg (re_lc (ri_rng1 (rv_cons re_var rv_nil)) rg_name (rt_test (re_op ro_eq (re_op ro_mod (re_op ro_ix re_var re_var) re_int) re_var)) re_var (by rfl)) rg_name) (rs_ifs (rt_b (re_cb rb_all (rv_cons (re_lc (ri_seq re_var)
    rg_name rt_yes (re_op ro_eq (re_op ro_ix re_var re_var) re_int) (by rfl)) rv_nil))) (rs_ret re_var) rs_next))) (rs_ret re_non)))))
def m_middles_of : AFn := mOf 8 a_middles_of
def sp_middles_of (K : Fg) : Sp := SpA K 1 m_middles_of
theorem br_middles_of {K : Fg} : ∀ vs H Q E, SpA K 1 m_middles_of vs H Q E → sp_middles_of K vs H Q E := fun _ _ _ _ h => h
theorem l_middles_of {K : Fg} : ∀ vs H Q E, sp_middles_of K vs H Q E → vs.length = 1 := l_spa
theorem p_middles_of {K : Fg} {vs : List V} {H : Hp} {Q : VK} {E : XK} (h : sp_middles_of K vs H Q E) : t_middles_of K { nx := fun _ H' => Q .non H', rt := Q } (L2.start ["web", "n", "roads", "most", "steps", "many", "side", "places", "place"] vs) H :=
  p_spa (f_middles_of) h rfl
section
variable {x : AXc} {k : Avl → Prop} {n : Int} {rs : List (Int × Int)} {ms : List Int} {C : Cl}
theorem dsl_snoc {p : Int} {ds : List Int} {i j : Nat} (hl : ds.length = i) (hd : ∀ j : Nat, j < i → ∃ d : Nat, ds[j]? = some (d : Int) ∧ Dst rs p (j : Int) d) (dj : Dst rs p (i : Int) j) :
    ∀ j' : Nat, j' < i + 1 → ∃ d : Nat, (ds ++ [(j : Int)])[j']? = some (d : Int) ∧ Dst rs p (j' : Int) d := by
  intro t ht
  by_cases c : t < i
  · obtain ⟨d, a, b⟩ := hd t c
    exact ⟨d, by rw [List.getElem?_append_left (by omega)]; exact a, b⟩
  · have : t = i := by omega
    subst this
    exact ⟨j, by rw [List.getElem?_append_right (by omega), hl]; simp, dj⟩
theorem s_steps_from {p : Int} (sh : Shape n rs) (hl : rs.length ≤ 1000) (hn : n ≤ 1000) (p0 : 0 ≤ p) (p1 : p < n) (h : ∀ ds, DsL n rs p ds → k (.d (dIs ds))) : m_steps_from [.d (dWeb n rs ms), .d (.int p)] x k := by
  show a_steps_from _ [.d (dWeb n rs ms), .d (.int p), .x, .x]
  walk_at "ax"
  refine s_steps_known sh.ok hl hn p0 p1 fun m ky dn d1 => ⟨?_, fun z => by cases z⟩
  walk_at "ax"
  refine i_r1 (by have := sh.two; omega) ⟨by rw [List.length_map, iota_len]; omega, ?_⟩
  refine a_lcgo (fun i acc => ∃ ds : List Int, acc = ds.map .int ∧ ds.length = i ∧ ∀ j : Nat, j < i → ∃ d : Nat, ds[j]? = some (d : Int) ∧ Dst rs p (j : Int) d) ?_ ?_ ?_
  · exact ⟨[], rfl, rfl, fun j hj => absurd hj (by omega)⟩
  · rintro i y acc hy ⟨ds, rfl, hl', hd⟩
    obtain ⟨rfl, hi⟩ := iota_at' hy
    obtain ⟨k1, r⟩ := conn_rch (p := p) (x := (i : Int)) sh p0 p1 (by omega) (by omega)
    obtain ⟨j, _, dj⟩ := Dst.ex r
    walk_at "ax"
    refine a_dgI (x := .int (j : Int)) (by rw [find_dI, dn _ _ dj]; rfl) ?_
    walk_at "ax"
    exact ⟨ds ++ [(j : Int)], by rw [List.map_append]; rfl, by rw [List.length_append, hl']; rfl, dsl_snoc hl' hd dj⟩
  · rintro acc ⟨ds, rfl, hl', hd⟩ _
    rw [List.length_map, iota_len] at hl' hd
    walk_at "ax"
    exact h ds ⟨hl', hd⟩
theorem deg_get {p : Int} (h0 : 0 ≤ p) (h1 : p < n) : atI ((cnt n rs rs.length).map PyData.int) p = some (.int (deg rs p)) := by
  refine atI_toNat h0 ?_
  rw [List.getElem?_map, cnt_get (by omega)]
  rfl
open Classical in
theorem all_deg {s : Int} : ((sideL n rs s).map fun p => decide (deg rs p = 2)).all id = decide (OkS n rs s) := by
  rw [Bool.eq_iff_iff, List.all_eq_true, decide_eq_true_iff]
  constructor
  · intro h p hp
    exact of_decide_eq_true (h _ (List.mem_map.mpr ⟨p, hp, rfl⟩))
  · intro h b hb
    obtain ⟨p, hp, rfl⟩ := List.mem_map.mp hb
    exact decide_eq_true (h p hp)
theorem iota_take {i m : Nat} (h : i < m) : (iota m).take (i + 1) = (iota m).take i ++ [(i : Int)] := by rw [List.take_add_one, iota_get h]; rfl
/-- the places of a side, gathered one by one -/
theorem side_snoc {s : Int} {i : Nat} (h : i < n.toNat) : ((iota n.toNat).take (i + 1)).filter (fun p => decide ((dsO n rs).getD p.toNat 0 % 2 = s)) = ((iota n.toNat).take i).filter (fun p => decide ((dsO n rs).getD p.toNat 0 % 2 = s)) ++ (if (dsO n rs).getD i 0 % 2 = s then [(i : Int)] else []) := by
  rw [iota_take h, List.filter_append]
  congr 1
  by_cases c : (dsO n rs).getD i 0 % 2 = s
  · rw [if_pos c, List.filter_cons_of_pos (by exact decide_eq_true c)]; rfl
  · rw [if_neg c, List.filter_cons_of_neg (by show ¬ decide _ = true; rw [decide_eq_false (by exact c)]; simp)]; rfl
theorem side_all {s : Int} : ((iota n.toNat).take n.toNat).filter (fun p => decide ((dsO n rs).getD p.toNat 0 % 2 = s)) = sideL n rs s := by
  unfold sideL
  rw [List.take_of_length_le (by rw [iota_len]; exact Nat.le_refl _)]
theorem dsO_get (sh : Shape n rs) {p : Int} (h0 : 0 ≤ p) (h1 : p < n) : atI ((dsO n rs).map PyData.int) p = some (.int ((dsO n rs).getD p.toNat 0)) := by
  refine atI_toNat h0 ?_
  have l := (dsO_is sh).1
  rw [List.getElem?_map, List.getElem?_eq_getElem (by omega), List.getD_eq_getElem?_getD, List.getElem?_eq_getElem (by omega)]
  rfl
open Classical in
theorem s_middles_of (sh : Shape n rs) (hn : n ≤ 1000) (hl : rs.length ≤ 1000) (h : k (.d (mO (mids n rs)))) : m_middles_of [.d (dWeb n rs ms)] x k := by
  show a_middles_of _ [.d (dWeb n rs ms), .x, .x, .x, .x, .x, .x, .x, .x]
  have two := sh.two
  walk_at "ax"
  have none' : (n < 3 ∨ (rs.length : Int) ≠ n - 1) → k (.d .none) := fun c => by
    unfold mids at h
    rw [if_pos c] at h
    exact h
  refine s_dec (fun c => ?_) (fun c => ?_)
  · walk_at "ax"
    exact none' (.inl c)
  walk_at "ax"
  rw [List.length_map]
  refine s_ndec (fun c2 => ?_) (fun c2 => ?_)
  · walk_at "ax"
    exact none' (.inr c2)
  have h : k (.d (mO (if OkS n rs 0 then some (sideL n rs 0) else if OkS n rs 1 then some (sideL n rs 1) else none))) := by
    unfold mids at h
    rw [if_neg (by rintro (z | z) <;> omega)] at h
    exact h
  walk_at "ax"
  refine s_steps_from sh hl hn (by omega) (by omega) fun ds hd => ⟨?_, fun z => by cases z⟩
  rw [dsl_isO hd sh]
  walk_at "ax"
  refine s_road_counts sh hn hl ⟨?_, fun z => by cases z⟩
  walk_at "ax"
  refine a_loop (fun i α => ∃ x6 x7 x8 : Sot, α = [.d (dWeb n rs ms), .d (.int n), .d (dPs rs), .d (dIs ms), .d (dIs (dsO n rs)), .d (.list ((cnt n rs rs.length).map .int)), x6, x7, x8] ∧ ∀ j : Nat, j < i → ¬ OkS n rs (j : Int)) ?_ ?_ ?_
  · exact ⟨_, _, _, rfl, fun j hj => absurd hj (by omega)⟩
  · rintro i y α hy ⟨x6, x7, x8, rfl, hno⟩
    obtain ⟨rfl, hi⟩ : y = .int (i : Int) ∧ i < 2 := by
      match i, hy with
      | 0, hy => cases hy; exact ⟨rfl, by decide⟩
      | 1, hy => cases hy; exact ⟨rfl, by decide⟩
      | i + 2, hy => cases hy
    clear hy
    walk_at "ax"
    refine i_r1 (by omega) ⟨by rw [List.length_map, iota_len]; omega, ?_⟩
    refine a_lcgo (fun j acc => acc = (((iota n.toNat).take j).filter fun p => decide ((dsO n rs).getD p.toNat 0 % 2 = (i : Int))).map .int) rfl ?_ ?_
    · rintro j y acc hy rfl
      obtain ⟨rfl, hj⟩ := iota_at' hy
      rw [side_snoc hj]
      walk_at "ax"
      refine g_ixT rfl (dsO_get sh (by omega) (by omega)) ?_
      walk_at "ax"
      rw [show ((j : Int)).toNat = j by omega]
      refine s_dec (fun c => ?_) (fun c => ?_)
      · walk_at "ax"
        rw [if_pos c, List.map_append]
        rfl
      · rw [if_neg c, List.append_nil]
    rintro acc rfl -
    rw [List.length_map, iota_len, side_all]
    walk_at "ax"
    refine ⟨by rw [List.length_map]; have := sideL_len (n := n) (rs := rs) (i : Int); omega, ?_⟩
    refine a_lcgo (fun j acc => acc = (((sideL n rs (i : Int)).take j).map fun p => decide (deg rs p = 2)).map .bool) rfl ?_ ?_
    · rintro j y acc hy rfl
      obtain ⟨p, hp, rfl⟩ := intd_at hy
      have rp := mem_sideL (List.mem_of_getElem? hp)
      walk_at "ax"
      refine g_ixL rfl (deg_get rp.1 rp.2) ?_
      walk_at "ax"
      rw [List.take_add_one, hp]
      simp
    rintro acc rfl -
    rw [List.length_map, List.take_of_length_le (Nat.le_refl _)]
    walk_at "ax"
    refine ⟨_, _, rfl, rfl, ?_⟩
    rw [all_deg]
    walk_at "ax"
    refine s_dec (fun c => ?_) (fun c => ?_)
    · walk_at "ax"
      have : i = 0 ∨ i = 1 := by omega
      rcases this with rfl | rfl
      · have c' : OkS n rs 0 := c
        rw [if_pos c'] at h
        exact h
      · have c' : OkS n rs 1 := c
        have c0 : ¬ OkS n rs 0 := hno 0 (by omega)
        rw [if_neg c0, if_pos c'] at h
        exact h
    · walk_at "ax"
      refine ⟨_, _, _, rfl, fun j hj => ?_⟩
      by_cases e : j = i
      · subst e; exact c
      · exact hno j (by omega)
  · rintro α ⟨x6, x7, x8, rfl, hno⟩
    have c0 : ¬ OkS n rs 0 := hno 0 (by decide)
    have c1 : ¬ OkS n rs 1 := hno 1 (by decide)
    rw [if_neg c0, if_neg c1] at h
    walk_at "ax"
    exact h
end
end UW.Un
namespace UW.Un
open PySem PySem.Spec PyProof.Rows L2 UW
/-- one step -/
local macro_rules | `(tactic| walk_at "a1") => `(tactic| first
  | with_reducible refine wk ?_
  | (with_reducible refine rs_go 1 ?_
     first
     | with_reducible refine a_var (by with_unfolding_all rfl) (by with_unfolding_all rfl) ?_
     | with_reducible refine a_gtup (by with_unfolding_all rfl) (by with_unfolding_all rfl) ?_
     | with_reducible refine a_glst (by with_unfolding_all rfl) (by with_unfolding_all rfl) ?_)
  | (with_reducible refine rs_go 2 ?_
     first
     | with_reducible refine g_ixT (by with_unfolding_all rfl) (by first | with_unfolding_all rfl | with_unfolding_all exact at_zero _ _) ?_
     | with_reducible refine g_ixL (by with_unfolding_all rfl) (by first | with_unfolding_all rfl | with_unfolding_all exact at_zero _ _) ?_)
  | (with_reducible refine rs_go 3 ?_
     first
     | with_reducible refine g_lenT (by with_unfolding_all rfl) ?_
     | with_reducible refine g_lenL (by with_unfolding_all rfl) ?_
     | with_reducible refine g_tupL (by with_unfolding_all rfl) ?_
     | with_reducible refine g_tupT (by with_unfolding_all rfl) ?_
     | with_reducible refine g_lstT (by with_unfolding_all rfl) ?_
     | with_reducible refine g_lstL (by with_unfolding_all rfl) ?_)
  | (with_reducible refine rs_go 4 ?_
     first
     | with_reducible refine g_addL (by with_unfolding_all rfl) (by with_unfolding_all rfl) (Nat.le_of_ble_eq_true (by with_unfolding_all rfl)) ?_
     | with_reducible refine g_mulI (by first | exact Or.inl ⟨by decide, by decide⟩ | exact Or.inr ⟨by decide, by decide⟩ | (first | (refine Or.inl ⟨?_, ?_⟩ <;> omega) | (refine Or.inr ⟨?_, ?_⟩ <;> omega))) ?_
     | with_reducible refine g_mod (by first | decide | omega) ?_
     | with_reducible refine g_div (by first | decide | omega) (by first | decide | omega) ?_
     | with_reducible refine g_slT (by with_unfolding_all rfl) ?_
     | with_reducible refine g_slL (by with_unfolding_all rfl) ?_
     | with_reducible refine g_isN (by with_unfolding_all rfl) ?_
     | with_reducible refine g_notN (by with_unfolding_all rfl) ?_)
  | (with_reducible refine rs_go 5 ?_
     first
     | with_reducible refine a_dget (by with_unfolding_all rfl) ?_
     | with_reducible refine a_dget2 (by with_unfolding_all rfl) ?_
     | with_reducible refine a_fzq (by with_unfolding_all rfl) ?_
     | with_reducible refine a_retC (by with_unfolding_all rfl) ?_
     | with_reducible refine a_isX (by with_unfolding_all rfl) ?_
     | with_reducible refine a_app (by with_unfolding_all rfl) ?_
     | with_reducible refine a_ext (by with_unfolding_all rfl) ?_
     | with_reducible refine a_pop (by with_unfolding_all rfl) ?_
     | with_reducible refine a_fz (by with_unfolding_all rfl) ?_
     | with_reducible refine a_lenDV (by with_unfolding_all rfl) ?_)
  | (with_reducible refine rs_go 6 ?_
     first
     | with_reducible refine a_cl (by with_unfolding_all rfl) ?_
     | with_reducible refine a_dat (by with_unfolding_all rfl) ?_
     | with_reducible refine a_s1 (by with_unfolding_all rfl) ?_
     | with_reducible refine a_dcy (by with_unfolding_all rfl) ?_
     | with_reducible refine a_s2 (by with_unfolding_all rfl) (by with_unfolding_all rfl) ?_
     | with_reducible refine a_s3 (by with_unfolding_all rfl) (by with_unfolding_all rfl) (by with_unfolding_all rfl) ?_
     | with_reducible refine a_owned (by with_unfolding_all rfl) ?_)
  | (with_reducible refine rs_go 7 ?_
     first
     | with_reducible refine i_B (by with_unfolding_all rfl) ?_
     | with_reducible refine i_T (by with_unfolding_all rfl) ?_
     | with_reducible refine i_L (by with_unfolding_all rfl) ?_)
  | (with_reducible refine rs_go 8 ?_
     first
     | with_reducible refine a_nb (by with_unfolding_all rfl) ?_
     | with_reducible refine a_len (by with_unfolding_all rfl) ?_
     | with_reducible refine a_revT (by with_unfolding_all rfl) ?_
     | with_reducible refine a_revL (by with_unfolding_all rfl) ?_)
  | (with_reducible refine rs_go 9 ?_
     first
     | with_reducible refine iteNT (by with_unfolding_all rfl) ?_
     | with_reducible refine iteNF (by with_unfolding_all rfl) ?_
     | with_reducible refine iteIT (by with_unfolding_all rfl) ?_
     | with_reducible refine iteIF (by with_unfolding_all rfl) ?_))
local macro_rules | `(tactic| walk_at "ax") => `(tactic| (repeat (first | walk_at "a1" | with_reducible refine a_if ?_); try dsimp only [List.set_cons_zero, List.set_cons_succ, awipe, aFrz, List.getElem?_cons_zero, List.getElem?_cons_succ]))
local macro_rules | `(tactic| walk_at "ay") => `(tactic| (repeat (walk_at "a1"); try dsimp only [List.set_cons_zero, List.set_cons_succ, awipe, aFrz, List.getElem?_cons_zero, List.getElem?_cons_succ]))
section
variable {n : Int} {rs : List (Int × Int)} {m : List (Int × Nat)} {t : Nat} {u v p : Int}
/-- the steps that are known in the turn t -/
structure Fs (rs : List (Int × Int)) (p : Int) (t : Nat) (m : List (Int × Nat)) : Prop where
  s : ∀ x k, lk m x = some k → Dst rs p x k ∧ k ≤ t + 1
  a : ∀ x k, Dst rs p x k → k ≤ t → lk m x = some k
theorem Fs.turn (f : Fs rs p t m) (r : ∀ q ∈ rs, (lk m q.1 = some t → lk m q.2 ≠ none) ∧ (lk m q.2 = some t → lk m q.1 ≠ none)) : Fs rs p (t + 1) m := by
  refine ⟨fun x k hx => ⟨(f.s x k hx).1, by have := (f.s x k hx).2; omega⟩, fun x k d hk => ?_⟩
  by_cases c : k ≤ t
  · exact f.a x k d c
  · have e : k = t + 1 := by omega
    subst e
    obtain ⟨y, dy, ad⟩ := d.pred
    have ly := f.a y t dy (Nat.le_refl _)
    have hx : lk m x ≠ none := by
      rcases ad with a | a
      · exact (r _ a).1 ly
      · exact (r _ a).2 ly
    obtain ⟨j, hj⟩ := some_of hx
    rw [hj, (f.s x j hj).1.uniq d]
theorem Fs.start : Fs rs p 0 [(p, 0)] := by
  have e : ∀ x, lk [((p : Int), 0)] x = if x = p then some 0 else none := fun x => by
    by_cases c : x = p
    · rw [if_pos c, c]; unfold lk; rw [List.find?_cons_of_pos (by exact decide_eq_true rfl)]; rfl
    · rw [if_neg c]
      unfold lk
      rw [List.find?_cons_of_neg (by show ¬ decide _ = true; rw [decide_eq_false (by exact fun z => c z.symm)]; simp)]
      rfl
  refine ⟨fun x k hx => ?_, fun x k d hk => ?_⟩
  · rw [e] at hx
    split at hx
    · rename_i c
      cases hx
      rw [c]
      exact ⟨Dst.zero, by omega⟩
    · cases hx
  · have : k = 0 := by omega
    subst this
    rw [d.nil, e, if_pos rfl]
end
section
variable {x : AXc} {k : Avl → Prop} {n : Int} {rs : List (Int × Int)} {ms : List Int} {C : Cl}
end
end UW.Un
namespace UW.Un
open PySem PySem.Spec PyProof.Rows L2 UW
/-- one step -/
local macro_rules | `(tactic| walk_at "a1") => `(tactic| first
  | with_reducible refine wk ?_
  | (with_reducible refine rs_go 1 ?_
     first
     | with_reducible refine a_var (by with_unfolding_all rfl) (by with_unfolding_all rfl) ?_
     | with_reducible refine a_gtup (by with_unfolding_all rfl) (by with_unfolding_all rfl) ?_
     | with_reducible refine a_glst (by with_unfolding_all rfl) (by with_unfolding_all rfl) ?_)
  | (with_reducible refine rs_go 2 ?_
     first
     | with_reducible refine g_ixT (by with_unfolding_all rfl) (by first | with_unfolding_all rfl | with_unfolding_all exact at_zero _ _) ?_
     | with_reducible refine g_ixL (by with_unfolding_all rfl) (by first | with_unfolding_all rfl | with_unfolding_all exact at_zero _ _) ?_)
  | (with_reducible refine rs_go 3 ?_
     first
     | with_reducible refine g_lenT (by with_unfolding_all rfl) ?_
     | with_reducible refine g_lenL (by with_unfolding_all rfl) ?_
     | with_reducible refine g_tupL (by with_unfolding_all rfl) ?_
     | with_reducible refine g_tupT (by with_unfolding_all rfl) ?_
     | with_reducible refine g_lstT (by with_unfolding_all rfl) ?_
     | with_reducible refine g_lstL (by with_unfolding_all rfl) ?_)
  | (with_reducible refine rs_go 4 ?_
     first
     | with_reducible refine g_addL (by with_unfolding_all rfl) (by with_unfolding_all rfl) (Nat.le_of_ble_eq_true (by with_unfolding_all rfl)) ?_
     | with_reducible refine g_mulI (by first | exact Or.inl ⟨by decide, by decide⟩ | exact Or.inr ⟨by decide, by decide⟩ | (first | (refine Or.inl ⟨?_, ?_⟩ <;> omega) | (refine Or.inr ⟨?_, ?_⟩ <;> omega))) ?_
     | with_reducible refine g_mod (by first | decide | omega) ?_
     | with_reducible refine g_div (by first | decide | omega) (by first | decide | omega) ?_
     | with_reducible refine g_slT (by with_unfolding_all rfl) ?_
     | with_reducible refine g_slL (by with_unfolding_all rfl) ?_
     | with_reducible refine g_isN (by with_unfolding_all rfl) ?_
     | with_reducible refine g_notN (by with_unfolding_all rfl) ?_)
  | (with_reducible refine rs_go 5 ?_
     first
     | with_reducible refine a_dget (by with_unfolding_all rfl) ?_
     | with_reducible refine a_dget2 (by with_unfolding_all rfl) ?_
     | with_reducible refine a_fzq (by with_unfolding_all rfl) ?_
     | with_reducible refine a_retC (by with_unfolding_all rfl) ?_
     | with_reducible refine a_isX (by with_unfolding_all rfl) ?_
     | with_reducible refine a_app (by with_unfolding_all rfl) ?_
     | with_reducible refine a_ext (by with_unfolding_all rfl) ?_
     | with_reducible refine a_pop (by with_unfolding_all rfl) ?_
     | with_reducible refine a_fz (by with_unfolding_all rfl) ?_
     | with_reducible refine a_lenDV (by with_unfolding_all rfl) ?_)
  | (with_reducible refine rs_go 6 ?_
     first
     | with_reducible refine a_cl (by with_unfolding_all rfl) ?_
     | with_reducible refine a_dat (by with_unfolding_all rfl) ?_
     | with_reducible refine a_s1 (by with_unfolding_all rfl) ?_
     | with_reducible refine a_dcy (by with_unfolding_all rfl) ?_
     | with_reducible refine a_s2 (by with_unfolding_all rfl) (by with_unfolding_all rfl) ?_
     | with_reducible refine a_s3 (by with_unfolding_all rfl) (by with_unfolding_all rfl) (by with_unfolding_all rfl) ?_
     | with_reducible refine a_owned (by with_unfolding_all rfl) ?_)
  | (with_reducible refine rs_go 7 ?_
     first
     | with_reducible refine i_B (by with_unfolding_all rfl) ?_
     | with_reducible refine i_T (by with_unfolding_all rfl) ?_
     | with_reducible refine i_L (by with_unfolding_all rfl) ?_)
  | (with_reducible refine rs_go 8 ?_
     first
     | with_reducible refine a_nb (by with_unfolding_all rfl) ?_
     | with_reducible refine a_len (by with_unfolding_all rfl) ?_
     | with_reducible refine a_revT (by with_unfolding_all rfl) ?_
     | with_reducible refine a_revL (by with_unfolding_all rfl) ?_)
  | (with_reducible refine rs_go 9 ?_
     first
     | with_reducible refine iteNT (by with_unfolding_all rfl) ?_
     | with_reducible refine iteNF (by with_unfolding_all rfl) ?_
     | with_reducible refine iteIT (by with_unfolding_all rfl) ?_
     | with_reducible refine iteIF (by with_unfolding_all rfl) ?_))
local macro_rules | `(tactic| walk_at "ax") => `(tactic| (repeat (first | walk_at "a1" | with_reducible refine a_if ?_); try dsimp only [List.set_cons_zero, List.set_cons_succ, awipe, aFrz, List.getElem?_cons_zero, List.getElem?_cons_succ]))
local macro_rules | `(tactic| walk_at "ay") => `(tactic| (repeat (walk_at "a1"); try dsimp only [List.set_cons_zero, List.set_cons_succ, awipe, aFrz, List.getElem?_cons_zero, List.getElem?_cons_succ]))
section
variable {x : AXc} {k : Avl → Prop} {n : Int} {rs : List (Int × Int)} {ms : List Int} {C : Cl}
/-- a middle with its two neighbours -/
def rowM (rs : List (Int × Int)) (p : Int) : (Int × Int) × Int := (((srt (nb rs p.toNat)).getD 0 0, (srt (nb rs p.toNat)).getD 1 0), p)
def spotsO (n : Int) (M : List Int) : List Int := (iota n.toNat).filter fun p => decide (p ∉ M)
def eldO (n : Int) (rs : List (Int × Int)) : Option (List Int) → PyData
  | none => .none
  | some M => .tuple [dIs (spotsO n M), .tuple ((srtT (M.map (rowM rs))).map dT)]
theorem rowM_len {p : Int} (hd : deg rs p = 2) : (srt (nb rs p.toNat)).length = 2 := by
  have := (srt_perm (nb rs p.toNat)).length_eq
  unfold deg at hd
  omega
theorem nb_rng (sh : Shape n rs) {p y : Int} (h0 : 0 ≤ p) (h : y ∈ nb rs p.toNat) : 0 ≤ y ∧ y < n := by
  have inr : Inr n rs := sh.ok
  have := (mem_nb (rs := rs) p.toNat y).mp h
  rw [show ((p.toNat : Nat) : Int) = p by omega] at this
  exact adj_rng inr this
theorem rowM_inB (sh : Shape n rs) (hn : n ≤ 60) {p : Int} (h0 : 0 ≤ p) (h1 : p < n) (hd : deg rs p = 2) : inB (rowM rs p) := by
  have l := rowM_len hd
  have g : ∀ i, i < 2 → 0 ≤ (srt (nb rs p.toNat)).getD i 0 ∧ (srt (nb rs p.toNat)).getD i 0 < n := fun i hi => by
    rw [List.getD_eq_getElem?_getD, List.getElem?_eq_getElem (by omega)]
    exact nb_rng sh h0 ((srt_perm _).mem_iff.mp (List.getElem_mem _))
  have a := g 0 (by decide)
  have b := g 1 (by decide)
  unfold rowM inB
  refine ⟨⟨a.1, ?_⟩, ⟨b.1, ?_⟩, h0, ?_⟩
  · show (srt (nb rs p.toNat)).getD 0 0 < 64; have := a.2; omega
  · show (srt (nb rs p.toNat)).getD 1 0 < 64; have := b.2; omega
  · show p < 64; omega
end
end UW.Un
namespace UW.Un
open PySem PySem.Spec PyProof.Rows L2 UW
/-- one step -/
local macro_rules | `(tactic| walk_at "a1") => `(tactic| first
  | with_reducible refine wk ?_
  | (with_reducible refine rs_go 1 ?_
     first
     | with_reducible refine a_var (by with_unfolding_all rfl) (by with_unfolding_all rfl) ?_
     | with_reducible refine a_gtup (by with_unfolding_all rfl) (by with_unfolding_all rfl) ?_
     | with_reducible refine a_glst (by with_unfolding_all rfl) (by with_unfolding_all rfl) ?_)
  | (with_reducible refine rs_go 2 ?_
     first
     | with_reducible refine g_ixT (by with_unfolding_all rfl) (by first | with_unfolding_all rfl | with_unfolding_all exact at_zero _ _) ?_
     | with_reducible refine g_ixL (by with_unfolding_all rfl) (by first | with_unfolding_all rfl | with_unfolding_all exact at_zero _ _) ?_)
  | (with_reducible refine rs_go 3 ?_
     first
     | with_reducible refine g_lenT (by with_unfolding_all rfl) ?_
     | with_reducible refine g_lenL (by with_unfolding_all rfl) ?_
     | with_reducible refine g_tupL (by with_unfolding_all rfl) ?_
     | with_reducible refine g_tupT (by with_unfolding_all rfl) ?_
     | with_reducible refine g_lstT (by with_unfolding_all rfl) ?_
     | with_reducible refine g_lstL (by with_unfolding_all rfl) ?_)
  | (with_reducible refine rs_go 4 ?_
     first
     | with_reducible refine g_addL (by with_unfolding_all rfl) (by with_unfolding_all rfl) (Nat.le_of_ble_eq_true (by with_unfolding_all rfl)) ?_
     | with_reducible refine g_mulI (by first | exact Or.inl ⟨by decide, by decide⟩ | exact Or.inr ⟨by decide, by decide⟩ | (first | (refine Or.inl ⟨?_, ?_⟩ <;> omega) | (refine Or.inr ⟨?_, ?_⟩ <;> omega))) ?_
     | with_reducible refine g_mod (by first | decide | omega) ?_
     | with_reducible refine g_div (by first | decide | omega) (by first | decide | omega) ?_
     | with_reducible refine g_slT (by with_unfolding_all rfl) ?_
     | with_reducible refine g_slL (by with_unfolding_all rfl) ?_
     | with_reducible refine g_isN (by with_unfolding_all rfl) ?_
     | with_reducible refine g_notN (by with_unfolding_all rfl) ?_)
  | (with_reducible refine rs_go 5 ?_
     first
     | with_reducible refine a_dget (by with_unfolding_all rfl) ?_
     | with_reducible refine a_dget2 (by with_unfolding_all rfl) ?_
     | with_reducible refine a_fzq (by with_unfolding_all rfl) ?_
     | with_reducible refine a_retC (by with_unfolding_all rfl) ?_
     | with_reducible refine a_isX (by with_unfolding_all rfl) ?_
     | with_reducible refine a_app (by with_unfolding_all rfl) ?_
     | with_reducible refine a_ext (by with_unfolding_all rfl) ?_
     | with_reducible refine a_pop (by with_unfolding_all rfl) ?_
     | with_reducible refine a_fz (by with_unfolding_all rfl) ?_
     | with_reducible refine a_lenDV (by with_unfolding_all rfl) ?_)
  | (with_reducible refine rs_go 6 ?_
     first
     | with_reducible refine a_cl (by with_unfolding_all rfl) ?_
     | with_reducible refine a_dat (by with_unfolding_all rfl) ?_
     | with_reducible refine a_s1 (by with_unfolding_all rfl) ?_
     | with_reducible refine a_dcy (by with_unfolding_all rfl) ?_
     | with_reducible refine a_s2 (by with_unfolding_all rfl) (by with_unfolding_all rfl) ?_
     | with_reducible refine a_s3 (by with_unfolding_all rfl) (by with_unfolding_all rfl) (by with_unfolding_all rfl) ?_
     | with_reducible refine a_owned (by with_unfolding_all rfl) ?_)
  | (with_reducible refine rs_go 7 ?_
     first
     | with_reducible refine i_B (by with_unfolding_all rfl) ?_
     | with_reducible refine i_T (by with_unfolding_all rfl) ?_
     | with_reducible refine i_L (by with_unfolding_all rfl) ?_)
  | (with_reducible refine rs_go 8 ?_
     first
     | with_reducible refine a_nb (by with_unfolding_all rfl) ?_
     | with_reducible refine a_len (by with_unfolding_all rfl) ?_
     | with_reducible refine a_revT (by with_unfolding_all rfl) ?_
     | with_reducible refine a_revL (by with_unfolding_all rfl) ?_)
  | (with_reducible refine rs_go 9 ?_
     first
     | with_reducible refine iteNT (by with_unfolding_all rfl) ?_
     | with_reducible refine iteNF (by with_unfolding_all rfl) ?_
     | with_reducible refine iteIT (by with_unfolding_all rfl) ?_
     | with_reducible refine iteIF (by with_unfolding_all rfl) ?_))
local macro_rules | `(tactic| walk_at "ax") => `(tactic| (repeat (first | walk_at "a1" | with_reducible refine a_if ?_); try dsimp only [List.set_cons_zero, List.set_cons_succ, awipe, aFrz, List.getElem?_cons_zero, List.getElem?_cons_succ]))
local macro_rules | `(tactic| walk_at "ay") => `(tactic| (repeat (walk_at "a1"); try dsimp only [List.set_cons_zero, List.set_cons_succ, awipe, aFrz, List.getElem?_cons_zero, List.getElem?_cons_succ]))
section
variable {n : Int} {rs : List (Int × Int)} {ms : List Int}
open Classical in
theorem mO_none {o : Option (List Int)} : isNon (mO o) = decide (o = none) := by cases o <;> rfl
end
section
variable {x : AXc} {k : Avl → Prop} {n : Int} {rs : List (Int × Int)} {ms : List Int} {C : Cl}
end
end UW.Un
namespace UW.Un
open PySem PySem.Spec PyProof.Rows L2 UW
section
variable {n : Int} {rs : List (Int × Int)} {ms : List Int}
end
end UW.Un
namespace UW
open PySem PySem.Spec PyProof.Rows L2
section
variable {K : Fg} {E : WX} {ta tb : TE} {a b : AEx}
def aIdx (a b : AEx) : AEx := fun X α k => a X α fun x => ∃ ns : List Int, x.lst = some (ns.map .int) ∧ b X α fun y => ∃ (i : Int) (j : Nat), y = .d (.int i) ∧ ns[j]? = some i ∧ (∀ m, m < j → ns[m]? ≠ some i) ∧ k (.d (.int (j : Int)))
theorem a_idx {X : AXr} {α : Afr} {k : Avl → Prop} (h : a X α fun x => ∃ ns : List Int, x.lst = some (ns.map .int) ∧ b X α fun y => ∃ (i : Int) (j : Nat), y = .d (.int i) ∧ ns[j]? = some i ∧ (∀ m, m < j → ns[m]? ≠ some i) ∧ k (.d (.int (j : Int)))) : aIdx a b X α k := h
end
instance {X : AXr} {α : Afr} {k : Avl → Prop} : Wk (aIdx a b X α k) (a X α fun x => ∃ ns : List Int, x.lst = some (ns.map .int) ∧ b X α fun y => ∃ (i : Int) (j : Nat), y = .d (.int i) ∧ ns[j]? = some i ∧ (∀ m, m < j → ns[m]? ≠ some i) ∧ k (.d (.int (j : Int)))) := ⟨fun h => a_idx h⟩
end UW
namespace UW
open PySem PySem.Spec PyProof.Rows L2
def agLst (n : Nat) (r : ATgs) : ATg := fun x α k => ∃ ds, x = .list ds ∧ ds.length = n ∧ r ds α k
section
variable {K : Fg} {n : Nat} {gs : TGs} {ags : ATgs} {is : List Nat}
theorem rg_lst (h1 : RTgs K gs ags is) : RTg K (gLst K n gs) (agLst n ags) is := by
  intro W H0 S0 O S α σ H v x k Q f o ⟨ds, e, hl, h⟩ q
  subst e
  cases o with
  | lst g a b => exact ⟨_, _, rfl, SqL.of a, by rw [b.length]; exact hl, h1 f b h q⟩
theorem a_glst {d : PyData} {α : Afr} {ds : List PyData} {gs : ATgs} {Q : Afr → Prop} (e : d = .list ds) (h : ds.length = n) (q : gs ds α Q) : agLst n gs d α Q := ⟨ds, e, h, q⟩
theorem rs_set3 {n : Nat} {te' te2 : TE} {e' e2 : AEx} (h1 : REx K E te e) (h2 : REx K E te' e') (h3 : REx K E te2 e2) : RSt K E (tPar3 i j n (tCons te (tCons te' (tCons te2 tNil)))) (aSet3 i j n e e' e2) := by
  intro W H0 S0 O S α σ H A D f h l
  refine h1 f h l.er fun v av S1 H1 m r h' => ?_
  have f1 := f.mv m
  refine h2 f1 h' (l.er.kee (m.kee f.k)) fun u au S2 H2 m2 r2 h'' => ?_
  have f2 := f1.mv m2
  refine h3 f2 h'' (l.er.kee ((m.trans m2).kee f.k)) fun t at' S3 H3 m3 r3 ⟨z, w, z2, hz, hw, hz2, k⟩ => ?_
  have f4 := f2.mv m3
  obtain ⟨O1, g1, o1⟩ := store_av (i := i) f4 ((r.mv f1.k m2).mv f2.k m3) hz (fun b q => f.back q) fun j p e => (f.o j p e).2.1
  have old1 := own_old f1 r o1
  have r2' : Vrp K W H1 O1 S3 H3 u au := by
    have := r2.mv f2.k m3
    cases au with
    | b k ds => cases hw
    | d x => exact this
    | l ds => exact this
    | k c => exact this
    | wl u => exact this
  obtain ⟨O2, g2, o2⟩ := store_av (i := j) g1 r2' hw (fun b q => f1.back q) old1
  have old2 : ∀ j p, O2 j = some p → H2 p ≠ none := by
    intro j p e
    rcases o2 j p e with q | ⟨q, rfl⟩
    · exact fun y => old1 j p q (m2.back y)
    · cases au with
      | l ds =>
        obtain ⟨p', vs, e', a1, _⟩ := r2
        cases e'
        rw [a1]
        intro y
        cases y
      | k c =>
        obtain ⟨p', e', a1, _⟩ := r2
        cases e'
        exact a1.ne
      | d x => cases q
      | b i ds => cases q
      | wl u => cases q
  have r3' : Vrp K W H2 O2 S3 H3 t at' := by
    have := r3
    cases at' with
    | b k ds => cases hz2
    | d x => exact this
    | l ds => exact this
    | k c => exact this
    | wl u => exact this
  obtain ⟨O3, g3, _⟩ := store_av (i := n) g2 r3' hz2 (fun b q => f2.back q) old2
  exact ⟨v, u, t, rfl, l.nx O3 S3 _ _ _ (((m.trans m2).trans m3).kee f.k) g3 k⟩
/-- tuple(range(n)) -/
def aTupRg (e : AEx) : AEx := fun X α k => e X α fun x => ∃ n : Int, x = .d (.int n) ∧ -1000000 ≤ n ∧ n ≤ 1000000 ∧ k (.d (.tuple ((iota n.toNat).map .int)))
theorem re_tupRg {E : WX} {te : TE} {e : AEx} (h1 : REx K E te e) : REx K E (tTupRg (tRg1 te)) (aTupRg e) := by
  intro W H0 S0 O S α σ H X k Q f h lk q
  refine h1 f h lk fun v av S1 H1 m r ⟨n, e, n0, n1, hk⟩ => ?_
  subst e
  obtain rfl := int_inv r
  refine ⟨n, rfl, ⟨by omega, by omega, by omega, by omega, by omega⟩, ?_⟩
  rw [rgV_iota]
  have q1 : Rst K W O S1 H1 k Q := fun v av S' H' m' r h => q v av S' H' (m.trans m') (r.hs fun b y => m.back y) h
  exact q1.newT m.oks (Tps.ods (Tps.of_ints _)) hk
theorem a_tupRg {X : AXr} {α : Afr} {k : Avl → Prop} {e : AEx} (h : e X α fun x => ∃ n : Int, x = .d (.int n) ∧ -1000000 ≤ n ∧ n ≤ 1000000 ∧ k (.d (.tuple ((iota n.toNat).map .int)))) : aTupRg e X α k := h
end
instance {X : AXr} {α : Afr} {k : Avl → Prop} {e : AEx} : Wk (aTupRg e X α k) (e X α fun x => ∃ n : Int, x = .d (.int n) ∧ -1000000 ≤ n ∧ n ≤ 1000000 ∧ k (.d (.tuple ((iota n.toNat).map .int)))) := ⟨fun h => a_tupRg h⟩
instance {n : Nat} {ds : List PyData} {gs : ATgs} {α : Afr} {Q : Afr → Prop} [v : CLen ds n] : Wk (agLst n gs (.list ds) α Q) (gs ds α Q) := ⟨fun h => a_glst rfl v.e h⟩
instance {n : Nat} {d : PyData} {gs : ATgs} {α : Afr} {Q : Afr → Prop} : Rs (agLst n gs d α Q) 1 := ⟨trivial⟩
end UW
namespace UW.Un
open PySem PySem.Spec PyProof.Rows L2 UW
/-- one step -/
local macro_rules | `(tactic| walk_at "a1") => `(tactic| first
  | with_reducible refine wk ?_
  | (with_reducible refine rs_go 1 ?_
     first
     | with_reducible refine a_var (by with_unfolding_all rfl) (by with_unfolding_all rfl) ?_
     | with_reducible refine a_gtup (by with_unfolding_all rfl) (by with_unfolding_all rfl) ?_
     | with_reducible refine a_glst (by with_unfolding_all rfl) (by with_unfolding_all rfl) ?_)
  | (with_reducible refine rs_go 2 ?_
     first
     | with_reducible refine g_ixT (by with_unfolding_all rfl) (by first | with_unfolding_all rfl | with_unfolding_all exact at_zero _ _) ?_
     | with_reducible refine g_ixL (by with_unfolding_all rfl) (by first | with_unfolding_all rfl | with_unfolding_all exact at_zero _ _) ?_)
  | (with_reducible refine rs_go 3 ?_
     first
     | with_reducible refine g_lenT (by with_unfolding_all rfl) ?_
     | with_reducible refine g_lenL (by with_unfolding_all rfl) ?_
     | with_reducible refine g_tupL (by with_unfolding_all rfl) ?_
     | with_reducible refine g_tupT (by with_unfolding_all rfl) ?_
     | with_reducible refine g_lstT (by with_unfolding_all rfl) ?_
     | with_reducible refine g_lstL (by with_unfolding_all rfl) ?_)
  | (with_reducible refine rs_go 4 ?_
     first
     | with_reducible refine g_addL (by with_unfolding_all rfl) (by with_unfolding_all rfl) (Nat.le_of_ble_eq_true (by with_unfolding_all rfl)) ?_
     | with_reducible refine g_mulI (by first | exact Or.inl ⟨by decide, by decide⟩ | exact Or.inr ⟨by decide, by decide⟩ | (first | (refine Or.inl ⟨?_, ?_⟩ <;> omega) | (refine Or.inr ⟨?_, ?_⟩ <;> omega))) ?_
     | with_reducible refine g_mod (by first | decide | omega) ?_
     | with_reducible refine g_div (by first | decide | omega) (by first | decide | omega) ?_
     | with_reducible refine g_slT (by with_unfolding_all rfl) ?_
     | with_reducible refine g_slL (by with_unfolding_all rfl) ?_
     | with_reducible refine g_isN (by with_unfolding_all rfl) ?_
     | with_reducible refine g_notN (by with_unfolding_all rfl) ?_)
  | (with_reducible refine rs_go 5 ?_
     first
     | with_reducible refine a_dget (by with_unfolding_all rfl) ?_
     | with_reducible refine a_dget2 (by with_unfolding_all rfl) ?_
     | with_reducible refine a_fzq (by with_unfolding_all rfl) ?_
     | with_reducible refine a_retC (by with_unfolding_all rfl) ?_
     | with_reducible refine a_isX (by with_unfolding_all rfl) ?_
     | with_reducible refine a_app (by with_unfolding_all rfl) ?_
     | with_reducible refine a_ext (by with_unfolding_all rfl) ?_
     | with_reducible refine a_pop (by with_unfolding_all rfl) ?_
     | with_reducible refine a_fz (by with_unfolding_all rfl) ?_
     | with_reducible refine a_lenDV (by with_unfolding_all rfl) ?_)
  | (with_reducible refine rs_go 6 ?_
     first
     | with_reducible refine a_cl (by with_unfolding_all rfl) ?_
     | with_reducible refine a_dat (by with_unfolding_all rfl) ?_
     | with_reducible refine a_s1 (by with_unfolding_all rfl) ?_
     | with_reducible refine a_dcy (by with_unfolding_all rfl) ?_
     | with_reducible refine a_s2 (by with_unfolding_all rfl) (by with_unfolding_all rfl) ?_
     | with_reducible refine a_s3 (by with_unfolding_all rfl) (by with_unfolding_all rfl) (by with_unfolding_all rfl) ?_
     | with_reducible refine a_owned (by with_unfolding_all rfl) ?_)
  | (with_reducible refine rs_go 7 ?_
     first
     | with_reducible refine i_B (by with_unfolding_all rfl) ?_
     | with_reducible refine i_T (by with_unfolding_all rfl) ?_
     | with_reducible refine i_L (by with_unfolding_all rfl) ?_)
  | (with_reducible refine rs_go 8 ?_
     first
     | with_reducible refine a_nb (by with_unfolding_all rfl) ?_
     | with_reducible refine a_len (by with_unfolding_all rfl) ?_
     | with_reducible refine a_revT (by with_unfolding_all rfl) ?_
     | with_reducible refine a_revL (by with_unfolding_all rfl) ?_)
  | (with_reducible refine rs_go 9 ?_
     first
     | with_reducible refine iteNT (by with_unfolding_all rfl) ?_
     | with_reducible refine iteNF (by with_unfolding_all rfl) ?_
     | with_reducible refine iteIT (by with_unfolding_all rfl) ?_
     | with_reducible refine iteIF (by with_unfolding_all rfl) ?_))
local macro_rules | `(tactic| walk_at "ax") => `(tactic| (repeat (first | walk_at "a1" | with_reducible refine a_if ?_); try dsimp only [List.set_cons_zero, List.set_cons_succ, awipe, aFrz, List.getElem?_cons_zero, List.getElem?_cons_succ]))
local macro_rules | `(tactic| walk_at "ay") => `(tactic| (repeat (walk_at "a1"); try dsimp only [List.set_cons_zero, List.set_cons_succ, awipe, aFrz, List.getElem?_cons_zero, List.getElem?_cons_succ]))
section
variable {n : Int} {rs : List (Int × Int)} {ms ls : List Int}
theorem g_inT {y : Avl} {ws : List Int} {a : Int} {k : Avl → Prop} (e : y.tup = some (ws.map .int)) (h : k (.d (.bool (decide (a ∈ ws))))) : gIn false (.d (.int a)) y k := by
  refine ⟨_, _, rfl, .inl e, rfl, shaped_ti ws, ?_⟩
  show k (.d (.bool ((ws.map PyData.int).any fun z => PyData.eqv z (.int a))))
  rw [any_ints]
  exact h
end
section
variable {x : AXc} {k : Avl → Prop} {n : Int} {rs : List (Int × Int)} {ms ls : List Int} {C : Cl}
end
end UW.Un
namespace UW.Un
open PySem PySem.Spec PyProof.Rows L2 UW
/-- one step -/
local macro_rules | `(tactic| walk_at "a1") => `(tactic| first
  | with_reducible refine wk ?_
  | (with_reducible refine rs_go 1 ?_
     first
     | with_reducible refine a_var (by with_unfolding_all rfl) (by with_unfolding_all rfl) ?_
     | with_reducible refine a_gtup (by with_unfolding_all rfl) (by with_unfolding_all rfl) ?_
     | with_reducible refine a_glst (by with_unfolding_all rfl) (by with_unfolding_all rfl) ?_)
  | (with_reducible refine rs_go 2 ?_
     first
     | with_reducible refine g_ixT (by with_unfolding_all rfl) (by first | with_unfolding_all rfl | with_unfolding_all exact at_zero _ _) ?_
     | with_reducible refine g_ixL (by with_unfolding_all rfl) (by first | with_unfolding_all rfl | with_unfolding_all exact at_zero _ _) ?_)
  | (with_reducible refine rs_go 3 ?_
     first
     | with_reducible refine g_lenT (by with_unfolding_all rfl) ?_
     | with_reducible refine g_lenL (by with_unfolding_all rfl) ?_
     | with_reducible refine g_tupL (by with_unfolding_all rfl) ?_
     | with_reducible refine g_tupT (by with_unfolding_all rfl) ?_
     | with_reducible refine g_lstT (by with_unfolding_all rfl) ?_
     | with_reducible refine g_lstL (by with_unfolding_all rfl) ?_)
  | (with_reducible refine rs_go 4 ?_
     first
     | with_reducible refine g_addL (by with_unfolding_all rfl) (by with_unfolding_all rfl) (Nat.le_of_ble_eq_true (by with_unfolding_all rfl)) ?_
     | with_reducible refine g_mulI (by first | exact Or.inl ⟨by decide, by decide⟩ | exact Or.inr ⟨by decide, by decide⟩ | (first | (refine Or.inl ⟨?_, ?_⟩ <;> omega) | (refine Or.inr ⟨?_, ?_⟩ <;> omega))) ?_
     | with_reducible refine g_mod (by first | decide | omega) ?_
     | with_reducible refine g_div (by first | decide | omega) (by first | decide | omega) ?_
     | with_reducible refine g_slT (by with_unfolding_all rfl) ?_
     | with_reducible refine g_slL (by with_unfolding_all rfl) ?_
     | with_reducible refine g_isN (by with_unfolding_all rfl) ?_
     | with_reducible refine g_notN (by with_unfolding_all rfl) ?_)
  | (with_reducible refine rs_go 5 ?_
     first
     | with_reducible refine a_dget (by with_unfolding_all rfl) ?_
     | with_reducible refine a_dget2 (by with_unfolding_all rfl) ?_
     | with_reducible refine a_fzq (by with_unfolding_all rfl) ?_
     | with_reducible refine a_retC (by with_unfolding_all rfl) ?_
     | with_reducible refine a_isX (by with_unfolding_all rfl) ?_
     | with_reducible refine a_app (by with_unfolding_all rfl) ?_
     | with_reducible refine a_ext (by with_unfolding_all rfl) ?_
     | with_reducible refine a_pop (by with_unfolding_all rfl) ?_
     | with_reducible refine a_fz (by with_unfolding_all rfl) ?_
     | with_reducible refine a_lenDV (by with_unfolding_all rfl) ?_)
  | (with_reducible refine rs_go 6 ?_
     first
     | with_reducible refine a_cl (by with_unfolding_all rfl) ?_
     | with_reducible refine a_dat (by with_unfolding_all rfl) ?_
     | with_reducible refine a_s1 (by with_unfolding_all rfl) ?_
     | with_reducible refine a_dcy (by with_unfolding_all rfl) ?_
     | with_reducible refine a_s2 (by with_unfolding_all rfl) (by with_unfolding_all rfl) ?_
     | with_reducible refine a_s3 (by with_unfolding_all rfl) (by with_unfolding_all rfl) (by with_unfolding_all rfl) ?_
     | with_reducible refine a_owned (by with_unfolding_all rfl) ?_)
  | (with_reducible refine rs_go 7 ?_
     first
     | with_reducible refine i_B (by with_unfolding_all rfl) ?_
     | with_reducible refine i_T (by with_unfolding_all rfl) ?_
     | with_reducible refine i_L (by with_unfolding_all rfl) ?_)
  | (with_reducible refine rs_go 8 ?_
     first
     | with_reducible refine a_nb (by with_unfolding_all rfl) ?_
     | with_reducible refine a_len (by with_unfolding_all rfl) ?_
     | with_reducible refine a_revT (by with_unfolding_all rfl) ?_
     | with_reducible refine a_revL (by with_unfolding_all rfl) ?_)
  | (with_reducible refine rs_go 9 ?_
     first
     | with_reducible refine iteNT (by with_unfolding_all rfl) ?_
     | with_reducible refine iteNF (by with_unfolding_all rfl) ?_
     | with_reducible refine iteIT (by with_unfolding_all rfl) ?_
     | with_reducible refine iteIF (by with_unfolding_all rfl) ?_))
local macro_rules | `(tactic| walk_at "ax") => `(tactic| (repeat (first | walk_at "a1" | with_reducible refine a_if ?_); try dsimp only [List.set_cons_zero, List.set_cons_succ, awipe, aFrz, List.getElem?_cons_zero, List.getElem?_cons_succ]))
local macro_rules | `(tactic| walk_at "ay") => `(tactic| (repeat (walk_at "a1"); try dsimp only [List.set_cons_zero, List.set_cons_succ, awipe, aFrz, List.getElem?_cons_zero, List.getElem?_cons_succ]))
section
variable {n : Int} {rs : List (Int × Int)} {ms ls M : List Int}
/-- what a road bears near the place p -/
def nearV (n : Int) (M ds : List Int) (q : Int × Int) : Int :=
  if q.1 ∈ spotsO n M then (if ds.getD q.2.toNat 0 < ds.getD q.1.toNat 0 then 1 else 0) else (if ds.getD q.1.toNat 0 < ds.getD q.2.toNat 0 then 1 else 0)
def NearL (n : Int) (rs : List (Int × Int)) (M ls : List Int) : Prop := ∃ (p : Int) (ds : List Int), (p ∈ spotsO n M) ∧ (0 ≤ p ∧ p < n) ∧ DsL n rs p ds ∧
  (ls = rs.map (nearV n M ds) ∨ ∃ (r : Nat) (q : Int × Int), rs[r]? = some q ∧ (q.1 = p ∨ q.2 = p) ∧ ls = (rs.map (nearV n M ds)).set r 1)
theorem nearV_01 (n : Int) (M ds : List Int) (q : Int × Int) : nearV n M ds q = 0 ∨ nearV n M ds q = 1 := by
  unfold nearV
  split <;> split <;> simp
theorem NearL.len (h : NearL n rs M ls) : ls.length = rs.length := by
  obtain ⟨p, ds, _, _, _, rfl | ⟨r, q, _, _, rfl⟩⟩ := h
  · rw [List.length_map]
  · rw [List.length_set, List.length_map]
theorem NearL.one (h : NearL n rs M ls) : ∀ l ∈ ls, l = 0 ∨ l = 1 := by
  have key : ∀ {ds : List Int}, ∀ l ∈ rs.map (nearV n M ds), l = 0 ∨ l = 1 := fun {ds} l hl => by
    obtain ⟨q, _, rfl⟩ := List.mem_map.mp hl
    exact nearV_01 n M ds q
  obtain ⟨p, ds, _, _, _, rfl | ⟨r, q, _, _, rfl⟩⟩ := h
  · exact key
  · intro l hl
    rcases List.mem_or_eq_of_mem_set hl with hl | rfl
    · exact key l hl
    · exact .inr rfl
def Std (i : Nat) (ms ls : List Int) : Prop := ls.length = i ∧ ∀ (j : Nat) (l m : Int), ls[j]? = some l → ms[j]? = some m → 0 ≤ l ∧ l ≤ m
theorem Std.snoc {i : Nat} {l m : Int} (h : Std i ms ls) (hm : ms[i]? = some m) (h0 : 0 ≤ l) (h1 : l ≤ m) : Std (i + 1) ms (ls ++ [l]) := by
  refine ⟨by rw [List.length_append, h.1]; rfl, fun j l' m' hl' hm' => ?_⟩
  have lj := (List.getElem?_eq_some_iff.mp hl').1
  rw [List.length_append, h.1, List.length_singleton] at lj
  by_cases c : j < i
  · rw [List.getElem?_append_left (by rw [h.1]; exact c)] at hl'
    exact h.2 j l' m' hl' hm'
  · have : j = i := by omega
    subst this
    rw [List.getElem?_append_right (by rw [h.1]; exact Nat.le_refl _), h.1, Nat.sub_self] at hl'
    cases hl'
    rw [hm] at hm'
    cases hm'
    exact ⟨h0, h1⟩
theorem NearL.stand (w : WebOk 24 40 9 n rs ms) (h : NearL n rs M ls) : Stand ms ls :=
  ⟨by rw [h.len, w.lm], fun i l m hl hm => by
    have a := h.one l (List.mem_of_getElem? hl)
    have b := w.ld m (List.mem_of_getElem? hm)
    omega⟩
end
section
variable {x : AXc} {k : Avl → Prop} {n : Int} {rs : List (Int × Int)} {ms ls M : List Int} {C : Cl}
end
end UW.Un
namespace UW.Un
open PySem PySem.Spec PyProof.Rows L2 UW
section
variable {n : Int} {rs : List (Int × Int)} {ms ls : List Int}
theorem big_tup {c : Nat} (hk : 128 ≤ c) {xs : List PyData} (h : ∀ x ∈ xs, c ∉ x.shown.cps.toList) : c ∉ (PyData.tuple xs).shown.cps.toList := by
  have hf := shownAll_free h
  rw [PyData.shown_tuple, mem_cps_append, mem_cps_append, signs_lparen, mem_join, signs_sep, signs_tuple_end]
  rintro ((hm | (⟨t, ht, hc⟩ | ⟨_, hm⟩)) | hm)
  · simp at hm; omega
  · exact hf t ht hc
  · simp at hm; omega
  · split at hm <;> simp at hm <;> omega
theorem big_int {c : Nat} (hk : 128 ≤ c) (i : Int) : c ∉ (PyData.int i).shown.cps.toList := shown_int_free' (by omega) i
theorem okx_shown {d : PyData} {j m : Nat} (h : Okx d j m) (g : ∀ c, 128 ≤ c → c ∉ d.shown.cps.toList) : Okx (.str d.shown) 0 (10 * m + 2) := by
  refine (Okd.str ?_).x
  have a := StrLaws.reprText_len d.shown fun c hc => by
    rcases Nat.lt_or_ge c 128 with z | z
    · exact Nat.lt_of_lt_of_le z (by decide)
    · exact absurd hc (g c z)
  have := h.ln
  omega
theorem asc_ints : ∀ c, 128 ≤ c → c ∉ (dIs ls).shown.cps.toList := fun c hc => big_tup hc fun d hd => by
  obtain ⟨p, _, rfl⟩ := List.mem_map.mp hd
  exact big_int hc _
theorem asc_web : ∀ c, 128 ≤ c → c ∉ (dWeb n rs ms).shown.cps.toList := fun c hc => by
  unfold dWeb
  refine big_tup hc fun d hd => ?_
  simp only [List.mem_cons, List.not_mem_nil, or_false] at hd
  rcases hd with rfl | rfl | rfl
  · exact big_int hc _
  · exact big_tup hc fun d hd => by
      obtain ⟨p, _, rfl⟩ := List.mem_map.mp hd
      exact big_tup hc fun d hd => by
        simp only [List.mem_cons, List.not_mem_nil, or_false] at hd
        rcases hd with rfl | rfl <;> exact big_int hc _
  · exact asc_ints c hc
end
end UW.Un
namespace UW.Un
open PySem PySem.Spec PyProof.Rows L2 UW
section
variable {n : Int} {rs : List (Int × Int)} {ms ls M ds : List Int} {p : Int}
theorem iota_nd (m : Nat) : (iota m).Nodup := nodup_map_range _ _ fun i j hi hj e => by omega
theorem atP_iff {z : Int} {q : Int × Int} : atP z q = true ↔ q.1 = z ∨ q.2 = z := by
  unfold atP
  rw [Bool.or_eq_true, decide_eq_true_iff, decide_eq_true_iff]
  exact ⟨fun w => w.elim (fun e => .inl e.symm) fun e => .inr e.symm, fun w => w.elim (fun e => .inl e.symm) fun e => .inr e.symm⟩
/-- the end of a road that is farther off -/
def kid (ds : List Int) (q : Int × Int) : Int := if ds.getD q.1.toNat 0 < ds.getD q.2.toNat 0 then q.2 else q.1
theorem dsl_get (h : DsL n rs p ds) {z : Int} (h0 : 0 ≤ z) (h1 : z < n) : ∃ d : Nat, ds.getD z.toNat 0 = (d : Int) ∧ Dst rs p z d := by
  obtain ⟨d, a, b⟩ := h.2 z.toNat (by omega)
  rw [show ((z.toNat : Nat) : Int) = z by omega] at b
  exact ⟨d, by rw [List.getD_eq_getElem?_getD, a]; rfl, b⟩
/-- each place but the first is the farther end of a road to the one ahead -/
theorem kid_ex (sh : Shape n rs) (h : DsL n rs p ds) (p0 : 0 ≤ p) (p1 : p < n) {z : Int} (h0 : 0 ≤ z) (h1 : z < n) (hz : z ≠ p) : ∃ (j : Nat) (q : Int × Int), rs[j]? = some q ∧ kid ds q = z ∧ ds.getD q.1.toNat 0 ≠ ds.getD q.2.toNat 0 := by
  obtain ⟨d, e, dz⟩ := dsl_get h h0 h1
  cases d with
  | zero => exact absurd dz.nil hz
  | succ d =>
    obtain ⟨y, dy, ad⟩ := dz.pred
    have ry := adj_rng sh.ok ad.symm
    obtain ⟨d', e', dy'⟩ := dsl_get h ry.1 ry.2
    have := dy'.uniq dy
    subst this
    rcases ad with m | m
    · obtain ⟨j, hj⟩ := List.mem_iff_getElem?.mp m
      refine ⟨j, _, hj, ?_, ?_⟩
      · unfold kid
        rw [if_pos]
        show ds.getD y.toNat 0 < ds.getD z.toNat 0
        omega
      · show ds.getD y.toNat 0 ≠ ds.getD z.toNat 0
        omega
    · obtain ⟨j, hj⟩ := List.mem_iff_getElem?.mp m
      refine ⟨j, _, hj, ?_, ?_⟩
      · unfold kid
        rw [if_neg]
        show ¬ ds.getD z.toNat 0 < ds.getD y.toNat 0
        omega
      · show ds.getD z.toNat 0 ≠ ds.getD y.toNat 0
        omega
/-- in a tree, a place that fits in with none else: what is left of the farther ends has them all no more -/
theorem kid_tight (sh : Shape n rs) (tr : (rs.length : Int) = n - 1) (h : DsL n rs p ds) (p0 : 0 ≤ p) (p1 : p < n) {i : Nat} (hi : i < rs.length)
    (hc : ∀ z : Int, 0 ≤ z → z < n → z ≠ p → ∃ (j : Nat) (q : Int × Int), j ≠ i ∧ rs[j]? = some q ∧ kid ds q = z) : False := by
  have nd : ((iota n.toNat).filter fun z => decide (z ≠ p)).Nodup := by
    exact List.Nodup.sublist List.filter_sublist (iota_nd _)
  have l1 : ((iota n.toNat).filter fun z => decide (z ≠ p)).length + 1 = n.toNat := by
    have a := List.length_eq_countP_add_countP (fun z => decide (z ≠ p)) (l := iota n.toNat)
    rw [iota_len] at a
    have b : (iota n.toNat).countP (fun z => decide ¬ decide (z ≠ p) = true) = (iota n.toNat).count p := by
      rw [List.count]
      refine List.countP_congr fun z _ => ?_
      simp
    have c : (iota n.toNat).count p = 1 := by
      rw [List.Nodup.count (iota_nd _), if_pos (mem_iota.mpr (by omega))]
    rw [b, c, List.countP_eq_length_filter] at a
    omega
  have := nodup_len (r := (rs.eraseIdx i).map (kid ds)) nd fun z hz => by
    have hm := (List.mem_filter.mp hz)
    have r := mem_iota.mp hm.1
    obtain ⟨j, q, hj, hq, hk⟩ := hc z (by omega) (by omega) (by simpa using hm.2)
    refine List.mem_map.mpr ⟨q, ?_, hk⟩
    rw [List.mem_eraseIdx_iff_getElem?]
    exact ⟨j, hj, hq⟩
  rw [List.length_map, List.length_eraseIdx_of_lt hi] at this
  omega
theorem kid_inj (sh : Shape n rs) (tr : (rs.length : Int) = n - 1) (h : DsL n rs p ds) (p0 : 0 ≤ p) (p1 : p < n) {i j : Nat} {q q' : Int × Int} (hi : rs[i]? = some q) (hj : rs[j]? = some q') (e : kid ds q = kid ds q') : i = j := by
  refine Classical.byContradiction fun ne => kid_tight sh tr h p0 p1 (i := i) (List.getElem?_eq_some_iff.mp hi).1 fun z h0 h1 hz => ?_
  obtain ⟨k, r, hr, hk, _⟩ := kid_ex sh h p0 p1 h0 h1 hz
  by_cases c : k = i
  · subst c
    rw [hi] at hr
    cases hr
    exact ⟨j, q', fun z => ne z.symm, hj, by rw [← e, hk]⟩
  · exact ⟨k, r, c, hr, hk⟩
theorem kid_ne (sh : Shape n rs) (tr : (rs.length : Int) = n - 1) (h : DsL n rs p ds) (p0 : 0 ≤ p) (p1 : p < n) {q : Int × Int} (hq : q ∈ rs) : kid ds q ≠ p := fun e => by
  obtain ⟨i, hi⟩ := List.mem_iff_getElem?.mp hq
  refine kid_tight sh tr h p0 p1 (i := i) (List.getElem?_eq_some_iff.mp hi).1 fun z h0 h1 hz => ?_
  obtain ⟨k, r, hr, hk, _⟩ := kid_ex sh h p0 p1 h0 h1 hz
  refine ⟨k, r, fun c => ?_, hr, hk⟩
  subst c
  rw [hi] at hr
  cases hr
  exact hz (by rw [← hk, e])
/-- the ends of a road of a tree are not alike far off -/
theorem kid_lv (sh : Shape n rs) (tr : (rs.length : Int) = n - 1) (h : DsL n rs p ds) (p0 : 0 ≤ p) (p1 : p < n) {q : Int × Int} (hq : q ∈ rs) : ds.getD q.1.toNat 0 ≠ ds.getD q.2.toNat 0 := fun e => by
  obtain ⟨i, hi⟩ := List.mem_iff_getElem?.mp hq
  have o := sh.ok q hq
  have ek : kid ds q = q.1 := by unfold kid; rw [if_neg (by omega)]
  obtain ⟨k, r, hr, hk, hn⟩ := kid_ex sh h p0 p1 (z := q.1) o.1 (by omega) (by rw [← ek]; exact kid_ne sh tr h p0 p1 hq)
  have := kid_inj sh tr h p0 p1 hi hr (by rw [ek, hk])
  subst this
  rw [hi] at hr
  cases hr
  exact hn e
/-- the ends of a road are one step more or less far off -/
theorem lv_step (sh : Shape n rs) (h : DsL n rs p ds) {a b : Int} (ad : Adj rs a b) : ds.getD b.toNat 0 ≤ ds.getD a.toNat 0 + 1 := by
  have rb := adj_rng sh.ok ad
  have ra := adj_rng sh.ok ad.symm
  obtain ⟨d, e, da⟩ := dsl_get h ra.1 ra.2
  obtain ⟨d', e', db⟩ := dsl_get h rb.1 rb.2
  obtain ⟨j, hj, dj⟩ := da.next ad
  have := dj.uniq db
  omega
/-- how many roads of a lot are at a place -/
theorem cnt_nb : ∀ (as : List (Int × Int)) (z : Int) (k : Nat), (rdsN as z k).length = as.countP (fun q => atP z q)
  | [], z, k => rfl
  | a :: as, z, k => by
    rw [List.countP_cons, ← cnt_nb as z (k + 1)]
    show (if a.1 = z ∨ a.2 = z then _ :: rdsN as z (k + 1) else rdsN as z (k + 1)).length = _
    by_cases c : a.1 = z ∨ a.2 = z
    · rw [if_pos c, if_pos (atP_iff.mpr c)]; rfl
    · rw [if_neg c, if_neg (fun w => c (atP_iff.mp w))]; rfl
theorem deg_cnt {z : Int} (h0 : 0 ≤ z) : deg rs z = (rs.countP (fun q => atP z q) : Int) := by
  unfold deg nb nbTo
  rw [List.length_map, List.take_length, cnt_nb, show ((z.toNat : Nat) : Int) = z by omega]
end
end UW.Un
namespace UW.Un
open PySem PySem.Spec PyProof.Rows L2 UW
section
variable {n s : Int} {rs qs : List (Int × Int)} {ns : List Int}
theorem sum_add (Z : List Int) (f g : Int → Nat) : (Z.map fun z => f z + g z).sum = (Z.map f).sum + (Z.map g).sum := by
  induction Z with
  | nil => rfl
  | cons z Z ih => rw [List.map_cons, List.map_cons, List.map_cons, List.sum_cons, List.sum_cons, List.sum_cons, ih]; omega
theorem sum_ind (Z : List Int) (p : Int → Bool) : (Z.map fun z => if p z = true then 1 else 0).sum = Z.countP p := by
  induction Z with
  | nil => rfl
  | cons z Z ih => rw [List.map_cons, List.sum_cons, ih, List.countP_cons]; split <;> omega
theorem one_end {Z : List Int} {q : Int × Int} (nd : Z.Nodup) (h : q.1 ∈ Z ↔ q.2 ∉ Z) : Z.countP (fun z => atP z q) = 1 := by
  have ex : ∃ a, a ∈ Z ∧ ∀ z ∈ Z, atP z q = true ↔ z = a := by
    by_cases c : q.1 ∈ Z
    · refine ⟨q.1, c, fun z hz => ?_⟩
      rw [atP_iff]
      exact ⟨fun w => w.elim (fun e => e.symm) fun e => absurd (e ▸ hz) (h.mp c), fun e => .inl e.symm⟩
    · have c2 : q.2 ∈ Z := Classical.byContradiction fun w => c (h.mpr w)
      refine ⟨q.2, c2, fun z hz => ?_⟩
      rw [atP_iff]
      exact ⟨fun w => w.elim (fun e => absurd (e ▸ hz) c) fun e => e.symm, fun e => .inr e.symm⟩
  obtain ⟨a, ha, hz⟩ := ex
  have : Z.countP (fun z => atP z q) = Z.count a := by
    rw [List.count]
    refine List.countP_congr fun z hzz => ?_
    rw [hz z hzz, beq_iff_eq]
  rw [this, List.Nodup.count nd, if_pos ha]
theorem sum_deg {Z : List Int} (nd : Z.Nodup) : ∀ {as : List (Int × Int)}, (∀ q ∈ as, q.1 ∈ Z ↔ q.2 ∉ Z) → (Z.map fun z => as.countP (fun q => atP z q)).sum = as.length
  | [], _ => by
    have : (Z.map fun z => ([] : List (Int × Int)).countP (fun q => atP z q)) = Z.map fun z => if (false : Bool) = true then 1 else 0 := rfl
    rw [this, sum_ind Z fun _ => false]
    simp
  | q :: as, h => by
    have e : (Z.map fun z => (q :: as).countP (fun q => atP z q)) = Z.map fun z => as.countP (fun q => atP z q) + (if atP z q = true then 1 else 0) := List.map_congr_left fun z _ => by rw [List.countP_cons]
    rw [e, sum_add, sum_deg nd fun r hr => h r (List.mem_cons_of_mem _ hr), sum_ind Z fun z => atP z q, one_end nd (h q (List.mem_cons_self ..)), List.length_cons]
theorem sum_two {Z : List Int} {f : Int → Nat} (h : ∀ z ∈ Z, f z = 2) : (Z.map f).sum = 2 * Z.length := by
  induction Z with
  | nil => rfl
  | cons z Z ih => rw [List.map_cons, List.sum_cons, ih fun y hy => h y (List.mem_cons_of_mem _ hy), h z (List.mem_cons_self ..), List.length_cons]; omega
/-- the middles of a web that has two sides, of which one has two roads at each place -/
theorem mids_of (sh : Shape n rs) (n3 : 3 ≤ n) (tr : (rs.length : Int) = n - 1) (P : Int → Bool) (hP : ∀ q ∈ rs, P q.1 = true ↔ ¬ P q.2 = true) (hd : ∀ z : Int, 0 ≤ z → z < n → P z = true → deg rs z = 2) : mids n rs = some ((iota n.toNat).filter P) := by
  have ds0 := dsO_is sh
  obtain ⟨d0, e0, z0⟩ := dsl_get ds0 (z := 0) (Int.le_refl _) (by omega)
  have z0 := z0.uniq Dst.zero
  subst z0
  have par := sh.cn (fun z => (P z = true ↔ (dsO n rs).getD z.toNat 0 % 2 = if P 0 = true then 0 else 1)) (by
    rw [e0]
    by_cases c : P 0 = true
    · rw [if_pos c]; simp [c]
    · rw [if_neg c]; simp [c]) fun q hq => by
      have o := sh.ok q hq
      have ne := kid_lv sh tr ds0 (Int.le_refl _) (by omega) hq
      have a := lv_step sh ds0 (a := q.1) (b := q.2) (.inl hq)
      have b := lv_step sh ds0 (a := q.2) (b := q.1) (.inr hq)
      have hp := hP q hq
      have c : (dsO n rs).getD q.1.toNat 0 % 2 = 1 - (dsO n rs).getD q.2.toNat 0 % 2 := by omega
      have r : (dsO n rs).getD q.2.toNat 0 % 2 = 0 ∨ (dsO n rs).getD q.2.toNat 0 % 2 = 1 := by omega
      have d : (if P 0 = true then (0 : Int) else 1) = 0 ∨ (if P 0 = true then (0 : Int) else 1) = 1 := by split <;> simp
      show (P q.1 = true ↔ _) ↔ (P q.2 = true ↔ _)
      rw [hp, c]
      generalize (dsO n rs).getD q.2.toNat 0 % 2 = y at r ⊢
      generalize (if P 0 = true then (0 : Int) else 1) = t at d ⊢
      have fl : (1 - y = t) ↔ ¬ (y = t) := by omega
      rw [fl]
      exact ⟨fun w => ⟨fun a => Classical.byContradiction fun b => (w.mpr b) a, fun a => Classical.byContradiction fun b => (w.mp b) a⟩, fun w => ⟨fun a b => a (w.mpr b), fun a b => a (w.mp b)⟩⟩
  have side : ∀ t : Int, (t = if P 0 = true then 0 else 1) → sideL n rs t = (iota n.toNat).filter P := fun t ht => by
    unfold sideL
    refine List.filter_congr fun z hz => ?_
    have r := mem_iota.mp hz
    have := par z (by omega) (by omega)
    rw [ht, Bool.eq_iff_iff, decide_eq_true_iff]
    exact this.symm
  have okm : ∀ t : Int, (t = if P 0 = true then 0 else 1) → OkS n rs t := fun t ht z hz => by
    rw [side t ht] at hz
    have a := List.mem_filter.mp hz
    have r := mem_iota.mp a.1
    exact hd z (by omega) (by omega) a.2
  unfold mids
  rw [if_neg (by omega)]
  by_cases c : P 0 = true
  · rw [if_pos (okm 0 (by rw [if_pos c])), side 0 (by rw [if_pos c])]
  · have o1 : OkS n rs 1 := okm 1 (by rw [if_neg c])
    have no : ¬ OkS n rs 0 := fun o0 => by
      have nd := nodup_iota n.toNat
      have spots : sideL n rs 0 = (iota n.toNat).filter fun z => !P z := by
        unfold sideL
        refine List.filter_congr fun z hz => ?_
        have r := mem_iota.mp hz
        have := par z (by omega) (by omega)
        rw [if_neg c] at this
        rw [Bool.eq_iff_iff, decide_eq_true_iff, Bool.not_eq_true', ← Bool.not_eq_true, this]
        omega
      have cnt : ∀ Q : Int → Bool, (∀ q ∈ rs, Q q.1 = true ↔ ¬ Q q.2 = true) → (∀ z ∈ (iota n.toNat).filter Q, deg rs z = 2) → rs.length = 2 * ((iota n.toNat).filter Q).length := fun Q hQ h2 => by
        have nd2 : ((iota n.toNat).filter Q).Nodup := List.Nodup.sublist List.filter_sublist nd
        rw [← sum_deg nd2 (as := rs) fun q hq => by
          have o := sh.ok q hq
          have m : ∀ z : Int, 0 ≤ z → z < n → (z ∈ (iota n.toNat).filter Q ↔ Q z = true) := fun z h0 h1 => by
            rw [List.mem_filter, mem_iota]
            exact ⟨fun w => w.2, fun w => ⟨by omega, w⟩⟩
          rw [m _ o.1 (by omega), m _ (by omega) o.2.2]
          exact hQ q hq]
        refine sum_two fun z hz => ?_
        have := h2 z hz
        have r := mem_iota.mp (List.mem_filter.mp hz).1
        rw [deg_cnt (by omega)] at this
        omega
      have a := cnt P hP fun z hz => by rw [← side 1 (by rw [if_neg c])] at hz; exact o1 z hz
      have b := cnt (fun z => !P z) (fun q hq => by have := hP q hq; simp only [Bool.not_eq_true', ← Bool.not_eq_true] at this ⊢; rw [this]) fun z hz => by rw [← spots] at hz; exact o0 z hz
      have l := List.length_eq_countP_add_countP P (l := iota n.toNat)
      rw [iota_len, List.countP_eq_length_filter, List.countP_eq_length_filter] at l
      have l2 : ((iota n.toNat).filter fun a => decide ¬ P a = true).length = ((iota n.toNat).filter fun z => !P z).length := by
        congr 1
        refine List.filter_congr fun z _ => ?_
        cases P z <;> rfl
      omega
    rw [if_neg no, if_pos o1, side 1 (by rw [if_neg c])]
def nbf (as : List (Int × Int)) (z : Int) : List Int := (as.filter fun q => atP z q).map fun q => q.1 + q.2 - z
theorem nbf_rdsN : ∀ (as : List (Int × Int)) (z : Int) (k : Nat), (rdsN as z k).map (·.1) = nbf as z
  | [], _, _ => rfl
  | a :: as, z, k => by
    have ih := nbf_rdsN as z (k + 1)
    show (if a.1 = z ∨ a.2 = z then _ :: rdsN as z (k + 1) else rdsN as z (k + 1)).map (·.1) = ((a :: as).filter _).map _
    by_cases c : a.1 = z ∨ a.2 = z
    · rw [if_pos c, List.filter_cons_of_pos (atP_iff.mpr c), List.map_cons, List.map_cons, ih]; rfl
    · rw [if_neg c, List.filter_cons_of_neg (fun w => c (atP_iff.mp w)), ih]; rfl
theorem nb_nbf {z : Int} (h0 : 0 ≤ z) : nb rs z.toNat = nbf rs z := by
  unfold nb nbTo
  rw [List.take_length, nbf_rdsN, show ((z.toNat : Nat) : Int) = z by omega]
theorem nbf_perm {as bs : List (Int × Int)} (h : as.Perm bs) (z : Int) : (nbf as z).Perm (nbf bs z) := (h.filter _).map _
theorem reP_sum (ns : List Int) (q : Int × Int) : (reP ns q).1 + (reP ns q).2 = nm ns q.1 + nm ns q.2 := by
  unfold reP
  show (if nm ns q.2 < nm ns q.1 then nm ns q.2 else nm ns q.1) + (if nm ns q.2 > nm ns q.1 then nm ns q.2 else nm ns q.1) = _
  split <;> split <;> omega
theorem reP_at (N : Names n ns) {q : Int × Int} {z : Int} (h1 : 0 ≤ q.1 ∧ q.1 < n) (h2 : 0 ≤ q.2 ∧ q.2 < n) (z0 : 0 ≤ z) (z1 : z < n) : atP (nm ns z) (reP ns q) = atP z q := by
  rw [Bool.eq_iff_iff, atP_iff, atP_iff]
  have a : nm ns q.1 = nm ns z ↔ q.1 = z := ⟨fun e => N.inj _ _ h1.1 h1.2 z0 z1 e, fun e => by rw [e]⟩
  have b : nm ns q.2 = nm ns z ↔ q.2 = z := ⟨fun e => N.inj _ _ h2.1 h2.2 z0 z1 e, fun e => by rw [e]⟩
  unfold reP
  show (if nm ns q.2 < nm ns q.1 then nm ns q.2 else nm ns q.1) = nm ns z ∨ (if nm ns q.2 > nm ns q.1 then nm ns q.2 else nm ns q.1) = nm ns z ↔ _
  rw [← a, ← b]
  by_cases c : nm ns q.2 < nm ns q.1
  · rw [if_pos c, if_neg (by omega)]; exact Or.comm
  · rw [if_neg c]
    by_cases c2 : nm ns q.2 > nm ns q.1
    · rw [if_pos c2]
    · rw [if_neg c2, show nm ns q.2 = nm ns q.1 by omega]
theorem nbf_names (N : Names n ns) (ok : ∀ q ∈ rs, (0 ≤ q.1 ∧ q.1 < n) ∧ 0 ≤ q.2 ∧ q.2 < n) {z : Int} (z0 : 0 ≤ z) (z1 : z < n) : nbf (rs.map (reP ns)) (nm ns z) = (nbf rs z).map (nm ns) := by
  unfold nbf
  rw [List.filter_map, List.map_map, List.map_map]
  have e : rs.filter ((fun q => atP (nm ns z) q) ∘ reP ns) = rs.filter fun q => atP z q := List.filter_congr fun q hq => reP_at N (ok q hq).1 (ok q hq).2 z0 z1
  rw [e]
  refine List.map_congr_left fun q hq => ?_
  have w := atP_iff.mp (List.mem_filter.mp hq).2
  show (reP ns q).1 + (reP ns q).2 - nm ns z = nm ns (q.1 + q.2 - z)
  rw [reP_sum]
  rcases w with w | w
  · rw [← w, show q.1 + q.2 - q.1 = q.2 by omega]; omega
  · rw [← w, show q.1 + q.2 - q.2 = q.1 by omega]; omega
theorem mem_prR {q : Int × Int} : ∀ {rs : List (Int × Int)} {k : Int}, q ∈ prR s rs k ↔ ∃ (j : Nat) (p : Int × Int), rs[j]? = some p ∧ (q = (p.1, s + (k + j)) ∨ q = (p.2, s + (k + j)))
  | [], k => by simp [prR]
  | a :: rs, k => by
    show q ∈ (a.1, s + k) :: (a.2, s + k) :: prR s rs (k + 1) ↔ _
    rw [List.mem_cons, List.mem_cons, mem_prR]
    constructor
    · rintro (e | e | ⟨j, p, hp, h⟩)
      · exact ⟨0, a, rfl, .inl (by rw [e]; simp)⟩
      · exact ⟨0, a, rfl, .inr (by rw [e]; simp)⟩
      · exact ⟨j + 1, p, hp, by rw [show k + ((j + 1 : Nat) : Int) = k + 1 + (j : Int) by omega]; exact h⟩
    · rintro ⟨j, p, hp, h⟩
      cases j with
      | zero =>
        cases hp
        rw [show k + ((0 : Nat) : Int) = k by omega] at h
        exact h.elim .inl fun h => .inr (.inl h)
      | succ j =>
        rw [show k + ((j + 1 : Nat) : Int) = k + 1 + (j : Int) by omega] at h
        exact .inr (.inr ⟨j, p, hp, h⟩)
theorem nd_prR : ∀ {rs : List (Int × Int)} {k : Int}, (∀ p ∈ rs, p.1 ≠ p.2) → (prR s rs k).Nodup
  | [], k, _ => List.nodup_nil
  | a :: rs, k, h => by
    have far : ∀ q ∈ prR s rs (k + 1), s + k < q.2 := fun q hq => by
      obtain ⟨j, p, _, e | e⟩ := mem_prR.mp hq
      · rw [e]; show s + k < s + (k + 1 + j); omega
      · rw [e]; show s + k < s + (k + 1 + j); omega
    show ((a.1, s + k) :: (a.2, s + k) :: prR s rs (k + 1)).Nodup
    rw [List.nodup_cons, List.nodup_cons]
    refine ⟨fun m => ?_, fun m => ?_, nd_prR fun p hp => h p (List.mem_cons_of_mem _ hp)⟩
    · rcases List.mem_cons.mp m with e | m
      · exact h a (List.mem_cons_self ..) (congrArg Prod.fst e)
      · have := far _ m; simp at this
    · have := far _ m; simp at this
theorem shape_pr (sh : Shape s rs) (tr : (rs.length : Int) = s - 1) : Shape (2 * s - 1) (prR s rs 0) := by
  have two := sh.two
  have lt : ∀ (j : Nat) p, rs[j]? = some p → (j : Int) < s - 1 := fun j p hp => by
    have := (List.getElem?_eq_some_iff.mp hp).1; omega
  refine ⟨by omega, nd_prR fun p hp => by have := sh.ok p hp; omega, fun q hq => ?_, fun S s0 hs => ?_⟩
  · obtain ⟨j, p, hp, h⟩ := mem_prR.mp hq
    have o := sh.ok p (List.mem_of_getElem? hp)
    have := lt j p hp
    rcases h with rfl | rfl
    · show 0 ≤ p.1 ∧ p.1 < s + (0 + j) ∧ s + (0 + j) < 2 * s - 1; omega
    · show 0 ≤ p.2 ∧ p.2 < s + (0 + j) ∧ s + (0 + j) < 2 * s - 1; omega
  · have ed : ∀ (j : Nat) p, rs[j]? = some p → (S p.1 ↔ S (s + (0 + j))) ∧ (S p.2 ↔ S (s + (0 + j))) := fun j p hp =>
      ⟨hs (p.1, s + (0 + j)) (mem_prR.mpr ⟨j, p, hp, .inl rfl⟩), hs (p.2, s + (0 + j)) (mem_prR.mpr ⟨j, p, hp, .inr rfl⟩)⟩
    have low := sh.cn S s0 fun p hp => by
      obtain ⟨j, hj⟩ := List.mem_iff_getElem?.mp hp
      exact (ed j p hj).1.trans (ed j p hj).2.symm
    intro i i0 i1
    by_cases c : i < s
    · exact low i i0 c
    · have lj : (i - s).toNat < rs.length := by omega
      have hp := List.getElem?_eq_getElem lj
      have o := sh.ok _ (List.getElem_mem lj)
      have := (ed _ _ hp).1.mp (low _ o.1 (by omega))
      rw [show s + (0 + ((i - s).toNat : Int)) = i by omega] at this
      exact this
theorem nbf_pr : ∀ {rs : List (Int × Int)} {k : Int} {j : Nat} {p : Int × Int}, 0 ≤ k → (∀ q ∈ rs, q.1 < s ∧ q.2 < s) → rs[j]? = some p → nbf (prR s rs k) (s + (k + j)) = [p.1, p.2]
  | a :: rs, k, j, p, k0, h, hp => by
    have ha := h a (List.mem_cons_self ..)
    have far : ∀ q ∈ prR s rs (k + 1), s + k < q.2 ∧ q.1 < s := fun q hq => by
      obtain ⟨i, r, hr, e⟩ := mem_prR.mp hq
      have := h r (List.mem_cons_of_mem _ (List.mem_of_getElem? hr))
      rcases e with e | e <;> rw [e]
      · show s + k < s + (k + 1 + i) ∧ r.1 < s; omega
      · show s + k < s + (k + 1 + i) ∧ r.2 < s; omega
    show (((a.1, s + k) :: (a.2, s + k) :: prR s rs (k + 1)).filter fun q => atP (s + (k + j)) q).map _ = _
    cases j with
    | zero =>
      cases hp
      rw [show s + (k + ((0 : Nat) : Int)) = s + k by omega, List.filter_cons_of_pos (show atP (s + k) (a.1, s + k) = true from atP_iff.mpr (.inr rfl)), List.filter_cons_of_pos (show atP (s + k) (a.2, s + k) = true from atP_iff.mpr (.inr rfl)), List.filter_eq_nil_iff.mpr fun q hq w => by
        have := far q hq
        rcases atP_iff.mp w with e | e <;> omega]
      show [a.1 + (s + k) - (s + k), a.2 + (s + k) - (s + k)] = _
      rw [show a.1 + (s + k) - (s + k) = a.1 by omega, show a.2 + (s + k) - (s + k) = a.2 by omega]
    | succ j =>
      rw [List.filter_cons_of_neg (show ¬ atP (s + (k + ((j + 1 : Nat) : Int))) (a.1, s + k) = true from fun w => by rcases atP_iff.mp w with e | e <;> simp at e <;> omega), List.filter_cons_of_neg (show ¬ atP (s + (k + ((j + 1 : Nat) : Int))) (a.2, s + k) = true from fun w => by rcases atP_iff.mp w with e | e <;> simp at e <;> omega)]
      have ih := nbf_pr (rs := rs) (k := k + 1) (j := j) (by omega) (fun q hq => h q (List.mem_cons_of_mem _ hq)) hp
      rw [show k + 1 + (j : Int) = k + ((j + 1 : Nat) : Int) by omega] at ih
      exact ih
/-- the rows of the tree under names -/
def rowsN (s : Int) (ns : List Int) : List (Int × Int) → Int → List ((Int × Int) × Int)
  | [], _ => []
  | p :: ps, k => (reP ns p, nm ns (s + k)) :: rowsN s ns ps (k + 1)
theorem mem_rowsN {r : (Int × Int) × Int} : ∀ {rs : List (Int × Int)} {k : Int}, r ∈ rowsN s ns rs k → ∃ (j : Nat) (p : Int × Int), rs[j]? = some p ∧ r = (reP ns p, nm ns (s + (k + j)))
  | [], k, h => by cases h
  | a :: rs, k, h => by
    rcases List.mem_cons.mp h with e | h
    · exact ⟨0, a, rfl, by rw [e]; simp⟩
    · obtain ⟨j, p, hp, e⟩ := mem_rowsN h
      exact ⟨j + 1, p, hp, by rw [e, show k + 1 + (j : Int) = k + ((j + 1 : Nat) : Int) by omega]⟩
theorem rowsN_len : ∀ {rs : List (Int × Int)} {k : Int}, (rowsN s ns rs k).length = rs.length
  | [], _ => rfl
  | a :: rs, k => by show (rowsN s ns rs (k + 1)).length + 1 = _; rw [rowsN_len]; rfl
theorem rowsN_get : ∀ {rs : List (Int × Int)} {k : Int} {j : Nat} {p : Int × Int}, rs[j]? = some p → (rowsN s ns rs k)[j]? = some (reP ns p, nm ns (s + (k + j)))
  | a :: rs, k, 0, p, h => by cases h; show some _ = some _; simp
  | a :: rs, k, j + 1, p, h => by
    show (rowsN s ns rs (k + 1))[j]? = _
    rw [rowsN_get (rs := rs) (j := j) h, show k + 1 + (j : Int) = k + ((j + 1 : Nat) : Int) by omega]
theorem srt_two {x y : Int} {l : List Int} (h : l.Perm [x, y]) : srt l = [if y < x then y else x, if y > x then y else x] := by
  refine (srt_eq (qs := [if y < x then y else x, if y > x then y else x]) ?_ ?_).symm
  · refine List.Perm.trans ?_ h.symm
    by_cases c : y < x
    · rw [if_pos c, if_neg (by omega)]; exact List.Perm.swap x y []
    · rw [if_neg c]
      by_cases c2 : y > x
      · rw [if_pos c2]
      · rw [if_neg c2, show y = x by omega]
  · rw [List.pairwise_cons]
    refine ⟨fun z hz => ?_, List.pairwise_singleton _ _⟩
    rw [List.mem_singleton.mp hz]
    split <;> split <;> omega
/-- what elder_tree tells of the web of a tree, under names -/
theorem elder_of (sh : Shape s rs) (s2 : 2 ≤ s) (tr : (rs.length : Int) = s - 1) (N : Names (2 * s - 1) ns) (pm : qs.Perm ((prR s rs 0).map (reP ns))) :
    Shape (2 * s - 1) qs ∧ ∃ M, mids (2 * s - 1) qs = some M ∧ spotsO (2 * s - 1) M = srt (ns.take s.toNat) ∧ srtT (M.map (rowM qs)) = srtT (rowsN s ns rs 0) := by
  have shp := shape_pr sh tr
  have shT := shp.names N
  have shq := shT.perm pm
  refine ⟨shq, ?_⟩
  have lT : (qs.length : Int) = 2 * s - 1 - 1 := by rw [pm.length_eq, List.length_map, prR_len]; omega
  have okp : ∀ q ∈ prR s rs 0, (0 ≤ q.1 ∧ q.1 < 2 * s - 1) ∧ 0 ≤ q.2 ∧ q.2 < 2 * s - 1 := fun q hq => by have := shp.ok q hq; omega
  have nl := N.len
  have ndn : ns.Nodup := by
    rw [List.nodup_iff_pairwise_ne, List.pairwise_iff_getElem]
    intro i j hi hj hij e
    have a := nm_get (ns := ns) (i := (i : Int)) (by omega) (by omega)
    have b := nm_get (ns := ns) (i := (j : Int)) (by omega) (by omega)
    rw [Int.toNat_natCast, List.getElem?_eq_getElem hi] at a
    rw [Int.toNat_natCast, List.getElem?_eq_getElem hj] at b
    have := N.inj i j (by omega) (by omega) (by omega) (by omega) (by rw [← Option.some.inj a, ← Option.some.inj b, e])
    omega
  -- the places that are called by the names of middles
  have memD : ∀ z : Int, 0 ≤ z → z < 2 * s - 1 → (nm ns z ∈ ns.drop s.toNat ↔ s ≤ z) := fun z z0 z1 => by
    constructor
    · intro h
      obtain ⟨j, hj⟩ := List.mem_iff_getElem?.mp h
      rw [List.getElem?_drop] at hj
      have lj := (List.getElem?_eq_some_iff.mp hj).1
      have a := nm_get (ns := ns) (i := ((s.toNat + j : Nat) : Int)) (by omega) (by omega)
      rw [Int.toNat_natCast, hj] at a
      have := N.inj z _ z0 z1 (by omega) (by omega) (Option.some.inj a)
      omega
    · intro h
      refine List.mem_iff_getElem?.mpr ⟨z.toNat - s.toNat, ?_⟩
      rw [List.getElem?_drop, show s.toNat + (z.toNat - s.toNat) = z.toNat by omega]
      exact nm_get z0 (by omega)
  have nbq : ∀ (j : Nat) p, rs[j]? = some p → (nb qs (nm ns (s + (0 + j))).toNat).Perm [nm ns p.1, nm ns p.2] := fun j p hp => by
    have lj := (List.getElem?_eq_some_iff.mp hp).1
    have r := N.rng (s + (0 + j)) (by omega) (by omega)
    rw [nb_nbf r.1]
    refine (nbf_perm pm _).trans ?_
    rw [nbf_names N okp (by omega) (by omega), nbf_pr (Int.le_refl _) (fun q hq => by have := sh.ok q hq; omega) hp]
    exact List.Perm.refl _
  have em := mids_of shq (by omega) lT (fun z => decide (z ∈ ns.drop s.toNat)) (fun q hq => by
    obtain ⟨q0, h0, rfl⟩ := List.mem_map.mp (pm.mem_iff.mp hq)
    obtain ⟨j, p, hp, e⟩ := mem_prR.mp h0
    have o := okp q0 h0
    have lj := (List.getElem?_eq_some_iff.mp hp).1
    have os := sh.ok p (List.mem_of_getElem? hp)
    have a : nm ns q0.1 ∉ ns.drop s.toNat := fun w => by
      have := (memD _ o.1.1 o.1.2).mp w
      rcases e with rfl | rfl <;> simp at this <;> omega
    have b : nm ns q0.2 ∈ ns.drop s.toNat := (memD _ o.2.1 o.2.2).mpr (by rcases e with rfl | rfl <;> (show s ≤ s + (0 + (j : Int))) <;> omega)
    rw [decide_eq_true_iff, decide_eq_true_iff]
    unfold reP
    show (if nm ns q0.2 < nm ns q0.1 then nm ns q0.2 else nm ns q0.1) ∈ _ ↔ (if nm ns q0.2 > nm ns q0.1 then nm ns q0.2 else nm ns q0.1) ∉ _
    by_cases c : nm ns q0.2 < nm ns q0.1
    · rw [if_pos c, if_neg (by omega)]
      exact ⟨fun _ => a, fun _ => b⟩
    · rw [if_neg c]
      have c2 : nm ns q0.2 > nm ns q0.1 := by
        have : nm ns q0.2 ≠ nm ns q0.1 := fun w => a (w ▸ b)
        omega
      rw [if_pos c2]
      exact ⟨fun w => absurd w a, fun w => absurd b w⟩) (fun z z0 z1 hz => by
    obtain ⟨y, y0, y1, rfl⟩ := N.sur z z0 z1
    have := (memD y y0 y1).mp (of_decide_eq_true hz)
    have lj : (y - s).toNat < rs.length := by omega
    have := (nbq _ _ (List.getElem?_eq_getElem lj)).length_eq
    rw [show s + (0 + ((y - s).toNat : Int)) = y by omega] at this
    unfold deg
    rw [this]
    rfl)
  refine ⟨_, em, ?_, ?_⟩
  · -- the spots
    refine srt_eq ?_ ?_
    · refine (List.perm_ext_iff_of_nodup (List.Nodup.sublist List.filter_sublist (nodup_iota _)) (List.Nodup.sublist (List.take_sublist _ _) ndn)).mpr fun z => ?_
      rw [List.mem_filter, mem_iota, decide_eq_true_iff, List.mem_filter, mem_iota, decide_eq_true_iff]
      constructor
      · rintro ⟨r, h⟩
        obtain ⟨y, y0, y1, rfl⟩ := N.sur z (by omega) (by omega)
        have c : ¬ s ≤ y := fun w => h ⟨r, (memD y y0 y1).mpr w⟩
        refine List.mem_iff_getElem?.mpr ⟨y.toNat, ?_⟩
        rw [List.getElem?_take, if_pos (by omega)]
        exact nm_get y0 (by omega)
      · intro h
        obtain ⟨j, hj⟩ := List.mem_iff_getElem?.mp h
        rw [List.getElem?_take] at hj
        split at hj
        · rename_i c
          have lj := (List.getElem?_eq_some_iff.mp hj).1
          have a := nm_get (ns := ns) (i := (j : Int)) (by omega) (by omega)
          rw [Int.toNat_natCast, hj] at a
          have e := Option.some.inj a
          have r := N.rng j (by omega) (by omega)
          rw [e]
          refine ⟨by omega, fun w => ?_⟩
          have := (memD j (by omega) (by omega)).mp w.2
          omega
        · cases hj
    · unfold spotsO
      refine List.Pairwise.sublist List.filter_sublist ?_
      unfold iota
      rw [List.pairwise_map]
      exact List.pairwise_lt_range.imp fun {a b} h => by omega
  · -- the rows
    have pmM : ((iota (2 * s - 1).toNat).filter fun z => decide (z ∈ ns.drop s.toNat)).Perm (ns.drop s.toNat) := by
      refine (List.perm_ext_iff_of_nodup (List.Nodup.sublist List.filter_sublist (nodup_iota _)) (List.Nodup.sublist (List.drop_sublist _ _) ndn)).mpr fun z => ?_
      rw [List.mem_filter, mem_iota, decide_eq_true_iff]
      refine ⟨fun w => w.2, fun w => ⟨?_, w⟩⟩
      obtain ⟨j, hj⟩ := List.mem_iff_getElem?.mp (List.mem_of_mem_drop w)
      have lj := (List.getElem?_eq_some_iff.mp hj).1
      have a := nm_get (ns := ns) (i := (j : Int)) (by omega) (by omega)
      rw [Int.toNat_natCast, hj] at a
      have r := N.rng j (by omega) (by omega)
      rw [Option.some.inj a]
      omega
    have ed : (rowsN s ns rs 0).map (·.2) = ns.drop s.toNat := by
      refine List.ext_getElem? fun j => ?_
      rw [List.getElem?_map, List.getElem?_drop]
      by_cases c : j < rs.length
      · rw [rowsN_get (List.getElem?_eq_getElem c)]
        show some (nm ns (s + (0 + j))) = _
        have := nm_get (ns := ns) (i := s + (0 + j)) (by omega) (by omega)
        rw [← this, show (s + (0 + (j : Int))).toNat = s.toNat + j by omega]
      · rw [List.getElem?_eq_none (by rw [rowsN_len]; omega), List.getElem?_eq_none (by omega)]
        rfl
    have er : ((rowsN s ns rs 0).map (·.2)).map (rowM qs) = rowsN s ns rs 0 := by
      rw [List.map_map]
      refine (List.map_congr_left fun r hr => ?_).trans (List.map_id _)
      obtain ⟨j, p, hp, rfl⟩ := mem_rowsN hr
      have st := srt_two (nbq j p hp)
      show rowM qs (nm ns (s + (0 + j))) = _
      unfold rowM
      rw [st]
      rfl
    refine srtT_eq ?_ (srtT_pw _)
    refine (srtT_perm _).trans ?_
    rw [← er, ed]
    exact pmM.map _
end
end UW.Un
namespace UW.Un
open PySem PySem.Spec PyProof.Rows L2 UW
/-- one step -/
local macro_rules | `(tactic| walk_at "a1") => `(tactic| first
  | with_reducible refine wk ?_
  | (with_reducible refine rs_go 1 ?_
     first
     | with_reducible refine a_var (by with_unfolding_all rfl) (by with_unfolding_all rfl) ?_
     | with_reducible refine a_gtup (by with_unfolding_all rfl) (by with_unfolding_all rfl) ?_
     | with_reducible refine a_glst (by with_unfolding_all rfl) (by with_unfolding_all rfl) ?_)
  | (with_reducible refine rs_go 2 ?_
     first
     | with_reducible refine g_ixT (by with_unfolding_all rfl) (by first | with_unfolding_all rfl | with_unfolding_all exact at_zero _ _) ?_
     | with_reducible refine g_ixL (by with_unfolding_all rfl) (by first | with_unfolding_all rfl | with_unfolding_all exact at_zero _ _) ?_)
  | (with_reducible refine rs_go 3 ?_
     first
     | with_reducible refine g_lenT (by with_unfolding_all rfl) ?_
     | with_reducible refine g_lenL (by with_unfolding_all rfl) ?_
     | with_reducible refine g_tupL (by with_unfolding_all rfl) ?_
     | with_reducible refine g_tupT (by with_unfolding_all rfl) ?_
     | with_reducible refine g_lstT (by with_unfolding_all rfl) ?_
     | with_reducible refine g_lstL (by with_unfolding_all rfl) ?_)
  | (with_reducible refine rs_go 4 ?_
     first
     | with_reducible refine g_addL (by with_unfolding_all rfl) (by with_unfolding_all rfl) (Nat.le_of_ble_eq_true (by with_unfolding_all rfl)) ?_
     | with_reducible refine g_mulI (by first | exact Or.inl ⟨by decide, by decide⟩ | exact Or.inr ⟨by decide, by decide⟩ | (first | (refine Or.inl ⟨?_, ?_⟩ <;> omega) | (refine Or.inr ⟨?_, ?_⟩ <;> omega))) ?_
     | with_reducible refine g_mod (by first | decide | omega) ?_
     | with_reducible refine g_div (by first | decide | omega) (by first | decide | omega) ?_
     | with_reducible refine g_slT (by with_unfolding_all rfl) ?_
     | with_reducible refine g_slL (by with_unfolding_all rfl) ?_
     | with_reducible refine g_isN (by with_unfolding_all rfl) ?_
     | with_reducible refine g_notN (by with_unfolding_all rfl) ?_)
  | (with_reducible refine rs_go 5 ?_
     first
     | with_reducible refine a_dget (by with_unfolding_all rfl) ?_
     | with_reducible refine a_dget2 (by with_unfolding_all rfl) ?_
     | with_reducible refine a_fzq (by with_unfolding_all rfl) ?_
     | with_reducible refine a_retC (by with_unfolding_all rfl) ?_
     | with_reducible refine a_isX (by with_unfolding_all rfl) ?_
     | with_reducible refine a_app (by with_unfolding_all rfl) ?_
     | with_reducible refine a_ext (by with_unfolding_all rfl) ?_
     | with_reducible refine a_pop (by with_unfolding_all rfl) ?_
     | with_reducible refine a_fz (by with_unfolding_all rfl) ?_
     | with_reducible refine a_lenDV (by with_unfolding_all rfl) ?_)
  | (with_reducible refine rs_go 6 ?_
     first
     | with_reducible refine a_cl (by with_unfolding_all rfl) ?_
     | with_reducible refine a_dat (by with_unfolding_all rfl) ?_
     | with_reducible refine a_s1 (by with_unfolding_all rfl) ?_
     | with_reducible refine a_dcy (by with_unfolding_all rfl) ?_
     | with_reducible refine a_s2 (by with_unfolding_all rfl) (by with_unfolding_all rfl) ?_
     | with_reducible refine a_s3 (by with_unfolding_all rfl) (by with_unfolding_all rfl) (by with_unfolding_all rfl) ?_
     | with_reducible refine a_owned (by with_unfolding_all rfl) ?_)
  | (with_reducible refine rs_go 7 ?_
     first
     | with_reducible refine i_B (by with_unfolding_all rfl) ?_
     | with_reducible refine i_T (by with_unfolding_all rfl) ?_
     | with_reducible refine i_L (by with_unfolding_all rfl) ?_)
  | (with_reducible refine rs_go 8 ?_
     first
     | with_reducible refine a_nb (by with_unfolding_all rfl) ?_
     | with_reducible refine a_len (by with_unfolding_all rfl) ?_
     | with_reducible refine a_revT (by with_unfolding_all rfl) ?_
     | with_reducible refine a_revL (by with_unfolding_all rfl) ?_)
  | (with_reducible refine rs_go 9 ?_
     first
     | with_reducible refine iteNT (by with_unfolding_all rfl) ?_
     | with_reducible refine iteNF (by with_unfolding_all rfl) ?_
     | with_reducible refine iteIT (by with_unfolding_all rfl) ?_
     | with_reducible refine iteIF (by with_unfolding_all rfl) ?_))
local macro_rules | `(tactic| walk_at "ax") => `(tactic| (repeat (first | walk_at "a1" | with_reducible refine a_if ?_); try dsimp only [List.set_cons_zero, List.set_cons_succ, awipe, aFrz, List.getElem?_cons_zero, List.getElem?_cons_succ]))
local macro_rules | `(tactic| walk_at "ay") => `(tactic| (repeat (walk_at "a1"); try dsimp only [List.set_cons_zero, List.set_cons_succ, awipe, aFrz, List.getElem?_cons_zero, List.getElem?_cons_succ]))
/-- elder_tree, slots web, middles, tree, middle, one, other, mate, road, place -/
def t_elder_tree (K : Fg) (C : Cl) (W0 : WX) : TS :=
  (tSeq (tAsg (tG (sp_middles_of K) E00 (tCons (tVar 0) tNil)) (gName 1)) (tSeq (tIfS (tTest
    (tOp rIsN (tVar 1) (tC .non))) (tRaise (tMkB C.Unfit (sp_bare K)) W0) tNext) (tSeq (tAsg (tLst tNil) (gName 2)) (tSeq (tFor (iSeq K (tVar 1)) (gName 3) (tSeq (tAsg (tLc (iSeq K (tG (sp_roads_at K) E00 (tCons (tVar 0) (tCons
    (tVar 3) tNil)))) (gTup K 2 (gCons (gName 6) (gCons (gName 7) gNil))) tYes (tVar 6) [6, 7]) (gLst K 2 (gCons (gName 4) (gCons (gName 5) gNil)))) (tDrop (tBM K "list" rAppend (tVar 2) (tCons (tTup (tCons (tVar 4) (tCons (tVar 5)
    (tCons (tVar 3) tNil)))) tNil))))) (tRet (tTup (tCons (tCB (rTupOf K) (tCons (tLc (iRng1 (tCons (tOp (rIx K) (tVar 0) (tC (.int 0))) tNil)) (gName 8) (tTest (tOp (rNiU K) (tVar 8) (tVar 1))) (tVar 8) [8]) tNil)) (tCons (tCB
    (rTupOf K) (tCons (tCB (rSortU K 3 64) (tCons (tVar 2) tNil)) tNil)) tNil))))))))
abbrev a_elder_tree_0 (C : Cl) : ASt :=
  (aApp 2 (aTup (aCons (aVar 4) (aCons (aVar 5) (aCons (aVar 3) aNil)))))
abbrev a_elder_tree_1 (C : Cl) : ASt :=
  (aRet (aTup (aCons (aCB gTupOf (bCons (aLc (aRng1 (bCons (aOp gIx (aVar 0) (aC (.int 0))) bNil)) (agName 8) (aB (aOp (gIn true) (aVar 8) (aVar 1))) (aVar 8) [8]) bNil)) (aCons (aCB gTupOf
    (bCons (aCB gSortT (bCons (aVar 2) bNil)) bNil)) aNil))))
abbrev a_elder_tree_2 (C : Cl) : ASt :=
  (aSeq (aFor (aSeqI (aVar 1)) (agName 3) (aSeq (aAsg (aLc (aSeqI (aCall0 m_roads_at (bCons (aVar 0) (bCons (aVar 3) bNil)))) (agTup 2 (agCons (agName 6) (agCons (agName 7) agNil))) aYes
    (aVar 6) [6, 7]) (agLst 2 (agCons (agName 4) (agCons (agName 5) agNil)))) (a_elder_tree_0 C))) (a_elder_tree_1 C))
abbrev a_elder_tree_3 (C : Cl) : ASt :=
  (aSeq (aSet 2 (aLst aNil)) (a_elder_tree_2 C))
abbrev a_elder_tree_4 (C : Cl) : ASt :=
  (aSeq (aIfS (aB (aOp gIsN (aVar 1) (aC .none))) (aRaise C.Unfit) aNext) (a_elder_tree_3 C))
abbrev a_elder_tree (C : Cl) : ASt :=
  (aSeq (aAsg (aCall0 m_middles_of (bCons (aVar 0) bNil)) (agName 1)) (a_elder_tree_4 C))
theorem f_elder_tree {K : Fg} {C : Cl} {E : WX} (T_Unfit : ExT K C.Unfit C.UnevenError) : RSt K E (t_elder_tree K C E) (a_elder_tree C) :=
  (rs_seq (rs_asg (re_call0 br_middles_of (rv_cons re_var rv_nil)) rg_name) (rs_seq (rs_ifs
    (rt_test (re_op ro_isN re_var re_non)) (rs_raise T_Unfit.o) rs_next) (rs_seq (rs_set (re_lst ra_nil)) (rs_seq (rs_for (ri_seq re_var) rg_name (rs_seq (rs_asg (re_lc (ri_seq (re_call0 br_roads_at (rv_cons re_var (rv_cons re_var
    rv_nil)))) (rg_tup (rgs_cons rg_name (rgs_cons rg_name rgs_nil))) rt_yes re_var (by rfl)) (rg_lst (rgs_cons rg_name (rgs_cons rg_name rgs_nil)))) (rs_app (re_tup (ra_cons re_var (ra_cons re_var (ra_cons re_var ra_nil)))))))
    (rs_ret (re_tup (ra_cons (re_cb rb_tupOf (rv_cons (re_lc (ri_rng1 (rv_cons (re_op ro_ix re_var re_int) rv_nil)) rg_name (rt_test (re_op ro_ni re_var re_var)) re_var (by rfl)) rv_nil)) (ra_cons (re_cb rb_tupOf (rv_cons (re_cb
    rb_sortT (rv_cons re_var rv_nil)) rv_nil)) ra_nil))))))))
def m_elder_tree (C : Cl) : AFn := mOf 8 (a_elder_tree C)
def sp_elder_tree (K : Fg) (C : Cl) : Sp := SpA K 1 (m_elder_tree C)
theorem br_elder_tree {K : Fg} {C : Cl} : ∀ vs H Q E, SpA K 1 (m_elder_tree C) vs H Q E → sp_elder_tree K C vs H Q E := fun _ _ _ _ h => h
theorem l_elder_tree {K : Fg} {C : Cl} : ∀ vs H Q E, sp_elder_tree K C vs H Q E → vs.length = 1 := l_spa
theorem p_elder_tree {K : Fg} {C : Cl} (T_Unfit : ExT K C.Unfit C.UnevenError) {vs : List V} {H : Hp} {Q : VK} {E : XK} (h : sp_elder_tree K C vs H Q E) : t_elder_tree K C (fun c d _ H => E c d H) { nx := fun _ H' => Q .non H', rt := Q } (L2.start ["web", "middles", "tree", "middle", "one", "other", "mate", "road", "place"] vs) H :=
  p_spa (f_elder_tree T_Unfit) h rfl
section
variable {x : AXc} {k : Avl → Prop} {n : Int} {rs : List (Int × Int)} {ms : List Int} {C : Cl}
theorem fst_pw {qs : List (Int × Int)} (h : qs.Pairwise fun p q => SrtO.lexB q p = false) : (qs.map (·.1)).Pairwise (· ≤ ·) := by
  rw [List.pairwise_map]
  refine h.imp fun {p q} z => ?_
  refine Classical.byContradiction fun c => ?_
  have : SrtO.lexB q p = true := by
    unfold SrtO.lexB
    rw [if_neg (by omega)]
    exact decide_eq_true (by omega)
  rw [this] at z
  cases z
theorem mates_srt {qs : List (Int × Int)} {p : Int} (p0 : 0 ≤ p) (pm : qs.Perm (rdsN rs p 0)) (pw : qs.Pairwise fun p q => SrtO.lexB q p = false) : qs.map (·.1) = srt (nb rs p.toNat) := by
  refine srt_eq ?_ (fst_pw pw)
  unfold nb nbTo
  rw [List.take_length, show ((p.toNat : Nat) : Int) = p by omega]
  exact pm.map _
theorem s_elder_tree (sh : Shape n rs) (hn : n ≤ 60) (hl : rs.length ≤ 1000) (h1 : ∀ M, mids n rs = some M → k (.d (eldO n rs (some M)))) (h2 : mids n rs = none → x C.Unfit none) : m_elder_tree C [.d (dWeb n rs ms)] x k := by
  have two := sh.two
  show a_elder_tree C _ [.d (dWeb n rs ms), .x, .x, .x, .x, .x, .x, .x, .x]
  walk_at "ax"
  refine s_middles_of sh (by omega) hl ⟨?_, fun z => by cases z⟩
  walk_at "ax"
  rw [mO_none]
  refine s_dec (fun c => ?_) (fun c => ?_)
  · walk_at "ax"
    exact h2 c
  obtain ⟨M, eM⟩ : ∃ M, mids n rs = some M := by
    cases e : mids n rs with
    | none => exact absurd e c
    | some M => exact ⟨M, rfl⟩
  have h1 := h1 M eM
  obtain ⟨okp, ml⟩ := mids_mem eM
  rw [eM]
  walk_at "ax"
  refine a_loop (fun j α => ∃ x3 x4 x5 x6 x7 x8 : Sot, α = [.d (dWeb n rs ms), .d (.list (M.map .int)), .own (((M.take j).map (rowM rs)).map dT), x3, x4, x5, x6, x7, x8]) ?_ ?_ ?_
  · exact ⟨_, _, _, _, _, _, rfl⟩
  · rintro j y α hy ⟨x3, x4, x5, x6, x7, x8, rfl⟩
    obtain ⟨p, hp, rfl⟩ := intd_at hy
    obtain ⟨⟨p0, p1⟩, dp⟩ := okp p (List.mem_of_getElem? hp)
    have lj := (List.getElem?_eq_some_iff.mp hp).1
    walk_at "ax"
    refine s_roads_at hl fun qs pm pw => ⟨?_, fun z => by cases z⟩
    have em := mates_srt p0 pm pw
    have l := rowM_len dp
    have lq : qs.length = 2 := by rw [← List.length_map (f := (·.1)), em, l]
    walk_at "ax"
    refine ⟨by rw [List.length_map]; omega, ?_⟩
    refine a_lcgo (fun i acc => acc = ((qs.map (·.1)).take i).map .int) rfl ?_ ?_
    · rintro i y acc hy rfl
      obtain ⟨q, hq, rfl⟩ := dp_at hy
      walk_at "ax"
      rw [List.take_add_one, List.getElem?_map, hq, List.map_append]
      rfl
    rintro acc rfl -
    rw [List.length_map, ← List.length_map (f := (·.1)), List.take_length, em]
    obtain ⟨a, b, eab⟩ := len_two l
    rw [eab]
    walk_at "ax"
    have er : ((M.take j).map (rowM rs)).map dT ++ [PyData.tuple [.int a, .int b, .int p]] = ((M.take (j + 1)).map (rowM rs)).map dT := by
      have eR : rowM rs p = ((a, b), p) := by
        unfold rowM
        rw [eab]
        rfl
      rw [List.take_add_one, hp, List.map_append, List.map_append]
      show _ = _ ++ [dT (rowM rs p)]
      rw [eR]
      rfl
    simp only [List.map_cons, List.map_nil]
    walk_at "ax"
    refine ⟨by rw [List.length_map, List.length_map, List.length_take]; omega, ?_⟩
    rw [er]
    exact ⟨_, _, _, _, _, _, rfl⟩
  · rintro α ⟨x3, x4, x5, x6, x7, x8, rfl⟩
    rw [List.length_map, List.take_length]
    walk_at "ax"
    refine i_r1 (by omega) ⟨by rw [List.length_map, iota_len]; omega, ?_⟩
    refine a_lcgo (fun j acc => acc = (((iota n.toNat).take j).filter fun p => decide (p ∉ M)).map .int) rfl ?_ ?_
    · rintro j y acc hy rfl
      obtain ⟨rfl, hj⟩ := iota_at' hy
      rw [iota_take hj, List.filter_append, List.map_append]
      walk_at "ax"
      refine g_niI rfl ?_
      walk_at "ax"
      refine s_ndec (fun c => ?_) (fun c => ?_)
      · walk_at "ax"
        rw [List.filter_cons_of_pos (by exact decide_eq_true c)]
        rfl
      · rw [List.filter_cons_of_neg (by show ¬ decide _ = true; rw [decide_eq_false (fun z => z c)]; simp)]
        simp
    rintro acc rfl -
    rw [List.length_map, iota_len, List.take_of_length_le (by rw [iota_len]; exact Nat.le_refl _)]
    walk_at "ax"
    refine ⟨_, M.map (rowM rs), rfl, rfl, by rw [List.length_map]; omega, fun r hr => ?_, fun qs pm pw => ?_⟩
    · obtain ⟨p, hp, rfl⟩ := List.mem_map.mp hr
      obtain ⟨⟨p0, p1⟩, dp⟩ := okp p hp
      exact rowM_inB sh hn p0 p1 dp
    rw [srtT_eq pm pw]
    walk_at "ax"
    exact h1
end
end UW.Un
namespace UW.Un
open PySem PySem.Spec PyProof.Rows L2 UW
/-- one step -/
local macro_rules | `(tactic| walk_at "a1") => `(tactic| first
  | with_reducible refine wk ?_
  | (with_reducible refine rs_go 1 ?_
     first
     | with_reducible refine a_var (by with_unfolding_all rfl) (by with_unfolding_all rfl) ?_
     | with_reducible refine a_gtup (by with_unfolding_all rfl) (by with_unfolding_all rfl) ?_
     | with_reducible refine a_glst (by with_unfolding_all rfl) (by with_unfolding_all rfl) ?_)
  | (with_reducible refine rs_go 2 ?_
     first
     | with_reducible refine g_ixT (by with_unfolding_all rfl) (by first | with_unfolding_all rfl | with_unfolding_all exact at_zero _ _) ?_
     | with_reducible refine g_ixL (by with_unfolding_all rfl) (by first | with_unfolding_all rfl | with_unfolding_all exact at_zero _ _) ?_)
  | (with_reducible refine rs_go 3 ?_
     first
     | with_reducible refine g_lenT (by with_unfolding_all rfl) ?_
     | with_reducible refine g_lenL (by with_unfolding_all rfl) ?_
     | with_reducible refine g_tupL (by with_unfolding_all rfl) ?_
     | with_reducible refine g_tupT (by with_unfolding_all rfl) ?_
     | with_reducible refine g_lstT (by with_unfolding_all rfl) ?_
     | with_reducible refine g_lstL (by with_unfolding_all rfl) ?_)
  | (with_reducible refine rs_go 4 ?_
     first
     | with_reducible refine g_addL (by with_unfolding_all rfl) (by with_unfolding_all rfl) (Nat.le_of_ble_eq_true (by with_unfolding_all rfl)) ?_
     | with_reducible refine g_mulI (by first | exact Or.inl ⟨by decide, by decide⟩ | exact Or.inr ⟨by decide, by decide⟩ | (first | (refine Or.inl ⟨?_, ?_⟩ <;> omega) | (refine Or.inr ⟨?_, ?_⟩ <;> omega))) ?_
     | with_reducible refine g_mod (by first | decide | omega) ?_
     | with_reducible refine g_div (by first | decide | omega) (by first | decide | omega) ?_
     | with_reducible refine g_slT (by with_unfolding_all rfl) ?_
     | with_reducible refine g_slL (by with_unfolding_all rfl) ?_
     | with_reducible refine g_isN (by with_unfolding_all rfl) ?_
     | with_reducible refine g_notN (by with_unfolding_all rfl) ?_)
  | (with_reducible refine rs_go 5 ?_
     first
     | with_reducible refine a_dget (by with_unfolding_all rfl) ?_
     | with_reducible refine a_dget2 (by with_unfolding_all rfl) ?_
     | with_reducible refine a_fzq (by with_unfolding_all rfl) ?_
     | with_reducible refine a_retC (by with_unfolding_all rfl) ?_
     | with_reducible refine a_isX (by with_unfolding_all rfl) ?_
     | with_reducible refine a_app (by with_unfolding_all rfl) ?_
     | with_reducible refine a_ext (by with_unfolding_all rfl) ?_
     | with_reducible refine a_pop (by with_unfolding_all rfl) ?_
     | with_reducible refine a_fz (by with_unfolding_all rfl) ?_
     | with_reducible refine a_lenDV (by with_unfolding_all rfl) ?_)
  | (with_reducible refine rs_go 6 ?_
     first
     | with_reducible refine a_cl (by with_unfolding_all rfl) ?_
     | with_reducible refine a_dat (by with_unfolding_all rfl) ?_
     | with_reducible refine a_s1 (by with_unfolding_all rfl) ?_
     | with_reducible refine a_dcy (by with_unfolding_all rfl) ?_
     | with_reducible refine a_s2 (by with_unfolding_all rfl) (by with_unfolding_all rfl) ?_
     | with_reducible refine a_s3 (by with_unfolding_all rfl) (by with_unfolding_all rfl) (by with_unfolding_all rfl) ?_
     | with_reducible refine a_owned (by with_unfolding_all rfl) ?_)
  | (with_reducible refine rs_go 7 ?_
     first
     | with_reducible refine i_B (by with_unfolding_all rfl) ?_
     | with_reducible refine i_T (by with_unfolding_all rfl) ?_
     | with_reducible refine i_L (by with_unfolding_all rfl) ?_)
  | (with_reducible refine rs_go 8 ?_
     first
     | with_reducible refine a_nb (by with_unfolding_all rfl) ?_
     | with_reducible refine a_len (by with_unfolding_all rfl) ?_
     | with_reducible refine a_revT (by with_unfolding_all rfl) ?_
     | with_reducible refine a_revL (by with_unfolding_all rfl) ?_)
  | (with_reducible refine rs_go 9 ?_
     first
     | with_reducible refine iteNT (by with_unfolding_all rfl) ?_
     | with_reducible refine iteNF (by with_unfolding_all rfl) ?_
     | with_reducible refine iteIT (by with_unfolding_all rfl) ?_
     | with_reducible refine iteIF (by with_unfolding_all rfl) ?_))
local macro_rules | `(tactic| walk_at "ax") => `(tactic| (repeat (first | walk_at "a1" | with_reducible refine a_if ?_); try dsimp only [List.set_cons_zero, List.set_cons_succ, awipe, aFrz, List.getElem?_cons_zero, List.getElem?_cons_succ]))
local macro_rules | `(tactic| walk_at "ay") => `(tactic| (repeat (walk_at "a1"); try dsimp only [List.set_cons_zero, List.set_cons_succ, awipe, aFrz, List.getElem?_cons_zero, List.getElem?_cons_succ]))
def g_kb_elder_tree_web : {α : Type} → List α → List α := fun l => match l with | [a0] => [a0] | l => l
theorem kq_kb_elder_tree_web : ∀ {R : V → Avl → Prop} {vs : List V} {as : List Avl}, Paired R vs as → vs.length = 1 → Paired R (g_kb_elder_tree_web vs) (g_kb_elder_tree_web as) ∧ (g_kb_elder_tree_web vs).length = 1 := by
  intro R vs as r h
  rcases r with _ | ⟨r0, r⟩
  · simp only [List.length_cons, List.length_nil] at h; omega
  rcases r with _ | ⟨rx, r⟩
  · exact ⟨(.cons r0 .nil), rfl⟩
  · simp only [List.length_cons] at h; omega
def g_kb_parted_web_tree_s : {α : Type} → List α → List α := fun l => match l with | [a0, a1] => [a1, a0] | l => l
theorem kq_kb_parted_web_tree_s : ∀ {R : V → Avl → Prop} {vs : List V} {as : List Avl}, Paired R vs as → vs.length = 2 → Paired R (g_kb_parted_web_tree_s vs) (g_kb_parted_web_tree_s as) ∧ (g_kb_parted_web_tree_s vs).length = 2 := by
  intro R vs as r h
  rcases r with _ | ⟨r0, r⟩
  · simp only [List.length_cons, List.length_nil] at h; omega
  rcases r with _ | ⟨r1, r⟩
  · simp only [List.length_cons, List.length_nil] at h; omega
  rcases r with _ | ⟨rx, r⟩
  · exact ⟨(.cons r1 (.cons r0 .nil)), rfl⟩
  · simp only [List.length_cons] at h; omega
/-- _law_shaped, slots urn, s, way, place -/
def t__law_shaped (K : Fg) : TS :=
  (tSeq (tAsg (tG (sp__law_draw K) E00 (tCons (tVar 0) (tCons (tC (.int 5)) tNil))) (gName 2)) (tSeq (tIfS (tTest (tOp (rEqU K) (tVar 2) (tC (.int
    0)))) (tRet (tCB (rTupOf K) (tCons (tLc (iRng1 (tCons (tOp rSubI (tVar 1) (tC (.int 1))) tNil)) (gName 3) tYes (tTup (tCons (tVar 3) (tCons (tOp (rAddU K) (tVar 3) (tC (.int 1))) tNil))) [3]) tNil))) tNext) (tSeq (tIfS (tTest
    (tOp (rEqU K) (tVar 2) (tC (.int 1)))) (tRet (tCB (rTupOf K) (tCons (tLc (iRng2 (tCons (tC (.int 1)) (tCons (tVar 1) tNil))) (gName 3) tYes (tTup (tCons (tC (.int 0)) (tCons (tVar 3) tNil))) [3]) tNil))) tNext) (tRet (tG
    (sp__law_tree K) E00 (tCons (tVar 0) (tCons (tVar 1) tNil)))))))
abbrev a__law_shaped_0 : ASt :=
  (aRet (aCall0 m__law_tree (bCons (aVar 0) (bCons (aVar 1) bNil))))
abbrev a__law_shaped_1 : ASt :=
  (aSeq (aIfS (aB (aOp gEq (aVar 2) (aC (.int 1)))) (aRet (aCB gTupOf (bCons (aLc (aRng2 (bCons (aC (.int 1)) (bCons (aVar 1) bNil))) (agName 3) aYes (aTup (aCons (aC (.int 0)) (aCons (aVar 3)
    aNil))) [3]) bNil))) aNext) a__law_shaped_0)
abbrev a__law_shaped_2 : ASt :=
  (aSeq (aIfS (aB (aOp gEq (aVar 2) (aC (.int 0)))) (aRet (aCB gTupOf (bCons (aLc (aRng1 (bCons (aOp gSub' (aVar 1) (aC (.int 1))) bNil)) (agName 3) aYes (aTup (aCons (aVar 3) (aCons (aOp gAdd (aVar
    3) (aC (.int 1))) aNil))) [3]) bNil))) aNext) a__law_shaped_1)
abbrev a__law_shaped : ASt :=
  (aSeq (aAsg (aCall0 m__law_draw (bCons (aVar 0) (bCons (aC (.int 5)) bNil))) (agName 2)) a__law_shaped_2)
theorem f__law_shaped {K : Fg} {E : WX} : RSt K E (t__law_shaped K) a__law_shaped :=
  (rs_seq (rs_asg (re_call0 br__law_draw (rv_cons re_var (rv_cons re_int rv_nil))) rg_name) (rs_seq (rs_ifs (rt_test (re_op ro_eq re_var re_int))
    (rs_ret (re_cb rb_tupOf (rv_cons (re_lc (ri_rng1 (rv_cons (re_op ro_sub re_var re_int) rv_nil)) rg_name rt_yes (re_tup (ra_cons re_var (ra_cons (re_op ro_add re_var re_int) ra_nil))) (by rfl)) rv_nil))) rs_next) (rs_seq (rs_ifs
    (rt_test (re_op ro_eq re_var re_int)) (rs_ret (re_cb rb_tupOf (rv_cons (re_lc (ri_rng2 (rv_cons re_int (rv_cons re_var rv_nil))) rg_name rt_yes (re_tup (ra_cons re_int (ra_cons re_var ra_nil))) (by rfl)) rv_nil))) rs_next)
    (rs_ret (re_call0 br__law_tree (rv_cons re_var (rv_cons re_var rv_nil)))))))
def m__law_shaped : AFn := mOf 2 a__law_shaped
def sp__law_shaped (K : Fg) : Sp := SpA K 2 m__law_shaped
theorem br__law_shaped {K : Fg} : ∀ vs H Q E, SpA K 2 m__law_shaped vs H Q E → sp__law_shaped K vs H Q E := fun _ _ _ _ h => h
theorem l__law_shaped {K : Fg} : ∀ vs H Q E, sp__law_shaped K vs H Q E → vs.length = 2 := l_spa
theorem p__law_shaped {K : Fg} {vs : List V} {H : Hp} {Q : VK} {E : XK} (h : sp__law_shaped K vs H Q E) : t__law_shaped K { nx := fun _ H' => Q .non H', rt := Q } (L2.start ["urn", "s", "way", "place"] vs) H :=
  p_spa (f__law_shaped) h rfl
/-- _law_is_kept, slots urn, web, spots, rows, names, known, a, b, roads, other, due, kept, told, middle, road, spot -/
def t__law_is_kept (K : Fg) (C : Cl) (W0 : WX) : TS :=
  (tSeq (tAsg (tTup (tCons (tG (sp__law_mixed K) E00
    (tCons (tVar 0) (tCons (tLstRg (tRg1 (tOp (rIx K) (tVar 1) (tC (.int 0))))) tNil))) (tCons tDNewT tNil))) (gTup K 2 (gCons (gName 4) (gCons (gName 5) gNil)))) (tSeq (tFor (iSeq K (tOp (rIx K) (tVar 1) (tC (.int 1)))) (gTup K 2
    (gCons (gName 6) (gCons (gName 7) gNil))) (sDPut (tVar 5) (tTup (tCons (tCB rMin2 (tCons (tOp (rIx K) (tVar 4) (tVar 6)) (tCons (tOp (rIx K) (tVar 4) (tVar 7)) tNil))) (tCons (tCB rMax2 (tCons (tOp (rIx K) (tVar 4) (tVar 6))
    (tCons (tOp (rIx K) (tVar 4) (tVar 7)) tNil))) tNil))) (tOp (rAddU K) (tC (.int 1)) (tG (sp__law_draw K) E00 (tCons (tVar 0) (tCons (tC (.int 9)) tNil)))))) (tSeq (tAsg (tCB (rTupOf K) (tCons (tCB (rSortDT K) (tCons (tVar 5)
    tNil)) tNil)) (gName 8)) (tSeq (tAsg (tTup (tCons (tOp (rIx K) (tVar 1) (tC (.int 0))) (tCons (tVar 8) (tCons (tCB (rTupOf K) (tCons (tLc (iSeq K (tVar 8)) (gName 14) tYes (tDGet (tVar 5) (tVar 14)) [14]) tNil)) tNil)))) (gName
    9)) (tSeq (tAsg (tCB (rSortU K 3 64) (tCons (tLc (iSeq K (tVar 3)) (gTup K 3 (gCons (gName 6) (gCons (gName 7) (gCons (gName 13) gNil)))) tYes (tTup (tCons (tCB rMin2 (tCons (tOp (rIx K) (tVar 4) (tVar 6)) (tCons (tOp (rIx K)
    (tVar 4) (tVar 7)) tNil))) (tCons (tCB rMax2 (tCons (tOp (rIx K) (tVar 4) (tVar 6)) (tCons (tOp (rIx K) (tVar 4) (tVar 7)) tNil))) (tCons (tOp (rIx K) (tVar 4) (tVar 13)) tNil)))) [6, 7, 13]) tNil)) (gName 10)) (tSeq (tAsg (tCB
    (rReprU K) (tCons (tVar 9) tNil)) (gName 11)) (tSeq (tAsg (tKw (sp_elder_tree K C) 1 g_kb_elder_tree_web (WE W0) (tCons (tVar 9) tNil)) (gName 12)) (tRet (tOp (rEqU K) (tCB (rReprU K) (tCons (tLst (tCons (tVar 12) (tCons (tCB
    (rReprU K) (tCons (tVar 9) tNil)) tNil))) tNil)) (tCB (rReprU K) (tCons (tLst (tCons (tTup (tCons (tCB (rTupOf K) (tCons (tCB (rSortedI K) (tCons (tLc (iSeq K (tVar 2)) (gName 15) tYes (tOp (rIx K) (tVar 4) (tVar 15)) [15])
    tNil)) tNil)) (tCons (tCB (rTupOf K) (tCons (tVar 10) tNil)) tNil))) (tCons (tVar 11) tNil))) tNil)))))))))))
abbrev a__law_is_kept_0 (C : Cl) : ASt :=
  (aRet (aOp gEq (aCB gRepr (bCons (aLst (aCons (aVar 12) (aCons (aCB gRepr (bCons (aVar 9) bNil)) aNil))) bNil)) (aCB gRepr (bCons (aLst (aCons (aTup (aCons (aCB gTupOf (bCons (aCB gSortI
    (bCons (aLc (aSeqI (aVar 2)) (agName 15) aYes (aOp gIx (aVar 4) (aVar 15)) [15]) bNil)) bNil)) (aCons (aCB gTupOf (bCons (aVar 10) bNil)) aNil))) (aCons (aVar 11) aNil))) bNil))))
abbrev a__law_is_kept_1 (C : Cl) : ASt :=
  (aSeq (aAsg (aCall (m_elder_tree C) (aKw 1 (fun l => g_kb_elder_tree_web l) (bCons (aVar 9) bNil))) (agName 12)) (a__law_is_kept_0 C))
abbrev a__law_is_kept_2 (C : Cl) : ASt :=
  (aSeq (aAsg (aCB gRepr (bCons (aVar 9) bNil)) (agName 11)) (a__law_is_kept_1 C))
abbrev a__law_is_kept_3 (C : Cl) : ASt :=
  (aSeq (aAsg (aCB gSortT (bCons (aLc (aSeqI (aVar 3)) (agTup 3 (agCons (agName 6) (agCons (agName 7) (agCons (agName 13) agNil)))) aYes (aTup (aCons (aCB gMin2 (bCons (aOp gIx (aVar 4)
    (aVar 6)) (bCons (aOp gIx (aVar 4) (aVar 7)) bNil))) (aCons (aCB gMax2 (bCons (aOp gIx (aVar 4) (aVar 6)) (bCons (aOp gIx (aVar 4) (aVar 7)) bNil))) (aCons (aOp gIx (aVar 4) (aVar 13)) aNil)))) [6, 7, 13]) bNil)) (agName 10))
    (a__law_is_kept_2 C))
abbrev a__law_is_kept_4 (C : Cl) : ASt :=
  (aSeq (aAsg (aTup (aCons (aOp gIx (aVar 1) (aC (.int 0))) (aCons (aVar 8) (aCons (aCB gTupOf (bCons (aLc (aSeqI (aVar 8)) (agName 14) aYes (aDGet 5 (aVar 14)) [14]) bNil)) aNil))))
    (agName 9)) (a__law_is_kept_3 C))
abbrev a__law_is_kept_5 (C : Cl) : ASt :=
  (aSeq (aAsg (aCB gTupOf (bCons (aSrtKeys 5) bNil)) (agName 8)) (a__law_is_kept_4 C))
abbrev a__law_is_kept_6 (C : Cl) : ASt :=
  (aSeq (aFor (aSeqI (aOp gIx (aVar 1) (aC (.int 1)))) (agTup 2 (agCons (agName 6) (agCons (agName 7) agNil))) (aDPut 5 (aTup (aCons (aCB gMin2 (bCons (aOp gIx (aVar 4) (aVar 6)) (bCons
    (aOp gIx (aVar 4) (aVar 7)) bNil))) (aCons (aCB gMax2 (bCons (aOp gIx (aVar 4) (aVar 6)) (bCons (aOp gIx (aVar 4) (aVar 7)) bNil))) aNil))) (aOp gAdd (aC (.int 1)) (aCall0 m__law_draw (bCons (aVar 0) (bCons (aC (.int 9))
    bNil)))))) (a__law_is_kept_5 C))
abbrev a__law_is_kept (C : Cl) : ASt :=
  (aSeq (aSet2 4 5 (aCall0 m__law_mixed (bCons (aVar 0) (bCons (aLstRg (aOp gIx (aVar 1) (aC (.int 0)))) bNil))) aDNewT) (a__law_is_kept_6 C))
theorem f__law_is_kept {K : Fg} {C : Cl} {E : WX} : RSt K E (t__law_is_kept K C E) (a__law_is_kept C) :=
  (rs_seq (rs_setT2 (re_call0 br__law_mixed (rv_cons re_var (rv_cons (re_lstRg (re_op ro_ix re_var re_int)) rv_nil)))
    re_dnewT) (rs_seq (rs_for (ri_seq (re_op ro_ix re_var re_int)) (rg_tup (rgs_cons rg_name (rgs_cons rg_name rgs_nil))) (rs_dput (re_tup (ra_cons (re_cb rb_min2 (rv_cons (re_op ro_ix re_var re_var) (rv_cons (re_op ro_ix re_var
    re_var) rv_nil))) (ra_cons (re_cb rb_max2 (rv_cons (re_op ro_ix re_var re_var) (rv_cons (re_op ro_ix re_var re_var) rv_nil))) ra_nil))) (re_op ro_add re_int (re_call0 br__law_draw (rv_cons re_var (rv_cons re_int rv_nil))))))
    (rs_seq (rs_asg (re_cb rb_tupOf (rv_cons re_srtKeys rv_nil)) rg_name) (rs_seq (rs_asg (re_tup (ra_cons (re_op ro_ix re_var re_int) (ra_cons re_var (ra_cons (re_cb rb_tupOf (rv_cons (re_lc (ri_seq re_var) rg_name rt_yes (re_dget
    re_var) (by rfl)) rv_nil)) ra_nil)))) rg_name) (rs_seq (rs_asg (re_cb rb_sortT (rv_cons (re_lc (ri_seq re_var) (rg_tup (rgs_cons rg_name (rgs_cons rg_name (rgs_cons rg_name rgs_nil)))) rt_yes (re_tup (ra_cons (re_cb rb_min2
    (rv_cons (re_op ro_ix re_var re_var) (rv_cons (re_op ro_ix re_var re_var) rv_nil))) (ra_cons (re_cb rb_max2 (rv_cons (re_op ro_ix re_var re_var) (rv_cons (re_op ro_ix re_var re_var) rv_nil))) (ra_cons (re_op ro_ix re_var
    re_var) ra_nil)))) (by rfl)) rv_nil)) rg_name) (rs_seq (rs_asg (re_cb rb_repr (rv_cons re_var rv_nil)) rg_name) (rs_seq (rs_asg (re_kw br_elder_tree (fun _ _ _ _ h => h) kq_kb_elder_tree_web (rv_cons re_var rv_nil)) rg_name)
    (rs_ret (re_op ro_eq (re_cb rb_repr (rv_cons (re_lst (ra_cons re_var (ra_cons (re_cb rb_repr (rv_cons re_var rv_nil)) ra_nil))) rv_nil)) (re_cb rb_repr (rv_cons (re_lst (ra_cons (re_tup (ra_cons (re_cb rb_tupOf (rv_cons (re_cb
    rb_sortI (rv_cons (re_lc (ri_seq re_var) rg_name rt_yes (re_op ro_ix re_var re_var) (by rfl)) rv_nil)) rv_nil)) (ra_cons (re_cb rb_tupOf (rv_cons re_var rv_nil)) ra_nil))) (ra_cons re_var ra_nil))) rv_nil)))))))))))
def m__law_is_kept (C : Cl) : AFn := mOf 12 (a__law_is_kept C)
def sp__law_is_kept (K : Fg) (C : Cl) : Sp := SpA K 4 (m__law_is_kept C)
theorem br__law_is_kept {K : Fg} {C : Cl} : ∀ vs H Q E, SpA K 4 (m__law_is_kept C) vs H Q E → sp__law_is_kept K C vs H Q E := fun _ _ _ _ h => h
theorem l__law_is_kept {K : Fg} {C : Cl} : ∀ vs H Q E, sp__law_is_kept K C vs H Q E → vs.length = 4 := l_spa
theorem p__law_is_kept {K : Fg} {C : Cl} {vs : List V} {H : Hp} {Q : VK} {E : XK} (h : sp__law_is_kept K C vs H Q E) : t__law_is_kept K C (fun c d _ H => E c d H) { nx := fun _ H' => Q .non H', rt := Q } (L2.start ["urn", "web", "spots", "rows", "names", "known", "a", "b", "roads", "other", "due", "kept", "told", "middle", "road", "spot"] vs) H :=
  p_spa (f__law_is_kept) h rfl
/-- law, slots script, urn, turn, s, tree, web, rows, before, told, j, a, b -/
def t_law (K : Fg) (C : Cl) (W0 : WX) : TS :=
  (tSeq (tAsg (tG (sp__law_urn K) E00 (tCons (tVar 0) tNil)) (gName 1)) (tSeq (tFor (iRng1 (tCons (tC
    (.int 4)) tNil)) (gName 2) (tSeq (tAsg (tOp (rAddU K) (tOp (rIx K) (tLst (tCons (tC (.int 3)) (tCons (tC (.int 3)) (tCons (tC (.int 6)) (tCons (tC (.int 12)) tNil))))) (tVar 2)) (tIf (tTest (tOp (rInU K) (tVar 2) (tTup (tCons
    (tC (.int 0)) (tCons (tC (.int 3)) tNil))))) (tC (.int 0)) (tG (sp__law_draw K) E00 (tCons (tVar 1) (tCons (tOp (rIx K) (tLst (tCons (tC (.int 1)) (tCons (tC (.int 5)) (tCons (tC (.int 6)) (tCons (tC (.int 1)) tNil))))) (tVar
    2)) tNil))))) (gName 3)) (tSeq (tAsg (tG (sp__law_shaped K) E00 (tCons (tVar 1) (tCons (tVar 3) tNil))) (gName 4)) (tSeq (tPar3 5 6 7 (tCons (tG (sp__law_parted K) E00 (tCons (tVar 3) (tCons (tVar 4) tNil))) (tCons (tLc (iEnumV
    K (tCons (tVar 4) tNil)) (gTup K 2 (gCons (gName 9) (gCons (gTup K 2 (gCons (gName 10) (gCons (gName 11) gNil))) gNil))) tYes (tTup (tCons (tVar 10) (tCons (tVar 11) (tCons (tOp (rAddU K) (tVar 3) (tVar 9)) tNil)))) [9, 10,
    11]) (tCons (tCB (rReprU K) (tCons (tVar 4) tNil)) tNil)))) (tSeq (tAsg (tIf (tTest (tOp (rEqU K) (tVar 2) (tC (.int 1)))) (tKw (sp_parted_web K C) 2 g_kb_parted_web_tree_s (WE W0) (tCons (tVar 4) (tCons (tVar 3) tNil))) (tG
    (sp_parted_web K C) (WE W0) (tCons (tVar 3) (tCons (tVar 4) tNil)))) (gName 8)) (tSeq (tIfS (tTest (tOp (rNeU K) (tCB (rReprU K) (tCons (tLst (tCons (tVar 8) (tCons (tCB (rReprU K) (tCons (tVar 4) tNil)) tNil))) tNil)) (tCB
    (rReprU K) (tCons (tLst (tCons (tVar 5) (tCons (tVar 7) tNil))) tNil)))) (tRet (tC (.bl false))) tNext) (tSeq (tIfS (tTest (tOp (rNeU K) (tCB (rReprU K) (tCons (tG (sp_elder_tree K C) (WE W0) (tCons (tVar 8) tNil)) tNil)) (tCB
    (rReprU K) (tCons (tTup (tCons (tTupRg (tRg1 (tVar 3))) (tCons (tCB (rTupOf K) (tCons (tVar 6) tNil)) tNil))) tNil)))) (tRet (tC (.bl false))) tNext) (tIfS (tNot (tB (tG (sp__law_is_kept K C) (WE W0) (tCons (tVar 1) (tCons
    (tVar 5) (tCons (tLstRg (tRg1 (tVar 3))) (tCons (tVar 6) tNil))))))) (tRet (tC (.bl false))) tNext)))))))) (tRet (tC (.bl true)))))
abbrev a_law_0 (C : Cl) : ASt :=
  (aIfS (aNot (aB (aCall (m__law_is_kept C) (bCons (aVar 1) (bCons (aVar 5) (bCons (aLstRg (aVar 3)) (bCons (aVar 6) bNil))))))) (aRet (aC (.bool false))) aNext)
abbrev a_law_1 (C : Cl) : ASt :=
  (aSeq (aIfS (aB (aOp gNe (aCB gRepr (bCons (aCall (m_elder_tree C) (bCons (aVar 8) bNil)) bNil)) (aCB gRepr (bCons (aTup (aCons (aTupRg (aVar 3)) (aCons (aCB gTupOf (bCons (aVar 6) bNil)) aNil)))
    bNil)))) (aRet (aC (.bool false))) aNext) (a_law_0 C))
abbrev a_law_2 (C : Cl) : ASt :=
  (aSeq (aIfS (aB (aOp gNe (aCB gRepr (bCons (aLst (aCons (aVar 8) (aCons (aCB gRepr (bCons (aVar 4) bNil)) aNil))) bNil)) (aCB gRepr (bCons (aLst (aCons (aVar 5) (aCons (aVar 7) aNil))) bNil))))
    (aRet (aC (.bool false))) aNext) (a_law_1 C))
abbrev a_law_3 (C : Cl) : ASt :=
  (aSeq (aAsg (aIf (aB (aOp gEq (aVar 2) (aC (.int 1)))) (aCall (m_parted_web C) (aKw 2 (fun l => g_kb_parted_web_tree_s l) (bCons (aVar 4) (bCons (aVar 3) bNil)))) (aCall (m_parted_web C) (bCons
    (aVar 3) (bCons (aVar 4) bNil)))) (agName 8)) (a_law_2 C))
abbrev a_law_4 (C : Cl) : ASt :=
  (aSeq (aSet3 5 6 7 (aCall0 m__law_parted (bCons (aVar 3) (bCons (aVar 4) bNil))) (aLc (aEnum (bCons (aVar 4) bNil)) (agTup 2 (agCons (agName 9) (agCons (agTup 2 (agCons (agName 10) (agCons (agName
    11) agNil))) agNil))) aYes (aTup (aCons (aVar 10) (aCons (aVar 11) (aCons (aOp gAdd (aVar 3) (aVar 9)) aNil)))) [9, 10, 11]) (aCB gRepr (bCons (aVar 4) bNil))) (a_law_3 C))
abbrev a_law_5 (C : Cl) : ASt :=
  (aSeq (aAsg (aCall0 m__law_shaped (bCons (aVar 1) (bCons (aVar 3) bNil))) (agName 4)) (a_law_4 C))
abbrev a_law (C : Cl) : ASt :=
  (aSeq (aFor (aRng1 (bCons (aC (.int 4)) bNil)) (agName 2) (aSeq (aAsg (aOp gAdd (aOp gIx (aLst (aCons (aC (.int 3)) (aCons (aC (.int 3)) (aCons (aC (.int 6)) (aCons (aC (.int 12)) aNil))))) (aVar
    2)) (aIf (aB (aOp (gIn false) (aVar 2) (aTup (aCons (aC (.int 0)) (aCons (aC (.int 3)) aNil))))) (aC (.int 0)) (aCall0 m__law_draw (bCons (aVar 1) (bCons (aOp gIx (aLst (aCons (aC (.int 1)) (aCons (aC (.int 5)) (aCons (aC (.int
    6)) (aCons (aC (.int 1)) aNil))))) (aVar 2)) bNil))))) (agName 3)) (a_law_5 C))) (aRet (aC (.bool true))))
def u_law (K : Fg) (C : Cl) (W0 : WX) : TS :=
  (tSeq (tFor (iRng1 (tCons (tC (.int 4)) tNil)) (gName 2) (tSeq (tAsg (tOp (rAddU K) (tOp (rIx K) (tLst (tCons (tC (.int 3)) (tCons (tC (.int 3)) (tCons (tC (.int 6)) (tCons (tC (.int
    12)) tNil))))) (tVar 2)) (tIf (tTest (tOp (rInU K) (tVar 2) (tTup (tCons (tC (.int 0)) (tCons (tC (.int 3)) tNil))))) (tC (.int 0)) (tG (sp__law_draw K) E00 (tCons (tVar 1) (tCons (tOp (rIx K) (tLst (tCons (tC (.int 1)) (tCons
    (tC (.int 5)) (tCons (tC (.int 6)) (tCons (tC (.int 1)) tNil))))) (tVar 2)) tNil))))) (gName 3)) (tSeq (tAsg (tG (sp__law_shaped K) E00 (tCons (tVar 1) (tCons (tVar 3) tNil))) (gName 4)) (tSeq (tPar3 5 6 7 (tCons (tG
    (sp__law_parted K) E00 (tCons (tVar 3) (tCons (tVar 4) tNil))) (tCons (tLc (iEnumV K (tCons (tVar 4) tNil)) (gTup K 2 (gCons (gName 9) (gCons (gTup K 2 (gCons (gName 10) (gCons (gName 11) gNil))) gNil))) tYes (tTup (tCons (tVar
    10) (tCons (tVar 11) (tCons (tOp (rAddU K) (tVar 3) (tVar 9)) tNil)))) [9, 10, 11]) (tCons (tCB (rReprU K) (tCons (tVar 4) tNil)) tNil)))) (tSeq (tAsg (tIf (tTest (tOp (rEqU K) (tVar 2) (tC (.int 1)))) (tKw (sp_parted_web K C)
    2 g_kb_parted_web_tree_s (WE W0) (tCons (tVar 4) (tCons (tVar 3) tNil))) (tG (sp_parted_web K C) (WE W0) (tCons (tVar 3) (tCons (tVar 4) tNil)))) (gName 8)) (tSeq (tIfS (tTest (tOp (rNeU K) (tCB (rReprU K) (tCons (tLst (tCons
    (tVar 8) (tCons (tCB (rReprU K) (tCons (tVar 4) tNil)) tNil))) tNil)) (tCB (rReprU K) (tCons (tLst (tCons (tVar 5) (tCons (tVar 7) tNil))) tNil)))) (tRet (tC (.bl false))) tNext) (tSeq (tIfS (tTest (tOp (rNeU K) (tCB (rReprU K)
    (tCons (tG (sp_elder_tree K C) (WE W0) (tCons (tVar 8) tNil)) tNil)) (tCB (rReprU K) (tCons (tTup (tCons (tTupRg (tRg1 (tVar 3))) (tCons (tCB (rTupOf K) (tCons (tVar 6) tNil)) tNil))) tNil)))) (tRet (tC (.bl false))) tNext)
    (tIfS (tNot (tB (tG (sp__law_is_kept K C) (WE W0) (tCons (tVar 1) (tCons (tVar 5) (tCons (tLstRg (tRg1 (tVar 3))) (tCons (tVar 6) tNil))))))) (tRet (tC (.bl false))) tNext)))))))) (tRet (tC (.bl true))))
theorem f_law {K : Fg} {C : Cl} {E : WX} : RSt K E (u_law K C E) (a_law C) :=
  (rs_seq (rs_for (ri_rng1 (rv_cons re_int rv_nil)) rg_name (rs_seq (rs_asg (re_op ro_add (re_op ro_ix (re_lst (ra_cons re_int (ra_cons re_int (ra_cons
    re_int (ra_cons re_int ra_nil))))) re_var) (re_if (rt_test (re_op ro_in re_var (re_tup (ra_cons re_int (ra_cons re_int ra_nil))))) re_int (re_call0 br__law_draw (rv_cons re_var (rv_cons (re_op ro_ix (re_lst (ra_cons re_int
    (ra_cons re_int (ra_cons re_int (ra_cons re_int ra_nil))))) re_var) rv_nil))))) rg_name) (rs_seq (rs_asg (re_call0 br__law_shaped (rv_cons re_var (rv_cons re_var rv_nil))) rg_name) (rs_seq (rs_set3 (re_call0 br__law_parted
    (rv_cons re_var (rv_cons re_var rv_nil))) (re_lc (ri_enum (rv_cons re_var rv_nil)) (rg_tup (rgs_cons rg_name (rgs_cons (rg_tup (rgs_cons rg_name (rgs_cons rg_name rgs_nil))) rgs_nil))) rt_yes (re_tup (ra_cons re_var (ra_cons
    re_var (ra_cons (re_op ro_add re_var re_var) ra_nil)))) (by rfl)) (re_cb rb_repr (rv_cons re_var rv_nil))) (rs_seq (rs_asg (re_if (rt_test (re_op ro_eq re_var re_int)) (re_kw br_parted_web (fun _ _ _ _ h => h)
    kq_kb_parted_web_tree_s (rv_cons re_var (rv_cons re_var rv_nil))) (re_call br_parted_web (fun _ _ _ _ h => h) (rv_cons re_var (rv_cons re_var rv_nil)))) rg_name) (rs_seq (rs_ifs (rt_test (re_op ro_ne (re_cb rb_repr (rv_cons
    (re_lst (ra_cons re_var (ra_cons (re_cb rb_repr (rv_cons re_var rv_nil)) ra_nil))) rv_nil)) (re_cb rb_repr (rv_cons (re_lst (ra_cons re_var (ra_cons re_var ra_nil))) rv_nil)))) (rs_ret re_bl) rs_next) (rs_seq (rs_ifs (rt_test
    (re_op ro_ne (re_cb rb_repr (rv_cons (re_call br_elder_tree (fun _ _ _ _ h => h) (rv_cons re_var rv_nil)) rv_nil)) (re_cb rb_repr (rv_cons (re_tup (ra_cons (re_tupRg re_var) (ra_cons (re_cb rb_tupOf (rv_cons re_var rv_nil))
    ra_nil))) rv_nil)))) (rs_ret re_bl) rs_next) (rs_ifs (rt_not (rt_b (re_call br__law_is_kept (fun _ _ _ _ h => h) (rv_cons re_var (rv_cons re_var (rv_cons (re_lstRg re_var) (rv_cons re_var rv_nil))))))) (rs_ret re_bl)
    rs_next)))))))) (rs_ret re_bl))
section
variable {x : AXc} {k : Avl → Prop} {n s : Int} {rs : List (Int × Int)} {ms : List Int} {C : Cl}
theorem asc_or {rs : List (Int × Int)} (up : rs.Pairwise (fun p q => SrtO.lexB p q = true)) : ∀ j, 1 ≤ j → j < rs.length → orAt rs j = true := fun j j1 hj' => by
  have e1 : rs[j - 1]? = some (rs[j - 1]'(by omega)) := List.getElem?_eq_getElem _
  have e2 : rs[j]? = some rs[j] := List.getElem?_eq_getElem _
  have lt := List.pairwise_iff_getElem.mp up (j - 1) j (by omega) hj' (by omega)
  unfold orAt
  rw [e1, e2]
  show ltP _ _ = true
  unfold ltP
  unfold SrtO.lexB at lt
  simp only [HT.lexLt]
  split at lt
  · rename_i z
    rw [if_pos z]
    split <;> simp_all
  · rename_i z
    rw [if_neg z]
    exact lt
theorem tree_of (sh : Shape s rs) (h3 : 3 ≤ s) (h12 : s ≤ 12) (l : (rs.length : Int) = s - 1) (up : rs.Pairwise (fun p q => SrtO.lexB p q = true)) : treeOk s rs :=
  ⟨h3, h12, l, sh.ok, asc_or up, fun i i0 i1 => conn_rch sh (by omega) (by omega) i0 i1⟩
/-- what a drawn tree is -/
def Tre (s : Int) (rs : List (Int × Int)) : Prop := Shape s rs ∧ 3 ≤ s ∧ s ≤ 12 ∧ (rs.length : Int) = s - 1 ∧ rs.Pairwise (fun p q => SrtO.lexB p q = true)
theorem tree_path (h3 : 3 ≤ s) (h12 : s ≤ 12) : Tre s (pathR s) := by
  refine ⟨Shape.path (by omega), h3, h12, by rw [pathR_len]; omega, ?_⟩
  unfold pathR
  rw [List.pairwise_map]
  refine List.pairwise_lt_range.imp fun {a b} h => ?_
  unfold SrtO.lexB
  rw [if_neg (by show ¬ (a : Int) = (b : Int); omega)]
  exact decide_eq_true (by show (a : Int) < (b : Int); omega)
def starR (s : Int) : List (Int × Int) := (List.range (s - 1).toNat).map fun (k : Nat) => ((0 : Int), 1 + (k : Int))
theorem tree_star (h3 : 3 ≤ s) (h12 : s ≤ 12) : Tre s (starR s) := by
  have mem : ∀ {p : Int × Int}, p ∈ starR s ↔ p.1 = 0 ∧ 1 ≤ p.2 ∧ p.2 < s := fun {p} => by
    unfold starR
    rw [List.mem_map]
    constructor
    · rintro ⟨k, hk, rfl⟩
      have := List.mem_range.mp hk
      refine ⟨rfl, ?_, ?_⟩
      · show (1 : Int) ≤ 1 + k; omega
      · show (1 : Int) + k < s; omega
    · rintro ⟨a, b, c⟩
      refine ⟨(p.2 - 1).toNat, List.mem_range.mpr (by omega), ?_⟩
      rw [show (1 : Int) + ((p.2 - 1).toNat : Int) = p.2 by omega, ← a]
  refine ⟨⟨by omega, ?_, fun p hp => by have := mem.mp hp; omega, fun S s0 hs i i0 i1 => ?_⟩, h3, h12, by unfold starR; rw [List.length_map, List.length_range]; omega, ?_⟩
  · exact nodup_map_range _ _ fun i j hi hj e => by have := congrArg Prod.snd e; simp at this; omega
  · by_cases c : i = 0
    · rw [c]; exact s0
    · exact (hs (0, i) (mem.mpr ⟨rfl, by show (1 : Int) ≤ i; omega, i1⟩)).mp s0
  · unfold starR
    rw [List.pairwise_map]
    refine List.pairwise_lt_range.imp fun {a b} h => ?_
    unfold SrtO.lexB
    rw [if_pos rfl]
    exact decide_eq_true (by show (1 : Int) + (a : Int) < 1 + (b : Int); omega)
theorem s__law_tree2 (h3 : 3 ≤ s) (h12 : s ≤ 12) (h : ∀ rs : List (Int × Int), Tre s rs → k (.d (dPs rs))) : m__law_tree [.wl 1, .d (.int s)] x k := by
  show a__law_tree _ [.wl 1, .d (.int s), .x, .x, .x, .x]
  walk_at "ax"
  refine ⟨by omega, by omega, ?_⟩
  walk_at "ax"
  refine s__law_mixed rfl (by rw [List.length_map, iota_len]; omega) (pln_map pln_int) fun es pm => ⟨?_, fun z => by cases z⟩
  obtain ⟨ns, pn, rfl⟩ := perm_unmap pm rfl
  have N : Names s ns := Names.of (by omega) pn
  have nl := N.len
  have at' : ∀ {i : Int}, 0 ≤ i → i < s → atI (ns.map PyData.int) i = some (.int (nm ns i)) := fun i0 i1 => atI_toNat i0 (by rw [List.getElem?_map, nm_get i0 (by omega)]; rfl)
  walk_at "ax"
  refine i_r2 (by omega) ⟨by rw [List.length_map, rgI_len]; omega, ?_⟩
  refine a_lcgo (fun i acc => ∃ bs : List (Int × Int), acc = (bs.map fun p => (nm ns p.1, nm ns p.2)).map dP ∧ bs.length = i ∧ TreeB (i : Int) bs) ⟨[], rfl, rfl, TreeB.nil⟩ ?_ ?_
  · rintro i y acc hy ⟨bs, rfl, hl, hb⟩
    obtain ⟨hi, rfl⟩ := rgI_at hy
    walk_at "ax"
    refine ⟨_, rfl, by omega, by omega, fun r r0 r1 => ⟨?_, fun z => by cases z⟩⟩
    walk_at "ax"
    refine g_ixL rfl (at' (i := r) r0 (by omega)) ?_
    walk_at "ax"
    refine g_ixL rfl (at' (i := 1 + (i : Int)) (by omega) (by omega)) ?_
    walk_at "ax"
    refine ⟨bs ++ [(r, (i : Int) + 1)], ?_, by rw [List.length_append, hl]; rfl, ?_⟩
    · rw [List.map_append, List.map_append, show (i : Int) + 1 = 1 + i by omega]; rfl
    · have := hb.step (r := r) r0 (by omega)
      rw [show ((i + 1 : Nat) : Int) = (i : Int) + 1 by omega]
      exact this
  rintro acc ⟨bs, rfl, hl, hb⟩ -
  rw [List.length_map, rgI_len] at hl hb
  have shB : Shape s bs := by
    have := hb.shape (by omega)
    rw [show (((s - 1).toNat : Nat) : Int) + 1 = s by omega] at this
    exact this
  walk_at "ax"
  refine ⟨by rw [List.length_map, List.length_map]; omega, ?_⟩
  refine a_lcgo (fun i acc => acc = ((bs.take i).map (reP ns)).map dP) rfl ?_ ?_
  · rintro i y acc hy rfl
    obtain ⟨q, hq, rfl⟩ := dp_at hy
    rw [List.getElem?_map] at hq
    obtain ⟨b, hb', rfl⟩ : ∃ b, bs[i]? = some b ∧ q = (nm ns b.1, nm ns b.2) := by
      cases e : bs[i]? with
      | none => rw [e] at hq; cases hq
      | some b => rw [e] at hq; exact ⟨b, rfl, (Option.some.inj hq).symm⟩
    walk_at "ax"
    refine ⟨_, [nm ns b.1, nm ns b.2], rfl, .inl rfl, by simp, fun m hm hx => ?_⟩
    walk_at "ax"
    refine ⟨_, [nm ns b.1, nm ns b.2], rfl, .inl rfl, by simp, fun m' hm' hx' => ?_⟩
    walk_at "ax"
    rw [List.take_add_one, hb', List.map_append, List.map_append]
    have e : (m, m') = reP ns b := by
      have a1 := hx (nm ns b.1) (by simp)
      have a2 := hx (nm ns b.2) (by simp)
      have b1 := hx' (nm ns b.1) (by simp)
      have b2 := hx' (nm ns b.2) (by simp)
      simp only [List.mem_cons, List.not_mem_nil, or_false] at hm hm'
      unfold reP
      refine Prod.ext ?_ ?_
      · show m = if nm ns b.2 < nm ns b.1 then nm ns b.2 else nm ns b.1
        split <;> omega
      · show m' = if nm ns b.2 > nm ns b.1 then nm ns b.2 else nm ns b.1
        split <;> omega
    show _ ++ [dP (m, m')] = _ ++ [dP (reP ns b)]
    rw [e]
  rintro acc rfl -
  rw [List.length_map, List.length_map, List.take_length]
  walk_at "ax"
  refine ⟨_, bs.map (reP ns), rfl, .inr rfl, fun us pm sr => ?_⟩
  have shU : Shape s us := (shB.names N).perm pm
  walk_at "ax"
  exact h us ⟨shU, h3, h12, by rw [pm.length_eq, List.length_map]; omega, strict sr shU.nd⟩
theorem s__law_shaped (h3 : 3 ≤ s) (h12 : s ≤ 12) (h : ∀ rs : List (Int × Int), Tre s rs → k (.d (dPs rs))) : m__law_shaped [.wl 1, .d (.int s)] x k := by
  show a__law_shaped _ [.wl 1, .d (.int s), .x, .x]
  walk_at "ax"
  refine ⟨_, rfl, by decide, by decide, fun r r0 r1 => ⟨?_, fun z => by cases z⟩⟩
  walk_at "ax"
  refine s_dec (fun c => ?_) (fun c => ?_)
  · walk_at "ax"
    refine i_r1 (by omega) ⟨by rw [List.length_map, iota_len]; omega, ?_⟩
    refine a_lcgo (fun i acc => acc = ((pathR s).take i).map dP) rfl ?_ ?_
    · rintro i y acc hy rfl
      obtain ⟨rfl, hi⟩ := iota_at' hy
      walk_at "ax"
      have : (pathR s)[i]? = some ((i : Int), (i : Int) + 1) := by
        unfold pathR
        rw [List.getElem?_map, List.getElem?_range hi]
        rfl
      rw [List.take_add_one, this, List.map_append]
      rfl
    rintro acc rfl -
    rw [List.length_map, iota_len, ← pathR_len, List.take_length]
    walk_at "ax"
    exact h _ (tree_path h3 h12)
  walk_at "ax"
  refine s_dec (fun c => ?_) (fun c => ?_)
  · walk_at "ax"
    refine i_r2 (by omega) ⟨by rw [List.length_map, rgI_len]; omega, ?_⟩
    refine a_lcgo (fun i acc => acc = ((starR s).take i).map dP) rfl ?_ ?_
    · rintro i y acc hy rfl
      obtain ⟨hi, rfl⟩ := rgI_at hy
      walk_at "ax"
      have : (starR s)[i]? = some ((0 : Int), 1 + (i : Int)) := by
        unfold starR
        rw [List.getElem?_map, List.getElem?_range hi]
        rfl
      rw [List.take_add_one, this, List.map_append]
      rfl
    rintro acc rfl -
    rw [List.length_map, rgI_len, show (s - 1).toNat = (starR s).length by unfold starR; rw [List.length_map, List.length_range], List.take_length]
    walk_at "ax"
    exact h _ (tree_star h3 h12)
  walk_at "ax"
  exact s__law_tree2 h3 h12 fun rs t => ⟨h rs t, fun z => by cases z⟩
end
end UW.Un
namespace UW.Un
open PySem PySem.Spec PyProof.Rows L2 UW
/-- one step -/
local macro_rules | `(tactic| walk_at "a1") => `(tactic| first
  | with_reducible refine wk ?_
  | (with_reducible refine rs_go 1 ?_
     first
     | with_reducible refine a_var (by with_unfolding_all rfl) (by with_unfolding_all rfl) ?_
     | with_reducible refine a_gtup (by with_unfolding_all rfl) (by with_unfolding_all rfl) ?_
     | with_reducible refine a_glst (by with_unfolding_all rfl) (by with_unfolding_all rfl) ?_)
  | (with_reducible refine rs_go 2 ?_
     first
     | with_reducible refine g_ixT (by with_unfolding_all rfl) (by first | with_unfolding_all rfl | with_unfolding_all exact at_zero _ _) ?_
     | with_reducible refine g_ixL (by with_unfolding_all rfl) (by first | with_unfolding_all rfl | with_unfolding_all exact at_zero _ _) ?_)
  | (with_reducible refine rs_go 3 ?_
     first
     | with_reducible refine g_lenT (by with_unfolding_all rfl) ?_
     | with_reducible refine g_lenL (by with_unfolding_all rfl) ?_
     | with_reducible refine g_tupL (by with_unfolding_all rfl) ?_
     | with_reducible refine g_tupT (by with_unfolding_all rfl) ?_
     | with_reducible refine g_lstT (by with_unfolding_all rfl) ?_
     | with_reducible refine g_lstL (by with_unfolding_all rfl) ?_)
  | (with_reducible refine rs_go 4 ?_
     first
     | with_reducible refine g_addL (by with_unfolding_all rfl) (by with_unfolding_all rfl) (Nat.le_of_ble_eq_true (by with_unfolding_all rfl)) ?_
     | with_reducible refine g_mulI (by first | exact Or.inl ⟨by decide, by decide⟩ | exact Or.inr ⟨by decide, by decide⟩ | (first | (refine Or.inl ⟨?_, ?_⟩ <;> omega) | (refine Or.inr ⟨?_, ?_⟩ <;> omega))) ?_
     | with_reducible refine g_mod (by first | decide | omega) ?_
     | with_reducible refine g_div (by first | decide | omega) (by first | decide | omega) ?_
     | with_reducible refine g_slT (by with_unfolding_all rfl) ?_
     | with_reducible refine g_slL (by with_unfolding_all rfl) ?_
     | with_reducible refine g_isN (by with_unfolding_all rfl) ?_
     | with_reducible refine g_notN (by with_unfolding_all rfl) ?_)
  | (with_reducible refine rs_go 5 ?_
     first
     | with_reducible refine a_dget (by with_unfolding_all rfl) ?_
     | with_reducible refine a_dget2 (by with_unfolding_all rfl) ?_
     | with_reducible refine a_fzq (by with_unfolding_all rfl) ?_
     | with_reducible refine a_retC (by with_unfolding_all rfl) ?_
     | with_reducible refine a_isX (by with_unfolding_all rfl) ?_
     | with_reducible refine a_app (by with_unfolding_all rfl) ?_
     | with_reducible refine a_ext (by with_unfolding_all rfl) ?_
     | with_reducible refine a_pop (by with_unfolding_all rfl) ?_
     | with_reducible refine a_fz (by with_unfolding_all rfl) ?_
     | with_reducible refine a_lenDV (by with_unfolding_all rfl) ?_)
  | (with_reducible refine rs_go 6 ?_
     first
     | with_reducible refine a_cl (by with_unfolding_all rfl) ?_
     | with_reducible refine a_dat (by with_unfolding_all rfl) ?_
     | with_reducible refine a_s1 (by with_unfolding_all rfl) ?_
     | with_reducible refine a_dcy (by with_unfolding_all rfl) ?_
     | with_reducible refine a_s2 (by with_unfolding_all rfl) (by with_unfolding_all rfl) ?_
     | with_reducible refine a_s3 (by with_unfolding_all rfl) (by with_unfolding_all rfl) (by with_unfolding_all rfl) ?_
     | with_reducible refine a_owned (by with_unfolding_all rfl) ?_)
  | (with_reducible refine rs_go 7 ?_
     first
     | with_reducible refine i_B (by with_unfolding_all rfl) ?_
     | with_reducible refine i_T (by with_unfolding_all rfl) ?_
     | with_reducible refine i_L (by with_unfolding_all rfl) ?_)
  | (with_reducible refine rs_go 8 ?_
     first
     | with_reducible refine a_nb (by with_unfolding_all rfl) ?_
     | with_reducible refine a_len (by with_unfolding_all rfl) ?_
     | with_reducible refine a_revT (by with_unfolding_all rfl) ?_
     | with_reducible refine a_revL (by with_unfolding_all rfl) ?_)
  | (with_reducible refine rs_go 9 ?_
     first
     | with_reducible refine iteNT (by with_unfolding_all rfl) ?_
     | with_reducible refine iteNF (by with_unfolding_all rfl) ?_
     | with_reducible refine iteIT (by with_unfolding_all rfl) ?_
     | with_reducible refine iteIF (by with_unfolding_all rfl) ?_))
local macro_rules | `(tactic| walk_at "ax") => `(tactic| (repeat (first | walk_at "a1" | with_reducible refine a_if ?_); try dsimp only [List.set_cons_zero, List.set_cons_succ, awipe, aFrz, List.getElem?_cons_zero, List.getElem?_cons_succ]))
local macro_rules | `(tactic| walk_at "ay") => `(tactic| (repeat (walk_at "a1"); try dsimp only [List.set_cons_zero, List.set_cons_succ, awipe, aFrz, List.getElem?_cons_zero, List.getElem?_cons_succ]))
section
variable {x : AXc} {k : Avl → Prop} {n s : Int} {rs qs : List (Int × Int)} {ms ns : List Int} {C : Cl}
theorem okx_el {l : List Int} {R : List ((Int × Int) × Int)} (hl : l.length ≤ 60) (hR : R.length ≤ 60) (bl : ∀ i ∈ l, i.natAbs < 100) (bR : ∀ r ∈ R, r.1.1.natAbs < 100 ∧ r.1.2.natAbs < 100 ∧ r.2.natAbs < 100) : Okx (.tuple [dIs l, .tuple (R.map dT)]) 3 60000 := by
  have a : Okx (dIs l) 1 7500 := by
    refine (Okx.tup (k := 0) (n := 121) (m := 60) (fun d hd => ?_) (by rw [List.length_map]; exact hl)).mono (by decide) (by decide)
    obtain ⟨i, hi, rfl⟩ := List.mem_map.mp hd
    exact okx_int (bl i hi)
  have b : Okx (.tuple (R.map dT)) 2 25000 := by
    refine (Okx.tup (k := 1) (n := 400) (m := 60) (fun d hd => ?_) (by rw [List.length_map]; exact hR)).mono (by decide) (by decide)
    obtain ⟨r, hr, rfl⟩ := List.mem_map.mp hd
    obtain ⟨h1, h2, h3⟩ := bR r hr
    refine (Okx.tup (k := 0) (n := 121) (m := 3) (fun d hd => ?_) (by simp)).mono (by decide) (by decide)
    simp only [List.mem_cons, List.not_mem_nil, or_false] at hd
    rcases hd with rfl | rfl | rfl
    · exact okx_int h1
    · exact okx_int h2
    · exact okx_int h3
  exact (okx_t2 a b).mono (by decide) (by decide)
theorem asc_pr : ∀ c, 128 ≤ c → c ∉ (dPs rs).shown.cps.toList := fun c hc => big_tup hc fun d hd => by
  obtain ⟨p, _, rfl⟩ := List.mem_map.mp hd
  exact big_tup hc fun d hd => by
    simp only [List.mem_cons, List.not_mem_nil, or_false] at hd
    rcases hd with rfl | rfl <;> exact big_int hc _
theorem names_id {n : Int} (h : 0 ≤ n) : Names n (iota n.toNat) := Names.of h (List.Perm.refl _)
theorem nm_id {n z : Int} (h0 : 0 ≤ z) (h1 : z < n) : nm (iota n.toNat) z = z := by
  unfold nm
  rw [List.getD_eq_getElem?_getD, iota_get (by omega)]
  show ((z.toNat : Nat) : Int) = z
  omega
theorem reP_id {n : Int} {q : Int × Int} (h0 : 0 ≤ q.1) (h1 : q.1 < q.2) (h2 : q.2 < n) : reP (iota n.toNat) q = q := by
  unfold reP
  rw [nm_id h0 (by omega), nm_id (by omega) h2]
  refine Prod.ext ?_ ?_
  · show (if q.2 < q.1 then q.2 else q.1) = q.1; rw [if_neg (by omega)]
  · show (if q.2 > q.1 then q.2 else q.1) = q.2; rw [if_pos (by omega)]
theorem rows_len (t : Tre s rs) : rs.length ≤ 11 := by have := t.2.2.2.1; have := t.2.2.1; omega
theorem rows_in (t : Tre s rs) (N : Names (2 * s - 1) ns) : ∀ r ∈ rowsN s ns rs 0, inB r := fun r hr => by
  obtain ⟨sh, h3, h12, l, up⟩ := t
  obtain ⟨j, p, hp, rfl⟩ := mem_rowsN hr
  have o := sh.ok p (List.mem_of_getElem? hp)
  have lj := (List.getElem?_eq_some_iff.mp hp).1
  have a := N.rng p.1 (by omega) (by omega)
  have b := N.rng p.2 (by omega) (by omega)
  have c := N.rng (s + (0 + j)) (by omega) (by omega)
  unfold inB reP
  show (0 ≤ (if nm ns p.2 < nm ns p.1 then nm ns p.2 else nm ns p.1) ∧ (if nm ns p.2 < nm ns p.1 then nm ns p.2 else nm ns p.1) < 64) ∧ (0 ≤ (if nm ns p.2 > nm ns p.1 then nm ns p.2 else nm ns p.1) ∧ (if nm ns p.2 > nm ns p.1 then nm ns p.2 else nm ns p.1) < 64) ∧ 0 ≤ nm ns (s + (0 + j)) ∧ nm ns (s + (0 + j)) < 64
  refine ⟨?_, ?_, by omega⟩ <;> split <;> omega
theorem srt_mem {l : List Int} {i : Int} : i ∈ srt l ↔ i ∈ l := (srt_perm l).mem_iff
theorem names_mem (N : Names n ns) {i : Int} (h : i ∈ ns) : 0 ≤ i ∧ i < n := by
  obtain ⟨j, hj⟩ := List.mem_iff_getElem?.mp h
  have lj := (List.getElem?_eq_some_iff.mp hj).1
  have nl := N.len
  have a := nm_get (ns := ns) (i := (j : Int)) (by omega) (by omega)
  rw [Int.toNat_natCast, hj] at a
  rw [Option.some.inj a]
  exact N.rng j (by omega) (by omega)
theorem okx_elder (t : Tre s rs) (N : Names (2 * s - 1) ns) : Okx (.tuple [dIs (srt (ns.take s.toNat)), .tuple ((srtT (rowsN s ns rs 0)).map dT)]) 3 60000 := by
  have l11 := rows_len t
  have h12 := t.2.2.1
  have inb := rows_in t N
  refine okx_el ?_ ?_ (fun i hi => ?_) fun r hr => ?_
  · rw [(srt_perm _).length_eq, List.length_take]; omega
  · rw [(srtT_perm _).length_eq, rowsN_len]; omega
  · have := names_mem N (List.mem_of_mem_take (srt_mem.mp hi))
    omega
  · have := inb r ((srtT_perm _).mem_iff.mp hr)
    unfold inB at this
    omega
theorem s__law_is_kept {a : Avl} (t : Tre s rs) (pm : qs.Perm (prR s rs 0)) (ha : a.inn = .d (.list ((rowsN s (iota (2 * s - 1).toNat) rs 0).map dT))) (h : k (.d (.bool true))) : m__law_is_kept C [.wl 1, .d (dWeb (2 * s - 1) qs ms), .l ((iota s.toNat).map .int), a] x k := by
  obtain ⟨sh, h3, h12, l, up⟩ := id t
  have l11 := rows_len t
  have shp := shape_pr sh l
  have shq := shp.perm pm
  have lq : qs.length = 2 * rs.length := by rw [pm.length_eq, prR_len]
  show a__law_is_kept C _ [.wl 1, .d (dWeb (2 * s - 1) qs ms), .d (.list ((iota s.toNat).map .int)), a.inn, .x, .x, .x, .x, .x, .x, .x, .x, .x, .x, .x, .x]
  rw [ha]
  walk_at "ax"
  refine ⟨by omega, by omega, ?_⟩
  walk_at "ax"
  refine s__law_mixed rfl (by rw [List.length_map, iota_len]; omega) (pln_map pln_int) fun es pe => ⟨?_, fun z => by cases z⟩
  obtain ⟨ns, pn, rfl⟩ := perm_unmap pe rfl
  have N : Names (2 * s - 1) ns := Names.of (by omega) pn
  have nl := N.len
  have at' : ∀ {i : Int}, 0 ≤ i → i < 2 * s - 1 → atI (ns.map PyData.int) i = some (.int (nm ns i)) := fun i0 i1 => atI_toNat i0 (by rw [List.getElem?_map, nm_get i0 (by omega)]; rfl)
  walk_at "ax"
  refine a_dnewT ?_
  walk_at "ax"
  refine a_loop (fun i α => ∃ (M : List ((Int × Int) × Int)) (x6 x7 : Sot), α = [.wl 1, .d (dWeb (2 * s - 1) qs ms), .d (.list ((iota s.toNat).map .int)), .d (.list ((rowsN s (iota (2 * s - 1).toNat) rs 0).map dT)), .own (ns.map .int), .dic (.t (dM M)), x6, x7, .x, .x, .x, .x, .x, .x, .x, .x] ∧ M.map (·.1) = (qs.take i).map (reP ns) ∧ ∀ q ∈ M, 1 ≤ q.2 ∧ q.2 ≤ 9) ?_ ?_ ?_
  · exact ⟨[], _, _, rfl, rfl, fun q hq => by cases hq⟩
  · rintro i y α hy ⟨M, x6, x7, rfl, eM, bM⟩
    obtain ⟨p, hp, rfl⟩ := dp_at hy
    have hi := (List.getElem?_eq_some_iff.mp hp).1
    have o := shq.ok p (List.mem_of_getElem? hp)
    have lM : M.length = i := by rw [← List.length_map (f := (·.1)), eM, List.length_map, List.length_take]; omega
    walk_at "ax"
    refine ⟨_, rfl, by decide, by decide, fun r r0 r1 => ⟨?_, fun z => by cases z⟩⟩
    walk_at "ax"
    refine g_ixL rfl (at' o.1 (by omega)) ?_
    walk_at "ax"
    refine g_ixL rfl (at' (by omega) o.2.2) ?_
    walk_at "ax"
    refine g_ixL rfl (at' o.1 (by omega)) ?_
    walk_at "ax"
    refine g_ixL rfl (at' (by omega) o.2.2) ?_
    walk_at "ax"
    refine ⟨_, ⟨pk (reP ns p), rfl, by unfold dM; rw [List.length_map]; omega, rfl⟩, ?_⟩
    rw [put_dM]
    have new : reP ns p ∉ M.map (·.1) := fun w => by
      rw [eM] at w
      have nd := (shq.names N).nd
      have e1 : (qs.map (reP ns))[i]? = some (reP ns p) := by rw [List.getElem?_map, hp]; rfl
      rw [List.map_take] at w
      obtain ⟨j, hj⟩ := List.mem_iff_getElem?.mp w
      have lj := (List.getElem?_eq_some_iff.mp hj).1
      rw [List.length_take] at lj
      rw [List.getElem?_take, if_pos (by omega)] at hj
      have := nd_ix nd hj e1
      omega
    refine ⟨putM M (reP ns p) (1 + r), _, _, rfl, ?_, fun q hq => ?_⟩
    · rw [keys_putM, if_neg new, eM, List.take_add_one, hp, List.map_append]
      rfl
    · rcases mem_putM hq with hq | rfl
      · exact bM q hq
      · exact ⟨by show 1 ≤ 1 + r; omega, by show 1 + r ≤ 9; omega⟩
  · rintro α ⟨M, x6, x7, rfl, eM, bM⟩
    rw [List.length_map, List.take_length] at eM
    have lM : M.length = qs.length := by rw [← List.length_map (f := (·.1)), eM, List.length_map]
    walk_at "ax"
    refine ⟨dM M, M.map (·.1), rfl, by unfold dM; rw [List.map_map, List.map_map]; rfl, fun q2 pq sr => ?_⟩
    have l2 : q2.length = M.length := by rw [pq.length_eq, List.length_map]
    walk_at "ax"
    refine ⟨by rw [List.length_map]; omega, ?_⟩
    refine a_lcgo (fun i acc => ∃ vs : List Int, acc = vs.map .int ∧ vs.length = i ∧ ∀ m ∈ vs, 1 ≤ m ∧ m ≤ 9) ⟨[], rfl, rfl, fun m hm => by cases hm⟩ ?_ ?_
    · rintro i y acc hy ⟨vs, rfl, lv, bv⟩
      obtain ⟨q, hq, rfl⟩ := dp_at hy
      obtain ⟨v, hv, ev⟩ := find_dM (pq.mem_iff.mp (List.mem_of_getElem? hq))
      have bw := bM _ hv
      walk_at "ax"
      refine ⟨.int v, ⟨pk q, rfl, ev.symm⟩, ?_⟩
      walk_at "ax"
      refine ⟨vs ++ [v], by rw [List.map_append]; rfl, by rw [List.length_append, lv]; rfl, fun m hm => ?_⟩
      rcases List.mem_append.mp hm with hm | hm
      · exact bv m hm
      · rw [List.mem_singleton.mp hm]; exact bw
    rintro acc ⟨vs, rfl, lv, bv⟩ -
    rw [List.length_map] at lv
    have p2 : q2.Perm ((prR s rs 0).map (reP ns)) := by
      refine pq.trans ?_
      rw [eM]
      exact pm.map _
    obtain ⟨sh2, M2, eM2, esp, ero⟩ := elder_of sh (by omega) l N p2
    have w2 : WebOk 24 40 9 (2 * s - 1) q2 vs := ⟨sh2, strict sr sh2.nd, by omega, by omega, by omega, bv⟩
    have okw := (okd_web w2).x
    have oke := okx_elder t N
    have okt : Okx (.str (dWeb (2 * s - 1) q2 vs).shown) 0 300200 := (okx_shown okw fun c hc => asc_web c hc).mono (by decide) (by decide)
    have okd := shw (okx_l2 oke okt)
    walk_at "ax"
    rw [show PyData.tuple [PyData.int (2 * s - 1), PyData.tuple (List.map dP q2), PyData.tuple (List.map PyData.int vs)] = dWeb (2 * s - 1) q2 vs from rfl]
    refine ⟨by rw [List.length_map, rowsN_len]; omega, ?_⟩
    refine a_lcgo (fun i acc => acc = ((rowsN s ns rs 0).take i).map dT) rfl ?_ ?_
    · rintro i y acc hy rfl
      have li := (List.getElem?_eq_some_iff.mp hy).1
      rw [List.length_map, rowsN_len] at li
      have hp := List.getElem?_eq_getElem li
      have o := sh.ok _ (List.getElem_mem li)
      generalize rs[i] = p at hp o
      rw [List.getElem?_map, rowsN_get hp, reP_id o.1 o.2.1 (by omega), nm_id (by omega) (by omega)] at hy
      cases Option.some.inj hy
      rw [List.take_add_one, rowsN_get hp, List.map_append]
      walk_at "ax"
      refine g_ixL rfl (at' o.1 (by omega)) ?_
      walk_at "ax"
      refine g_ixL rfl (at' (by omega) (by omega)) ?_
      walk_at "ax"
      refine g_ixL rfl (at' o.1 (by omega)) ?_
      walk_at "ax"
      refine g_ixL rfl (at' (by omega) (by omega)) ?_
      walk_at "ax"
      refine g_ixL rfl (at' (by omega) (by omega)) ?_
      walk_at "ax"
      rfl
    rintro acc rfl -
    rw [List.length_map, rowsN_len, ← rowsN_len (s := s) (ns := ns) (rs := rs) (k := 0), List.take_length]
    walk_at "ax"
    refine ⟨_, rowsN s ns rs 0, rfl, rfl, by rw [rowsN_len]; omega, rows_in t N, fun q3 p3 s3 => ?_⟩
    rw [srtT_eq p3 s3]
    walk_at "ax"
    refine g_repr rfl (shw okw) ?_
    generalize hkp : (dWeb (2 * s - 1) q2 vs).shown = kept at okd ⊢
    walk_at "ax"
    refine s_elder_tree sh2 (by omega) (by omega) (fun M' e' => ⟨?_, fun z => by cases z⟩) (fun e' => by rw [eM2] at e'; cases e')
    rw [eM2] at e'
    cases e'
    rw [show eldO (2 * s - 1) q2 (some M2) = .tuple [dIs (srt (ns.take s.toNat)), .tuple ((srtT (rowsN s ns rs 0)).map dT)] by show PyData.tuple [_, _] = _; rw [esp, ero]]
    walk_at "ax"
    refine g_repr rfl (shw okw) ?_
    rw [hkp]
    walk_at "ax"
    refine g_repr rfl okd ?_
    walk_at "ax"
    refine ⟨by rw [List.length_map, iota_len]; omega, ?_⟩
    refine a_lcgo (fun i acc => acc = (ns.take i).map .int) rfl ?_ ?_
    · rintro i y acc hy rfl
      obtain ⟨rfl, hi⟩ := iota_at' hy
      have e := nm_get (ns := ns) (i := (i : Int)) (by omega) (by omega)
      rw [Int.toNat_natCast] at e
      walk_at "ax"
      refine g_ixL rfl (at' (by omega) (by omega)) ?_
      walk_at "ax"
      rw [List.take_add_one, e, List.map_append]
      rfl
    rintro acc rfl -
    rw [List.length_map, iota_len]
    walk_at "ax"
    refine ⟨_, _, rfl, rfl, fun q4 p4 s4 => ?_⟩
    rw [srt_eq p4 s4]
    walk_at "ax"
    refine g_repr rfl okd ?_
    walk_at "ax"
    have e : ∀ b : Bool, b = true → k (.d (.bool b)) := fun b hb => by rw [hb]; exact h
    exact e _ (decide_eq_true rfl)
theorem srt_iota {n s : Int} (h0 : 0 ≤ s) (h1 : s ≤ n) : srt ((iota n.toNat).take s.toNat) = iota s.toNat := by
  refine (srt_eq ?_ ?_).symm
  · have : (iota n.toNat).take s.toNat = iota s.toNat := by
      unfold iota
      rw [← List.map_take, List.take_range, Nat.min_eq_left (by omega)]
    rw [this]
  · unfold iota
    rw [List.pairwise_map]
    exact List.pairwise_lt_range.imp fun {a b} h => by omega
theorem rows_pw {n : Int} : ∀ {rs : List (Int × Int)} {k : Int}, (∀ p ∈ rs, reP (iota n.toNat) p = p) → rs.Pairwise (fun p q => SrtO.lexB p q = true) → (rowsN s (iota n.toNat) rs k).Pairwise leT
  | [], _, _, _ => .nil
  | p :: rs, k, h, up => by
    show ((reP (iota n.toNat) p, nm (iota n.toNat) (s + k)) :: rowsN s (iota n.toNat) rs (k + 1)).Pairwise leT
    rw [List.pairwise_cons] at up ⊢
    refine ⟨fun r hr => ?_, rows_pw (fun q hq => h q (List.mem_cons_of_mem _ hq)) up.2⟩
    obtain ⟨j, q, hq, rfl⟩ := mem_rowsN hr
    have mq := List.mem_of_getElem? hq
    have lt := up.1 q mq
    rw [h p (List.mem_cons_self ..), h q (List.mem_cons_of_mem _ mq)]
    unfold SrtO.lexB at lt
    show p.1 < q.1 ∨ (p.1 = q.1 ∧ (p.2 < q.2 ∨ (p.2 = q.2 ∧ _)))
    split at lt
    · rename_i e
      have := of_decide_eq_true lt
      exact .inr ⟨e, .inl this⟩
    · exact .inl (of_decide_eq_true lt)
theorem map_id_of {f : Int × Int → Int × Int} {l : List (Int × Int)} (h : ∀ p ∈ l, f p = p) : l.map f = l := (List.map_congr_left h).trans (List.map_id _)
theorem law_holds : a_law C { nx := fun _ => False, rt := fun av => av = .d (.bool true) } (.x :: .wl 1 :: List.replicate 10 .x) := by
  show a_law C _ [.x, .wl 1, .x, .x, .x, .x, .x, .x, .x, .x, .x, .x]
  walk_at "ay"
  refine i_r1 (by decide) ?_
  refine a_loop (fun i α => ∃ x2 x3 x4 x5 x6 x7 x8, α = [.x, .wl 1, x2, x3, x4, x5, x6, x7, x8, .x, .x, .x]) ?_ ?_ ?_
  · exact ⟨_, _, _, _, _, _, _, rfl⟩
  · rintro i y α hy ⟨x2, x3, x4, x5, x6, x7, x8, rfl⟩
    obtain ⟨rfl, hi⟩ := iota_at' hy
    obtain ⟨b, hb, b0, b1⟩ : ∃ b : Int, atI [PyData.int 3, .int 3, .int 6, .int 12] (i : Int) = some (.int b) ∧ 3 ≤ b ∧ b + (if i = 0 ∨ i = 3 then 0 else if i = 1 then 4 else 5) ≤ 12 := by
      match i, hi with
      | 0, _ => exact ⟨3, rfl, by decide, by decide⟩
      | 1, _ => exact ⟨3, rfl, by decide, by decide⟩
      | 2, _ => exact ⟨6, rfl, by decide, by decide⟩
      | 3, _ => exact ⟨12, rfl, by decide, by decide⟩
    walk_at "ay"
    refine g_ixL rfl hb ?_
    walk_at "ay"
    refine a_ifj (fun av => ∃ d : Int, av = .d (.int d) ∧ 0 ≤ d ∧ b + d ≤ 12) ?_ ?_
    · rintro _ ⟨d, rfl, d0, d1⟩
      walk_at "ay"
      generalize hs : b + d = s
      have h3 : 3 ≤ s := by omega
      have h12 : s ≤ 12 := by omega
      refine s__law_shaped h3 h12 fun rs t => ⟨?_, fun z => by cases z⟩
      obtain ⟨sh, -, -, l, up⟩ := id t
      have l11 := rows_len t
      have ne : rs ≠ [] := fun z => by rw [z] at l; simp at l; omega
      walk_at "ay"
      refine s__law_parted ne (by omega) fun qs pm sr => ⟨?_, fun z => by cases z⟩
      have shp := shape_pr sh l
      have shq := shp.perm pm
      have lq : qs.length = 2 * rs.length := by rw [pm.length_eq, prR_len]
      have w1 : WebOk 24 40 9 (2 * s - 1) qs (List.replicate (2 * rs.length) 1) := ⟨shq, strict sr shq.nd, by omega, by omega, by rw [List.length_replicate, lq], fun m hm => by rw [(List.mem_replicate.mp hm).2]; decide⟩
      have N := names_id (n := 2 * s - 1) (by omega)
      have idp : ∀ q ∈ prR s rs 0, reP (iota (2 * s - 1).toNat) q = q := fun q hq => by have o := shp.ok q hq; exact reP_id o.1 o.2.1 o.2.2
      have idr : ∀ q ∈ rs, reP (iota (2 * s - 1).toNat) q = q := fun q hq => by have o := sh.ok q hq; exact reP_id o.1 o.2.1 (by omega)
      obtain ⟨_, M2, eM2, esp, ero⟩ := elder_of sh (by omega) l N (qs := qs) (by rw [map_id_of idp]; exact pm)
      have okr : Okx (dPs rs) 2 25002 := (okd_dPs (m := 100) (fun p hp => by have := sh.ok p hp; omega) (by omega)).x
      have okw := (okd_web w1).x
      have okp : Okx (.str (dPs rs).shown) 0 250100 := (okx_shown okr asc_pr).mono (by decide) (by decide)
      have okd := shw (okx_l2 okw okp)
      generalize hms : List.replicate (2 * rs.length) (1 : Int) = ms at w1 okd okw ⊢
      walk_at "ay"
      refine ⟨by rw [enD_len, List.length_map]; omega, ?_⟩
      refine a_lcgo (fun i acc => acc = ((rowsN s (iota (2 * s - 1).toNat) rs 0).take i).map dT) rfl ?_ ?_
      · rintro j y acc hy rfl
        obtain ⟨d, hd, rfl⟩ := enD_at hy
        obtain ⟨p, hp, rfl⟩ := dp_at hd
        have lj := (List.getElem?_eq_some_iff.mp hp).1
        walk_at "ay"
        rw [List.take_add_one, rowsN_get hp, List.map_append, idr p (List.mem_of_getElem? hp), nm_id (by omega) (by omega), show s + (0 + (j : Int)) = s + j by omega]
        rfl
      rintro acc rfl -
      rw [enD_len, List.length_map, ← rowsN_len (s := s) (ns := iota (2 * s - 1).toNat) (rs := rs) (k := 0), List.take_length]
      walk_at "ay"
      refine g_repr rfl (shw okr) ?_
      generalize hbf : (dPs rs).shown = before at okd ⊢
      walk_at "ay"
      refine a_ifj (fun av => av = .d (dWeb (2 * s - 1) qs ms)) ?_ ?_
      · rintro _ rfl
        walk_at "ay"
        refine g_repr rfl (shw okr) ?_
        rw [hbf]
        walk_at "ay"
        refine g_repr rfl okd ?_
        walk_at "ay"
        refine g_repr rfl okd ?_
        walk_at "ay"
        refine s_ndec (fun c => absurd rfl c) (fun _ => ?_)
        walk_at "ay"
        refine s_elder_tree shq (by omega) (by omega) (fun M' e' => ⟨?_, fun z => by cases z⟩) (fun e' => by rw [eM2] at e'; cases e')
        rw [eM2] at e'
        cases e'
        have srw : srtT (rowsN s (iota (2 * s - 1).toNat) rs 0) = rowsN s (iota (2 * s - 1).toNat) rs 0 := (srtT_eq (List.Perm.refl _) (rows_pw idr up)).symm
        have oke := okx_elder t N
        rw [srw, srt_iota (by omega) (by omega)] at oke
        rw [show eldO (2 * s - 1) qs (some M2) = .tuple [dIs (iota s.toNat), .tuple ((rowsN s (iota (2 * s - 1).toNat) rs 0).map dT)] by show PyData.tuple [_, _] = _; rw [esp, ero, srw, srt_iota (by omega) (by omega)]]
        walk_at "ay"
        refine g_repr rfl (shw oke) ?_
        walk_at "ay"
        refine ⟨by omega, by omega, ?_⟩
        walk_at "ay"
        rw [show PyData.tuple (List.map PyData.int (iota s.toNat)) = dIs (iota s.toNat) from rfl]
        refine g_repr rfl (shw oke) ?_
        walk_at "ay"
        refine s_ndec (fun c => absurd rfl c) (fun _ => ?_)
        walk_at "ay"
        refine ⟨by omega, by omega, ?_⟩
        walk_at "ay"
        refine s__law_is_kept t pm rfl ⟨?_, fun _ => rfl⟩
        walk_at "ay"
        refine iteF' rfl ?_
        walk_at "ay"
        exact ⟨_, _, _, _, _, _, _, rfl⟩
      · intro k' hk'
        have tok := tree_of sh h3 h12 l up
        have fin : ∀ q2 : List (Int × Int), q2.Perm (prR s rs 0) → q2.Pairwise (fun p q => SrtO.lexB q p = false) → k' (.d (dWeb (2 * s - 1) q2 (List.replicate (2 * rs.length) 1))) := fun q2 p2 s2 => hk' _ (by rw [sort_uniq p2 s2 pm sr, hms])
        walk_at "ax"
        refine s_dec (fun c => ?_) (fun c => ?_)
        · walk_at "ax"
          exact s_parted_web (by omega) (fun _ q2 p2 s2 => ⟨fin q2 p2 s2, fun z => by cases z⟩) (fun z => absurd tok z)
        · walk_at "ax"
          exact s_parted_web (by omega) (fun _ q2 p2 s2 => ⟨fin q2 p2 s2, fun z => by cases z⟩) (fun z => absurd tok z)
    · intro k' hk'
      walk_at "ax"
      refine g_inT (ws := [0, 3]) rfl ?_
      walk_at "ax"
      have cases4 : i = 0 ∨ i = 3 ∨ i = 1 ∨ i = 2 := by omega
      refine s_dec (fun c => ?_) (fun c => ?_)
      · walk_at "ax"
        have c' : i = 0 ∨ i = 3 := by simp at c; omega
        rw [if_pos c'] at b1
        exact hk' _ ⟨0, rfl, by decide, by omega⟩
      · have c' : ¬ (i = 0 ∨ i = 3) := fun w => c (by simp; omega)
        rw [if_neg c'] at b1
        obtain ⟨m, hm, m0, m1⟩ : ∃ m : Int, atI [PyData.int 1, .int 5, .int 6, .int 1] (i : Int) = some (.int m) ∧ 0 < m ∧ m ≤ (if i = 1 then 5 else 6) := by
          rcases cases4 with rfl | rfl | rfl | rfl
          · exact absurd (.inl rfl) c'
          · exact absurd (.inr rfl) c'
          · exact ⟨5, rfl, by decide, by decide⟩
          · exact ⟨6, rfl, by decide, by decide⟩
        walk_at "ax"
        refine g_ixL rfl hm ?_
        walk_at "ax"
        refine ⟨_, rfl, m0, by split at m1 <;> omega, fun r r0 r1 => ⟨?_, fun z => by cases z⟩⟩
        exact hk' _ ⟨r, rfl, r0, by split at m1 <;> rename_i q <;> first | (rw [if_pos q] at b1; omega) | (rw [if_neg q] at b1; omega)⟩
  · rintro α ⟨x2, x3, x4, x5, x6, x7, x8, rfl⟩
    walk_at "ay"
    rfl
theorem p_law {K : Fg} {vs : List V} {H : Hp} {Q : VK} {E : XK} (h : sp_law K vs H Q E) : t_law K C (fun c d _ H => E c d H) { nx := fun _ H' => Q .non H', rt := Q } (L2.start ["script", "urn", "turn", "s", "tree", "web", "rows", "before", "told", "j", "a", "b"] vs) H :=
  p_lawU f_law rfl law_holds h
end
end UW.Un
namespace UW.Un.D20
open PySem PySem.Spec PyProof.Rows L2 UW

def top (i : Nat) : Stmt := PySem.Challenge.pw_unevenroads_k20_whole_elder_trees_and_ba.main.body.getD i (.Pass ⟨0, 0, 0, 0⟩)
abbrev s_is_integer : Stmt := top 6
abbrev N_is_integer : List Str := ["value"]
theorem sc_is_integer : FnScope N_is_integer ["value"] (defScope s_is_integer) := ⟨rfl, rfl, rfl, by decide +kernel, rfl, by decide +kernel, by decide +kernel⟩
abbrev s_is_within : Stmt := top 7
abbrev N_is_within : List Str := ["value", "least", "most"]
theorem sc_is_within : FnScope N_is_within ["value", "least", "most"] (defScope s_is_within) := ⟨rfl, rfl, rfl, by decide +kernel, rfl, by decide +kernel, by decide +kernel⟩
abbrev s_is_road : Stmt := top 8
abbrev N_is_road : List Str := ["n", "value"]
theorem sc_is_road : FnScope N_is_road ["n", "value"] (defScope s_is_road) := ⟨rfl, rfl, rfl, by decide +kernel, rfl, by decide +kernel, by decide +kernel⟩
abbrev s_roads_error : Stmt := top 9
abbrev N_roads_error : List Str := ["n", "roads", "road", "place"]
theorem sc_roads_error : FnScope N_roads_error ["n", "roads"] (defScope s_roads_error) := ⟨rfl, rfl, rfl, by decide +kernel, rfl, by decide +kernel, by decide +kernel⟩
abbrev s_roads_at : Stmt := top 10
abbrev N_roads_at : List Str := ["web", "place", "found", "road", "one", "other"]
theorem sc_roads_at : FnScope N_roads_at ["web", "place"] (defScope s_roads_at) := ⟨rfl, rfl, rfl, by decide +kernel, rfl, by decide +kernel, by decide +kernel⟩
abbrev s_steps_known : Stmt := top 11
abbrev N_steps_known : List Str := ["web", "place", "waiting", "here", "mate", "road", "steps"]
theorem sc_steps_known : FnScope N_steps_known ["web", "place"] (defScope s_steps_known) := ⟨rfl, rfl, rfl, by decide +kernel, rfl, by decide +kernel, by decide +kernel⟩
abbrev s_steps_from : Stmt := top 12
abbrev N_steps_from : List Str := ["web", "place", "steps", "other"]
theorem sc_steps_from : FnScope N_steps_from ["web", "place"] (defScope s_steps_from) := ⟨rfl, rfl, rfl, by decide +kernel, rfl, by decide +kernel, by decide +kernel⟩
abbrev s_road_counts : Stmt := top 14
abbrev N_road_counts : List Str := ["web", "found", "one", "other"]
theorem sc_road_counts : FnScope N_road_counts ["web"] (defScope s_road_counts) := ⟨rfl, rfl, rfl, by decide +kernel, rfl, by decide +kernel, by decide +kernel⟩
abbrev s_middles_of : Stmt := top 15
abbrev N_middles_of : List Str := ["web", "n", "roads", "most", "steps", "many", "side", "places", "place"]
theorem sc_middles_of : FnScope N_middles_of ["web"] (defScope s_middles_of) := ⟨rfl, rfl, rfl, by decide +kernel, rfl, by decide +kernel, by decide +kernel⟩
abbrev s_elder_tree : Stmt := top 16
abbrev N_elder_tree : List Str := ["web", "middles", "tree", "middle", "one", "other", "mate", "road", "place"]
theorem sc_elder_tree : FnScope N_elder_tree ["web"] (defScope s_elder_tree) := ⟨rfl, rfl, rfl, by decide +kernel, rfl, by decide +kernel, by decide +kernel⟩
abbrev s_is_elder : Stmt := top 17
abbrev N_is_elder : List Str := ["s", "tree"]
theorem sc_is_elder : FnScope N_is_elder ["s", "tree"] (defScope s_is_elder) := ⟨rfl, rfl, rfl, by decide +kernel, rfl, by decide +kernel, by decide +kernel⟩
abbrev s_parted_web : Stmt := top 18
abbrev N_parted_web : List Str := ["s", "tree", "roads", "number", "one", "other"]
theorem sc_parted_web : FnScope N_parted_web ["s", "tree"] (defScope s_parted_web) := ⟨rfl, rfl, rfl, by decide +kernel, rfl, by decide +kernel, by decide +kernel⟩
abbrev s__law_urn : Stmt := top 20
abbrev N__law_urn : List Str := ["script", "one", "two", "cell", "cells"]
theorem sc__law_urn : FnScope N__law_urn ["script"] (defScope s__law_urn) := ⟨rfl, rfl, rfl, by decide +kernel, rfl, by decide +kernel, by decide +kernel⟩
abbrev s__law_draw : Stmt := top 21
abbrev N__law_draw : List Str := ["urn", "size", "cell", "much"]
theorem sc__law_draw : FnScope N__law_draw ["urn", "size"] (defScope s__law_draw) := ⟨rfl, rfl, rfl, by decide +kernel, rfl, by decide +kernel, by decide +kernel⟩
abbrev s__law_mixed : Stmt := top 23
abbrev N__law_mixed : List Str := ["urn", "items", "left", "found"]
theorem sc__law_mixed : FnScope N__law_mixed ["urn", "items"] (defScope s__law_mixed) := ⟨rfl, rfl, rfl, by decide +kernel, rfl, by decide +kernel, by decide +kernel⟩
abbrev s__law_tree : Stmt := top 24
abbrev N__law_tree : List Str := ["urn", "s", "names", "pairs", "place", "pair"]
theorem sc__law_tree : FnScope N__law_tree ["urn", "s"] (defScope s__law_tree) := ⟨rfl, rfl, rfl, by decide +kernel, rfl, by decide +kernel, by decide +kernel⟩
abbrev s__law_parted : Stmt := top 25
abbrev N__law_parted : List Str := ["s", "tree", "roads", "j", "a", "b"]
theorem sc__law_parted : FnScope N__law_parted ["s", "tree"] (defScope s__law_parted) := ⟨rfl, rfl, rfl, by decide +kernel, rfl, by decide +kernel, by decide +kernel⟩
abbrev s__law_shaped : Stmt := top 26
abbrev N__law_shaped : List Str := ["urn", "s", "way", "place"]
theorem sc__law_shaped : FnScope N__law_shaped ["urn", "s"] (defScope s__law_shaped) := ⟨rfl, rfl, rfl, by decide +kernel, rfl, by decide +kernel, by decide +kernel⟩
abbrev s__law_is_kept : Stmt := top 27
abbrev N__law_is_kept : List Str := ["urn", "web", "spots", "rows", "names", "known", "a", "b", "roads", "other", "due", "kept", "told", "middle", "road", "spot"]
theorem sc__law_is_kept : FnScope N__law_is_kept ["urn", "web", "spots", "rows"] (defScope s__law_is_kept) := ⟨rfl, rfl, rfl, by decide +kernel, rfl, by decide +kernel, by decide +kernel⟩
abbrev s_law : Stmt := top 28
abbrev N_law : List Str := ["script", "urn", "turn", "s", "tree", "web", "rows", "before", "told", "j", "a", "b"]
theorem sc_law : FnScope N_law ["script"] (defScope s_law) := ⟨rfl, rfl, rfl, by decide +kernel, rfl, by decide +kernel, by decide +kernel⟩
abbrev s__Unfit : Stmt := inClass (top 4) 0
theorem sc__Unfit : FnScope ["self"] ["self"] (defScope s__Unfit) := ⟨rfl, rfl, rfl, by decide +kernel, rfl, by decide +kernel, by decide +kernel⟩
structure Fs where
  f_is_integer : Addr
  d_is_integer : FuncData
  f_is_within : Addr
  d_is_within : FuncData
  f_is_road : Addr
  d_is_road : FuncData
  f_roads_error : Addr
  d_roads_error : FuncData
  f_roads_at : Addr
  d_roads_at : FuncData
  f_steps_known : Addr
  d_steps_known : FuncData
  f_steps_from : Addr
  d_steps_from : FuncData
  f_road_counts : Addr
  d_road_counts : FuncData
  f_middles_of : Addr
  d_middles_of : FuncData
  f_elder_tree : Addr
  d_elder_tree : FuncData
  f_is_elder : Addr
  d_is_elder : FuncData
  f_parted_web : Addr
  d_parted_web : FuncData
  f__law_urn : Addr
  d__law_urn : FuncData
  f__law_draw : Addr
  d__law_draw : FuncData
  f__law_mixed : Addr
  d__law_mixed : FuncData
  f__law_tree : Addr
  d__law_tree : FuncData
  f__law_parted : Addr
  d__law_parted : FuncData
  f__law_shaped : Addr
  d__law_shaped : FuncData
  f__law_is_kept : Addr
  d__law_is_kept : FuncData
  f_law : Addr
  d_law : FuncData
  f__Unfit : Addr
  d__Unfit : FuncData
  cl : Cl
structure All (K : Fg) (mg : Str → Option Value) (F : Fs) : Prop where
  h_is_integer : Fun K "is_integer" "is_integer" s_is_integer F.f_is_integer F.d_is_integer
  b_is_integer : Binds K F.d_is_integer ["value"] []
  m_is_integer : mg "is_integer" = some (.ref F.f_is_integer)
  k_is_integer : PySem.W.keepIn K (.ref F.f_is_integer) = true
  h_is_within : Fun K "is_within" "is_within" s_is_within F.f_is_within F.d_is_within
  b_is_within : Binds K F.d_is_within ["value", "least", "most"] []
  m_is_within : mg "is_within" = some (.ref F.f_is_within)
  k_is_within : PySem.W.keepIn K (.ref F.f_is_within) = true
  h_is_road : Fun K "is_road" "is_road" s_is_road F.f_is_road F.d_is_road
  b_is_road : Binds K F.d_is_road ["n", "value"] []
  m_is_road : mg "is_road" = some (.ref F.f_is_road)
  k_is_road : PySem.W.keepIn K (.ref F.f_is_road) = true
  h_roads_error : Fun K "roads_error" "roads_error" s_roads_error F.f_roads_error F.d_roads_error
  b_roads_error : Binds K F.d_roads_error ["n", "roads"] []
  m_roads_error : mg "roads_error" = some (.ref F.f_roads_error)
  k_roads_error : PySem.W.keepIn K (.ref F.f_roads_error) = true
  h_roads_at : Fun K "roads_at" "roads_at" s_roads_at F.f_roads_at F.d_roads_at
  b_roads_at : Binds K F.d_roads_at ["web", "place"] []
  m_roads_at : mg "roads_at" = some (.ref F.f_roads_at)
  k_roads_at : PySem.W.keepIn K (.ref F.f_roads_at) = true
  h_steps_known : Fun K "steps_known" "steps_known" s_steps_known F.f_steps_known F.d_steps_known
  b_steps_known : Binds K F.d_steps_known ["web", "place"] []
  m_steps_known : mg "steps_known" = some (.ref F.f_steps_known)
  k_steps_known : PySem.W.keepIn K (.ref F.f_steps_known) = true
  h_steps_from : Fun K "steps_from" "steps_from" s_steps_from F.f_steps_from F.d_steps_from
  b_steps_from : Binds K F.d_steps_from ["web", "place"] []
  m_steps_from : mg "steps_from" = some (.ref F.f_steps_from)
  k_steps_from : PySem.W.keepIn K (.ref F.f_steps_from) = true
  h_road_counts : Fun K "road_counts" "road_counts" s_road_counts F.f_road_counts F.d_road_counts
  b_road_counts : Binds K F.d_road_counts ["web"] []
  m_road_counts : mg "road_counts" = some (.ref F.f_road_counts)
  k_road_counts : PySem.W.keepIn K (.ref F.f_road_counts) = true
  h_middles_of : Fun K "middles_of" "middles_of" s_middles_of F.f_middles_of F.d_middles_of
  b_middles_of : Binds K F.d_middles_of ["web"] []
  m_middles_of : mg "middles_of" = some (.ref F.f_middles_of)
  k_middles_of : PySem.W.keepIn K (.ref F.f_middles_of) = true
  h_elder_tree : Fun K "elder_tree" "elder_tree" s_elder_tree F.f_elder_tree F.d_elder_tree
  b_elder_tree : Binds K F.d_elder_tree ["web"] []
  m_elder_tree : mg "elder_tree" = some (.ref F.f_elder_tree)
  k_elder_tree : PySem.W.keepIn K (.ref F.f_elder_tree) = true
  h_is_elder : Fun K "is_elder" "is_elder" s_is_elder F.f_is_elder F.d_is_elder
  b_is_elder : Binds K F.d_is_elder ["s", "tree"] []
  m_is_elder : mg "is_elder" = some (.ref F.f_is_elder)
  k_is_elder : PySem.W.keepIn K (.ref F.f_is_elder) = true
  h_parted_web : Fun K "parted_web" "parted_web" s_parted_web F.f_parted_web F.d_parted_web
  b_parted_web : Binds K F.d_parted_web ["s", "tree"] []
  m_parted_web : mg "parted_web" = some (.ref F.f_parted_web)
  k_parted_web : PySem.W.keepIn K (.ref F.f_parted_web) = true
  h__law_urn : Fun K "_law_urn" "_law_urn" s__law_urn F.f__law_urn F.d__law_urn
  b__law_urn : Binds K F.d__law_urn ["script"] []
  m__law_urn : mg "_law_urn" = some (.ref F.f__law_urn)
  k__law_urn : PySem.W.keepIn K (.ref F.f__law_urn) = true
  h__law_draw : Fun K "_law_draw" "_law_draw" s__law_draw F.f__law_draw F.d__law_draw
  b__law_draw : Binds K F.d__law_draw ["urn", "size"] []
  m__law_draw : mg "_law_draw" = some (.ref F.f__law_draw)
  k__law_draw : PySem.W.keepIn K (.ref F.f__law_draw) = true
  h__law_mixed : Fun K "_law_mixed" "_law_mixed" s__law_mixed F.f__law_mixed F.d__law_mixed
  b__law_mixed : Binds K F.d__law_mixed ["urn", "items"] []
  m__law_mixed : mg "_law_mixed" = some (.ref F.f__law_mixed)
  k__law_mixed : PySem.W.keepIn K (.ref F.f__law_mixed) = true
  h__law_tree : Fun K "_law_tree" "_law_tree" s__law_tree F.f__law_tree F.d__law_tree
  b__law_tree : Binds K F.d__law_tree ["urn", "s"] []
  m__law_tree : mg "_law_tree" = some (.ref F.f__law_tree)
  k__law_tree : PySem.W.keepIn K (.ref F.f__law_tree) = true
  h__law_parted : Fun K "_law_parted" "_law_parted" s__law_parted F.f__law_parted F.d__law_parted
  b__law_parted : Binds K F.d__law_parted ["s", "tree"] []
  m__law_parted : mg "_law_parted" = some (.ref F.f__law_parted)
  k__law_parted : PySem.W.keepIn K (.ref F.f__law_parted) = true
  h__law_shaped : Fun K "_law_shaped" "_law_shaped" s__law_shaped F.f__law_shaped F.d__law_shaped
  b__law_shaped : Binds K F.d__law_shaped ["urn", "s"] []
  m__law_shaped : mg "_law_shaped" = some (.ref F.f__law_shaped)
  k__law_shaped : PySem.W.keepIn K (.ref F.f__law_shaped) = true
  h__law_is_kept : Fun K "_law_is_kept" "_law_is_kept" s__law_is_kept F.f__law_is_kept F.d__law_is_kept
  b__law_is_kept : Binds K F.d__law_is_kept ["urn", "web", "spots", "rows"] []
  m__law_is_kept : mg "_law_is_kept" = some (.ref F.f__law_is_kept)
  k__law_is_kept : PySem.W.keepIn K (.ref F.f__law_is_kept) = true
  h_law : Fun K "law" "law" s_law F.f_law F.d_law
  b_law : Binds K F.d_law ["script"] []
  m_law : mg "law" = some (.ref F.f_law)
  k_law : PySem.W.keepIn K (.ref F.f_law) = true
  m_Unfit : mg "Unfit" = some (.ref F.cl.Unfit)
  o_Unfit : OexC K F.cl.Unfit
  i_Unfit : PySem.W.findIn K (.ref F.cl.Unfit) "__init__" = some (some (.ref F.f__Unfit))
  t_Unfit : PySem.W.typeIn K (.ref F.f__Unfit) = some (.type "function")
  x_Unfit : ExT K F.cl.Unfit F.cl.UnevenError
  h__Unfit : Fun K "__init__" "Unfit.__init__" s__Unfit F.f__Unfit F.d__Unfit
  b_Unfit : Binds K F.d__Unfit ["self"] []
  m_UnevenError : mg "UnevenError" = some (.ref F.cl.UnevenError)
  u_UnevenError : UeC K F.cl.UnevenError
  z_all : mg "all" = none
  z_bool : mg "bool" = none
  z_enumerate : mg "enumerate" = none
  z_int : mg "int" = none
  z_isinstance : mg "isinstance" = none
  z_len : mg "len" = none
  z_list : mg "list" = none
  z_max : mg "max" = none
  z_min : mg "min" = none
  z_range : mg "range" = none
  z_repr : mg "repr" = none
  z_sorted : mg "sorted" = none
  z_tuple : mg "tuple" = none
  c_MAX_PLACES : ∃ t, mg "MAX_PLACES" = some (.int 24 t)
  c_MAX_ROADS : ∃ t, mg "MAX_ROADS" = some (.int 40 t)
variable {P : Program} {w : World} {K : Fg} {mg : Str → Option Value} {base : Heap} {F : Fs}
theorem kb_elder_tree_web (A : All K mg F) : KOnly K F.d_elder_tree ["web"] ["web"] g_kb_elder_tree_web := by
  obtain ⟨oc, od, kV, doc, pm, an, cdv, ct, osl, e, lk, hcd⟩ := A.h_elder_tree.ex
  rw [e]
  refine ⟨fun s ws _ hl => match ws, hl with | [_], _ => .of_eq rfl, ?_⟩
  intro zs ws r
  rcases r with _ | ⟨r0, r⟩
  · exact .nil
  rcases r with _ | ⟨rx, r⟩
  · exact (.cons r0 .nil)
  · exact (.cons r0 (.cons rx r))
theorem kb_parted_web_tree_s (A : All K mg F) : KOnly K F.d_parted_web ["s", "tree"] ["tree", "s"] g_kb_parted_web_tree_s := by
  obtain ⟨oc, od, kV, doc, pm, an, cdv, ct, osl, e, lk, hcd⟩ := A.h_parted_web.ex
  rw [e]
  refine ⟨fun s ws _ hl => match ws, hl with | [_, _], _ => .of_eq rfl, ?_⟩
  intro zs ws r
  rcases r with _ | ⟨r0, r⟩
  · exact .nil
  rcases r with _ | ⟨r1, r⟩
  · exact (.cons r0 .nil)
  rcases r with _ | ⟨rx, r⟩
  · exact (.cons r1 (.cons r0 .nil))
  · exact (.cons r0 (.cons r1 (.cons rx r)))
theorem g__Unfit (A : All K mg F) : FnOk P w K mg base (L2.CX P w) 1 F.f__Unfit F.d__Unfit ["self"] (sp_bare K) := by
  refine Fun.okX A.h__Unfit sc__Unfit l_bare ?_
  intro cdv Ar o s H vs Q E hr h
  exact ⟨t_bare K "what does not fit", (pss_one (ps_expr (pe_ueinit (by rfl) A.m_UnevenError A.u_UnevenError (pa_cons (pv 0) (pa_cons pe_str pa_nil))))), p_bare h⟩
theorem g_is_integer (A : All K mg F) (hsm : Smb base) : FnG P w K mg base 1 F.f_is_integer F.d_is_integer ["value"] (sp_is_integer K) := by
  refine Fun.okG A.h_is_integer sc_is_integer l_is_integer ?_
  intro cdv Ar o s H vs Q E hG hr h
  have hu := hu_of hr
  have h65 := h65_of hr
  exact ⟨t_is_integer K, (pss_one (ps_ret (pe_and (pe_callB call_isi (by rfl) A.z_isinstance (by decide +kernel) (pa_cons (pv 0) (pa_cons (pe_bltn (v := .ty "int") (by rfl) A.z_int (by decide +kernel) rfl) pa_nil))) (pe_one (pe_not (pe_callB call_isi (by
    rfl) A.z_isinstance (by decide +kernel) (pa_cons (pv 0) (pa_cons (pe_bltn (v := .ty "bool") (by rfl) A.z_bool (by decide +kernel) rfl) pa_nil)))))))), p_is_integer h⟩
theorem g_roads_at (A : All K mg F) (hsm : Smb base) : FnG P w K mg base 1 F.f_roads_at F.d_roads_at ["web", "place"] (sp_roads_at K) := by
  refine Fun.okG A.h_roads_at sc_roads_at l_roads_at ?_
  intro cdv Ar o s H vs Q E hG hr h
  have hu := hu_of hr
  have h65 := h65_of hr
  have hp := passes_of (X := cxOf (L2.CX P w) P w K mg base N_roads_at "roads_at" (defScope s_roads_at) F.f_roads_at cdv Ar o s H E) rfl
  exact ⟨t_roads_at K, (pss_cons (ps_set (i := 2) sc_roads_at.nd rfl (Or.inl rfl) (pe_lst pa_nil)) (pss_cons (ps_for hp rfl (pi_enumV A.z_enumerate (pa_cons (pe_ix ix_seq (pv 0) pe_int (fun _ _ => rfl)) pa_nil)) (pg_tup rfl (pgs_cons (pg_name (i := 3)
    sc_roads_at.nd rfl (Or.inl rfl)) (pgs_cons (pg_tup rfl (pgs_cons (pg_name (i := 4) sc_roads_at.nd rfl (Or.inl rfl)) (pgs_cons (pg_name (i := 5) sc_roads_at.nd rfl (Or.inl rfl)) pgs_nil))) pgs_nil))) (pss_one (ps_if (pt_cmpR
    (op_inU h65) (pv 1) (pe_tup (pa_cons (pv 4) (pa_cons (pv 5) pa_nil))) rfl) (pss_one (ps_expr (pe_bm PySem.F.plainAttrs_list PySem.F.slot_list_append PySem.F.type_list_append mt_append (pv 2) (pa_cons (pe_tup (pa_cons (pe_op
    op_subI (pe_op op_addU (pv 4) (pv 5)) (pv 1)) (pa_cons (pv 3) pa_nil))) pa_nil)))) pss_nil))) (pss_one (ps_ret (pe_callTy cr_tupOf (by rfl) A.z_tuple (by decide +kernel) (pa_cons (pe_callB cr_sortP (by rfl) A.z_sorted (by
    decide +kernel) (pa_cons (pv 2) pa_nil)) pa_nil)))))), p_roads_at h⟩
theorem g_road_counts (A : All K mg F) (hsm : Smb base) : FnG P w K mg base 1 F.f_road_counts F.d_road_counts ["web"] (sp_road_counts K) := by
  refine Fun.okG A.h_road_counts sc_road_counts l_road_counts ?_
  intro cdv Ar o s H vs Q E hG hr h
  have hu := hu_of hr
  have h65 := h65_of hr
  have hp := passes_of (X := cxOf (L2.CX P w) P w K mg base N_road_counts "road_counts" (defScope s_road_counts) F.f_road_counts cdv Ar o s H E) rfl
  exact ⟨t_road_counts K, (pss_cons (ps_set (i := 1) sc_road_counts.nd rfl (Or.inl rfl) (pe_op op_mulU (pe_lst (pa_cons pe_int pa_nil)) (pe_ix ix_seq (pv 0) pe_int (fun _ _ => rfl)))) (pss_cons (ps_for hp rfl (pi_seq (pe_ix ix_seq (pv 0) pe_int (fun _ _ =>
    rfl))) (pg_tup rfl (pgs_cons (pg_name (i := 2) sc_road_counts.nd rfl (Or.inl rfl)) (pgs_cons (pg_name (i := 3) sc_road_counts.nd rfl (Or.inl rfl)) pgs_nil))) (pss_cons (ps_asg (pe_op op_addU (pe_ix ix_seq (pv 1) (pv 2) (fun _ _
    => rfl)) pe_int) (pg_sub (pv 1) (pv 2) set_list)) (pss_one (ps_asg (pe_op op_addU (pe_ix ix_seq (pv 1) (pv 3) (fun _ _ => rfl)) pe_int) (pg_sub (pv 1) (pv 3) set_list))))) (pss_one (ps_ret (pv 1))))), p_road_counts h⟩
theorem g__law_urn (A : All K mg F) (hsm : Smb base) : FnG P w K mg base 1 F.f__law_urn F.d__law_urn ["script"] (sp__law_urn K) := by
  refine Fun.okG A.h__law_urn sc__law_urn l__law_urn ?_
  intro cdv Ar o s H vs Q E hG hr h
  have hu := hu_of hr
  have h65 := h65_of hr
  have hp := passes_of (X := cxOf (L2.CX P w) P w K mg base N__law_urn "_law_urn" (defScope s__law_urn) F.f__law_urn cdv Ar o s H E) rfl
  exact ⟨t__law_urn K, (pss_cons (ps_par3 (i := 4) (j := 1) (l := 2) rfl sc__law_urn.nd rfl rfl rfl (by decide) (by decide) (by decide) rfl rfl rfl (pa_cons (pe_lc (own := [("cell", 3)]) (g := (gName 3)) (tt := tYes) (te := (tIf (tTest (tOp rGeI (tVar 3)
    (tC (.int 0)))) (tOp (rMulU K) (tC (.int 2)) (tVar 3)) (tOp rSubI (tUn (rU fun i => .int (-i)) (tC (.int 1))) (tOp (rMulU K) (tC (.int 2)) (tVar 3))))) rfl sc__law_urn.nd (pi_seq (pe_slice sl_U (pv 0) po_none (po_some pe_int)))
    (blkOk_by (N := N__law_urn) (sc := defScope s__law_urn) (by decide +kernel)) (fun _ _ _ _ _ => (pg_name (i := 3) sc__law_urn.nd rfl (Or.inl rfl))) (fun _ _ _ _ _ => pts_nil) (fun _ _ _ _ _ => (pe_ifExp (pt_cmpR op_geI (pv 3)
    pe_int (nomark _)) (pe_op op_mulU pe_int (pv 3)) (pe_op op_subI (pe_un un_neg pe_int) (pe_op op_mulU pe_int (pv 3)))))) (pa_cons pe_int (pa_cons (pe_op op_addU pe_int (pe_callB cr_len (by rfl) A.z_len boot_len (pa_cons (pv 0)
    pa_nil))) pa_nil))) (by rfl)) (pss_cons (ps_for hp rfl (pi_seq (pv 4)) (pg_name (i := 3) sc__law_urn.nd rfl (Or.inl rfl)) (pss_one (ps_parU (i := 1) (j := 2) rfl sc__law_urn.nd rfl rfl (by decide) (Or.inl rfl) (Or.inl rfl)
    (pa_cons (pe_op op_modI (pe_callTy cr_int (by rfl) A.z_int (by decide +kernel) (pa_cons (pe_op op_addU (pe_op op_mulU (pv 1) pe_int) (pv 3)) pa_nil)) pe_int) (pa_cons (pe_op op_modI (pe_callTy cr_int (by rfl) A.z_int (by
    decide +kernel) (pa_cons (pe_op op_addU (pe_op op_addU (pe_op op_mulU (pv 2) pe_int) (pe_op op_mulU pe_int (pv 3))) pe_int) pa_nil)) pe_int) pa_nil)) (by rfl)))) (pss_one (ps_ret (pe_lst (pa_cons (pe_lc (own := [("cell", 3)])
    (g := (gName 3)) (tt := (tTest (tOp rGtI (tVar 3) (tOp rPowI (tC (.int 10)) (tC (.int 16)))))) (te := (tVar 3)) rfl sc__law_urn.nd (pi_seq (pv 4)) (blkOk_by (N := N__law_urn) (sc := defScope s__law_urn) (by decide +kernel))
    (fun _ _ _ _ _ => (pg_name (i := 3) sc__law_urn.nd rfl (Or.inl rfl))) (fun _ _ _ _ _ => (pts_one (pt_cmpR op_gtI (pv 3) (pe_op op_powI pe_int pe_int) (nomark _)))) (fun _ _ _ _ _ => (pv 3))) (pa_cons (pv 1) (pa_cons (pv 2)
    (pa_cons pe_int pa_nil))))))))), p__law_urn h⟩
theorem g__law_draw (A : All K mg F) (hsm : Smb base) : FnG P w K mg base 1 F.f__law_draw F.d__law_draw ["urn", "size"] (sp__law_draw K) := by
  refine Fun.okG A.h__law_draw sc__law_draw l__law_draw ?_
  intro cdv Ar o s H vs Q E hG hr h
  have hu := hu_of hr
  have h65 := h65_of hr
  exact ⟨t__law_draw K, (pss_cons (ps_if (pt_cmpR (op_neU hr.units) (pe_ix ix_seq (pv 0) pe_int (fun _ _ => rfl)) (pe_lst pa_nil) (nomark _)) (pss_cons (ps_set (i := 2) sc__law_draw.nd rfl (Or.inl rfl) (pe_bm0 PySem.F.plainAttrs_list PySem.F.slot_list_pop
    PySem.F.type_list_pop mt_pop (pe_ix ix_seq (pv 0) pe_int (fun _ _ => rfl)))) (Evl.pss_cut (ps_if (pt_cmpR op_geI (pv 2) (pv 1) (nomark _)) (pss_one (ps_expr (pe_bm PySem.F.plainAttrs_list PySem.F.slot_list_append
    PySem.F.type_list_append mt_append (pe_ix ix_seq (pv 0) pe_int (fun _ _ => rfl)) (pa_cons (pe_op op_divI (pv 2) (pv 1)) pa_nil)))) pss_nil) (pss_one (ps_ret (pe_op op_modI (pe_callTy cr_int (by rfl) A.z_int (by decide +kernel)
    (pa_cons (pv 2) pa_nil)) (pv 1)))))) pss_nil) (pss_cons (ps_asg (pe_op op_addU (pe_ix ix_seq (pv 0) pe_int (fun _ _ => rfl)) pe_int) (pg_sub (pv 0) pe_int set_list)) (pss_cons (ps_set (i := 3) sc__law_draw.nd rfl (Or.inl rfl)
    (pe_op op_modI (pe_callTy cr_int (by rfl) A.z_int (by decide +kernel) (pa_cons (pe_op op_addU (pe_ix ix_seq (pv 0) pe_int (fun _ _ => rfl)) (pe_op op_mulU (pe_ix ix_seq (pv 0) pe_int (fun _ _ => rfl)) pe_int)) pa_nil)) pe_int))
    (pss_cons (ps_set (i := 3) sc__law_draw.nd rfl (Or.inl rfl) (pe_op op_modI (pe_callTy cr_int (by rfl) A.z_int (by decide +kernel) (pa_cons (pe_op op_addU (pe_op op_addU (pe_op op_mulU (pv 3) (pv 3)) (pe_op op_mulU (pe_ix ix_seq
    (pv 0) pe_int (fun _ _ => rfl)) (pe_ix ix_seq (pv 0) pe_int (fun _ _ => rfl)))) pe_int) pa_nil)) pe_int)) (pss_cons (ps_set (i := 3) sc__law_draw.nd rfl (Or.inl rfl) (pe_op op_modI (pe_callTy cr_int (by rfl) A.z_int (by
    decide +kernel) (pa_cons (pe_op op_addU (pe_op op_addU (pe_op op_mulU (pv 3) (pv 3)) (pe_ix ix_seq (pv 0) pe_int (fun _ _ => rfl))) pe_int) pa_nil)) pe_int)) (pss_one (ps_ret (pe_op op_modI (pe_callTy cr_int (by rfl) A.z_int
    (by decide +kernel) (pa_cons (pe_op op_divI (pv 3) pe_int) pa_nil)) (pv 1))))))))), p__law_draw h⟩
theorem g__law_parted (A : All K mg F) (hsm : Smb base) : FnG P w K mg base 1 F.f__law_parted F.d__law_parted ["s", "tree"] (sp__law_parted K) := by
  refine Fun.okG A.h__law_parted sc__law_parted l__law_parted ?_
  intro cdv Ar o s H vs Q E hG hr h
  have hu := hu_of hr
  have h65 := h65_of hr
  have hp := passes_of (X := cxOf (L2.CX P w) P w K mg base N__law_parted "_law_parted" (defScope s__law_parted) F.f__law_parted cdv Ar o s H E) rfl
  exact ⟨t__law_parted K, (pss_cons (ps_set (i := 2) sc__law_parted.nd rfl (Or.inl rfl) (pe_lst pa_nil)) (pss_cons (ps_for hp rfl (pi_enumV A.z_enumerate (pa_cons (pv 1) pa_nil)) (pg_tup rfl (pgs_cons (pg_name (i := 3) sc__law_parted.nd rfl (Or.inl rfl))
    (pgs_cons (pg_tup rfl (pgs_cons (pg_name (i := 4) sc__law_parted.nd rfl (Or.inl rfl)) (pgs_cons (pg_name (i := 5) sc__law_parted.nd rfl (Or.inl rfl)) pgs_nil))) pgs_nil))) (pss_one (ps_set (i := 2) sc__law_parted.nd rfl (Or.inl
    rfl) (pe_op op_addU (pv 2) (pe_lst (pa_cons (pe_tup (pa_cons (pv 4) (pa_cons (pe_op op_addU (pv 0) (pv 3)) pa_nil))) (pa_cons (pe_tup (pa_cons (pv 5) (pa_cons (pe_op op_addU (pv 0) (pv 3)) pa_nil))) pa_nil))))))) (pss_one
    (ps_ret (pe_tup (pa_cons (pe_op op_subI (pe_op op_mulU pe_int (pv 0)) pe_int) (pa_cons (pe_callTy cr_tupOf (by rfl) A.z_tuple (by decide +kernel) (pa_cons (pe_callB cr_sortPU (by rfl) A.z_sorted (by decide +kernel) (pa_cons (pv
    2) pa_nil)) pa_nil)) (pa_cons (pe_op op_mulT (pe_tup (pa_cons pe_int pa_nil)) (pe_callB cr_len (by rfl) A.z_len boot_len (pa_cons (pv 2) pa_nil))) pa_nil)))))))), p__law_parted h⟩
theorem g_is_within (A : All K mg F) (hsm : Smb base) (g_is_integer : FnG P w K mg base 1 F.f_is_integer F.d_is_integer ["value"] (sp_is_integer K)) : FnG P w K mg base 2 F.f_is_within F.d_is_within ["value", "least", "most"] (sp_is_within K) := by
  refine Fun.okG A.h_is_within sc_is_within l_is_within ?_
  intro cdv Ar o s H vs Q E hG hr h
  have hu := hu_of hr
  have h65 := h65_of hr
  exact ⟨t_is_within K, (pss_one (ps_ret (pe_and (pe_g g_is_integer hG (hr.mono (by decide)) A.m_is_integer A.k_is_integer A.b_is_integer pass00 (pa_cons (pv 0) pa_nil)) (pe_one (pe_chain op_leI op_leI (pv 1) (pv 0) (pv 2)))))), p_is_within h⟩
theorem g_steps_known (A : All K mg F) (hsm : Smb base) (g_roads_at : FnG P w K mg base 1 F.f_roads_at F.d_roads_at ["web", "place"] (sp_roads_at K)) : FnG P w K mg base 2 F.f_steps_known F.d_steps_known ["web", "place"] (sp_steps_known K) := by
  refine Fun.okG A.h_steps_known sc_steps_known l_steps_known ?_
  intro cdv Ar o s H vs Q E hG hr h
  have hu := hu_of hr
  have h65 := h65_of hr
  have hp := passes_of (X := cxOf (L2.CX P w) P w K mg base N_steps_known "steps_known" (defScope s_steps_known) F.f_steps_known cdv Ar o s H E) rfl
  exact ⟨t_steps_known K, (pss_cons (ps_parU (i := 6) (j := 2) rfl sc_steps_known.nd rfl rfl (by decide) (Or.inl rfl) (Or.inl rfl) (pa_cons (pe_disp (pps_cons (pv 1) pe_int pps_nil) (by rfl) (by rfl) (fun z => by cases z) (by decide)) (pa_cons (pe_lst
    (pa_cons (pv 1) pa_nil)) pa_nil)) (by rfl)) (pss_cons (ps_while hp (pt_cmpR (op_neU hr.units) (pv 2) (pe_lst pa_nil) (nomark _)) (pss_cons (ps_set (i := 3) sc_steps_known.nd rfl (Or.inl rfl) (pe_bm PySem.F.plainAttrs_list
    PySem.F.slot_list_pop PySem.F.type_list_pop mt_popAt (pv 2) (pa_cons pe_int pa_nil))) (pss_one (ps_for hp rfl (pi_seq (pe_g g_roads_at hG (hr.mono (by decide)) A.m_roads_at A.k_roads_at A.b_roads_at pass00 (pa_cons (pv 0)
    (pa_cons (pv 3) pa_nil)))) (pg_tup rfl (pgs_cons (pg_name (i := 4) sc_steps_known.nd rfl (Or.inl rfl)) (pgs_cons (pg_name (i := 5) sc_steps_known.nd rfl (Or.inl rfl)) pgs_nil))) (pss_one (ps_if (pt_cmp (pc_dnotin hu (pv 4) (pv
    6))) (pss_cons (ps_dput hu (pv 6) (pv 4) (pe_op op_addU (pe_dget hu (pv 6) (pv 3) (fun _ _ => rfl)) pe_int) rfl) (pss_one (ps_expr (pe_bm PySem.F.plainAttrs_list PySem.F.slot_list_append PySem.F.type_list_append mt_append (pv
    2) (pa_cons (pv 4) pa_nil))))) pss_nil)))))) (pss_one (ps_ret (pv 6))))), p_steps_known h⟩
theorem g__law_mixed (A : All K mg F) (hsm : Smb base) (g__law_draw : FnG P w K mg base 1 F.f__law_draw F.d__law_draw ["urn", "size"] (sp__law_draw K)) : FnG P w K mg base 2 F.f__law_mixed F.d__law_mixed ["urn", "items"] (sp__law_mixed K) := by
  refine Fun.okG A.h__law_mixed sc__law_mixed l__law_mixed ?_
  intro cdv Ar o s H vs Q E hG hr h
  have hu := hu_of hr
  have h65 := h65_of hr
  have hp := passes_of (X := cxOf (L2.CX P w) P w K mg base N__law_mixed "_law_mixed" (defScope s__law_mixed) F.f__law_mixed cdv Ar o s H E) rfl
  exact ⟨t__law_mixed K, (pss_cons (ps_parU (i := 2) (j := 3) rfl sc__law_mixed.nd rfl rfl (by decide) (Or.inl rfl) (Or.inl rfl) (pa_cons (pe_callTy cr_lstOf (by rfl) A.z_list (by decide +kernel) (pa_cons (pv 1) pa_nil)) (pa_cons (pe_lst pa_nil) pa_nil))
    (by rfl)) (pss_cons (ps_while hp (pt_cmpR (op_neU hr.units) (pv 2) (pe_lst pa_nil) (nomark _)) (pss_one (ps_expr (pe_bm PySem.F.plainAttrs_list PySem.F.slot_list_append PySem.F.type_list_append mt_append (pv 3) (pa_cons (pe_bm
    PySem.F.plainAttrs_list PySem.F.slot_list_pop PySem.F.type_list_pop mt_popAt (pv 2) (pa_cons (pe_g g__law_draw hG (hr.mono (by decide)) A.m__law_draw A.k__law_draw A.b__law_draw pass00 (pa_cons (pv 0) (pa_cons (pe_callB cr_len
    (by rfl) A.z_len boot_len (pa_cons (pv 2) pa_nil)) pa_nil))) pa_nil)) pa_nil))))) (pss_one (ps_ret (pv 3))))), p__law_mixed h⟩
theorem g_is_road (A : All K mg F) (hsm : Smb base) (g_is_within : FnG P w K mg base 2 F.f_is_within F.d_is_within ["value", "least", "most"] (sp_is_within K)) : FnG P w K mg base 3 F.f_is_road F.d_is_road ["n", "value"] (sp_is_road K) := by
  refine Fun.okG A.h_is_road sc_is_road l_is_road ?_
  intro cdv Ar o s H vs Q E hG hr h
  have hu := hu_of hr
  have h65 := h65_of hr
  exact ⟨t_is_road K, (pss_cons (ps_if (PW.pt (pw_or (pt_not (pt_val (pe_callB call_isi (by rfl) A.z_isinstance (by decide +kernel) (pa_cons (pv 1) (pa_cons (pe_bltn (v := .ty "tuple") (by rfl) A.z_tuple (by decide +kernel) rfl) pa_nil))))) (pw_or
    (pt_cmpR (op_neU hr.units) (pe_callB cr_len (by rfl) A.z_len boot_len (pa_cons (pv 1) pa_nil)) pe_int (nomark _)) (pw_or1 (pt_not (pt_val (pe_g g_is_within hG (hr.mono (by decide)) A.m_is_within A.k_is_within A.b_is_within
    pass00 (pa_cons (pe_ix ix_seq (pv 1) pe_int (fun _ _ => rfl)) (pa_cons pe_int (pa_cons (pe_op op_subI (pv 0) pe_int) pa_nil)))))))))) (pss_one (ps_ret pe_bl)) pss_nil) (pss_one (ps_ret (pe_g g_is_within hG (hr.mono (by decide))
    A.m_is_within A.k_is_within A.b_is_within pass00 (pa_cons (pe_ix ix_seq (pv 1) pe_int (fun _ _ => rfl)) (pa_cons (pe_op op_addU (pe_ix ix_seq (pv 1) pe_int (fun _ _ => rfl)) pe_int) (pa_cons (pe_op op_subI (pv 0) pe_int)
    pa_nil))))))), p_is_road h⟩
theorem g_steps_from (A : All K mg F) (hsm : Smb base) (g_steps_known : FnG P w K mg base 2 F.f_steps_known F.d_steps_known ["web", "place"] (sp_steps_known K)) : FnG P w K mg base 3 F.f_steps_from F.d_steps_from ["web", "place"] (sp_steps_from K) := by
  refine Fun.okG A.h_steps_from sc_steps_from l_steps_from ?_
  intro cdv Ar o s H vs Q E hG hr h
  have hu := hu_of hr
  have h65 := h65_of hr
  exact ⟨t_steps_from K, (pss_cons (ps_set (i := 2) sc_steps_from.nd rfl (Or.inr rfl) (pe_g g_steps_known hG (hr.mono (by decide)) A.m_steps_known A.k_steps_known A.b_steps_known pass00 (pa_cons (pv 0) (pa_cons (pv 1) pa_nil)))) (pss_one (ps_ret (pe_callTy
    cr_tupOf (by rfl) A.z_tuple (by decide +kernel) (pa_cons (pe_lc (own := [("other", 3)]) (g := (gName 3)) (tt := tYes) (te := (tDGet (tVar 2) (tVar 3))) rfl sc_steps_from.nd (pi_range1 rfl A.z_range (pa_cons (pe_ix ix_seq (pv 0)
    pe_int (fun _ _ => rfl)) pa_nil)) (blkOk_by (N := N_steps_from) (sc := defScope s_steps_from) (by decide +kernel)) (fun _ _ _ _ _ => (pg_name (i := 3) sc_steps_from.nd rfl (Or.inl rfl))) (fun _ _ _ _ _ => pts_nil) (fun _ _ _ _
    _ => (pe_dget hu (pv 2) (pv 3) (fun _ _ => rfl)))) pa_nil))))), p_steps_from h⟩
theorem g__law_tree (A : All K mg F) (hsm : Smb base) (g__law_draw : FnG P w K mg base 1 F.f__law_draw F.d__law_draw ["urn", "size"] (sp__law_draw K)) (g__law_mixed : FnG P w K mg base 2 F.f__law_mixed F.d__law_mixed ["urn", "items"] (sp__law_mixed K)) : FnG P w K mg base 3 F.f__law_tree F.d__law_tree ["urn", "s"] (sp__law_tree K) := by
  refine Fun.okG A.h__law_tree sc__law_tree l__law_tree ?_
  intro cdv Ar o s H vs Q E hG hr h
  have hu := hu_of hr
  have h65 := h65_of hr
  exact ⟨t__law_tree K, (pss_cons (ps_set (i := 2) sc__law_tree.nd rfl (Or.inr rfl) (pe_g g__law_mixed hG (hr.mono (by decide)) A.m__law_mixed A.k__law_mixed A.b__law_mixed pass00 (pa_cons (pv 0) (pa_cons (pe_listRg rfl (by rfl) A.z_list (prg_1 (by rfl)
    A.z_range (pv 1))) pa_nil)))) (pss_cons (ps_setLc (i := 3) (own := [("place", 4)]) (g := (gName 4)) (tt := tYes) (te := (tTup (tCons (tOp (rIx K) (tVar 2) (tG (sp__law_draw K) E00 (tCons (tVar 0) (tCons (tVar 4) tNil)))) (tCons
    (tOp (rIx K) (tVar 2) (tVar 4)) tNil)))) rfl sc__law_tree.nd rfl (by rfl) (sw_true (by rfl) (by rfl) (by rfl) (by decide +kernel)) (pi_range2 rfl A.z_range (pa_cons pe_int (pa_cons (pv 1) pa_nil))) (blkOk_by (N := N__law_tree)
    (sc := defScope s__law_tree) (by decide +kernel)) (fun _ _ _ _ _ => (pg_name (i := 4) sc__law_tree.nd rfl (Or.inl rfl))) (fun _ _ _ _ _ => pts_nil) (fun _ _ _ _ _ => (pe_tup (pa_cons (pe_ix ix_seq (pv 2) (pe_g g__law_draw hG
    (hr.mono (by decide)) A.m__law_draw A.k__law_draw A.b__law_draw pass00 (pa_cons (pv 0) (pa_cons (pv 4) pa_nil))) (fun _ _ => rfl)) (pa_cons (pe_ix ix_seq (pv 2) (pv 4) (fun _ _ => rfl)) pa_nil))))) (pss_one (ps_ret (pe_callTy
    cr_tupOf (by rfl) A.z_tuple (by decide +kernel) (pa_cons (pe_callB cr_sortPU (by rfl) A.z_sorted (by decide +kernel) (pa_cons (pe_lc (own := [("pair", 5)]) (g := (gName 5)) (tt := tYes) (te := (tTup (tCons (tCB (rMinU K) (tCons
    (tVar 5) tNil)) (tCons (tCB (rMaxU K) (tCons (tVar 5) tNil)) tNil)))) rfl sc__law_tree.nd (pi_seq (pv 3)) (blkOk_by (N := N__law_tree) (sc := defScope s__law_tree) (by decide +kernel)) (fun _ _ _ _ _ => (pg_name (i := 5)
    sc__law_tree.nd rfl (Or.inl rfl))) (fun _ _ _ _ _ => pts_nil) (fun _ _ _ _ _ => (pe_tup (pa_cons (pe_callB (cr_minU rfl) (by rfl) A.z_min (by decide +kernel) (pa_cons (pv 5) pa_nil)) (pa_cons (pe_callB (cr_maxU rfl) (by rfl)
    A.z_max (by decide +kernel) (pa_cons (pv 5) pa_nil)) pa_nil))))) pa_nil)) pa_nil)))))), p__law_tree h⟩
theorem g_roads_error (A : All K mg F) (hsm : Smb base) (g_is_road : FnG P w K mg base 3 F.f_is_road F.d_is_road ["n", "value"] (sp_is_road K)) : FnG P w K mg base 4 F.f_roads_error F.d_roads_error ["n", "roads"] (sp_roads_error K) := by
  refine Fun.okG A.h_roads_error sc_roads_error l_roads_error ?_
  intro cdv Ar o s H vs Q E hG hr h
  have hu := hu_of hr
  have h65 := h65_of hr
  have hp := passes_of (X := cxOf (L2.CX P w) P w K mg base N_roads_error "roads_error" (defScope s_roads_error) F.f_roads_error cdv Ar o s H E) rfl
  exact ⟨t_roads_error K, (pss_cons (ps_if (pt_not (pt_chain op_leI op_leI pe_int (pe_callB cr_len (by rfl) A.z_len boot_len (pa_cons (pv 1) pa_nil)) (pe_glob rfl A.c_MAX_ROADS.choose_spec ⟨_, rfl⟩))) (pss_one (ps_ret pe_str)) pss_nil) (pss_cons (ps_for hp
    rfl (pi_enumV A.z_enumerate (pa_cons (pv 1) pa_nil)) (pg_tup rfl (pgs_cons (pg_name (i := 3) sc_roads_error.nd rfl (Or.inl rfl)) (pgs_cons (pg_name (i := 2) sc_roads_error.nd rfl (Or.inl rfl)) pgs_nil))) (pss_one (ps_if (pt_not
    (pt_val (pe_g g_is_road hG (hr.mono (by decide)) A.m_is_road A.k_is_road A.b_is_road pass00 (pa_cons (pv 0) (pa_cons (pv 2) pa_nil))))) (pss_one (ps_ret (pe_tup (pa_cons pe_str (pa_cons (pv 3) pa_nil))))) pss_nil))) (pss_cons
    (ps_for hp rfl (pi_range2 rfl A.z_range (pa_cons pe_int (pa_cons (pe_callB cr_len (by rfl) A.z_len boot_len (pa_cons (pv 1) pa_nil)) pa_nil))) (pg_name (i := 3) sc_roads_error.nd rfl (Or.inl rfl)) (pss_one (ps_if (pt_not
    (pt_cmpR (op_ltU hr.units0) (pe_ix ix_seq (pv 1) (pe_op op_subI (pv 3) pe_int) (fun _ _ => rfl)) (pe_ix ix_seq (pv 1) (pv 3) (fun _ _ => rfl)) (nomark _))) (pss_one (ps_ret (pe_tup (pa_cons pe_str (pa_cons (pv 3) pa_nil)))))
    pss_nil))) (pss_one (ps_ret pe_non))))), p_roads_error h⟩
theorem g_middles_of (A : All K mg F) (hsm : Smb base) (g_road_counts : FnG P w K mg base 1 F.f_road_counts F.d_road_counts ["web"] (sp_road_counts K)) (g_steps_from : FnG P w K mg base 3 F.f_steps_from F.d_steps_from ["web", "place"] (sp_steps_from K)) : FnG P w K mg base 4 F.f_middles_of F.d_middles_of ["web"] (sp_middles_of K) := by
  refine Fun.okG A.h_middles_of sc_middles_of l_middles_of ?_
  intro cdv Ar o s H vs Q E hG hr h
  have hu := hu_of hr
  have h65 := h65_of hr
  have hp := passes_of (X := cxOf (L2.CX P w) P w K mg base N_middles_of "middles_of" (defScope s_middles_of) F.f_middles_of cdv Ar o s H E) rfl
  exact ⟨t_middles_of K, (pss_cons (ps_asg (pv 0) (pg_tup rfl (pgs_cons (pg_name (i := 1) sc_middles_of.nd rfl (Or.inl rfl)) (pgs_cons (pg_name (i := 2) sc_middles_of.nd rfl (Or.inl rfl)) (pgs_cons (pg_name (i := 3) sc_middles_of.nd rfl (Or.inl rfl))
    pgs_nil))))) (pss_cons (ps_if (PW.pt (pw_or (pt_cmpR (op_ltU hr.units0) (pv 1) pe_int (nomark _)) (pw_or1 (pt_cmpR (op_neU hr.units) (pe_callB cr_len (by rfl) A.z_len boot_len (pa_cons (pv 2) pa_nil)) (pe_op op_subI (pv 1)
    pe_int) (nomark _))))) (pss_one (ps_ret pe_non)) pss_nil) (pss_cons (ps_asg (pe_tup (pa_cons (pe_g g_steps_from hG (hr.mono (by decide)) A.m_steps_from A.k_steps_from A.b_steps_from pass00 (pa_cons (pv 0) (pa_cons pe_int
    pa_nil))) (pa_cons (pe_g g_road_counts hG (hr.mono (by decide)) A.m_road_counts A.k_road_counts A.b_road_counts pass00 (pa_cons (pv 0) pa_nil)) pa_nil))) (pg_tup rfl (pgs_cons (pg_name (i := 4) sc_middles_of.nd rfl (Or.inr
    rfl)) (pgs_cons (pg_name (i := 5) sc_middles_of.nd rfl (Or.inr rfl)) pgs_nil)))) (pss_cons (ps_for hp rfl (pi_seq (pe_tup (pa_cons pe_int (pa_cons pe_int pa_nil)))) (pg_name (i := 6) sc_middles_of.nd rfl (Or.inr rfl)) (pss_cons
    (ps_setLc (i := 7) (own := [("place", 8)]) (g := (gName 8)) (tt := (tTest (tOp (rEqU K) (tOp rModI (tOp (rIx K) (tVar 4) (tVar 8)) (tC (.int 2))) (tVar 6)))) (te := (tVar 8)) rfl sc_middles_of.nd rfl (by rfl) (sw_true (by rfl)
    (by rfl) (by rfl) (by decide +kernel)) (pi_range1 rfl A.z_range (pa_cons (pv 1) pa_nil)) (blkOk_by (N := N_middles_of) (sc := defScope s_middles_of) (by decide +kernel)) (fun _ _ _ _ _ => (pg_name (i := 8) sc_middles_of.nd rfl
    (Or.inl rfl))) (fun _ _ _ _ _ => (pts_one (pt_cmpR (op_eqU hr.units) (pe_op op_modI (pe_ix ix_seq (pv 4) (pv 8) (fun _ _ => rfl)) pe_int) (pv 6) (nomark _)))) (fun _ _ _ _ _ => (pv 8))) (pss_one (ps_if (pt_val (pe_callB (cr_all
    rfl) (by rfl) A.z_all (by decide +kernel) (pa_cons (pe_lc (own := [("place", 8)]) (g := (gName 8)) (tt := tYes) (te := (tOp (rEqU K) (tOp (rIx K) (tVar 5) (tVar 8)) (tC (.int 2)))) rfl sc_middles_of.nd (pi_seq (pv 7)) (blkOk_by
    (N := N_middles_of) (sc := defScope s_middles_of) (by decide +kernel)) (fun _ _ _ _ _ => (pg_name (i := 8) sc_middles_of.nd rfl (Or.inl rfl))) (fun _ _ _ _ _ => pts_nil) (fun _ _ _ _ _ => (pe_cmpR (op_eqU hr.units) (pe_ix
    ix_seq (pv 5) (pv 8) (fun _ _ => rfl)) pe_int (nomark _)))) pa_nil))) (pss_one (ps_ret (pv 7))) pss_nil)))) (pss_one (ps_ret pe_non)))))), p_middles_of h⟩
theorem g__law_shaped (A : All K mg F) (hsm : Smb base) (g__law_draw : FnG P w K mg base 1 F.f__law_draw F.d__law_draw ["urn", "size"] (sp__law_draw K)) (g__law_tree : FnG P w K mg base 3 F.f__law_tree F.d__law_tree ["urn", "s"] (sp__law_tree K)) : FnG P w K mg base 4 F.f__law_shaped F.d__law_shaped ["urn", "s"] (sp__law_shaped K) := by
  refine Fun.okG A.h__law_shaped sc__law_shaped l__law_shaped ?_
  intro cdv Ar o s H vs Q E hG hr h
  have hu := hu_of hr
  have h65 := h65_of hr
  exact ⟨t__law_shaped K, (pss_cons (ps_set (i := 2) sc__law_shaped.nd rfl (Or.inl rfl) (pe_g g__law_draw hG (hr.mono (by decide)) A.m__law_draw A.k__law_draw A.b__law_draw pass00 (pa_cons (pv 0) (pa_cons pe_int pa_nil)))) (pss_cons (ps_if (pt_cmpR (op_eqU
    hr.units) (pv 2) pe_int (nomark _)) (pss_one (ps_ret (pe_callTy cr_tupOf (by rfl) A.z_tuple (by decide +kernel) (pa_cons (pe_lc (own := [("place", 3)]) (g := (gName 3)) (tt := tYes) (te := (tTup (tCons (tVar 3) (tCons (tOp
    (rAddU K) (tVar 3) (tC (.int 1))) tNil)))) rfl sc__law_shaped.nd (pi_range1 rfl A.z_range (pa_cons (pe_op op_subI (pv 1) pe_int) pa_nil)) (blkOk_by (N := N__law_shaped) (sc := defScope s__law_shaped) (by decide +kernel)) (fun _
    _ _ _ _ => (pg_name (i := 3) sc__law_shaped.nd rfl (Or.inl rfl))) (fun _ _ _ _ _ => pts_nil) (fun _ _ _ _ _ => (pe_tup (pa_cons (pv 3) (pa_cons (pe_op op_addU (pv 3) pe_int) pa_nil))))) pa_nil)))) pss_nil) (pss_cons (ps_if
    (pt_cmpR (op_eqU hr.units) (pv 2) pe_int (nomark _)) (pss_one (ps_ret (pe_callTy cr_tupOf (by rfl) A.z_tuple (by decide +kernel) (pa_cons (pe_lc (own := [("place", 3)]) (g := (gName 3)) (tt := tYes) (te := (tTup (tCons (tC
    (.int 0)) (tCons (tVar 3) tNil)))) rfl sc__law_shaped.nd (pi_range2 rfl A.z_range (pa_cons pe_int (pa_cons (pv 1) pa_nil))) (blkOk_by (N := N__law_shaped) (sc := defScope s__law_shaped) (by decide +kernel)) (fun _ _ _ _ _ =>
    (pg_name (i := 3) sc__law_shaped.nd rfl (Or.inl rfl))) (fun _ _ _ _ _ => pts_nil) (fun _ _ _ _ _ => (pe_tup (pa_cons pe_int (pa_cons (pv 3) pa_nil))))) pa_nil)))) pss_nil) (pss_one (ps_ret (pe_g g__law_tree hG (hr.mono (by
    decide)) A.m__law_tree A.k__law_tree A.b__law_tree pass00 (pa_cons (pv 0) (pa_cons (pv 1) pa_nil)))))))), p__law_shaped h⟩
theorem g_elder_tree (A : All K mg F) (hsm : Smb base) (g__Unfit : FnOk P w K mg base (L2.CX P w) 1 F.f__Unfit F.d__Unfit ["self"] (sp_bare K)) (g_roads_at : FnG P w K mg base 1 F.f_roads_at F.d_roads_at ["web", "place"] (sp_roads_at K)) (g_middles_of : FnG P w K mg base 4 F.f_middles_of F.d_middles_of ["web"] (sp_middles_of K)) : FnG P w K mg base 5 F.f_elder_tree F.d_elder_tree ["web"] (sp_elder_tree K F.cl) := by
  refine Fun.okG A.h_elder_tree sc_elder_tree l_elder_tree ?_
  intro cdv Ar o s H vs Q E hG hr h
  have hu := hu_of hr
  have h65 := h65_of hr
  have hp := passes_of (X := cxOf (L2.CX P w) P w K mg base N_elder_tree "elder_tree" (defScope s_elder_tree) F.f_elder_tree cdv Ar o s H E) rfl
  have tk : Takes (cxOf (L2.CX P w) P w K mg base N_elder_tree "elder_tree" (defScope s_elder_tree) F.f_elder_tree cdv Ar o s H E) (fun c d _ H => E c d H) := takes_of rfl rfl rfl rfl
  exact ⟨t_elder_tree K F.cl (fun c d _ H => E c d H), (pss_cons (ps_set (i := 1) sc_elder_tree.nd rfl (Or.inr rfl) (pe_g g_middles_of hG (hr.mono (by decide)) A.m_middles_of A.k_middles_of A.b_middles_of pass00 (pa_cons (pv 0) pa_nil))) (pss_cons (ps_if (pt_cmpR op_isN1 (pv 1) pe_non
    (nomark _)) (pss_one (ps_raise rfl tk (pmk_bare A.o_Unfit A.i_Unfit A.t_Unfit g__Unfit (hr.mono (by decide)) A.b_Unfit passL A.m_Unfit))) pss_nil) (pss_cons (ps_set (i := 2) sc_elder_tree.nd rfl (Or.inl rfl) (pe_lst pa_nil))
    (pss_cons (ps_for hp rfl (pi_seq (pv 1)) (pg_name (i := 3) sc_elder_tree.nd rfl (Or.inl rfl)) (pss_cons (ps_asg (pe_lc (own := [("mate", 6), ("road", 7)]) (g := (gTup K 2 (gCons (gName 6) (gCons (gName 7) gNil)))) (tt := tYes)
    (te := (tVar 6)) rfl sc_elder_tree.nd (pi_seq (pe_g g_roads_at hG (hr.mono (by decide)) A.m_roads_at A.k_roads_at A.b_roads_at pass00 (pa_cons (pv 0) (pa_cons (pv 3) pa_nil)))) (blkOk_by (N := N_elder_tree) (sc := defScope
    s_elder_tree) (by decide +kernel)) (fun _ _ _ _ _ => (pg_tup rfl (pgs_cons (pg_name (i := 6) sc_elder_tree.nd rfl (Or.inl rfl)) (pgs_cons (pg_name (i := 7) sc_elder_tree.nd rfl (Or.inl rfl)) pgs_nil)))) (fun _ _ _ _ _ =>
    pts_nil) (fun _ _ _ _ _ => (pv 6))) (pg_lst rfl (pgs_cons (pg_name (i := 4) sc_elder_tree.nd rfl (Or.inl rfl)) (pgs_cons (pg_name (i := 5) sc_elder_tree.nd rfl (Or.inl rfl)) pgs_nil)))) (pss_one (ps_expr (pe_bm
    PySem.F.plainAttrs_list PySem.F.slot_list_append PySem.F.type_list_append mt_append (pv 2) (pa_cons (pe_tup (pa_cons (pv 4) (pa_cons (pv 5) (pa_cons (pv 3) pa_nil)))) pa_nil)))))) (pss_one (ps_ret (pe_tup (pa_cons (pe_callTy
    cr_tupOf (by rfl) A.z_tuple (by decide +kernel) (pa_cons (pe_lc (own := [("place", 8)]) (g := (gName 8)) (tt := (tTest (tOp (rNiU K) (tVar 8) (tVar 1)))) (te := (tVar 8)) rfl sc_elder_tree.nd (pi_range1 rfl A.z_range (pa_cons
    (pe_ix ix_seq (pv 0) pe_int (fun _ _ => rfl)) pa_nil)) (blkOk_by (N := N_elder_tree) (sc := defScope s_elder_tree) (by decide +kernel)) (fun _ _ _ _ _ => (pg_name (i := 8) sc_elder_tree.nd rfl (Or.inl rfl))) (fun _ _ _ _ _ =>
    (pts_one (pt_cmpR (op_niU h65) (pv 8) (pv 1) rfl))) (fun _ _ _ _ _ => (pv 8))) pa_nil)) (pa_cons (pe_callTy cr_tupOf (by rfl) A.z_tuple (by decide +kernel) (pa_cons (pe_callB (cr_sortT (d := 3) (B := 64) (by decide)) (by rfl)
    A.z_sorted (by decide +kernel) (pa_cons (pv 2) pa_nil)) pa_nil)) pa_nil))))))))), p_elder_tree A.x_Unfit h⟩
theorem g_is_elder (A : All K mg F) (hsm : Smb base) (g_steps_known : FnG P w K mg base 2 F.f_steps_known F.d_steps_known ["web", "place"] (sp_steps_known K)) (g_roads_error : FnG P w K mg base 4 F.f_roads_error F.d_roads_error ["n", "roads"] (sp_roads_error K)) : FnG P w K mg base 5 F.f_is_elder F.d_is_elder ["s", "tree"] (sp_is_elder K) := by
  refine Fun.okG A.h_is_elder sc_is_elder l_is_elder ?_
  intro cdv Ar o s H vs Q E hG hr h
  have hu := hu_of hr
  have h65 := h65_of hr
  exact ⟨t_is_elder K, (pss_cons (ps_if (PW.pt (pw_or (pt_cmpR (op_ltU hr.units0) (pe_callB cr_len (by rfl) A.z_len boot_len (pa_cons (pv 1) pa_nil)) pe_int (nomark _)) (pw_or (pt_cmpR (op_neU hr.units) (pe_callB cr_len (by rfl) A.z_len boot_len (pa_cons
    (pv 1) pa_nil)) (pe_op op_subI (pv 0) pe_int) (nomark _)) (pw_or1 (pt_cmpR op_notN1 (pe_g g_roads_error hG (hr.mono (by decide)) A.m_roads_error A.k_roads_error A.b_roads_error pass00 (pa_cons (pv 0) (pa_cons (pv 1) pa_nil)))
    pe_non (nomark _)))))) (pss_one (ps_ret pe_bl)) pss_nil) (pss_one (ps_ret (pe_cmpR (op_eqU hr.units) (pe_callB cr_lenD (by rfl) A.z_len boot_len (pa_cons (pe_g g_steps_known hG (hr.mono (by decide)) A.m_steps_known
    A.k_steps_known A.b_steps_known pass00 (pa_cons (pe_tup (pa_cons (pv 0) (pa_cons (pv 1) (pa_cons (pe_tup pa_nil) pa_nil)))) (pa_cons pe_int pa_nil))) pa_nil)) (pv 0) (nomark _))))), p_is_elder h⟩
theorem g_parted_web (A : All K mg F) (hsm : Smb base) (g__Unfit : FnOk P w K mg base (L2.CX P w) 1 F.f__Unfit F.d__Unfit ["self"] (sp_bare K)) (g_is_elder : FnG P w K mg base 5 F.f_is_elder F.d_is_elder ["s", "tree"] (sp_is_elder K)) : FnG P w K mg base 6 F.f_parted_web F.d_parted_web ["s", "tree"] (sp_parted_web K F.cl) := by
  refine Fun.okG A.h_parted_web sc_parted_web l_parted_web ?_
  intro cdv Ar o s H vs Q E hG hr h
  have hu := hu_of hr
  have h65 := h65_of hr
  have hp := passes_of (X := cxOf (L2.CX P w) P w K mg base N_parted_web "parted_web" (defScope s_parted_web) F.f_parted_web cdv Ar o s H E) rfl
  have tk : Takes (cxOf (L2.CX P w) P w K mg base N_parted_web "parted_web" (defScope s_parted_web) F.f_parted_web cdv Ar o s H E) (fun c d _ H => E c d H) := takes_of rfl rfl rfl rfl
  exact ⟨t_parted_web K F.cl (fun c d _ H => E c d H), (pss_cons (ps_if (PW.pt (pw_or (pt_cmpR op_gtI (pe_op op_subI (pe_op op_mulU pe_int (pv 0)) pe_int) (pe_glob rfl A.c_MAX_PLACES.choose_spec ⟨_, rfl⟩) (nomark _)) (pw_or1 (pt_not (pt_val (pe_g g_is_elder hG (hr.mono (by decide))
    A.m_is_elder A.k_is_elder A.b_is_elder pass00 (pa_cons (pv 0) (pa_cons (pv 1) pa_nil)))))))) (pss_one (ps_raise rfl tk (pmk_bare A.o_Unfit A.i_Unfit A.t_Unfit g__Unfit (hr.mono (by decide)) A.b_Unfit passL A.m_Unfit))) pss_nil)
    (pss_cons (ps_set (i := 2) sc_parted_web.nd rfl (Or.inl rfl) (pe_lst pa_nil)) (pss_cons (ps_for hp rfl (pi_enumV A.z_enumerate (pa_cons (pv 1) pa_nil)) (pg_tup rfl (pgs_cons (pg_name (i := 3) sc_parted_web.nd rfl (Or.inl rfl))
    (pgs_cons (pg_tup rfl (pgs_cons (pg_name (i := 4) sc_parted_web.nd rfl (Or.inl rfl)) (pgs_cons (pg_name (i := 5) sc_parted_web.nd rfl (Or.inl rfl)) pgs_nil))) pgs_nil))) (pss_one (ps_expr (pe_bm PySem.F.plainAttrs_list
    PySem.F.slot_list_extend PySem.F.type_list_extend mt_extend (pv 2) (pa_cons (pe_lst (pa_cons (pe_tup (pa_cons (pv 4) (pa_cons (pe_op op_addU (pv 0) (pv 3)) pa_nil))) (pa_cons (pe_tup (pa_cons (pv 5) (pa_cons (pe_op op_addU (pv
    0) (pv 3)) pa_nil))) pa_nil))) pa_nil))))) (pss_one (ps_ret (pe_tup (pa_cons (pe_op op_subI (pe_op op_mulU pe_int (pv 0)) pe_int) (pa_cons (pe_callTy cr_tupOf (by rfl) A.z_tuple (by decide +kernel) (pa_cons (pe_callB cr_sortPU
    (by rfl) A.z_sorted (by decide +kernel) (pa_cons (pv 2) pa_nil)) pa_nil)) (pa_cons (pe_op op_mulT (pe_tup (pa_cons pe_int pa_nil)) (pe_callB cr_len (by rfl) A.z_len boot_len (pa_cons (pv 2) pa_nil))) pa_nil))))))))), p_parted_web A.x_Unfit h⟩
theorem g__law_is_kept (A : All K mg F) (hsm : Smb base) (g__Unfit : FnOk P w K mg base (L2.CX P w) 1 F.f__Unfit F.d__Unfit ["self"] (sp_bare K)) (g__law_draw : FnG P w K mg base 1 F.f__law_draw F.d__law_draw ["urn", "size"] (sp__law_draw K)) (g__law_mixed : FnG P w K mg base 2 F.f__law_mixed F.d__law_mixed ["urn", "items"] (sp__law_mixed K)) (g_elder_tree : FnG P w K mg base 5 F.f_elder_tree F.d_elder_tree ["web"] (sp_elder_tree K F.cl)) : FnG P w K mg base 6 F.f__law_is_kept F.d__law_is_kept ["urn", "web", "spots", "rows"] (sp__law_is_kept K F.cl) := by
  refine Fun.okG A.h__law_is_kept sc__law_is_kept l__law_is_kept ?_
  intro cdv Ar o s H vs Q E hG hr h
  have hu := hu_of hr
  have h65 := h65_of hr
  have hp := passes_of (X := cxOf (L2.CX P w) P w K mg base N__law_is_kept "_law_is_kept" (defScope s__law_is_kept) F.f__law_is_kept cdv Ar o s H E) rfl
  have tk : Takes (cxOf (L2.CX P w) P w K mg base N__law_is_kept "_law_is_kept" (defScope s__law_is_kept) F.f__law_is_kept cdv Ar o s H E) (fun c d _ H => E c d H) := takes_of rfl rfl rfl rfl
  exact ⟨t__law_is_kept K F.cl (fun c d _ H => E c d H), (pss_cons (ps_asg (pe_tup (pa_cons (pe_g g__law_mixed hG (hr.mono (by decide)) A.m__law_mixed A.k__law_mixed A.b__law_mixed pass00 (pa_cons (pv 0) (pa_cons (pe_listRg rfl (by rfl) A.z_list (prg_1 (by rfl) A.z_range (pe_ix ix_seq
    (pv 1) pe_int (fun _ _ => rfl)))) pa_nil))) (pa_cons pe_dnewT pa_nil))) (pg_tup rfl (pgs_cons (pg_name (i := 4) sc__law_is_kept.nd rfl (Or.inr rfl)) (pgs_cons (pg_name (i := 5) sc__law_is_kept.nd rfl (Or.inr rfl)) pgs_nil))))
    (pss_cons (ps_for hp rfl (pi_seq (pe_ix ix_seq (pv 1) pe_int (fun _ _ => rfl))) (pg_tup rfl (pgs_cons (pg_name (i := 6) sc__law_is_kept.nd rfl (Or.inl rfl)) (pgs_cons (pg_name (i := 7) sc__law_is_kept.nd rfl (Or.inl rfl))
    pgs_nil))) (pss_one (ps_dput hu (pv 5) (pe_tup (pa_cons (pe_callB (cr_min2 rfl) (by rfl) A.z_min (by decide +kernel) (pa_cons (pe_ix ix_seq (pv 4) (pv 6) (fun _ _ => rfl)) (pa_cons (pe_ix ix_seq (pv 4) (pv 7) (fun _ _ => rfl))
    pa_nil))) (pa_cons (pe_callB (cr_max2 rfl) (by rfl) A.z_max (by decide +kernel) (pa_cons (pe_ix ix_seq (pv 4) (pv 6) (fun _ _ => rfl)) (pa_cons (pe_ix ix_seq (pv 4) (pv 7) (fun _ _ => rfl)) pa_nil))) pa_nil))) (pe_op op_addU
    pe_int (pe_g g__law_draw hG (hr.mono (by decide)) A.m__law_draw A.k__law_draw A.b__law_draw pass00 (pa_cons (pv 0) (pa_cons pe_int pa_nil)))) rfl))) (pss_cons (ps_set (i := 8) sc__law_is_kept.nd rfl (Or.inl rfl) (pe_callTy
    cr_tupOf (by rfl) A.z_tuple (by decide +kernel) (pa_cons (pe_callB (cr_sortDT rfl) (by rfl) A.z_sorted (by decide +kernel) (pa_cons (pv 5) pa_nil)) pa_nil))) (pss_cons (ps_set (i := 9) sc__law_is_kept.nd rfl (Or.inl rfl)
    (pe_tup (pa_cons (pe_ix ix_seq (pv 1) pe_int (fun _ _ => rfl)) (pa_cons (pv 8) (pa_cons (pe_callTy cr_tupOf (by rfl) A.z_tuple (by decide +kernel) (pa_cons (pe_lc (own := [("road", 14)]) (g := (gName 14)) (tt := tYes) (te :=
    (tDGet (tVar 5) (tVar 14))) rfl sc__law_is_kept.nd (pi_seq (pv 8)) (blkOk_by (N := N__law_is_kept) (sc := defScope s__law_is_kept) (by decide +kernel)) (fun _ _ _ _ _ => (pg_name (i := 14) sc__law_is_kept.nd rfl (Or.inl rfl)))
    (fun _ _ _ _ _ => pts_nil) (fun _ _ _ _ _ => (pe_dget hu (pv 5) (pv 14) (fun _ _ => rfl)))) pa_nil)) pa_nil))))) (pss_cons (ps_set (i := 10) sc__law_is_kept.nd rfl (Or.inl rfl) (pe_callB (cr_sortT (d := 3) (B := 64) (by
    decide)) (by rfl) A.z_sorted (by decide +kernel) (pa_cons (pe_lc (own := [("a", 6), ("b", 7), ("middle", 13)]) (g := (gTup K 3 (gCons (gName 6) (gCons (gName 7) (gCons (gName 13) gNil))))) (tt := tYes) (te := (tTup (tCons (tCB
    rMin2 (tCons (tOp (rIx K) (tVar 4) (tVar 6)) (tCons (tOp (rIx K) (tVar 4) (tVar 7)) tNil))) (tCons (tCB rMax2 (tCons (tOp (rIx K) (tVar 4) (tVar 6)) (tCons (tOp (rIx K) (tVar 4) (tVar 7)) tNil))) (tCons (tOp (rIx K) (tVar 4)
    (tVar 13)) tNil))))) rfl sc__law_is_kept.nd (pi_seq (pv 3)) (blkOk_by (N := N__law_is_kept) (sc := defScope s__law_is_kept) (by decide +kernel)) (fun _ _ _ _ _ => (pg_tup rfl (pgs_cons (pg_name (i := 6) sc__law_is_kept.nd rfl
    (Or.inl rfl)) (pgs_cons (pg_name (i := 7) sc__law_is_kept.nd rfl (Or.inl rfl)) (pgs_cons (pg_name (i := 13) sc__law_is_kept.nd rfl (Or.inl rfl)) pgs_nil))))) (fun _ _ _ _ _ => pts_nil) (fun _ _ _ _ _ => (pe_tup (pa_cons
    (pe_callB (cr_min2 rfl) (by rfl) A.z_min (by decide +kernel) (pa_cons (pe_ix ix_seq (pv 4) (pv 6) (fun _ _ => rfl)) (pa_cons (pe_ix ix_seq (pv 4) (pv 7) (fun _ _ => rfl)) pa_nil))) (pa_cons (pe_callB (cr_max2 rfl) (by rfl)
    A.z_max (by decide +kernel) (pa_cons (pe_ix ix_seq (pv 4) (pv 6) (fun _ _ => rfl)) (pa_cons (pe_ix ix_seq (pv 4) (pv 7) (fun _ _ => rfl)) pa_nil))) (pa_cons (pe_ix ix_seq (pv 4) (pv 13) (fun _ _ => rfl)) pa_nil)))))) pa_nil)))
    (pss_cons (ps_set (i := 11) sc__law_is_kept.nd rfl (Or.inl rfl) (pe_callB (call_reprU hG hr.units hsm) (by rfl) A.z_repr (by decide +kernel) (pa_cons (pv 9) pa_nil))) (pss_cons (ps_set (i := 12) sc__law_is_kept.nd rfl (Or.inl
    rfl) (pe_gk g_elder_tree hG (hr.mono (by decide)) A.m_elder_tree A.k_elder_tree (kb_elder_tree_web A) (fun σ => passAt tk σ) (pk_cons (pv 9) pk_nil))) (pss_one (ps_ret (pe_cmpR (op_eqU hr.units) (pe_callB (call_reprU hG
    hr.units hsm) (by rfl) A.z_repr (by decide +kernel) (pa_cons (pe_lst (pa_cons (pv 12) (pa_cons (pe_callB (call_reprU hG hr.units hsm) (by rfl) A.z_repr (by decide +kernel) (pa_cons (pv 9) pa_nil)) pa_nil))) pa_nil)) (pe_callB
    (call_reprU hG hr.units hsm) (by rfl) A.z_repr (by decide +kernel) (pa_cons (pe_lst (pa_cons (pe_tup (pa_cons (pe_callTy cr_tupOf (by rfl) A.z_tuple (by decide +kernel) (pa_cons (pe_callB cr_sortedI (by rfl) A.z_sorted (by
    decide +kernel) (pa_cons (pe_lc (own := [("spot", 15)]) (g := (gName 15)) (tt := tYes) (te := (tOp (rIx K) (tVar 4) (tVar 15))) rfl sc__law_is_kept.nd (pi_seq (pv 2)) (blkOk_by (N := N__law_is_kept) (sc := defScope
    s__law_is_kept) (by decide +kernel)) (fun _ _ _ _ _ => (pg_name (i := 15) sc__law_is_kept.nd rfl (Or.inl rfl))) (fun _ _ _ _ _ => pts_nil) (fun _ _ _ _ _ => (pe_ix ix_seq (pv 4) (pv 15) (fun _ _ => rfl)))) pa_nil)) pa_nil))
    (pa_cons (pe_callTy cr_tupOf (by rfl) A.z_tuple (by decide +kernel) (pa_cons (pv 10) pa_nil)) pa_nil))) (pa_cons (pv 11) pa_nil))) pa_nil)) (nomark _))))))))))), p__law_is_kept h⟩
theorem g_law (A : All K mg F) (hsm : Smb base) (g__Unfit : FnOk P w K mg base (L2.CX P w) 1 F.f__Unfit F.d__Unfit ["self"] (sp_bare K)) (g__law_draw : FnG P w K mg base 1 F.f__law_draw F.d__law_draw ["urn", "size"] (sp__law_draw K)) (g__law_parted : FnG P w K mg base 1 F.f__law_parted F.d__law_parted ["s", "tree"] (sp__law_parted K)) (g__law_urn : FnG P w K mg base 1 F.f__law_urn F.d__law_urn ["script"] (sp__law_urn K)) (g__law_shaped : FnG P w K mg base 4 F.f__law_shaped F.d__law_shaped ["urn", "s"] (sp__law_shaped K)) (g_elder_tree : FnG P w K mg base 5 F.f_elder_tree F.d_elder_tree ["web"] (sp_elder_tree K F.cl)) (g__law_is_kept : FnG P w K mg base 6 F.f__law_is_kept F.d__law_is_kept ["urn", "web", "spots", "rows"] (sp__law_is_kept K F.cl)) (g_parted_web : FnG P w K mg base 6 F.f_parted_web F.d_parted_web ["s", "tree"] (sp_parted_web K F.cl)) : FnG P w K mg base 7 F.f_law F.d_law ["script"] (sp_law K) := by
  refine Fun.okG A.h_law sc_law l_law ?_
  intro cdv Ar o s H vs Q E hG hr h
  have hu := hu_of hr
  have h65 := h65_of hr
  have hp := passes_of (X := cxOf (L2.CX P w) P w K mg base N_law "law" (defScope s_law) F.f_law cdv Ar o s H E) rfl
  have tk : Takes (cxOf (L2.CX P w) P w K mg base N_law "law" (defScope s_law) F.f_law cdv Ar o s H E) (fun c d _ H => E c d H) := takes_of rfl rfl rfl rfl
  exact ⟨t_law K F.cl (fun c d _ H => E c d H), (pss_cons (ps_set (i := 1) sc_law.nd rfl (Or.inl rfl) (pe_g g__law_urn hG (hr.mono (by decide)) A.m__law_urn A.k__law_urn A.b__law_urn pass00 (pa_cons (pv 0) pa_nil))) (pss_cons (ps_for hp rfl (pi_range1 rfl A.z_range (pa_cons
    pe_int pa_nil)) (pg_name (i := 2) sc_law.nd rfl (Or.inl rfl)) (pss_cons (ps_set (i := 3) sc_law.nd rfl (Or.inr rfl) (pe_op op_addU (pe_ix ix_seq (pe_lst (pa_cons pe_int (pa_cons pe_int (pa_cons pe_int (pa_cons pe_int
    pa_nil))))) (pv 2) (fun _ _ => rfl)) (pe_ifExp (pt_cmpR (op_inU h65) (pv 2) (pe_tup (pa_cons pe_int (pa_cons pe_int pa_nil))) rfl) pe_int (pe_g g__law_draw hG (hr.mono (by decide)) A.m__law_draw A.k__law_draw A.b__law_draw
    pass00 (pa_cons (pv 1) (pa_cons (pe_ix ix_seq (pe_lst (pa_cons pe_int (pa_cons pe_int (pa_cons pe_int (pa_cons pe_int pa_nil))))) (pv 2) (fun _ _ => rfl)) pa_nil)))))) (pss_cons (ps_set (i := 4) sc_law.nd rfl (Or.inl rfl) (pe_g
    g__law_shaped hG (hr.mono (by decide)) A.m__law_shaped A.k__law_shaped A.b__law_shaped pass00 (pa_cons (pv 1) (pa_cons (pv 3) pa_nil)))) (pss_cons (ps_par3 (i := 5) (j := 6) (l := 7) rfl sc_law.nd rfl rfl rfl (by decide) (by
    decide) (by decide) rfl rfl rfl (pa_cons (pe_g g__law_parted hG (hr.mono (by decide)) A.m__law_parted A.k__law_parted A.b__law_parted pass00 (pa_cons (pv 3) (pa_cons (pv 4) pa_nil))) (pa_cons (pe_lc (own := [("j", 9), ("a",
    10), ("b", 11)]) (g := (gTup K 2 (gCons (gName 9) (gCons (gTup K 2 (gCons (gName 10) (gCons (gName 11) gNil))) gNil)))) (tt := tYes) (te := (tTup (tCons (tVar 10) (tCons (tVar 11) (tCons (tOp (rAddU K) (tVar 3) (tVar 9))
    tNil))))) rfl sc_law.nd (pi_enumV A.z_enumerate (pa_cons (pv 4) pa_nil)) (blkOk_by (N := N_law) (sc := defScope s_law) (by decide +kernel)) (fun _ _ _ _ _ => (pg_tup rfl (pgs_cons (pg_name (i := 9) sc_law.nd rfl (Or.inl rfl))
    (pgs_cons (pg_tup rfl (pgs_cons (pg_name (i := 10) sc_law.nd rfl (Or.inl rfl)) (pgs_cons (pg_name (i := 11) sc_law.nd rfl (Or.inl rfl)) pgs_nil))) pgs_nil)))) (fun _ _ _ _ _ => pts_nil) (fun _ _ _ _ _ => (pe_tup (pa_cons (pv
    10) (pa_cons (pv 11) (pa_cons (pe_op op_addU (pv 3) (pv 9)) pa_nil)))))) (pa_cons (pe_callB (call_reprU hG hr.units hsm) (by rfl) A.z_repr (by decide +kernel) (pa_cons (pv 4) pa_nil)) pa_nil))) (by rfl)) (pss_cons (ps_set (i :=
    8) sc_law.nd rfl (Or.inl rfl) (pe_ifExp (pt_cmpR (op_eqU hr.units) (pv 2) pe_int (nomark _)) (pe_gk g_parted_web hG (hr.mono (by decide)) A.m_parted_web A.k_parted_web (kb_parted_web_tree_s A) (fun σ => passAt tk σ) (pk_cons
    (pv 4) (pk_cons (pv 3) pk_nil))) (pe_g g_parted_web hG (hr.mono (by decide)) A.m_parted_web A.k_parted_web A.b_parted_web (fun σ => passAt tk σ) (pa_cons (pv 3) (pa_cons (pv 4) pa_nil))))) (pss_cons (ps_if (pt_cmpR (op_neU
    hr.units) (pe_callB (call_reprU hG hr.units hsm) (by rfl) A.z_repr (by decide +kernel) (pa_cons (pe_lst (pa_cons (pv 8) (pa_cons (pe_callB (call_reprU hG hr.units hsm) (by rfl) A.z_repr (by decide +kernel) (pa_cons (pv 4)
    pa_nil)) pa_nil))) pa_nil)) (pe_callB (call_reprU hG hr.units hsm) (by rfl) A.z_repr (by decide +kernel) (pa_cons (pe_lst (pa_cons (pv 5) (pa_cons (pv 7) pa_nil))) pa_nil)) (nomark _)) (pss_one (ps_ret pe_bl)) pss_nil)
    (pss_cons (ps_if (pt_cmpR (op_neU hr.units) (pe_callB (call_reprU hG hr.units hsm) (by rfl) A.z_repr (by decide +kernel) (pa_cons (pe_g g_elder_tree hG (hr.mono (by decide)) A.m_elder_tree A.k_elder_tree A.b_elder_tree (fun σ
    => passAt tk σ) (pa_cons (pv 8) pa_nil)) pa_nil)) (pe_callB (call_reprU hG hr.units hsm) (by rfl) A.z_repr (by decide +kernel) (pa_cons (pe_tup (pa_cons (pe_tupRg rfl (by rfl) A.z_tuple (prg_1 (by rfl) A.z_range (pv 3)))
    (pa_cons (pe_callTy cr_tupOf (by rfl) A.z_tuple (by decide +kernel) (pa_cons (pv 6) pa_nil)) pa_nil))) pa_nil)) (nomark _)) (pss_one (ps_ret pe_bl)) pss_nil) (pss_one (ps_if (pt_not (pt_val (pe_g g__law_is_kept hG (hr.mono (by
    decide)) A.m__law_is_kept A.k__law_is_kept A.b__law_is_kept (fun σ => passAt tk σ) (pa_cons (pv 1) (pa_cons (pv 5) (pa_cons (pe_listRg rfl (by rfl) A.z_list (prg_1 (by rfl) A.z_range (pv 3))) (pa_cons (pv 6) pa_nil)))))))
    (pss_one (ps_ret pe_bl)) pss_nil))))))))) (pss_one (ps_ret pe_bl)))), p_law h⟩
end UW.Un.D20
namespace UW.Un.D20
open PySem PySem.Spec PyProof.Rows L2 UW
theorem run_all {P : Program} {w : World} {K : Fg} {mg : Str → Option Value} {base : Heap} {F : Fs} (A : All K mg F) (hsm : Smb base) : FnG P w K mg base 7 F.f_law F.d_law ["script"] (sp_law K) := by
  have q__Unfit := g__Unfit (P := P) (w := w) (base := base) A
  have q_is_integer := g_is_integer (P := P) (w := w) (base := base) A hsm
  have q_roads_at := g_roads_at (P := P) (w := w) (base := base) A hsm
  have q_road_counts := g_road_counts (P := P) (w := w) (base := base) A hsm
  have q__law_urn := g__law_urn (P := P) (w := w) (base := base) A hsm
  have q__law_draw := g__law_draw (P := P) (w := w) (base := base) A hsm
  have q__law_parted := g__law_parted (P := P) (w := w) (base := base) A hsm
  have q_is_within := g_is_within (P := P) (w := w) (base := base) A hsm q_is_integer
  have q_steps_known := g_steps_known (P := P) (w := w) (base := base) A hsm q_roads_at
  have q__law_mixed := g__law_mixed (P := P) (w := w) (base := base) A hsm q__law_draw
  have q_is_road := g_is_road (P := P) (w := w) (base := base) A hsm q_is_within
  have q_steps_from := g_steps_from (P := P) (w := w) (base := base) A hsm q_steps_known
  have q__law_tree := g__law_tree (P := P) (w := w) (base := base) A hsm q__law_draw q__law_mixed
  have q_roads_error := g_roads_error (P := P) (w := w) (base := base) A hsm q_is_road
  have q_middles_of := g_middles_of (P := P) (w := w) (base := base) A hsm q_road_counts q_steps_from
  have q__law_shaped := g__law_shaped (P := P) (w := w) (base := base) A hsm q__law_draw q__law_tree
  have q_elder_tree := g_elder_tree (P := P) (w := w) (base := base) A hsm q__Unfit q_roads_at q_middles_of
  have q_is_elder := g_is_elder (P := P) (w := w) (base := base) A hsm q_steps_known q_roads_error
  have q_parted_web := g_parted_web (P := P) (w := w) (base := base) A hsm q__Unfit q_is_elder
  have q__law_is_kept := g__law_is_kept (P := P) (w := w) (base := base) A hsm q__Unfit q__law_draw q__law_mixed q_elder_tree
  exact g_law (P := P) (w := w) (base := base) A hsm q__Unfit q__law_draw q__law_parted q__law_urn q__law_shaped q_elder_tree q__law_is_kept q_parted_web
theorem all_mk {l : PySem.W.OpenLaw} {w : World} {K : Fg} {h : Heap} {mg : Str → Option Value} {fa : Addr} (X : K.In h) (G : h.Ns mainGlobals mg) (hfa : mg "law" = some (.ref fa))
    {f1 f2 f3 f4 f5 f6 f7 f8 f9 f10 f11 f12 f13 f14 f15 f16 f17 f18 f19 f20 f21 : Addr} {od1 an1 od2 an2 od3 an3 od4 an4 od5 an5 od6 an6 od7 an7 od8 an8 od9 an9 od10 an10 od11 an11 od12 an12 od13 an13 od14 an14 od15 an15 od16 an16 od17 an17 od18 an18 od19 an19 od20 an20 od21 an21 : Option Addr} {sl1 sl2 sl3 sl4 sl5 sl6 sl7 sl8 sl9 sl10 sl11 sl12 sl13 sl14 sl15 sl16 sl17 sl18 sl19 sl20 sl21 : Array (Option Value)} {oc1 kV1 dc1 pm1 cd1 ct1 oc2 kV2 dc2 pm2 cd2 ct2 oc3 kV3 dc3 pm3 cd3 ct3 oc4 kV4 dc4 pm4 cd4 ct4 oc5 kV5 dc5 pm5 cd5 ct5 oc6 kV6 dc6 pm6 cd6 ct6 oc7 kV7 dc7 pm7 cd7 ct7 oc8 kV8 dc8 pm8 cd8 ct8 oc9 kV9 dc9 pm9 cd9 ct9 oc10 kV10 dc10 pm10 cd10 ct10 oc11 kV11 dc11 pm11 cd11 ct11 oc12 kV12 dc12 pm12 cd12 ct12 oc13 kV13 dc13 pm13 cd13 ct13 oc14 kV14 dc14 pm14 cd14 ct14 oc15 kV15 dc15 pm15 cd15 ct15 oc16 kV16 dc16 pm16 cd16 ct16 oc17 kV17 dc17 pm17 cd17 ct17 oc18 kV18 dc18 pm18 cd18 ct18 oc19 kV19 dc19 pm19 cd19 ct19 oc20 kV20 dc20 pm20 cd20 ct20 oc21 kV21 dc21 pm21 cd21 ct21 : Value}
    (a1 : PySem.W.nsIn K mainGlobals "is_integer" = some (some (.ref f1)))
    (l1 : K.lookup f1 = some ⟨oc1, od1, .func (PySem.W.fnOf "is_integer" "is_integer" (defArgs s_is_integer) (defBody s_is_integer) (defScope s_is_integer) .none kV1 dc1 pm1 an1 cd1 ct1), sl1⟩)
    (c1 : PySem.W.codeIn K cd1 "is_integer" = true)
    (k1 : PySem.W.keepIn K (.ref f1) = true)
    (a2 : PySem.W.nsIn K mainGlobals "is_within" = some (some (.ref f2)))
    (l2 : K.lookup f2 = some ⟨oc2, od2, .func (PySem.W.fnOf "is_within" "is_within" (defArgs s_is_within) (defBody s_is_within) (defScope s_is_within) .none kV2 dc2 pm2 an2 cd2 ct2), sl2⟩)
    (c2 : PySem.W.codeIn K cd2 "is_within" = true)
    (k2 : PySem.W.keepIn K (.ref f2) = true)
    (a3 : PySem.W.nsIn K mainGlobals "is_road" = some (some (.ref f3)))
    (l3 : K.lookup f3 = some ⟨oc3, od3, .func (PySem.W.fnOf "is_road" "is_road" (defArgs s_is_road) (defBody s_is_road) (defScope s_is_road) .none kV3 dc3 pm3 an3 cd3 ct3), sl3⟩)
    (c3 : PySem.W.codeIn K cd3 "is_road" = true)
    (k3 : PySem.W.keepIn K (.ref f3) = true)
    (a4 : PySem.W.nsIn K mainGlobals "roads_error" = some (some (.ref f4)))
    (l4 : K.lookup f4 = some ⟨oc4, od4, .func (PySem.W.fnOf "roads_error" "roads_error" (defArgs s_roads_error) (defBody s_roads_error) (defScope s_roads_error) .none kV4 dc4 pm4 an4 cd4 ct4), sl4⟩)
    (c4 : PySem.W.codeIn K cd4 "roads_error" = true)
    (k4 : PySem.W.keepIn K (.ref f4) = true)
    (a5 : PySem.W.nsIn K mainGlobals "roads_at" = some (some (.ref f5)))
    (l5 : K.lookup f5 = some ⟨oc5, od5, .func (PySem.W.fnOf "roads_at" "roads_at" (defArgs s_roads_at) (defBody s_roads_at) (defScope s_roads_at) .none kV5 dc5 pm5 an5 cd5 ct5), sl5⟩)
    (c5 : PySem.W.codeIn K cd5 "roads_at" = true)
    (k5 : PySem.W.keepIn K (.ref f5) = true)
    (a6 : PySem.W.nsIn K mainGlobals "steps_known" = some (some (.ref f6)))
    (l6 : K.lookup f6 = some ⟨oc6, od6, .func (PySem.W.fnOf "steps_known" "steps_known" (defArgs s_steps_known) (defBody s_steps_known) (defScope s_steps_known) .none kV6 dc6 pm6 an6 cd6 ct6), sl6⟩)
    (c6 : PySem.W.codeIn K cd6 "steps_known" = true)
    (k6 : PySem.W.keepIn K (.ref f6) = true)
    (a7 : PySem.W.nsIn K mainGlobals "steps_from" = some (some (.ref f7)))
    (l7 : K.lookup f7 = some ⟨oc7, od7, .func (PySem.W.fnOf "steps_from" "steps_from" (defArgs s_steps_from) (defBody s_steps_from) (defScope s_steps_from) .none kV7 dc7 pm7 an7 cd7 ct7), sl7⟩)
    (c7 : PySem.W.codeIn K cd7 "steps_from" = true)
    (k7 : PySem.W.keepIn K (.ref f7) = true)
    (a8 : PySem.W.nsIn K mainGlobals "road_counts" = some (some (.ref f8)))
    (l8 : K.lookup f8 = some ⟨oc8, od8, .func (PySem.W.fnOf "road_counts" "road_counts" (defArgs s_road_counts) (defBody s_road_counts) (defScope s_road_counts) .none kV8 dc8 pm8 an8 cd8 ct8), sl8⟩)
    (c8 : PySem.W.codeIn K cd8 "road_counts" = true)
    (k8 : PySem.W.keepIn K (.ref f8) = true)
    (a9 : PySem.W.nsIn K mainGlobals "middles_of" = some (some (.ref f9)))
    (l9 : K.lookup f9 = some ⟨oc9, od9, .func (PySem.W.fnOf "middles_of" "middles_of" (defArgs s_middles_of) (defBody s_middles_of) (defScope s_middles_of) .none kV9 dc9 pm9 an9 cd9 ct9), sl9⟩)
    (c9 : PySem.W.codeIn K cd9 "middles_of" = true)
    (k9 : PySem.W.keepIn K (.ref f9) = true)
    (a10 : PySem.W.nsIn K mainGlobals "elder_tree" = some (some (.ref f10)))
    (l10 : K.lookup f10 = some ⟨oc10, od10, .func (PySem.W.fnOf "elder_tree" "elder_tree" (defArgs s_elder_tree) (defBody s_elder_tree) (defScope s_elder_tree) .none kV10 dc10 pm10 an10 cd10 ct10), sl10⟩)
    (c10 : PySem.W.codeIn K cd10 "elder_tree" = true)
    (k10 : PySem.W.keepIn K (.ref f10) = true)
    (a11 : PySem.W.nsIn K mainGlobals "is_elder" = some (some (.ref f11)))
    (l11 : K.lookup f11 = some ⟨oc11, od11, .func (PySem.W.fnOf "is_elder" "is_elder" (defArgs s_is_elder) (defBody s_is_elder) (defScope s_is_elder) .none kV11 dc11 pm11 an11 cd11 ct11), sl11⟩)
    (c11 : PySem.W.codeIn K cd11 "is_elder" = true)
    (k11 : PySem.W.keepIn K (.ref f11) = true)
    (a12 : PySem.W.nsIn K mainGlobals "parted_web" = some (some (.ref f12)))
    (l12 : K.lookup f12 = some ⟨oc12, od12, .func (PySem.W.fnOf "parted_web" "parted_web" (defArgs s_parted_web) (defBody s_parted_web) (defScope s_parted_web) .none kV12 dc12 pm12 an12 cd12 ct12), sl12⟩)
    (c12 : PySem.W.codeIn K cd12 "parted_web" = true)
    (k12 : PySem.W.keepIn K (.ref f12) = true)
    (a13 : PySem.W.nsIn K mainGlobals "_law_urn" = some (some (.ref f13)))
    (l13 : K.lookup f13 = some ⟨oc13, od13, .func (PySem.W.fnOf "_law_urn" "_law_urn" (defArgs s__law_urn) (defBody s__law_urn) (defScope s__law_urn) .none kV13 dc13 pm13 an13 cd13 ct13), sl13⟩)
    (c13 : PySem.W.codeIn K cd13 "_law_urn" = true)
    (k13 : PySem.W.keepIn K (.ref f13) = true)
    (a14 : PySem.W.nsIn K mainGlobals "_law_draw" = some (some (.ref f14)))
    (l14 : K.lookup f14 = some ⟨oc14, od14, .func (PySem.W.fnOf "_law_draw" "_law_draw" (defArgs s__law_draw) (defBody s__law_draw) (defScope s__law_draw) .none kV14 dc14 pm14 an14 cd14 ct14), sl14⟩)
    (c14 : PySem.W.codeIn K cd14 "_law_draw" = true)
    (k14 : PySem.W.keepIn K (.ref f14) = true)
    (a15 : PySem.W.nsIn K mainGlobals "_law_mixed" = some (some (.ref f15)))
    (l15 : K.lookup f15 = some ⟨oc15, od15, .func (PySem.W.fnOf "_law_mixed" "_law_mixed" (defArgs s__law_mixed) (defBody s__law_mixed) (defScope s__law_mixed) .none kV15 dc15 pm15 an15 cd15 ct15), sl15⟩)
    (c15 : PySem.W.codeIn K cd15 "_law_mixed" = true)
    (k15 : PySem.W.keepIn K (.ref f15) = true)
    (a16 : PySem.W.nsIn K mainGlobals "_law_tree" = some (some (.ref f16)))
    (l16 : K.lookup f16 = some ⟨oc16, od16, .func (PySem.W.fnOf "_law_tree" "_law_tree" (defArgs s__law_tree) (defBody s__law_tree) (defScope s__law_tree) .none kV16 dc16 pm16 an16 cd16 ct16), sl16⟩)
    (c16 : PySem.W.codeIn K cd16 "_law_tree" = true)
    (k16 : PySem.W.keepIn K (.ref f16) = true)
    (a17 : PySem.W.nsIn K mainGlobals "_law_parted" = some (some (.ref f17)))
    (l17 : K.lookup f17 = some ⟨oc17, od17, .func (PySem.W.fnOf "_law_parted" "_law_parted" (defArgs s__law_parted) (defBody s__law_parted) (defScope s__law_parted) .none kV17 dc17 pm17 an17 cd17 ct17), sl17⟩)
    (c17 : PySem.W.codeIn K cd17 "_law_parted" = true)
    (k17 : PySem.W.keepIn K (.ref f17) = true)
    (a18 : PySem.W.nsIn K mainGlobals "_law_shaped" = some (some (.ref f18)))
    (l18 : K.lookup f18 = some ⟨oc18, od18, .func (PySem.W.fnOf "_law_shaped" "_law_shaped" (defArgs s__law_shaped) (defBody s__law_shaped) (defScope s__law_shaped) .none kV18 dc18 pm18 an18 cd18 ct18), sl18⟩)
    (c18 : PySem.W.codeIn K cd18 "_law_shaped" = true)
    (k18 : PySem.W.keepIn K (.ref f18) = true)
    (a19 : PySem.W.nsIn K mainGlobals "_law_is_kept" = some (some (.ref f19)))
    (l19 : K.lookup f19 = some ⟨oc19, od19, .func (PySem.W.fnOf "_law_is_kept" "_law_is_kept" (defArgs s__law_is_kept) (defBody s__law_is_kept) (defScope s__law_is_kept) .none kV19 dc19 pm19 an19 cd19 ct19), sl19⟩)
    (c19 : PySem.W.codeIn K cd19 "_law_is_kept" = true)
    (k19 : PySem.W.keepIn K (.ref f19) = true)
    (a20 : PySem.W.nsIn K mainGlobals "law" = some (some (.ref f20)))
    (l20 : K.lookup f20 = some ⟨oc20, od20, .func (PySem.W.fnOf "law" "law" (defArgs s_law) (defBody s_law) (defScope s_law) .none kV20 dc20 pm20 an20 cd20 ct20), sl20⟩)
    (c20 : PySem.W.codeIn K cd20 "law" = true)
    (k20 : PySem.W.keepIn K (.ref f20) = true)
    {C0 : Addr}
    (aU : PySem.W.nsIn K mainGlobals "UnevenError" = some (some (.ref C0)))
    (sU : PySem.W.specialIn K (.ref C0) "__getattribute__" = some (some (.builtin "type.__getattribute__")))
    (tU : PySem.W.typeIn K (.ref C0) = some (.type "type"))
    (rU : PySem.W.readsIn K C0 (.type "type") = true)
    (fU : PySem.W.findCls K (.ref C0) (.type "type") "__init__" = some (.val (.builtin "ValueError.__init__")))
    {C21 N21 : Addr} {nm21 q21 : Str} {bs21 : List Value} {sn21 : List Str} {sub21 : List Value} {ab21 : Bool} {col21 : Option Bool} {dd21 : Option Addr} {w21 x21 y21 z21 v21 : Option Value}
    (b21 : PySem.W.nsIn K mainGlobals "Unfit" = some (some (.ref C21)))
    (e21 : K.lookup C21 = some (excClassObj nm21 q21 C21 N21 bs21 [.ref C0, .type "ValueError", .type "Exception", .type "BaseException", .type "object"] true sn21 sub21 ab21 col21 dd21 w21 x21 y21 z21 v21 "ValueError.__new__"))
    (sa21 : PySem.W.findIn K (.ref C21) "__setattr__" = some (some (.builtin "object.__setattr__")))
    (ga21 : PySem.W.findIn K (.ref C21) "__getattribute__" = some (some (.builtin "BaseException.__getattribute__")))
    (gg21 : PySem.W.findIn K (.ref C21) "__getattr__" = some none)
    (i21 : PySem.W.findIn K (.ref C21) "__init__" = some (some (.ref f21)))
    (ti21 : PySem.W.typeIn K (.ref f21) = some (.type "function"))
    (l21 : K.lookup f21 = some ⟨oc21, od21, .func (PySem.W.fnOf "__init__" "Unfit.__init__" (defArgs s__Unfit) (defBody s__Unfit) (defScope s__Unfit) .none kV21 dc21 pm21 an21 cd21 ct21), sl21⟩)
    (c21 : PySem.W.codeIn K cd21 "Unfit.__init__" = true)
    (k21 : PySem.W.keepIn K (.ref f21) = true)
    (kc21 : PySem.W.keepIn K (.ref C21) = true)
    (ec21 : PySem.W.subIn K (.ref C21) (.type "BaseException") = some true)
    (tc21 : PySem.W.typeIn K (.ref C21) = some (.type "type"))
    (hc21 : PySem.W.hasDictIn K C21 = true)
    (sc21 : PySem.W.subIn K (.ref C21) (.ref C21) = some true)
    (ha21 : PySem.W.findIn K (.ref C21) "__class__" = some (some (.builtin "object.__class__")))
    (hn21 : PySem.W.specialIn K (.builtin "object.__class__") "__get__" = some (some (.builtin "getset_descriptor.__get__")))
    (ht21 : PySem.W.takesIn K (.builtin "object.__class__") = some true)
    (hm21 : PySem.W.mroIn K C21 (.type "object") = some true)
    (qk21 : PySem.W.kitOne K (.ref C21) (.ref C0) = some true)
    (z_all : PySem.W.nsIn K mainGlobals "all" = some none)
    (z_bool : PySem.W.nsIn K mainGlobals "bool" = some none)
    (z_enumerate : PySem.W.nsIn K mainGlobals "enumerate" = some none)
    (z_int : PySem.W.nsIn K mainGlobals "int" = some none)
    (z_isinstance : PySem.W.nsIn K mainGlobals "isinstance" = some none)
    (z_len : PySem.W.nsIn K mainGlobals "len" = some none)
    (z_list : PySem.W.nsIn K mainGlobals "list" = some none)
    (z_max : PySem.W.nsIn K mainGlobals "max" = some none)
    (z_min : PySem.W.nsIn K mainGlobals "min" = some none)
    (z_range : PySem.W.nsIn K mainGlobals "range" = some none)
    (z_repr : PySem.W.nsIn K mainGlobals "repr" = some none)
    (z_sorted : PySem.W.nsIn K mainGlobals "sorted" = some none)
    (z_tuple : PySem.W.nsIn K mainGlobals "tuple" = some none)
    {t_MAX_PLACES : Nat}
    (c_MAX_PLACES : PySem.W.nsIn K mainGlobals "MAX_PLACES" = some (some (.int 24 t_MAX_PLACES)))
    {t_MAX_ROADS : Nat}
    (c_MAX_ROADS : PySem.W.nsIn K mainGlobals "MAX_ROADS" = some (some (.int 40 t_MAX_ROADS)))
    : ∃ (fd : FuncData) (sp : Sp), (∀ (s : Shared) (v : Value), BindsTo s fd ⟨[v], []⟩ [("script", v)]) ∧ (∀ base : Heap, K.In base → base.Ns mainGlobals mg → Smb base → FnG l.prog w K mg base 7 fa fd ["script"] sp) ∧
      ∀ (H : Hp) (a : Addr) (ns : List Int), ns.length ≤ 63 → SqL K H a (ns.map V.int) → sp [.ref a] H (fun v _ => v = .bl true) fun _ _ _ => False := by
  have e := hfa.symm.trans (PySem.W.mg_of X G a20)
  cases e
  have F1 := fun_mk (st := s_is_integer) l1 c1 k1
  have F2 := fun_mk (st := s_is_within) l2 c2 k2
  have F3 := fun_mk (st := s_is_road) l3 c3 k3
  have F4 := fun_mk (st := s_roads_error) l4 c4 k4
  have F5 := fun_mk (st := s_roads_at) l5 c5 k5
  have F6 := fun_mk (st := s_steps_known) l6 c6 k6
  have F7 := fun_mk (st := s_steps_from) l7 c7 k7
  have F8 := fun_mk (st := s_road_counts) l8 c8 k8
  have F9 := fun_mk (st := s_middles_of) l9 c9 k9
  have F10 := fun_mk (st := s_elder_tree) l10 c10 k10
  have F11 := fun_mk (st := s_is_elder) l11 c11 k11
  have F12 := fun_mk (st := s_parted_web) l12 c12 k12
  have F13 := fun_mk (st := s__law_urn) l13 c13 k13
  have F14 := fun_mk (st := s__law_draw) l14 c14 k14
  have F15 := fun_mk (st := s__law_mixed) l15 c15 k15
  have F16 := fun_mk (st := s__law_tree) l16 c16 k16
  have F17 := fun_mk (st := s__law_parted) l17 c17 k17
  have F18 := fun_mk (st := s__law_shaped) l18 c18 k18
  have F19 := fun_mk (st := s__law_is_kept) l19 c19 k19
  have F20 := fun_mk (st := s_law) l20 c20 k20
  have F21 := fun_mk (st := s__Unfit) l21 c21 k21
  have b'1 := F1.binds (ps := ["value"]) fun _ _ _ _ _ _ us hl => match us, hl with | [_], _ => rfl
  have b'2 := F2.binds (ps := ["value", "least", "most"]) fun _ _ _ _ _ _ us hl => match us, hl with | [_, _, _], _ => rfl
  have b'3 := F3.binds (ps := ["n", "value"]) fun _ _ _ _ _ _ us hl => match us, hl with | [_, _], _ => rfl
  have b'4 := F4.binds (ps := ["n", "roads"]) fun _ _ _ _ _ _ us hl => match us, hl with | [_, _], _ => rfl
  have b'5 := F5.binds (ps := ["web", "place"]) fun _ _ _ _ _ _ us hl => match us, hl with | [_, _], _ => rfl
  have b'6 := F6.binds (ps := ["web", "place"]) fun _ _ _ _ _ _ us hl => match us, hl with | [_, _], _ => rfl
  have b'7 := F7.binds (ps := ["web", "place"]) fun _ _ _ _ _ _ us hl => match us, hl with | [_, _], _ => rfl
  have b'8 := F8.binds (ps := ["web"]) fun _ _ _ _ _ _ us hl => match us, hl with | [_], _ => rfl
  have b'9 := F9.binds (ps := ["web"]) fun _ _ _ _ _ _ us hl => match us, hl with | [_], _ => rfl
  have b'10 := F10.binds (ps := ["web"]) fun _ _ _ _ _ _ us hl => match us, hl with | [_], _ => rfl
  have b'11 := F11.binds (ps := ["s", "tree"]) fun _ _ _ _ _ _ us hl => match us, hl with | [_, _], _ => rfl
  have b'12 := F12.binds (ps := ["s", "tree"]) fun _ _ _ _ _ _ us hl => match us, hl with | [_, _], _ => rfl
  have b'13 := F13.binds (ps := ["script"]) fun _ _ _ _ _ _ us hl => match us, hl with | [_], _ => rfl
  have b'14 := F14.binds (ps := ["urn", "size"]) fun _ _ _ _ _ _ us hl => match us, hl with | [_, _], _ => rfl
  have b'15 := F15.binds (ps := ["urn", "items"]) fun _ _ _ _ _ _ us hl => match us, hl with | [_, _], _ => rfl
  have b'16 := F16.binds (ps := ["urn", "s"]) fun _ _ _ _ _ _ us hl => match us, hl with | [_, _], _ => rfl
  have b'17 := F17.binds (ps := ["s", "tree"]) fun _ _ _ _ _ _ us hl => match us, hl with | [_, _], _ => rfl
  have b'18 := F18.binds (ps := ["urn", "s"]) fun _ _ _ _ _ _ us hl => match us, hl with | [_, _], _ => rfl
  have b'19 := F19.binds (ps := ["urn", "web", "spots", "rows"]) fun _ _ _ _ _ _ us hl => match us, hl with | [_, _, _, _], _ => rfl
  have b'20 := F20.binds (ps := ["script"]) fun _ _ _ _ _ _ us hl => match us, hl with | [_], _ => rfl
  have b'21 := F21.binds (ps := ["self"]) fun _ _ _ _ _ _ us hl => match us, hl with | [_], _ => rfl
  have O21 : OexC K C21 := ⟨⟨_, _, _, _, _, _, _, _, _, _, _, _, _, _, _, e21, by first | rfl | simp [PySem.HandSPX.refsVE]⟩, sa21, ec21, tc21, kc21⟩
  have T21 : ExT K C21 C0 := ⟨O21, ⟨ga21, gg21, ec21, hc21, ha21, hn21, ht21, hm21⟩, PySem.W.exm_ref ec21 hc21 tc21 sc21, qk21⟩
  have A : All K mg ⟨f1, PySem.W.fnOf "is_integer" "is_integer" (defArgs s_is_integer) (defBody s_is_integer) (defScope s_is_integer) .none kV1 dc1 pm1 an1 cd1 ct1, f2, PySem.W.fnOf "is_within" "is_within" (defArgs s_is_within) (defBody s_is_within) (defScope s_is_within) .none kV2 dc2 pm2 an2 cd2 ct2, f3, PySem.W.fnOf "is_road" "is_road" (defArgs s_is_road) (defBody s_is_road) (defScope s_is_road) .none kV3 dc3 pm3 an3 cd3 ct3, f4, PySem.W.fnOf "roads_error" "roads_error" (defArgs s_roads_error) (defBody s_roads_error) (defScope s_roads_error) .none kV4 dc4 pm4 an4 cd4 ct4, f5, PySem.W.fnOf "roads_at" "roads_at" (defArgs s_roads_at) (defBody s_roads_at) (defScope s_roads_at) .none kV5 dc5 pm5 an5 cd5 ct5, f6, PySem.W.fnOf "steps_known" "steps_known" (defArgs s_steps_known) (defBody s_steps_known) (defScope s_steps_known) .none kV6 dc6 pm6 an6 cd6 ct6, f7, PySem.W.fnOf "steps_from" "steps_from" (defArgs s_steps_from) (defBody s_steps_from) (defScope s_steps_from) .none kV7 dc7 pm7 an7 cd7 ct7, f8, PySem.W.fnOf "road_counts" "road_counts" (defArgs s_road_counts) (defBody s_road_counts) (defScope s_road_counts) .none kV8 dc8 pm8 an8 cd8 ct8, f9, PySem.W.fnOf "middles_of" "middles_of" (defArgs s_middles_of) (defBody s_middles_of) (defScope s_middles_of) .none kV9 dc9 pm9 an9 cd9 ct9, f10, PySem.W.fnOf "elder_tree" "elder_tree" (defArgs s_elder_tree) (defBody s_elder_tree) (defScope s_elder_tree) .none kV10 dc10 pm10 an10 cd10 ct10, f11, PySem.W.fnOf "is_elder" "is_elder" (defArgs s_is_elder) (defBody s_is_elder) (defScope s_is_elder) .none kV11 dc11 pm11 an11 cd11 ct11, f12, PySem.W.fnOf "parted_web" "parted_web" (defArgs s_parted_web) (defBody s_parted_web) (defScope s_parted_web) .none kV12 dc12 pm12 an12 cd12 ct12, f13, PySem.W.fnOf "_law_urn" "_law_urn" (defArgs s__law_urn) (defBody s__law_urn) (defScope s__law_urn) .none kV13 dc13 pm13 an13 cd13 ct13, f14, PySem.W.fnOf "_law_draw" "_law_draw" (defArgs s__law_draw) (defBody s__law_draw) (defScope s__law_draw) .none kV14 dc14 pm14 an14 cd14 ct14, f15, PySem.W.fnOf "_law_mixed" "_law_mixed" (defArgs s__law_mixed) (defBody s__law_mixed) (defScope s__law_mixed) .none kV15 dc15 pm15 an15 cd15 ct15, f16, PySem.W.fnOf "_law_tree" "_law_tree" (defArgs s__law_tree) (defBody s__law_tree) (defScope s__law_tree) .none kV16 dc16 pm16 an16 cd16 ct16, f17, PySem.W.fnOf "_law_parted" "_law_parted" (defArgs s__law_parted) (defBody s__law_parted) (defScope s__law_parted) .none kV17 dc17 pm17 an17 cd17 ct17, f18, PySem.W.fnOf "_law_shaped" "_law_shaped" (defArgs s__law_shaped) (defBody s__law_shaped) (defScope s__law_shaped) .none kV18 dc18 pm18 an18 cd18 ct18, f19, PySem.W.fnOf "_law_is_kept" "_law_is_kept" (defArgs s__law_is_kept) (defBody s__law_is_kept) (defScope s__law_is_kept) .none kV19 dc19 pm19 an19 cd19 ct19, fa, PySem.W.fnOf "law" "law" (defArgs s_law) (defBody s_law) (defScope s_law) .none kV20 dc20 pm20 an20 cd20 ct20, f21, PySem.W.fnOf "__init__" "Unfit.__init__" (defArgs s__Unfit) (defBody s__Unfit) (defScope s__Unfit) .none kV21 dc21 pm21 an21 cd21 ct21, ⟨C0, C0, C0, C0, C21, C0, C0, C0, C0, C0, C0, C0, C0, C0, C0, C0⟩⟩ := { h_is_integer := F1, b_is_integer := b'1, m_is_integer := PySem.W.mg_of X G a1, k_is_integer := k1, h_is_within := F2, b_is_within := b'2, m_is_within := PySem.W.mg_of X G a2, k_is_within := k2, h_is_road := F3, b_is_road := b'3, m_is_road := PySem.W.mg_of X G a3, k_is_road := k3, h_roads_error := F4, b_roads_error := b'4, m_roads_error := PySem.W.mg_of X G a4, k_roads_error := k4, h_roads_at := F5, b_roads_at := b'5, m_roads_at := PySem.W.mg_of X G a5, k_roads_at := k5, h_steps_known := F6, b_steps_known := b'6, m_steps_known := PySem.W.mg_of X G a6, k_steps_known := k6, h_steps_from := F7, b_steps_from := b'7, m_steps_from := PySem.W.mg_of X G a7, k_steps_from := k7, h_road_counts := F8, b_road_counts := b'8, m_road_counts := PySem.W.mg_of X G a8, k_road_counts := k8, h_middles_of := F9, b_middles_of := b'9, m_middles_of := PySem.W.mg_of X G a9, k_middles_of := k9, h_elder_tree := F10, b_elder_tree := b'10, m_elder_tree := PySem.W.mg_of X G a10, k_elder_tree := k10, h_is_elder := F11, b_is_elder := b'11, m_is_elder := PySem.W.mg_of X G a11, k_is_elder := k11, h_parted_web := F12, b_parted_web := b'12, m_parted_web := PySem.W.mg_of X G a12, k_parted_web := k12, h__law_urn := F13, b__law_urn := b'13, m__law_urn := PySem.W.mg_of X G a13, k__law_urn := k13, h__law_draw := F14, b__law_draw := b'14, m__law_draw := PySem.W.mg_of X G a14, k__law_draw := k14, h__law_mixed := F15, b__law_mixed := b'15, m__law_mixed := PySem.W.mg_of X G a15, k__law_mixed := k15, h__law_tree := F16, b__law_tree := b'16, m__law_tree := PySem.W.mg_of X G a16, k__law_tree := k16, h__law_parted := F17, b__law_parted := b'17, m__law_parted := PySem.W.mg_of X G a17, k__law_parted := k17, h__law_shaped := F18, b__law_shaped := b'18, m__law_shaped := PySem.W.mg_of X G a18, k__law_shaped := k18, h__law_is_kept := F19, b__law_is_kept := b'19, m__law_is_kept := PySem.W.mg_of X G a19, k__law_is_kept := k19, h_law := F20, b_law := b'20, m_law := PySem.W.mg_of X G a20, k_law := k20, z_all := PySem.W.mg_none_of X G z_all, z_bool := PySem.W.mg_none_of X G z_bool, z_enumerate := PySem.W.mg_none_of X G z_enumerate, z_int := PySem.W.mg_none_of X G z_int, z_isinstance := PySem.W.mg_none_of X G z_isinstance, z_len := PySem.W.mg_none_of X G z_len, z_list := PySem.W.mg_none_of X G z_list, z_max := PySem.W.mg_none_of X G z_max, z_min := PySem.W.mg_none_of X G z_min, z_range := PySem.W.mg_none_of X G z_range, z_repr := PySem.W.mg_none_of X G z_repr, z_sorted := PySem.W.mg_none_of X G z_sorted, z_tuple := PySem.W.mg_none_of X G z_tuple, c_MAX_PLACES := ⟨_, PySem.W.mg_of X G c_MAX_PLACES⟩, c_MAX_ROADS := ⟨_, PySem.W.mg_of X G c_MAX_ROADS⟩, m_Unfit := PySem.W.mg_of X G b21, o_Unfit := O21, i_Unfit := i21, t_Unfit := ti21, h__Unfit := F21, b_Unfit := b'21, x_Unfit := T21, m_UnevenError := PySem.W.mg_of X G aU, u_UnevenError := ⟨sU, tU, rU, fU⟩ }
  exact ⟨PySem.W.fnOf "law" "law" (defArgs s_law) (defBody s_law) (defScope s_law) .none kV20 dc20 pm20 an20 cd20 ct20, sp_law K, fun s v => .of_eq rfl, fun base _ _ hsm => run_all A hsm, fun H a ns hl hS => ⟨a, ns, rfl, hS, hl, fun _ => rfl⟩⟩
end UW.Un.D20

open PySem PySem.W PyProof.Rows in
set_option maxRecDepth 100000 in
set_option maxHeartbeats 0 in
theorem PySem.Challenge.cw_unevenroads_k20_whole_elder_trees_and_ba_holds : PySem.Challenge.rw_unevenroads_k20_whole_elder_trees_and_ba.Holds := by
  w_on; o_law; k_head; (case hw => w_witness2)
  k_fill
  refine UW.walk_GM (l := PySem.Challenge.rw_unevenroads_k20_whole_elder_trees_and_ba) (n := 63) (k := 7) (x := "script") rfl (by decide) rfl ⟨rfl, by decide, by decide⟩ (by decide +kernel) (fun w h Y => PySem.W.kIn_of Y) ?F
  case F =>
    intro w mg fa h KX G hmg
    refine' UW.Un.D20.all_mk KX G hmg ?a1 ?l1 ?c1 ?k1 ?a2 ?l2 ?c2 ?k2 ?a3 ?l3 ?c3 ?k3 ?a4 ?l4 ?c4 ?k4 ?a5 ?l5 ?c5 ?k5 ?a6 ?l6 ?c6 ?k6 ?a7 ?l7 ?c7 ?k7 ?a8 ?l8 ?c8 ?k8 ?a9 ?l9 ?c9 ?k9 ?a10 ?l10 ?c10 ?k10 ?a11 ?l11 ?c11 ?k11 ?a12 ?l12 ?c12 ?k12 ?a13 ?l13 ?c13 ?k13 ?a14 ?l14 ?c14 ?k14 ?a15 ?l15 ?c15 ?k15 ?a16 ?l16 ?c16 ?k16 ?a17 ?l17 ?c17 ?k17 ?a18 ?l18 ?c18 ?k18 ?a19 ?l19 ?c19 ?k19 ?a20 ?l20 ?c20 ?k20 ?aU ?sU ?tU ?rU ?fU ?b21 ?e21 ?sa21 ?ga21 ?gg21 ?i21 ?ti21 ?l21 ?c21 ?k21 ?kc21 ?ec21 ?tc21 ?hc21 ?sc21 ?ha21 ?hn21 ?ht21 ?hm21 ?qk21 ?z_all ?z_bool ?z_enumerate ?z_int ?z_isinstance ?z_len ?z_list ?z_max ?z_min ?z_range ?z_repr ?z_sorted ?z_tuple ?c_MAX_PLACES ?c_MAX_ROADS
    (case a1 => first | k_is | rfl)
    (case l1 => first | k_is | rfl)
    (case c1 => first | k_is | rfl)
    (case k1 => first | k_is | rfl)
    (case a2 => first | k_is | rfl)
    (case l2 => first | k_is | rfl)
    (case c2 => first | k_is | rfl)
    (case k2 => first | k_is | rfl)
    (case a3 => first | k_is | rfl)
    (case l3 => first | k_is | rfl)
    (case c3 => first | k_is | rfl)
    (case k3 => first | k_is | rfl)
    (case a4 => first | k_is | rfl)
    (case l4 => first | k_is | rfl)
    (case c4 => first | k_is | rfl)
    (case k4 => first | k_is | rfl)
    (case a5 => first | k_is | rfl)
    (case l5 => first | k_is | rfl)
    (case c5 => first | k_is | rfl)
    (case k5 => first | k_is | rfl)
    (case a6 => first | k_is | rfl)
    (case l6 => first | k_is | rfl)
    (case c6 => first | k_is | rfl)
    (case k6 => first | k_is | rfl)
    (case a7 => first | k_is | rfl)
    (case l7 => first | k_is | rfl)
    (case c7 => first | k_is | rfl)
    (case k7 => first | k_is | rfl)
    (case a8 => first | k_is | rfl)
    (case l8 => first | k_is | rfl)
    (case c8 => first | k_is | rfl)
    (case k8 => first | k_is | rfl)
    (case a9 => first | k_is | rfl)
    (case l9 => first | k_is | rfl)
    (case c9 => first | k_is | rfl)
    (case k9 => first | k_is | rfl)
    (case a10 => first | k_is | rfl)
    (case l10 => first | k_is | rfl)
    (case c10 => first | k_is | rfl)
    (case k10 => first | k_is | rfl)
    (case a11 => first | k_is | rfl)
    (case l11 => first | k_is | rfl)
    (case c11 => first | k_is | rfl)
    (case k11 => first | k_is | rfl)
    (case a12 => first | k_is | rfl)
    (case l12 => first | k_is | rfl)
    (case c12 => first | k_is | rfl)
    (case k12 => first | k_is | rfl)
    (case a13 => first | k_is | rfl)
    (case l13 => first | k_is | rfl)
    (case c13 => first | k_is | rfl)
    (case k13 => first | k_is | rfl)
    (case a14 => first | k_is | rfl)
    (case l14 => first | k_is | rfl)
    (case c14 => first | k_is | rfl)
    (case k14 => first | k_is | rfl)
    (case a15 => first | k_is | rfl)
    (case l15 => first | k_is | rfl)
    (case c15 => first | k_is | rfl)
    (case k15 => first | k_is | rfl)
    (case a16 => first | k_is | rfl)
    (case l16 => first | k_is | rfl)
    (case c16 => first | k_is | rfl)
    (case k16 => first | k_is | rfl)
    (case a17 => first | k_is | rfl)
    (case l17 => first | k_is | rfl)
    (case c17 => first | k_is | rfl)
    (case k17 => first | k_is | rfl)
    (case a18 => first | k_is | rfl)
    (case l18 => first | k_is | rfl)
    (case c18 => first | k_is | rfl)
    (case k18 => first | k_is | rfl)
    (case a19 => first | k_is | rfl)
    (case l19 => first | k_is | rfl)
    (case c19 => first | k_is | rfl)
    (case k19 => first | k_is | rfl)
    (case a20 => first | k_is | rfl)
    (case l20 => first | k_is | rfl)
    (case c20 => first | k_is | rfl)
    (case k20 => first | k_is | rfl)
    (case aU => first | k_is | rfl)
    (case sU => first | k_is | rfl)
    (case tU => first | k_is | rfl)
    (case rU => first | k_is | rfl)
    (case fU => first | k_is | rfl)
    (case b21 => first | k_is | rfl)
    (case e21 => first | k_is | rfl)
    (case sa21 => first | k_is | rfl)
    (case ga21 => first | k_is | rfl)
    (case gg21 => first | k_is | rfl)
    (case i21 => first | k_is | rfl)
    (case ti21 => first | k_is | rfl)
    (case l21 => first | k_is | rfl)
    (case c21 => first | k_is | rfl)
    (case k21 => first | k_is | rfl)
    (case kc21 => first | k_is | rfl)
    (case ec21 => first | k_is | rfl)
    (case tc21 => first | k_is | rfl)
    (case hc21 => first | k_is | rfl)
    (case sc21 => first | k_is | rfl)
    (case ha21 => first | k_is | rfl)
    (case hn21 => first | k_is | rfl)
    (case ht21 => first | k_is | rfl)
    (case hm21 => first | k_is | rfl)
    (case qk21 => first | k_is | rfl)
    (case z_all => first | k_is | rfl)
    (case z_bool => first | k_is | rfl)
    (case z_enumerate => first | k_is | rfl)
    (case z_int => first | k_is | rfl)
    (case z_isinstance => first | k_is | rfl)
    (case z_len => first | k_is | rfl)
    (case z_list => first | k_is | rfl)
    (case z_max => first | k_is | rfl)
    (case z_min => first | k_is | rfl)
    (case z_range => first | k_is | rfl)
    (case z_repr => first | k_is | rfl)
    (case z_sorted => first | k_is | rfl)
    (case z_tuple => first | k_is | rfl)
    (case c_MAX_PLACES => first | k_is | rfl)
    (case c_MAX_ROADS => first | k_is | rfl)

