import PyProof.Rows.All
import Wide.All
import OpenK.AllK
import Wide.FinOn
import PyProof.EqAt
import PyProof.EqKinds
import PyProof.TupleCall
import PyProof.ReprRoads
import PyProof.ReprText
import HandS.ForMost
import HandS.Exc
import HandS.ExcOwn
import HandS.WordsExc
import HandS.TryOnly
import HandS.Deep
import HandS.Conv
import HandS.Zip
import HandS.TupMul
import HandS.TupAny
import HandS.SortRule
import HandS.SortInts
import HandS.EndBits
import HandS.IsInst
import HandS.ExcInit
import HandS.Walk
import KE.GoesEnum
import HandS.FStrTup
import PyProof.P3In
import HandS.Evl
import HandS.Style
import PyProof.Rows.SumAny
import KE.OsSetLaws
import HandS.ExcIs
import HandS.TupLe
import KE.KDictZip
import HandS.ExcValue
import PyProof.ListNew
import PyProof.ListRange
import HandS.TryMany
import HandS.SortOrd
import HandS.Small
import KE.KDictSum
import KE.KDictCopyH
import HandS.TupSets
import PyProof.Rows.ReprOcc
import PyProof.StrLawsRepr
import KE.SortData
import HandS.SetFor
import PySem.Challenge.RW_unevenroads_k21_elder_trees_of_drawn_web
set_option Elab.async false
set_option linter.all false
set_option maxRecDepth 100000
set_option maxHeartbeats 8000000
namespace UW
open PySem PySem.Spec PyProof.Rows L2
/-- a def's promise, called where no repr is under way -/
structure FnG (P : Program) (w : World) (K : PySem.W.Frag) (mg : Str → Option Value) (base : Heap) (k : Nat) (f : Addr) (fd : FuncData) (ps : List Str) (sp : Sp) : Prop where
  len : ∀ vs H Q E, sp vs H Q E → vs.length = ps.length
  go : ∀ (A : Around) (o : List Env) (s : Shared) (H : Hp) (ar : Args) (us : List Value) (vs : List V) (Q : VK) (E : XK), A.guards = some [] → Room k A →
    Env0 P w K mg base A o s H → BindsTo s fd ar (ps.zip us) → Vals vs us → sp vs H Q E → codeAny (model P w) A (.call (.ref f) ar) (CR (L2.CX P w) o P w H s Q E) s
section
variable {P : Program} {w : World} {K : PySem.W.Frag} {mg : Str → Option Value} {base : Heap} {k j : Nat} {f : Addr} {fd : FuncData} {ps : List Str} {sp : Sp}
theorem FnG.of (F : FnOk P w K mg base (L2.CX P w) k f fd ps sp) : FnG P w K mg base k f fd ps sp :=
  ⟨F.len, fun A o s H ar us vs Q E _ hr he hb hv hs => F.run A o s H ar us vs Q E hr he hb hv hs⟩
theorem FnG.up (F : FnG P w K mg base j f fd ps sp) (h : j ≤ k) : FnG P w K mg base k f fd ps sp :=
  ⟨F.len, fun A o s H ar us vs Q E g hr he hb hv hs => F.go A o s H ar us vs Q E g (hr.mono h) he hb hv hs⟩
theorem FnG.as (F : FnG P w K mg base k f fd ps sp) {sp' : Sp} (h : ∀ vs H Q E, sp' vs H Q E → sp vs H Q E) : FnG P w K mg base k f fd ps sp' :=
  ⟨fun vs H Q E q => F.len vs H Q E (h _ _ _ _ q), fun A o s H ar us vs Q E g hr he hb hv hs => F.go A o s H ar us vs Q E g hr he hb hv (h _ _ _ _ hs)⟩
theorem bound_kind {scope : Scope} {N : List Str} {us : List Value} {n : Nat} (S : FnScope N ps scope) :
    ∀ y ∈ ps.zip us, scope.names.lookup y.1 = some .local ∨ (scope.names.lookup y.1 = some .cell ∧ ((cellsFrom n scope.names []).lookup y.1).isSome = true) := by
  rintro ⟨a, v⟩ hy
  have q := S.par a (List.of_mem_zip hy).1
  cases q with
  | inl q => exact Or.inl q
  | inr q => exact Or.inr ⟨q, PySem.W.cellsFrom_some _ _ _ (Or.inl q)⟩
/-- the rule for a def by its body, where no repr is under way -/
theorem Fun.okG {x qual : Str} {st : Stmt} {N : List Str} (F : Fun K x qual st f fd) (S : FnScope N ps (defScope st)) (ln : ∀ vs H Q E, sp vs H Q E → vs.length = ps.length)
    (hb : ∀ (cdv : Value) (A : Around) (o : List Env) (s : Shared) (H : Hp) (vs : List V) (Q : VK) (E : XK), A.guards = some [] → Room k (A.deeper (envOfC qual (defScope st) s.heap.objs.size f cdv)) → sp vs H Q E →
      ∃ t, PSs (cxOf (L2.CX P w) P w K mg base N qual (defScope st) f cdv A o s H E) (defBody st) t ∧ t { nx := fun _ H' => Q .non H', rt := Q } (start N vs) H) :
    FnG P w K mg base (k + 1) f fd ps sp := by
  obtain ⟨oc, od, kV, doc, pm, an, cdv, ct, osl, rfl, lk, hcd⟩ := F.ex
  refine ⟨ln, ?_⟩
  intro A o s H ar us vs Q E hg hr e0 hbd r hsp
  have hl := ln _ _ _ _ hsp
  have old : ∀ b ob, base.get? b = some ob → s.heap.get? b = some ob := fun b ob e => (e0.bs b ob e).1
  have KX : K.In s.heap := e0.mod.kin.keeps old
  have lim : s.heap.NoLimit := e0.mod.nolimit.keeps old
  refine codeAny_call_function hr.depth (KX _ _ lk) rfl S.co S.gen rfl (PySem.W.codeRec_of KX hcd) (hbd _ _ _ _ ?_)
  refine wpAny_newFunctionEnv_cells S.kind (bound_kind S) fun env he s1 x1 => ?_
  subst he
  refine ⟨lim.keeps x1.toInCall.keep, codeAny_func ?_⟩
  obtain ⟨t, ht, hq⟩ := hb cdv A o s H vs Q E hg (hr.deeper _) hsp
  have I : Inv (cxOf (L2.CX P w) P w K mg base N qual (defScope st) f cdv A o s H E) [] (start N vs) H s1 := inv_start S hr.hd e0 hl r x1
  refine wpAny_mono (ht.run [] s1 (start N vs) H _ I hq) ?_ (fun _ _ z => z)
  intro fl s' hs
  have ce : ∀ {σ' : L2.St} {H' : Hp} {v : V} {u : Value}, Inv (cxOf (L2.CX P w) P w K mg base N qual (defScope st) f cdv A o s H E) [] σ' H' s' → RelV v u → Q v H' → CE o P w H s Q u s' := by
    intro σ' H' v u J rv q
    exact ⟨v, H', J.os, J.bare, J.base, J.hok, rv, q⟩
  cases fl with
  | next => exact let ⟨_, _, J, q⟩ := hs; ce (v := V.non) (u := Value.none) J rfl q
  | ret u => exact let ⟨_, _, _, J, rv, q⟩ := hs; ce J rv q
  | brk => exact let ⟨_, _, _, q⟩ := hs; (q : False).elim
  | cont => exact let ⟨_, _, _, q⟩ := hs; (q : False).elim
end
section
variable {X : Cx} {k : Nat} {f : Addr} {fd : FuncData} {ps : List Str} {sp : Sp} {E : XK} {x : Str} {p pos : Pos} {e : Expr} {es : List Expr} {t : TA}
theorem run_g {pins : List (Addr × Obj)} {σ : L2.St} {H : Hp} {s : Shared} {Q : VK} {us : List Value} {vs : List V} {ar : Args} (F : FnG X.prog X.w X.K X.mg X.base k f fd ps sp) (hG : X.A.guards = some []) (hr : Room k X.A) (hb : BindsTo s fd ar (ps.zip us))
    (hx : ∀ e s', L2.CX X.prog X.w X.stack H s E e s' → X.xe e s') (I : Inv X pins σ H s) (r : Vals vs us) (h : sp vs H Q E) : codeAny (model X.prog X.w) X.A (.call (.ref f) ar) (fun r s' => match r with | .ok (.ret v) => EP X pins σ Q v s' | .ok _ => False | .error e => X.xe e s') s := by
  refine codeAny_mono (F.go X.A X.stack s H ar us vs Q E hG hr I.env0 hb r h) ?_
  intro r s' hq
  cases r with
  | error e => exact hx e s' hq
  | ok fl =>
    cases fl with
    | ret u => exact I.after hq
    | next => exact False.elim hq
    | brk => exact False.elim hq
    | cont => exact False.elim hq
/-- the reading of a call; the wish about errors by the slots -/
def tG (sp : Sp) (E : L2.St → XK) (t : TA) : TE := fun σ H Q => t σ H fun vs H1 => sp vs H1 Q (E σ)
/-- no error is let out -/
def E00 : L2.St → XK := fun _ _ _ _ => False
theorem pass00 (σ : L2.St) : PassesAt (L2.CX X.prog X.w) X σ (E00 σ) := by
  intro pins H s e s' I h
  obtain ⟨_, _, _, _, _, _, _, _, _, _, _, _, z⟩ := h
  exact (z : False).elim
theorem pe_g {E : L2.St → XK} (F : FnG X.prog X.w X.K X.mg X.base k f fd ps sp) (hG : X.A.guards = some []) (hr : Room k X.A) (hm : X.mg x = some (.ref f)) (hk : PySem.W.keepIn X.K (.ref f) = true) (hb : Binds X.K fd ps [])
    (hx : ∀ σ, PassesAt (L2.CX X.prog X.w) X σ (E σ)) (ha : PA X (e :: es) t) (hg : Gl X x := by rfl) (hdb : (x == ("__debug__" : Str)) = false := by decide)
    (he : starEach (e :: es) X.env = (false, eval e X.env) :: starEach es X.env := by rfl) (hpl : (backTo pos (starEach es X.env)).any (·.1) = false := by rfl) : PE X (.Call (.Name x p) (e :: es) [] pos) (tG sp E t) := by
  refine ⟨?_⟩
  intro pins s σ H Q I h
  refine wpAny_Call_Name_kw (ld_glob I hg hm ?_ hdb)
  refine PySem.W.callWith_K (h₀ := X.base) I.ok.mod.kin hk (thn (ha.run pos pins s σ H _ I h) ?_) he hpl
  intro us s1 ⟨vs, H1, I1, r, q⟩
  refine ⟨I1.kIn, ?_⟩
  have hl : (us ++ []).length = ps.length := by
    rw [List.append_nil, ← r.length]
    exact F.len _ _ _ _ q
  have hbd := hb s1 us I1.kIn hl
  rw [List.append_nil] at hbd
  exact wpAny_call (run_g F hG hr hbd (fun e s' c => hx σ pins H1 s1 e s' I1 c) I1 r q)
end
section
variable {X : Cx} {k : Nat} {f : Addr} {fd : FuncData} {ps ks : List Str} {sp : Sp} {x : Str} {p pos : Pos} {e : Expr} {es : List Expr} {kws : List Keyword} {t tk : TA}
/-- how keywords alone bind: g puts the values in the parameters' order -/
structure KOnly (K : PySem.W.Frag) (fd : FuncData) (ps ks : List Str) (g : {α : Type} → List α → List α) : Prop where
  to : ∀ (s : Shared) (ws : List Value), K.In s.heap → ws.length = ks.length → BindsTo s fd ⟨[], ks.zip ws⟩ (ps.zip (g ws))
  rel : ∀ {zs : List V} {ws : List Value}, Vals zs ws → Vals (g zs) (g ws)
def tKw (sp : Sp) (n : Nat) (g : List V → List V) (E : L2.St → XK) (tk : TA) : TE := fun σ H Q => tk σ H fun zs H1 => zs.length = n ∧ sp (g zs) H1 Q (E σ)
theorem pe_gk {E : L2.St → XK} {g : {α : Type} → List α → List α} (F : FnG X.prog X.w X.K X.mg X.base k f fd ps sp) (hG : X.A.guards = some []) (hr : Room k X.A) (hm : X.mg x = some (.ref f)) (hk : PySem.W.keepIn X.K (.ref f) = true)
    (hb : KOnly X.K fd ps ks g) (hx : ∀ σ, PassesAt (L2.CX X.prog X.w) X σ (E σ)) (ha : PK X kws tk) (hg : Gl X x := by rfl) (hdb : (x == ("__debug__" : Str)) = false := by decide)
    (hall : (backToKw pos (keywordEach kws X.env)).all (·.1.isSome) = true := by rfl) (hks : (backToKw pos (keywordEach kws X.env)).filterMap (·.1) = ks := by rfl)
    (hpl : (backToKw pos (keywordEach kws X.env)).any (·.1.isNone) = false := by rfl) : PE X (.Call (.Name x p) [] kws pos) (tKw sp ks.length g E tk) := by
  refine ⟨?_⟩
  intro pins s σ H Q I h
  refine wpAny_Call_Name_kw (ld_glob I hg hm ?_ hdb)
  refine PySem.W.callWith_KW0 (h₀ := X.base) I.ok.mod.kin hk hall (thn (ha.run pos pins s σ H _ I h) ?_) hpl
  intro ws s1 ⟨zs, H1, I1, r, hn, q⟩
  rw [hks]
  have hw : ws.length = ks.length := by rw [← r.length]; exact hn
  exact ⟨I1.kIn, wpAny_call (run_g F hG hr (hb.to s1 ws I1.kIn hw) (fun e s' c => hx σ pins H1 s1 e s' I1 c) I1 (hb.rel r) q)⟩
end
/-- nothing but the script is known, or nothing -/
def scrH (a : Addr) (o : Obj) (u : HO) : Hp := fun b => if b = a then some (.frz o u) else none
section
variable {X : Cx}
/-- repr(x), x data without dicts; the text is a function of the data -/
def rRepr (K : PySem.W.Frag) : List V → Hp → VK → Prop := fun xs H Q => ∃ (a : Addr) (d : PyData), xs = [.ref a] ∧ Dp K H (.ref a) d ∧ d.showable = true ∧ d.hasDict = false ∧ d.depth ≤ 60 ∧ d.shown.length ≤ sizeLine ∧ Q (.str d.shown) H
theorem call_repr (hG : X.A.guards = some []) (hu : X.A.units + 64 < cLine) : CallR X (.builtin "repr") (rRepr X.K) := by
  intro pins s σ H xs us Q I r h
  obtain ⟨a, d, rfl, hd, h1, h2, h3, h4, q⟩ := h
  cases r with
  | cons ra rn =>
    rename_i u ur
    cases rn
    obtain rfl : u = Value.ref a := ra
    obtain ⟨as, rd⟩ := Dp.reads I d (.ref a) _ hd rfl
    refine repr_of_reads' rd h1 (fun z => by rw [h2] at z; cases z) hG (by omega) (fun _ _ e => e) ?_ h4
    intro h' u tk hk
    exact ⟨.str d.shown, H, I.kept hk, ⟨_, rfl⟩, q⟩
end
end UW
namespace UW
open PySem PySem.Spec PyProof.Rows L2
section
variable {prog : Program} {w : World} {A : Around} {E : Value → Shared → Prop} {s : Shared}
set_option maxHeartbeats 1000000 in
theorem meets_enum1 {v : Value} {o : Obj} {J : Heap → Prop} (B : Begins v o J) :
    Meets (Builtin.«enumerate.__new__» ⟨[.type "enumerate", v], []⟩) (fun _ R s => J s.heap ∧
      R (.ok (.ret (.ref (s.heap.push o).objs.size))) { s with heap := (s.heap.push o).push { cls := .type "enumerate", data := .fields #[.none, .bool false, .ref s.heap.objs.size, rawInt 0, .none, .none] } }) := by
  refine .of_wp fun prog w A R s h => ?_
  obtain ⟨hp, g, d, tk, os⟩ := s
  obtain ⟨h1, h⟩ := h
  have hsub := sub_enumerate
  have it : ∀ {A' : Around} {E : Value → Shared → Prop} {Q : Value → Shared → Prop}, Q (.ref hp.objs.size) ⟨hp.push o, g, d, tk, os⟩ → wpAny (model prog w) A' (pyIter v) Q E ⟨hp, g, d, tk, os⟩ :=
    fun q => B.iter prog w _ _ ⟨hp, g, d, tk, os⟩ _ h1 q
  wp_walk using it
  refine wpAny_stack_any fun st => wpAny_pure ?_
  split
  · rename_i c _ _ _ _ _
    cases (c == Value.type "enumerate")
    all_goals (wp_walk using it)
    all_goals exact ⟨_, rfl, h⟩
  · wp_walk using it
    exact ⟨_, rfl, h⟩
theorem enum_one {v : Value} {o : Obj} {J : Heap → Prop} {Q : Value → Shared → Prop} (B : Begins v o J) (h1 : J s.heap)
    (h : ∀ h', IsEnum h' (s.heap.objs.size + 1) s.heap.objs.size 0 .none → h'.get? s.heap.objs.size = some o → (∀ b u, s.heap.get? b = some u → h'.get? b = some u) → Q (.ref (s.heap.objs.size + 1)) { s with heap := h' }) :
    wpAny (model prog w) A (call (.type "enumerate") [v]) Q E s := by
  refine callType_new F.called_enumerate (by decide) (F.typeCall_enumerate_1 _) (F.newCall_enumerate_1 _) (fun obj => F.args_object_init_2 obj _) F.entry_enumerate_new (meets_enum1 B) ⟨h1, ?_⟩
  have hz : (s.heap.push o).objs.size = s.heap.objs.size + 1 := Heap.size_push ..
  show _ ∧ _
  rw [hz]
  have he : IsEnum ((s.heap.push o).push { cls := .type "enumerate", data := .fields #[.none, .bool false, .ref s.heap.objs.size, rawInt 0, .none, .none] }) (s.heap.objs.size + 1) s.heap.objs.size 0 .none := by
    have q := Heap.get?_push_size (s.heap.push o) (o := { cls := .type "enumerate", data := .fields #[.none, .bool false, .ref s.heap.objs.size, rawInt 0, .none, .none] }) rfl
    rw [hz] at q
    exact q
  exact ⟨⟨_, he, rfl⟩, h _ he (Heap.get?_push_of_some _ (Heap.get?_push_size _ B.free)) fun b u z => Heap.get?_push_of_some _ (Heap.get?_push_of_some _ z)⟩
end
/-- the tuple at a, each item in a new pair -/
def IteT (K : PySem.W.Frag) (a : Addr) : It :=
  ⟨fun i H => ∃ (xs : List V) (x : V), SqT K H a xs ∧ xs[i]? = some x,
   fun i H v H' => ∃ T x, v = .ref T ∧ H T = none ∧ H' = upd H T (.tup [.int (i : Nat), x]) ∧ ∀ xs, SqT K H a xs → xs[i]? = some x,
   fun i H => ∃ xs : List V, SqT K H a xs ∧ xs.length ≤ i⟩
theorem turn_enumT {P : Program} {w : World} {K : PySem.W.Frag} {elts : List Expr} {kk : Nat} {tpos : Pos} (a e it : Addr) :
    Turn P w K (.Tuple elts kk tpos) (IteT K a) [e, it] e (fun i h => (∃ old, IsEnum h e it ((i : Nat) : Int) old) ∧ h.IsTupleIter it a i ∧ e ≠ it ∧ a ≠ e ∧ a ≠ it) where
  mem := by simp
  obj := fun i h st b hb => by
    obtain ⟨⟨old, he⟩, ⟨o, ho, hc, hd⟩, _⟩ := st
    rcases (show b = e ∨ b = it by simpa using hb) with z | z
    · rw [z]
      exact ⟨_, he, fun v q => nomatch q⟩
    · rw [z]
      exact ⟨o, ho, fun v q => by rw [hd] at q; cases q⟩
  keep := fun i h h' st k => by
    obtain ⟨⟨old, he⟩, hi, hne⟩ := st
    exact ⟨⟨old, k e (by simp) _ he⟩, hi.at fun o q => k it (by simp) o q, hne⟩
  item := by
    intro X hP hw hK hc i pins s σ H E I hf st hg
    subst hP hw hK
    obtain ⟨⟨old, he⟩, hit, hne, hae, hai⟩ := st
    obtain ⟨xs, x, hq, hx⟩ := hg
    obtain ⟨its, rv, p, hz⟩ := I.tuple hq
    obtain ⟨u, hu, ru⟩ := rv.get hx
    have hel : e < s.heap.objs.size := Heap.lt_size he
    have hil : it < s.heap.objs.size := by
      obtain ⟨_, q, _⟩ := hit
      exact Heap.lt_size q
    have hi : i < its.toArray.size := by
      have := (List.getElem?_eq_some_iff.mp hu).1
      simpa using this
    refine wpAny_pyNext_enum_itemD (Draws.tuple (A := X.A.in1) (I.ok.hd hc) it a hai its.toArray) he ⟨hit, p⟩ hi hne (by simp [hne, Ne.symm hae]) ?_
    intro u' h' tk hu' ho hst hT hsz hk
    have eu : u' = u := by
      have q : its.toArray[i]? = some u' := hu'
      rw [List.getElem?_toArray, hu] at q
      exact (Option.some.inj q).symm
    subst eu
    refine ⟨_, rfl, wpAny_letOwnedTupleGo_enum (s := { s with heap := h', toks := tk + 1 }) ho fun h'' he' sb => ?_⟩
    have hT2 : h''.get? s.heap.objs.size = some { cls := .type "tuple", data := .seq #[.int i tk, u'] } := (sb.2 _ (Nat.ne_of_gt hel)).trans hT
    have new : ObjOk X.prog X.w (upd H s.heap.objs.size (.tup [.int (i : Nat), x])) h'' s.heap.objs.size (.tup [.int (i : Nat), x]) :=
      ⟨by show 2 ≤ sizeLine; decide, [.int i tk, u'], .cons ⟨_, rfl⟩ (.cons ru .nil), ⟨_, hT2, rfl, _, rfl⟩⟩
    have I1 : Inv X pins σ (upd H s.heap.objs.size (.tup [.int (i : Nat), x])) { s with heap := h'', toks := tk + 1 } := by
      refine I.turnedNew (ch := [e, it]) ?_ hf (Nat.le_refl _) new
      intro b ob hb q
      exact (sb.2 b (fun z => hb (by simp [z]))).trans (hk b ob (fun z => hb (by simp [z])) (fun z => hb (by simp [z])) q)
    refine ⟨.ref s.heap.objs.size, _, I1, rfl, ⟨_, x, rfl, I.hok.fresh (Nat.le_refl _), rfl, fun ys hy => by rw [I.tuple_inj hy hq]; exact hx⟩, ⟨⟨u', ?_⟩, hst.1.at fun o q => (sb.2 it (Ne.symm hne)).trans q, hne, hae, hai⟩, ?_⟩
    · have e1 : ((i + 1 : Nat) : Int) = (i : Int) + 1 := by omega
      rw [e1]
      exact he'
    · intro b hb
      have hb' : b < s.heap.objs.size := by
        rcases (show b = e ∨ b = it by simpa using hb) with z | z
        · rw [z]; exact hel
        · rw [z]; exact hil
      rw [upd_ne (Nat.ne_of_lt hb')]
      exact (hf b hb).1
  done := by
    intro X hP hw hK hc i pins s σ H E I hf st hg
    subst hP hw hK
    obtain ⟨⟨old, he⟩, hit, hne, hae, hai⟩ := st
    obtain ⟨xs, hq, hx⟩ := hg
    obtain ⟨its, rv, p, hz⟩ := I.tuple hq
    obtain ⟨f0, f1, f2, f3, f4, f5⟩ := hf it (by simp)
    have hl := rv.length
    obtain ⟨oi, ei, _, di⟩ := id hit
    have hend : its.toArray[i]? = none := by simp; omega
    have hT : s.TypeIs (.ref e) "enumerate" := ⟨_, he, rfl⟩
    unfold pyNext
    refine wpAny_bind (wpAny_attempt (wpAny_callSpecial?_slot (name := Str.ofString "__next__") hT F.slot_enumerate_next (wpAny_call_entry F.slot_enumerate_next hT F.entry_enumerate_next ?_ (F.args_enumerate_next_1 _))))
    show wpAny _ _ (field (.ref e) 2 >>= _) _ _ _
    refine wpAny_bind (wpAny_field he rfl (x := .ref it) rfl ?_)
    refine wpAny_bind (wpAny_nextOf_tuple_end (I.ok.hd hc) hit (show s.heap.IsTuple a its.toArray from p) hend fun h' x he' hx' => ?_)
    obtain ⟨o, ho, hcl⟩ := hx'
    refine wpAny_bind (wpAny_isInstance (T := "StopIteration") (b := true) ⟨o, ho, hcl⟩ isSubtype_stop ?_)
    exact wpAny_pure ⟨rfl, I.turned (t' := s.toks) (fun b o hb q => he' b o hb q) f0 f1 f3 f4 f5⟩
  self := fun A i s Q E st h => let ⟨⟨_, he⟩, _⟩ := st; wpAny_pyIter_enum he h
end UW
namespace UW
open PySem PySem.Spec PyProof.Rows L2
abbrev Fg := PySem.W.Frag
/-- a tuple that is tracked -/
def SqT (K : Fg) (H : Hp) (a : Addr) (xs : List V) : Prop := H a = some (.tup xs)
theorem SqT.of {K : Fg} {H : Hp} {a : Addr} {xs : List V} (h : H a = some (.tup xs)) : SqT K H a xs := h
theorem SqT.up {K : Fg} {H : Hp} {a : Addr} {xs : List V} (h : SqT K H a xs) : L2.SqT K H a xs := .inl (.inl h)
def Tm (H H' : Hp) : Prop := ∀ a xs, H a = some (.tup xs) → H' a = some (.tup xs)
theorem Tm.refl (H : Hp) : Tm H H := fun _ _ h => h
theorem Tm.trans {H H1 H2 : Hp} (a : Tm H H1) (b : Tm H1 H2) : Tm H H2 := fun x xs h => b x xs (a x xs h)
theorem Tm.same {H H' : Hp} (e : Same H H') : Tm H H' := fun a xs h => e _ _ h
theorem Same.new {H : Hp} {p : Addr} {o : HO} (h : H p = none) : Same H (upd H p o) := fun a u e => by
  rw [upd_ne (ne_of_none e h)]
  exact e
theorem Tm.lst {H : Hp} {l : Addr} {xs ys : List V} (h : H l = some (.lst xs)) : Tm H (upd H l (.lst ys)) := fun a zs q => by rw [upd_ne (ne_of q h (fun z => by cases z))]; exact q
theorem Tm.sq {K : Fg} {H H' : Hp} {a : Addr} {xs : List V} (e : Tm H H') (h : SqT K H a xs) : SqT K H' a xs := e _ _ h
theorem Same.sqT {K : Fg} {H H' : Hp} {a : Addr} {xs : List V} (e : Same H H') (h : SqT K H a xs) : SqT K H' a xs := e _ _ h
mutual
inductive Tp (K : Fg) (H : Hp) : V → PyData → Prop
  | non : Tp K H .non .none
  | bl (b : Bool) : Tp K H (.bl b) (.bool b)
  | int (i : Int) : Tp K H (.int i) (.int i)
  | str (x : Str) : Tp K H (.str x) (.str x)
  | tup {a : Addr} {xs : List V} {ds : List PyData} : SqT K H a xs → Tps K H xs ds → Tp K H (.ref a) (.tuple ds)
inductive Tps (K : Fg) (H : Hp) : List V → List PyData → Prop
  | nil : Tps K H [] []
  | cons {v : V} {vs : List V} {d : PyData} {ds : List PyData} : Tp K H v d → Tps K H vs ds → Tps K H (v :: vs) (d :: ds)
end
section
variable {K : Fg} {H H' : Hp}
mutual
theorem Tp.tm (e : Tm H H') : ∀ {v : V} {d : PyData}, Tp K H v d → Tp K H' v d
  | _, _, .non => .non
  | _, _, .bl b => .bl b
  | _, _, .int i => .int i
  | _, _, .str x => .str x
  | _, _, .tup h hs => .tup (e.sq h) (Tps.tm e hs)
theorem Tps.tm (e : Tm H H') : ∀ {vs : List V} {ds : List PyData}, Tps K H vs ds → Tps K H' vs ds
  | _, _, .nil => .nil
  | _, _, .cons h hs => .cons (Tp.tm e h) (Tps.tm e hs)
end
theorem Tp.same (e : Same H H') {v : V} {d : PyData} (h : Tp K H v d) : Tp K H' v d := h.tm (Tm.same e)
theorem Tps.same (e : Same H H') {v : List V} {d : List PyData} (h : Tps K H v d) : Tps K H' v d := h.tm (Tm.same e)
mutual
theorem Tp.dp : ∀ {v : V} {d : PyData}, Tp K H v d → Dp K H v d
  | _, _, .non => .non
  | _, _, .bl b => .bl b
  | _, _, .int i => .int i
  | _, _, .str x => .str x
  | _, _, .tup h hs => .tup h.up (Tps.dp hs)
theorem Tps.dp : ∀ {vs : List V} {ds : List PyData}, Tps K H vs ds → DpAll K H vs ds
  | _, _, .nil => .nil
  | _, _, .cons h hs => .cons (Tp.dp h) (Tps.dp hs)
end
theorem Tp.int_inv {v : V} {i : Int} (h : Tp K H v (.int i)) : v = .int i := by cases h; rfl
theorem Tp.non_inv {v : V} (h : Tp K H v .none) : v = .non := by cases h; rfl
theorem Tp.str_inv {v : V} {x : Str} (h : Tp K H v (.str x)) : v = .str x := by cases h; rfl
theorem Tp.tup_inv {v : V} {ds : List PyData} (h : Tp K H v (.tuple ds)) : ∃ a xs, v = .ref a ∧ SqT K H a xs ∧ Tps K H xs ds := by
  cases h with
  | tup h hs => exact ⟨_, _, rfl, h, hs⟩
theorem Tps.nil_inv {xs : List V} (h : Tps K H xs []) : xs = [] := by cases h; rfl
theorem Tps.cons_inv {xs : List V} {d : PyData} {ds : List PyData} (h : Tps K H xs (d :: ds)) : ∃ v vs, xs = v :: vs ∧ Tp K H v d ∧ Tps K H vs ds := by
  cases h with
  | cons h hs => exact ⟨_, _, rfl, h, hs⟩
theorem Tps.length : ∀ {xs : List V} {ds : List PyData}, Tps K H xs ds → xs.length = ds.length
  | _, _, .nil => rfl
  | _, _, .cons _ h => by rw [List.length_cons, List.length_cons, Tps.length h]
theorem Tps.get : ∀ {xs : List V} {ds : List PyData} {i : Nat} {x : V}, Tps K H xs ds → xs[i]? = some x → ∃ d, ds[i]? = some d ∧ Tp K H x d
  | _, _, _, _, .nil, e => by simp at e
  | _, _, 0, _, .cons h _, e => by simp at e; subst e; exact ⟨_, rfl, h⟩
  | _, _, i + 1, x, .cons _ t, e => by
    obtain ⟨d, h1, h2⟩ := Tps.get (i := i) t (by simpa using e)
    exact ⟨d, by simpa using h1, h2⟩
theorem Tps.at : ∀ {xs : List V} {ds : List PyData} {i : Nat} {d : PyData}, Tps K H xs ds → ds[i]? = some d → ∃ x, xs[i]? = some x ∧ Tp K H x d
  | _, _, _, _, .nil, e => by simp at e
  | _, _, 0, _, .cons h _, e => by simp at e; subst e; exact ⟨_, rfl, h⟩
  | _, _, i + 1, x, .cons _ t, e => by
    obtain ⟨d, h1, h2⟩ := Tps.at (i := i) t (by simpa using e)
    exact ⟨d, by simpa using h1, h2⟩
theorem Tps.append : ∀ {xs ys : List V} {ds es : List PyData}, Tps K H xs ds → Tps K H ys es → Tps K H (xs ++ ys) (ds ++ es)
  | _, _, _, _, .nil, s => s
  | _, _, _, _, .cons r t, s => .cons r (Tps.append t s)
theorem Tps.snoc {xs : List V} {ds : List PyData} {v : V} {d : PyData} (h : Tps K H xs ds) (q : Tp K H v d) : Tps K H (xs ++ [v]) (ds ++ [d]) := h.append (.cons q .nil)
theorem Tps.ints : ∀ {xs : List V} {ns : List Int}, Tps K H xs (ns.map PyData.int) → xs = ns.map V.int
  | _, [], h => h.nil_inv
  | _, n :: ns, h => by
    obtain ⟨v, vs, rfl, h1, h2⟩ := Tps.cons_inv h
    rw [h1.int_inv, Tps.ints h2]
    rfl
theorem Tps.of_ints : ∀ (ns : List Int), Tps K H (ns.map V.int) (ns.map PyData.int)
  | [] => .nil
  | n :: ns => .cons (.int n) (Tps.of_ints ns)
def dP (p : Int × Int) : PyData := .tuple [.int p.1, .int p.2]
def dIs (l : List Int) : PyData := .tuple (l.map .int)
def dPs (l : List (Int × Int)) : PyData := .tuple (l.map dP)
def dWeb (n : Int) (rs : List (Int × Int)) (ms : List Int) : PyData := .tuple [.int n, dPs rs, dIs ms]
theorem Tp.pair {v : V} {p : Int × Int} (h : Tp K H v (dP p)) : ∃ a, v = .ref a ∧ SqT K H a [.int p.1, .int p.2] := by
  obtain ⟨a, xs, rfl, h1, h2⟩ := Tp.tup_inv h
  obtain ⟨v1, vs, rfl, q1, h2⟩ := h2.cons_inv
  obtain ⟨v2, vs, rfl, q2, h2⟩ := h2.cons_inv
  rw [h2.nil_inv, q1.int_inv, q2.int_inv] at h1
  exact ⟨a, rfl, h1⟩
theorem Tp.mkpair {a : Addr} {i j : Int} (h : SqT K H a [.int i, .int j]) : Tp K H (.ref a) (dP (i, j)) := .tup h (.cons (.int i) (.cons (.int j) .nil))
theorem Tp.ints {v : V} {l : List Int} (h : Tp K H v (dIs l)) : ∃ a, v = .ref a ∧ SqT K H a (l.map V.int) := by
  obtain ⟨a, xs, rfl, h1, h2⟩ := Tp.tup_inv h
  rw [h2.ints] at h1
  exact ⟨a, rfl, h1⟩
theorem Tp.mkints {a : Addr} {l : List Int} (h : SqT K H a (l.map V.int)) : Tp K H (.ref a) (dIs l) := .tup h (Tps.of_ints l)
theorem Tp.pairs {v : V} {l : List (Int × Int)} (h : Tp K H v (dPs l)) : ∃ a xs, v = .ref a ∧ SqT K H a xs ∧ Tps K H xs (l.map dP) := Tp.tup_inv h
theorem Tp.web {v : V} {n : Int} {rs : List (Int × Int)} {ms : List Int} (h : Tp K H v (dWeb n rs ms)) :
    ∃ a ar xs am, v = .ref a ∧ SqT K H a [.int n, .ref ar, .ref am] ∧ SqT K H ar xs ∧ Tps K H xs (rs.map dP) ∧ SqT K H am (ms.map V.int) ∧ Tp K H (.ref ar) (dPs rs) ∧ Tp K H (.ref am) (dIs ms) := by
  obtain ⟨a, xs, rfl, h1, h2⟩ := Tp.tup_inv h
  obtain ⟨v1, w1, rfl, q1, h3⟩ := h2.cons_inv
  obtain ⟨v2, w2, rfl, q2, h4⟩ := h3.cons_inv
  obtain ⟨v3, w3, rfl, q3, h5⟩ := h4.cons_inv
  have e := h5.nil_inv
  subst e
  obtain ⟨ar, xs, rfl, r1, r2⟩ := q2.pairs
  obtain ⟨am, rfl, m1⟩ := q3.ints
  have e1 := q1.int_inv
  subst e1
  exact ⟨a, ar, xs, am, rfl, h1, r1, r2, m1, q2, q3⟩
theorem Tps.pair_at {xs : List V} {rs : List (Int × Int)} {i : Nat} {x : V} (h : Tps K H xs (rs.map dP)) (e : xs[i]? = some x) : ∃ p a, rs[i]? = some p ∧ x = .ref a ∧ SqT K H a [.int p.1, .int p.2] := by
  obtain ⟨d, h1, h2⟩ := h.get e
  rw [List.getElem?_map] at h1
  cases q : rs[i]? with
  | none => rw [q] at h1; cases h1
  | some p =>
    rw [q] at h1
    cases h1
    obtain ⟨a, rfl, h3⟩ := h2.pair
    exact ⟨p, a, rfl, rfl, h3⟩
structure Okd (d : PyData) (k n : Nat) : Prop where
  sh : d.showable = true
  nd : d.hasDict = false
  dp : d.depth ≤ k
  ln : d.shown.length ≤ n
theorem Okd.mono {d : PyData} {k n k' n' : Nat} (h : Okd d k n) (hk : k ≤ k') (hn : n ≤ n') : Okd d k' n' := ⟨h.sh, h.nd, Nat.le_trans h.dp hk, Nat.le_trans h.ln hn⟩
theorem Okd.non : Okd .none 0 4 := ⟨by simp only [PyData.showable], by simp only [PyData.hasDict], by simp only [PyData.depth]; omega, by rw [PyData.shown_none]; decide +kernel⟩
theorem Okd.bl (b : Bool) : Okd (.bool b) 0 5 := ⟨by simp only [PyData.showable], by simp only [PyData.hasDict], by simp only [PyData.depth]; omega, by
  rw [PyData.shown_bool]
  cases b <;> decide +kernel⟩
theorem Okd.int {i : Int} (h : i.natAbs < 2 ^ 120) : Okd (.int i) 0 121 := by
  refine ⟨?_, by simp only [PyData.hasDict], by simp only [PyData.depth]; omega, ?_⟩
  · simp only [PyData.showable]
    refine decide_eq_true ?_
    by_cases z : i.natAbs = 0
    · rw [z]; decide
    · have := (Nat.log2_lt z).mpr h
      omega
  · rw [PyData.shown_int]
    show (Str.ofString (toString i)).length ≤ 121
    rw [PySem.ofString_length]
    cases i with
    | ofNat n =>
      have := nat_repr_length_le (n := n) (k := 120) (by decide) h
      show (Nat.repr n).length ≤ 121
      omega
    | negSucc n =>
      have := nat_repr_length_le (n := n + 1) (k := 120) (by decide) h
      show ("-" ++ Nat.repr (n + 1)).length ≤ 121
      rw [String.length_append]
      have : ("-" : String).length = 1 := rfl
      omega
theorem Okd.str {x : Str} {n : Nat} (h : (reprText x).length ≤ n) : Okd (.str x) 0 n := ⟨by simp only [PyData.showable], by simp only [PyData.hasDict], by simp only [PyData.depth]; omega, by rw [PyData.shown_str]; exact h⟩
theorem okd_all {ds : List PyData} {k n : Nat} (h : ∀ d ∈ ds, Okd d k n) : PyData.showableAll ds = true ∧ PyData.hasDictAll ds = false ∧ PyData.depthAll ds ≤ k ∧ piled (PyData.shownAll ds) ≤ ds.length * (n + 2) := by
  induction ds with
  | nil => exact ⟨by simp only [PyData.showableAll], by simp only [PyData.hasDictAll], by simp only [PyData.depthAll]; omega, by simp only [PyData.shownAll]; simp [piled]⟩
  | cons d ds ih =>
    obtain ⟨a, b, c, e⟩ := ih fun x hx => h x (List.mem_cons_of_mem _ hx)
    have q := h d (List.mem_cons_self ..)
    refine ⟨by simp only [PyData.showableAll]; rw [q.sh, a]; rfl, by simp only [PyData.hasDictAll]; rw [q.nd, b]; rfl, by simp only [PyData.depthAll]; have := q.dp; omega, ?_⟩
    simp only [PyData.shownAll]
    rw [piled_cons, List.length_cons]
    have := q.ln
    have e2 : (ds.length + 1) * (n + 2) = ds.length * (n + 2) + (n + 2) := Nat.succ_mul _ _
    omega
theorem tupText_le (ts : List Str) : (tupleText ts).length ≤ piled ts + 2 := fmt_text ts
theorem lstText_le (ts : List Str) : (listText ts).length ≤ piled ts + 2 := by
  rw [listText_eq_join, strLen_append, strLen_append]
  have e1 : ((("[" : String) : Str)).length = 1 := by decide +kernel
  have e2 : ((("]" : String) : Str)).length = 1 := by decide +kernel
  rw [e1, e2]
  by_cases h : ts = []
  · subst h
    have : (Str.join ", " []).length = 0 := by decide +kernel
    omega
  · have := join_length_add ts h
    omega
theorem Okd.tup {ds : List PyData} {k n m : Nat} (h : ∀ d ∈ ds, Okd d k n) (hl : ds.length ≤ m) : Okd (.tuple ds) (k + 1) (m * (n + 2) + 2) := by
  obtain ⟨a, b, c, e⟩ := okd_all h
  refine ⟨by simp only [PyData.showable]; exact a, by simp only [PyData.hasDict]; exact b, by simp only [PyData.depth]; omega, ?_⟩
  simp only [PyData.shown]
  refine Nat.le_trans (tupText_le _) ?_
  have := Nat.mul_le_mul_right (n + 2) hl
  omega
theorem Okd.lst {ds : List PyData} {k n m : Nat} (h : ∀ d ∈ ds, Okd d k n) (hl : ds.length ≤ m) : Okd (.list ds) (k + 1) (m * (n + 2) + 2) := by
  obtain ⟨a, b, c, e⟩ := okd_all h
  refine ⟨by simp only [PyData.showable]; exact a, by simp only [PyData.hasDict]; exact b, by simp only [PyData.depth]; omega, ?_⟩
  simp only [PyData.shown]
  refine Nat.le_trans (lstText_le _) ?_
  have := Nat.mul_le_mul_right (n + 2) hl
  omega
end
end UW
namespace UW
open PySem PySem.Spec PyProof.Rows L2
section
variable {X : Cx}
theorem OpR.u {f : Value → Value → Sem Value} {r q : R2} (a : OpR X f r) (b : OpR X f q) : OpR X f (fun x y H Q => r x y H Q ∨ q x y H Q) := by
  intro pins s σ H x y v u Q I rx ry h
  rcases h with h | h
  · exact a pins s σ H x y v u Q I rx ry h
  · exact b pins s σ H x y v u Q I rx ry h
def rAddI : R2 := rI0 fun i j => .int (i + j)
def rAddS : R2 := fun x y H Q => ∃ i j, x = .str i ∧ y = .str j ∧ i.length + j.length ≤ sizeLine ∧ Q (.str (i ++ j)) H
def rAddU (K : Fg) : R2 := fun x y H Q => rAddI x y H Q ∨ (rCat x y H Q ∨ (rCatA K x y H Q ∨ rAddS x y H Q))
theorem op_addU : OpR X (binaryOp .Add) (rAddU X.K) := OpR.u op_add (OpR.u op_cat (OpR.u op_catA op_add_str))
def rSubI : R2 := rI0 fun i j => .int (i - j)
theorem op_subI : OpR X (binaryOp .Sub) rSubI := op_sub
def rMulI : R2 := rI CMul fun i j => .int (i * j)
def rMulU (K : Fg) : R2 := fun x y H Q => rMulI x y H Q ∨ (rRep x y H Q ∨ rRepT K x y H Q)
theorem op_mulU : OpR X (binaryOp .Mult) (rMulU X.K) := OpR.u op_mul (OpR.u op_rep op_repT)
def rDivI : R2 := rI CDivN fun i j => .int (i.fdiv j)
theorem op_divI : OpR X (binaryOp .FloorDiv) rDivI := op_fdivN
def rModI : R2 := rI (fun _ j => j ≠ 0) fun i j => .int (i.fmod j)
theorem op_modI : OpR X (binaryOp .Mod) rModI := op_modN
def rPowI : R2 := rI CPow fun i j => .int (i ^ j.toNat)
theorem op_powI : OpR X (binaryOp .Pow) rPowI := op_pow
def rEqU (K : Fg) : R2 := fun x y H Q => rEq x y H Q ∨ rEqD K x y H Q
def rNeU (K : Fg) : R2 := fun x y H Q => rNe x y H Q ∨ rNeD K x y H Q
theorem op_eqU (hu : X.A.units + 64 < cLine) : OpR X (compareOp .Eq) (rEqU X.K) := OpR.u op_eq (op_eqD hu)
theorem op_neU (hu : X.A.units + 64 < cLine) : OpR X (compareOp .NotEq) (rNeU X.K) := OpR.u op_ne (op_neD hu)
def rLtI : R2 := rI0 fun i j => .bl (decide (i < j))
def rLeI : R2 := rI0 fun i j => .bl (decide (i ≤ j))
def rGtI : R2 := rI0 fun i j => .bl (decide (j < i))
def rGeI : R2 := rI0 fun i j => .bl (decide (j ≤ i))
def rLtU (K : Fg) : R2 := fun x y H Q => rLtI x y H Q ∨ rLtT K x y H Q
theorem op_ltU (hu : X.A.units < cLine) : OpR X (compareOp .Lt) (rLtU X.K) := OpR.u op_lt (op_ltT hu)
theorem op_gtI : OpR X (compareOp .Gt) rGtI := op_gt
theorem op_geI : OpR X (compareOp .GtE) rGeI := op_ge
/-- x in a tuple of data -/
def rInDT (K : Fg) : R2 := fun x y H Q => ∃ d ds, Dp K H x d ∧ Dp K H y (.tuple ds) ∧ SeqAt.shaped d = true ∧ SeqAt.shaped (.tuple ds) = true ∧ Q (.bl (ds.any fun z => PyData.eqv z d)) H
def rNiDT (K : Fg) : R2 := fun x y H Q => ∃ d ds, Dp K H x d ∧ Dp K H y (.tuple ds) ∧ SeqAt.shaped d = true ∧ SeqAt.shaped (.tuple ds) = true ∧ Q (.bl (!ds.any fun z => PyData.eqv z d)) H
theorem op_inDT (hu : X.A.units + 65 < cLine) : OpR X (compareOp .In) (rInDT X.K) := by
  intro pins s σ H x y v u Q I rx ry h
  obtain ⟨d, ds, hd, he, sd, se, q⟩ := h
  obtain ⟨as, rd⟩ := Dp.reads I d x v hd rx
  obtain ⟨bs, rs⟩ := Dp.reads I (.tuple ds) y u he ry
  exact SeqAt.in_tuple_reads rs rd (SeqAt.canLay_of_shaped se) (SeqAt.canLay_of_shaped sd) (room_in_shaped sd hu) ⟨.bl _, H, I, rfl, q⟩
theorem op_niDT (hu : X.A.units + 65 < cLine) : OpR X (compareOp .NotIn) (rNiDT X.K) := by
  intro pins s σ H x y v u Q I rx ry h
  obtain ⟨d, ds, hd, he, sd, se, q⟩ := h
  obtain ⟨as, rd⟩ := Dp.reads I d x v hd rx
  obtain ⟨bs, rs⟩ := Dp.reads I (.tuple ds) y u he ry
  exact SeqAt.notIn_tuple_reads rs rd (SeqAt.canLay_of_shaped se) (SeqAt.canLay_of_shaped sd) (room_in_shaped sd hu) ⟨.bl _, H, I, rfl, q⟩
def rInU (K : Fg) : R2 := fun x y H Q => rIn K false x y H Q ∨ (rInD K x y H Q ∨ rInDT K x y H Q)
def rNiU (K : Fg) : R2 := fun x y H Q => rIn K true x y H Q ∨ (rNotInD K x y H Q ∨ rNiDT K x y H Q)
theorem op_inU (hu : X.A.units + 65 < cLine) : OpR X (compareOp .In) (rInU X.K) := OpR.u op_in_seq (OpR.u (op_inD hu) (op_inDT hu))
theorem op_niU (hu : X.A.units + 65 < cLine) : OpR X (compareOp .NotIn) (rNiU X.K) := OpR.u op_notIn_seq (OpR.u (op_notInD hu) (op_niDT hu))
def rIsN : R2 := fun x y H Q => y = .non ∧ Q (.bl (decide (x = .non))) H
def rNotN : R2 := fun x y H Q => y = .non ∧ Q (.bl (!decide (x = .non))) H
theorem op_isN1 : OpR X (compareOp .Is) rIsN := op_isN
def rSlU (K : Fg) : V → Option Int → Option Int → Hp → VK → Prop := fun x lo hi H Q => rSlA K x lo hi H Q ∨ rSlL K x lo hi H Q
theorem sl_U : SlR X (rSlU X.K) := SlR.or sl_tupA sl_list
def rLenU (K : Fg) : List V → Hp → VK → Prop := fun xs H Q => ∃ p ys, xs = [.ref p] ∧ (SqL K H p ys ∨ L2.SqT K H p ys) ∧ Q (.int ys.length) H
theorem cr_len : CallR X (.builtin "len") (rLenU X.K) := call_len_seq
def rAbs : List V → Hp → VK → Prop := fun xs H Q => ∃ i, xs = [.int i] ∧ Q (.int (if i < 0 then -i else i)) H
def rInt : List V → Hp → VK → Prop := fun xs H Q => (∃ i, xs = [.int i] ∧ Q (.int i) H) ∨ ∃ k, xs = [.bl k] ∧ Q (.int (b2i k)) H
theorem cr_int : CallR X (.type "int") rInt := call_int1
def rMax2 : List V → Hp → VK → Prop := fun xs H Q => ∃ i j, xs = [.int i, .int j] ∧ Q (.int (if j > i then j else i)) H
def rMin2 : List V → Hp → VK → Prop := fun xs H Q => ∃ i j, xs = [.int i, .int j] ∧ Q (.int (if j < i then j else i)) H
theorem cr_max2 (hc : X.calm = true) : CallR X (.builtin "max") rMax2 := call_max2 hc
theorem cr_min2 (hc : X.calm = true) : CallR X (.builtin "min") rMin2 := call_min2 hc
def rTupOf (K : Fg) : List V → Hp → VK → Prop := fun xs H Q => ∃ p ys, xs = [.ref p] ∧ ((SqL K H p ys ∧ ∀ l, H l = none → Q (.ref l) (upd H l (.tup ys))) ∨ (L2.SqT K H p ys ∧ Q (.ref p) H))
theorem cr_tupOf : CallR X (.type "tuple") (rTupOf X.K) := call_tuple_of
def rLstOf (K : Fg) : List V → Hp → VK → Prop := fun xs H Q => ∃ p ys, xs = [.ref p] ∧ (SqL K H p ys ∨ L2.SqT K H p ys) ∧ ∀ l, H l = none → Q (.ref l) (upd H l (.lst ys))
theorem cr_lstOf : CallR X (.type "list") (rLstOf X.K) := call_list_of
end
section
variable {σ : L2.St} {H : Hp} {Q : VK} {K : Fg} {ta tb tc te : TE} {t u : TT} {D : Ends} {ts us : TS} {x y v : V} {i j : Int}
theorem s_seq (k : ts { D with nx := us D } σ H) : tSeq ts us D σ H := k
theorem s_next (k : D.nx σ H) : tNext D σ H := k
theorem s_asg {g : TG} (k : te σ H fun x H1 => g x σ H1 D.nx) : tAsg te g D σ H := k
theorem s_gname {n : Nat} {R : L2.St → Hp → Prop} (k : R (σ.set n (some v)) H) : gName n v σ H R := k
theorem s_ret (k : te σ H D.rt) : tRet te D σ H := k
theorem s_drop (k : te σ H fun _ H1 => D.nx σ H1) : tDrop te D σ H := k
theorem s_ifs (k : t σ H fun b H1 => if b = true then ts D σ H1 else us D σ H1) : tIfS t ts us D σ H := k
theorem s_var {n : Nat} (h : σ[n]? = some (some v)) (k : Q v H) : tVar n σ H Q := ⟨v, h, k⟩
theorem s_c (k : Q v H) : tC v σ H Q := k
theorem s_op {r : R2} (k : ta σ H fun x H1 => tb σ H1 fun y H2 => r x y H2 Q) : tOp r ta tb σ H Q := k
theorem s_un {r : V → Hp → VK → Prop} (k : ta σ H fun x H1 => r x H1 Q) : tUn r ta σ H Q := k
theorem s_neg (k : Q (.int (-i)) H) : rU (fun i => .int (-i)) (.int i) H Q := ⟨i, rfl, k⟩
theorem s_yes {P : Bool → Hp → Prop} (k : P true H) : tYes σ H P := k
theorem s_test {P : Bool → Hp → Prop} (k : te σ H fun x H' => ∃ b, x = .bl b ∧ P b H') : tTest te σ H P := k
theorem s_tB {P : Bool → Hp → Prop} (k : te σ H fun x H' => ∃ b, x = .bl b ∧ P b H') : tB te σ H P := k
theorem s_bl {P : Bool → Prop} {b : Bool} (k : P b) : ∃ c, V.bl b = .bl c ∧ P c := ⟨b, rfl, k⟩
theorem s_not {P : Bool → Hp → Prop} (k : t σ H fun c H1 => P (!c) H1) : tNot t σ H P := k
theorem s_and {P : Bool → Hp → Prop} (k : t σ H fun c H1 => if c = true then u σ H1 P else P false H1) : tAnd t u σ H P := k
theorem s_or {P : Bool → Hp → Prop} (k : t σ H fun c H1 => if c = true then P true H1 else u σ H1 P) : tOr t u σ H P := k
theorem s_andV (k : ta σ H fun x H1 => ∃ c, x = .bl c ∧ if c = true then tb σ H1 Q else Q (.bl false) H1) : tAndV ta tb σ H Q := k
theorem s_orV (k : ta σ H fun x H1 => ∃ c, x = .bl c ∧ if c = true then Q (.bl true) H1 else tb σ H1 Q) : tOrV ta tb σ H Q := k
theorem s_notV (k : ta σ H fun x H1 => ∃ c, x = .bl c ∧ Q (.bl (!c)) H1) : tNotV ta σ H Q := k
theorem s_chain {r r' : R2} (k : ta σ H fun x H1 => tb σ H1 fun y H2 => r x y H2 fun z H3 => ∃ k, z = .bl k ∧ (if k = true then tc σ H3 fun w' H4 => r' y w' H4 Q else Q (.bl false) H3)) : tChain r r' ta tb tc σ H Q := k
theorem s_blx {b : Bool} {A B : Prop} (k : if b = true then A else B) : ∃ c, V.bl b = .bl c ∧ (if c = true then A else B) := ⟨b, rfl, k⟩
theorem s_nil {R : List V → Hp → Prop} (k : R [] H) : tNil σ H R := k
theorem s_cons {tr : TA} {R : List V → Hp → Prop} (k : te σ H fun x H1 => tr σ H1 fun xs H2 => R (x :: xs) H2) : tCons te tr σ H R := k
/-- a new object goes on as Q says -/
def New (Q : VK) (H : Hp) (o : HO) : Prop := ∀ p, H p = none → Q (.ref p) (upd H p o)
theorem s_tup {ta : TA} (k : ta σ H fun xs H1 => xs.length ≤ sizeLine ∧ New Q H1 (.tup xs)) : tTup ta σ H Q := k
theorem s_lst {ta : TA} (k : ta σ H fun xs H1 => xs.length ≤ sizeLine ∧ New Q H1 (.lst xs)) : tLst ta σ H Q := k
/-- the heap by a name -/
theorem n_new {o : HO} (k : ∀ p H2, H p = none → Same H H2 → H2 p = some o → (∀ b, b ≠ p → H2 b = H b) → Q (.ref p) H2) : New Q H o := fun p hp => k p _ hp (Same.new hp) upd_same fun _ hb => upd_ne hb
theorem n_of {o : HO} {m : Nat} (h : Nat.ble m 1000 = true) (k : ∀ p H2, H p = none → Same H H2 → H2 p = some o → (∀ b, b ≠ p → H2 b = H b) → Q (.ref p) H2) : m ≤ sizeLine ∧ New Q H o := ⟨Nat.le_trans (Nat.le_of_ble_eq_true h) (by decide), n_new k⟩
theorem s_call {sp : Sp} {E : L2.St → XK} {ta : TA} (k : ta σ H fun vs H1 => sp vs H1 Q (E σ)) : tG sp E ta σ H Q := k
theorem s_cb {r : List V → Hp → VK → Prop} {ta : TA} (k : ta σ H fun vs H1 => r vs H1 Q) : tCB r ta σ H Q := k
theorem s_part {P : Option Int → Hp → Prop} (k : te σ H fun x H1 => ∃ i, x = .int i ∧ P (some i) H1) : tPart te σ H P := k
theorem s_nopart {P : Option Int → Hp → Prop} (k : P none H) : tNoPart σ H P := k
theorem s_ii {P : Int → Prop} (k : P i) : ∃ j, V.int i = .int j ∧ P j := ⟨i, rfl, k⟩
theorem s_sl {r : V → Option Int → Option Int → Hp → VK → Prop} {tl th : TO} (k : te σ H fun x H1 => tl σ H1 fun l H2 => th σ H2 fun u H3 => r x l u H3 Q) : tSl r te tl th σ H Q := k
theorem s_par {m n : Nat} {ta : TA} (k : ta σ H fun vs H1 => ∃ v w, vs = [v, w] ∧ D.nx ((σ.set m (some v)).set n (some w)) H1) : tPar m n ta D σ H := k
theorem s_par2 {P : V → V → Prop} (k : P x y) : ∃ v w, [x, y] = [v, w] ∧ P v w := ⟨x, y, rfl, k⟩
theorem s_bm {T : String} {r : V → List V → Hp → VK → Prop} {to : TE} {ta : TA} (k : to σ H fun x H1 => tyV K T x H1 ∧ ta σ H1 fun xs H2 => r x xs H2 Q) : tBM K T r to ta σ H Q := k
theorem s_gtup {n : Nat} {g : TGs} {R : L2.St → Hp → Prop} {a : Addr} {xs : List V} (h : SqT K H a xs) (e : xs.length = n) (k : g xs σ H R) : gTup K n g (.ref a) σ H R := ⟨a, xs, rfl, h.up, e, k⟩
theorem s_gcons {g : TG} {gs : TGs} {vs : List V} {R : L2.St → Hp → Prop} (k : g v σ H fun σ' H' => gs vs σ' H' R) : gCons g gs (v :: vs) σ H R := ⟨v, vs, rfl, k⟩
theorem s_gnil {R : L2.St → Hp → Prop} (k : R σ H) : gNil [] σ H R := ⟨rfl, k⟩
theorem s_gsub {to ti : TE} {ts : TSet} {R : L2.St → Hp → Prop} (k : to σ H fun o H1 => ti σ H1 fun i H2 => ts o i v H2 fun H3 => R σ H3) : gSub to ti ts v σ H R := k
theorem o_addI (k : Q (.int (i + j)) H) : rAddU K (.int i) (.int j) H Q := .inl ⟨i, j, rfl, rfl, k⟩
theorem o_sub (k : Q (.int (i - j)) H) : rSubI (.int i) (.int j) H Q := ⟨i, j, rfl, rfl, k⟩
theorem o_mulI (h : (-(2 ^ 64) < i ∧ i < 2 ^ 64) ∨ (-(2 ^ 64) < j ∧ j < 2 ^ 64)) (k : Q (.int (i * j)) H) : rMulU K (.int i) (.int j) H Q := .inl ⟨i, j, rfl, rfl, h, k⟩
theorem o_div (h : 0 < j) (h2 : j < 1073741824) (k : Q (.int (i / j)) H) : rDivI (.int i) (.int j) H Q := ⟨i, j, rfl, rfl, ⟨by omega, by omega⟩, by
  show Q (.int (i.fdiv j)) H
  rw [Int.fdiv_eq_ediv_of_nonneg _ (Int.le_of_lt h)]
  exact k⟩
theorem o_mod (h : 0 < j) (k : Q (.int (i % j)) H) : rModI (.int i) (.int j) H Q := ⟨i, j, rfl, rfl, by omega, by
  show Q (.int (i.fmod j)) H
  rw [Int.fmod_eq_emod_of_nonneg _ (Int.le_of_lt h)]
  exact k⟩
theorem o_eqS (h : scal x y = true) (k : Q (.bl (decide (x = y))) H) : rEqU K x y H Q := .inl ⟨h, k⟩
theorem o_neS (h : scal x y = true) (k : Q (.bl (!decide (x = y))) H) : rNeU K x y H Q := .inl ⟨h, k⟩
theorem o_eqI (k : Q (.bl (decide (i = j))) H) : rEqU K (.int i) (.int j) H Q := .inl ⟨rfl, by rw [show decide (V.int i = V.int j) = decide (i = j) from by simp]; exact k⟩
theorem o_neI (k : Q (.bl (!decide (i = j))) H) : rNeU K (.int i) (.int j) H Q := .inl ⟨rfl, by rw [show decide (V.int i = V.int j) = decide (i = j) from by simp]; exact k⟩
theorem o_ltI (k : Q (.bl (decide (i < j))) H) : rLtU K (.int i) (.int j) H Q := .inl ⟨i, j, rfl, rfl, k⟩
theorem o_le (k : Q (.bl (decide (i ≤ j))) H) : rLeI (.int i) (.int j) H Q := ⟨i, j, rfl, rfl, k⟩
theorem o_gt (k : Q (.bl (decide (j < i))) H) : rGtI (.int i) (.int j) H Q := ⟨i, j, rfl, rfl, k⟩
theorem o_ge (k : Q (.bl (decide (j ≤ i))) H) : rGeI (.int i) (.int j) H Q := ⟨i, j, rfl, rfl, k⟩
theorem o_isN (k : Q (.bl (decide (x = .non))) H) : rIsN x .non H Q := ⟨rfl, k⟩
theorem o_notN (k : Q (.bl (!decide (x = .non))) H) : rNotN x .non H Q := ⟨rfl, k⟩
theorem o_ixT0 {p : Addr} {xs : List V} (h : L2.SqT K H p xs) (ha : atI xs i = some v) (k : Q v H) : rIx K (.ref p) (.int i) H Q := .inr (.inl ⟨p, xs, i, v, rfl, rfl, h, ha, k⟩)
theorem o_ixT {p : Addr} {xs : List V} (h : SqT K H p xs) (ha : atI xs i = some v) (k : Q v H) : rIx K (.ref p) (.int i) H Q := .inr (.inl ⟨p, xs, i, v, rfl, rfl, h.up, ha, k⟩)
theorem o_ixL {p : Addr} {xs : List V} (h : SqL K H p xs) (ha : atI xs i = some v) (k : Q v H) : rIx K (.ref p) (.int i) H Q := .inl ⟨p, xs, i, v, rfl, rfl, h, ha, k⟩
theorem o_eqD {d e : PyData} (h1 : Dp K H x d) (h2 : Dp K H y e) (s1 : SeqAt.shaped d = true) (s2 : SeqAt.shaped e = true) (k : Q (.bl (PyData.eqv d e)) H) : rEqU K x y H Q := .inr ⟨d, e, h1, h2, s1, s2, k⟩
theorem o_neD {d e : PyData} (h1 : Dp K H x d) (h2 : Dp K H y e) (s1 : SeqAt.shaped d = true) (s2 : SeqAt.shaped e = true) (k : Q (.bl (!PyData.eqv d e)) H) : rNeU K x y H Q := .inr ⟨d, e, h1, h2, s1, s2, k⟩
theorem o_lenL {p : Addr} {xs : List V} (h : SqL K H p xs) (k : Q (.int xs.length) H) : rLenU K [.ref p] H Q := ⟨p, xs, rfl, .inl h, k⟩
theorem o_lenT {p : Addr} {xs : List V} (h : SqT K H p xs) (k : Q (.int xs.length) H) : rLenU K [.ref p] H Q := ⟨p, xs, rfl, .inr h.up, k⟩
theorem o_int (k : Q (.int i) H) : rInt [.int i] H Q := .inl ⟨i, rfl, k⟩
theorem o_intB {b : Bool} (k : Q (.int (b2i b)) H) : rInt [.bl b] H Q := .inr ⟨b, rfl, k⟩
theorem o_abs (k : Q (.int (if i < 0 then -i else i)) H) : rAbs [.int i] H Q := ⟨i, rfl, k⟩
theorem o_max2 (k : Q (.int (if j > i then j else i)) H) : rMax2 [.int i, .int j] H Q := ⟨i, j, rfl, k⟩
theorem o_min2 (k : Q (.int (if j < i then j else i)) H) : rMin2 [.int i, .int j] H Q := ⟨i, j, rfl, k⟩
end
end UW
namespace UW
open PySem PySem.Spec PyProof.Rows L2
section
variable {X : Cx}
theorem ps_parU {i j : Nat} {x y : Str} {a b : Expr} {ta : TA} {px py pt pos : Pos} {kt k2 pt2} (hc : X.calm = true) (hN : X.N.Nodup) (hi : X.N[i]? = some x) (hj : X.N[j]? = some y) (hij : i ≠ j)
    (hx : Loc X.env.scope x) (hy : Loc X.env.scope y) (ha : PA X [a, b] ta)
    (hw : swappedStores [.Tuple [.Name x px, .Name y py] kt pt] (.Tuple [a, b] k2 pt2) X.env = pure (some [x, y]))
    (hs : swapsWithSole [.Tuple [.Name x px, .Name y py] kt pt] (.Tuple [a, b] k2 pt2) pos.line X.env = pure false := by rfl)
    (fx : X.fn x = true ∨ X.env.scope.names.lookup x = some .local := by first | exact .inl rfl | exact .inr rfl) (fy : X.fn y = true ∨ X.env.scope.names.lookup y = some .local := by first | exact .inl rfl | exact .inr rfl) :
    PS X (.Assign [.Tuple [.Name x px, .Name y py] kt pt] (.Tuple [a, b] k2 pt2) pos) (tPar i j ta) := by
  refine ⟨?_⟩
  intro pins s σ H D I h
  rw [exec_Assign_arm]
  refine wpAny_bind (wpAny_standAt ?_)
  rw [hs]
  refine wpAny_bind (wpAny_pure ?_)
  rw [if_neg (by decide)]
  refine wpAny_bind (Tuple_ (thn (ha.run _ pins s σ H _ I h) ?_))
  intro us s1 ⟨vs, H1, I1, r1, v, w, e1, q1⟩
  subst e1
  cases r1 with
  | @cons _ u1 _ ur rv r2 =>
    cases r2 with
    | @cons _ u2 _ ur2 rw' r3 =>
      cases r3
      refine wpAny_newObj_type ?_ (by show 2 ≤ sizeLine; decide)
      have I2 : Inv X pins σ H1 { s1 with heap := s1.heap.push { cls := .type "tuple", data := .seq [u1, u2].toArray } } := I1.kept (t' := s1.toks) fun b o e => Heap.get?_push_of_some _ e
      rw [hw]
      refine wpAny_bind (wpAny_pure ?_)
      show wpAny (model X.prog X.w) X.A (do rule "assign.swapped-stores"; let its ← unpackItems (.ref s1.heap.objs.size) 2 none; assignInOrder [fun v => bindName X.env y v, fun v => bindName X.env x v] its.reverse; pure Flow.next) _ _ _
      refine wpAny_bind (wpAny_rule (wpAny_bind (unpackItems_tuple (items := #[u1, u2]) (I.ok.hd hc) (IsTup.new s1.heap _) ?_)))
      intro h' hx'
      have I3 := I2.kept (h' := h') (t' := s1.toks) fun b o e => hx' b o (Nat.ne_of_lt (Heap.lt_size e)) e
      show wpAny _ _ (assignInOrder [fun v => bindName X.env y v, fun v => bindName X.env x v] [u2, u1] >>= fun _ => pure Flow.next) _ _ _
      refine wpAny_bind (assignInOrder_cons (wpAny_bindName (store_ok I3 hN hj hy rw' ?_ fy)))
      intro s2 I4
      refine assignInOrder_cons (wpAny_bindName (store_ok I4 hN hi hx rv ?_ fx))
      intro s3 I5
      refine assignInOrder_nil (wpAny_pure ?_)
      rw [List.set_comm _ _ (Ne.symm hij)] at I5
      exact ⟨_, H1, I5, q1⟩
/-- a walk, whichever of two -/
def iSeq (K : Fg) (tl : TE) : TI := fun σ H R => tl σ H fun x H1 => ∃ a, x = .ref a ∧ ((∃ xs, SqL K H1 a xs ∧ R (Itl K a) H1) ∨ (∃ xs, L2.SqT K H1 a xs ∧ R (Itt K a) H1))
theorem pi_seq {tg l : Expr} {tl : TE} (hl : PE X l tl) : PI X tg l (iSeq X.K tl) := by
  refine ⟨?_⟩
  intro pins s σ H R I h
  refine thn (hl.run pins s σ H _ I h) ?_
  intro v s1 ⟨x, H1, I1, r1, a, e, q⟩
  subst e
  cases r1
  have fp : ∀ b ∈ [s1.heap.objs.size], FpOk X pins H1 b := by
    intro b hb
    have e : b = s1.heap.objs.size := by simpa using hb
    subst e
    exact I1.fpOk (Nat.le_refl _) (I1.hok.fresh (Nat.le_refl _))
  rcases q with ⟨xs, hq, q⟩ | ⟨xs, hq, q⟩
  · obtain ⟨its, rv, p, hz⟩ := I1.list hq
    exact wpAny_pyIter_list p.isList ⟨s1.heap.objs.size, [s1.heap.objs.size], _, _, H1, rfl, I1.kept (t' := s1.toks) fun b o e => Heap.get?_push_of_some _ e, turn_list a _, ⟨_, Heap.get?_push_size _ rfl, rfl, rfl⟩, fp, q⟩
  · obtain ⟨its, rv, p, hz⟩ := I1.tuple hq
    exact wpAny_pyIter_tuple (show s1.heap.IsTuple a its.toArray from p) ⟨s1.heap.objs.size, [s1.heap.objs.size], _, _, H1, rfl, I1.kept (t' := s1.toks) fun b o e => Heap.get?_push_of_some _ e, turn_tuple a _, ⟨_, Heap.get?_push_size _ rfl, rfl, rfl⟩, fp, q⟩
theorem PI.u {tg l : Expr} {w1 w2 : TI} (a : PI X tg l w1) (b : PI X tg l w2) : PI X tg l (fun σ H R => w1 σ H R ∨ w2 σ H R) := by
  refine ⟨?_⟩
  intro pins s σ H R I h
  rcases h with h | h
  · exact a.run pins s σ H R I h
  · exact b.run pins s σ H R I h
end
end UW
namespace UW
open PySem PySem.Spec PyProof.Rows L2
section
variable {prog : Program} {w : World} {A : Around} {E : Value → Shared → Prop} {s : Shared}
end
end UW
namespace UW
open PySem PySem.Spec PyProof.Rows L2
section
variable {prog : Program} {w : World} {A : Around} {E : Value → Shared → Prop} {s : Shared} {t : Addr} {its : List Value} {ns : List Int} {Q : Value → Shared → Prop}
end
/-- a list or a tuple -/
def SqU (K : Fg) (H : Hp) (p : Addr) (xs : List V) : Prop := SqL K H p xs ∨ L2.SqT K H p xs
section
variable {X : Cx}
end
end UW
namespace UW
open PySem PySem.Spec PyProof.Rows L2
theorem h65_of {A : Around} {k : Nat} (hr : Room k A) : A.units + 65 < cLine := by have := hr.un; omega
theorem Same.lst {H H' : Hp} {a : Addr} {o : HO} (e : Same H H') (h : H a = some o) : H' a = some o := e _ _ h
section
variable {H : Hp} {Q : VK} {K : Fg} {R : L2.St → Hp → Prop} {i j : Int} {v x y : V}
/-- the heap behind a store at p, by a name -/
def At (p : Addr) (o : HO) (H H2 : Hp) : Prop := H2 p = some o ∧ ∀ b, b ≠ p → H2 b = H b
theorem At.upd (p : Addr) (o : HO) (H : Hp) : At p o H (upd H p o) := ⟨upd_same, fun _ h => upd_ne h⟩
theorem At.ne {p b : Addr} {o u : HO} {H H2 : Hp} (e : At p o H H2) (h : H b = some u) (n : b ≠ p) : H2 b = some u := (e.2 b n).trans h
theorem At.tm {p : Addr} {xs ys : List V} {H H2 : Hp} (e : At p (.lst ys) H H2) (h : H p = some (.lst xs)) : Tm H H2 := fun a zs q => e.ne q (ne_of q h (fun z => by cases z))
theorem At.same {p : Addr} {o : HO} {H0 H H2 : Hp} (e : At p o H H2) (s : Same H0 H) (n : H0 p = none) : Same H0 H2 := fun b u h => e.ne (s b u h) (ne_of_none h n)
theorem o_setL {p : Addr} {xs : List V} {n : Nat} (h : H p = some (.lst xs)) (hi : ixN xs.length i = some n) {P : Hp → Prop} (k : ∀ H2, At p (.lst (xs.set n v)) H H2 → P H2) : rSetL (.ref p) (.int i) v H P := ⟨p, xs, i, n, rfl, rfl, h, hi, k _ (At.upd _ _ _)⟩
theorem o_append {p : Addr} {xs : List V} (h : H p = some (.lst xs)) (hl : xs.length < 100000) (k : ∀ H2, At p (.lst (xs ++ [y])) H H2 → Q .non H2) : rAppend (.ref p) [y] H Q := ⟨p, xs, y, rfl, rfl, h, Nat.lt_of_lt_of_le hl (by decide), k _ (At.upd _ _ _)⟩
theorem o_popAt {p : Addr} {xs : List V} {n : Nat} (h : H p = some (.lst xs)) (hi : i = (n : Int)) (hn : xs[n]? = some y) (hs : n < 100000) (k : ∀ H2, At p (.lst (xs.eraseIdx n)) H H2 → Q y H2) : rPopAt (.ref p) [.int i] H Q := by
  subst hi
  have hlt := (List.getElem?_eq_some_iff.mp hn).1
  refine ⟨p, xs, (n : Int), n, y, rfl, rfl, h, by omega, by omega, ?_, hn, k _ (At.upd _ _ _)⟩
  unfold seqIndex?
  simp
  omega
theorem o_tyL {p : Addr} {xs : List V} (h : H p = some (.lst xs)) {A : Prop} (k : A) : tyV K "list" (.ref p) H ∧ A := ⟨.inl ⟨rfl, _, SqL.of h⟩, k⟩
theorem s_cut {t u : TS} {D : Ends} {σ : L2.St} (M : L2.St → Hp → Prop) (h : t { D with nx := M } σ H) (k : ∀ σ' H', M σ' H' → u D σ' H') : Evl.tCut t u D σ H := ⟨M, h, k⟩
theorem s_i1 {A B : Prop} (c : Bool) (h1 : c = true → A) (h2 : c = false → B) : if c = true then A else B := by
  cases c with
  | true => exact iteT (h1 rfl)
  | false => exact iteF (h2 rfl)
theorem s_dec {p : Prop} [Decidable p] {A B : Prop} (h1 : p → A) (h2 : ¬ p → B) : if decide p = true then A else B := by
  by_cases h : p
  · rw [decide_eq_true h]; exact iteT (h1 h)
  · rw [decide_eq_false h]; exact iteF (h2 h)
theorem s_ndec {p : Prop} [Decidable p] {A B : Prop} (h1 : ¬ p → A) (h2 : p → B) : if (!decide p) = true then A else B := by
  by_cases h : p
  · rw [decide_eq_true h]; exact iteF (h2 h)
  · rw [decide_eq_false h]; exact iteT (h1 h)
end
theorem at_zero {α : Type} (x : α) (xs : List α) : atI (x :: xs) 0 = some x := atI_nat (j := 0) rfl
theorem ix_nat {n j : Nat} (h : j < n) : ixN n (j : Int) = some j := by
  unfold ixN
  rw [if_pos (by omega), if_pos (by omega)]
  simp
theorem ix_zero {n : Nat} (h : 0 < n) : ixN n 0 = some 0 := ix_nat (j := 0) h
section
variable {K : Fg} {a b : Addr} {xs ys : List V} {J : It} {n : Nat} {G : Hp → Prop} {Y : Nat → Hp → V → Hp → Prop} {g : TG} {tt : TT} {te : TE} {vs : List Nat} {σ : L2.St} {H H1 : Hp} {Q : VK} {wi : TI} {tb : TS} {D : Ends} {tl : TE} {ta : TA}
theorem walk_enumT0 : Walk (IteT K a) xs.length (fun H => L2.SqT K H a xs) (YPair (fun i => some (.int (i : Nat))) (fun i => xs[i]?)) := by
  refine ⟨fun i _ hi q => ⟨xs, xs[i], q, by simp [hi]⟩, fun _ q => ⟨xs, q, Nat.le_refl _⟩, ?_⟩
  rintro i H v H' _ q ⟨T, x, h1, h2, h3, h4⟩
  exact ⟨T, .int (i : Nat), x, h1, h2, h3, rfl, h4 xs q⟩
theorem walk_tup : Walk (Itt K a) xs.length (fun H => SqT K H a xs) (YAt xs) := L2.walk_tup.mono (fun _ h => h.up) fun _ _ _ _ _ _ y => y
theorem walk_enumT : Walk (IteT K a) xs.length (fun H => SqT K H a xs) (YPair (fun i => some (.int (i : Nat))) (fun i => xs[i]?)) := walk_enumT0.mono (fun _ h => h.up) fun _ _ _ _ _ _ y => y
def SeqGo (K : Fg) (x : V) (H : Hp) (R : It → Hp → Prop) : Prop := ∃ a, x = .ref a ∧ ((∃ xs, SqL K H a xs ∧ R (Itl K a) H) ∨ (∃ xs, L2.SqT K H a xs ∧ R (Itt K a) H))
theorem w_seq {R : It → Hp → Prop} (k : tl σ H fun x H1 => SeqGo K x H1 R) : iSeq K tl σ H R := k
theorem w_seqL {R : It → Hp → Prop} (h : SqL K H a xs) (k : R (Itl K a) H) : SeqGo K (.ref a) H R := ⟨a, rfl, .inl ⟨xs, h, k⟩⟩
theorem w_seqT {R : It → Hp → Prop} (h : SqT K H a xs) (k : R (Itt K a) H) : SeqGo K (.ref a) H R := ⟨a, rfl, .inr ⟨xs, h.up, k⟩⟩
def RngGo (vs : List V) (H : Hp) (R : It → Hp → Prop) : Prop := ∃ j : Int, vs = [.int j] ∧ -(2 ^ 62) ≤ j ∧ j < 2 ^ 62 ∧ R (Itr 0 j.toNat) H
theorem w_rng1 {R : It → Hp → Prop} (k : ta σ H fun vs H1 => RngGo vs H1 R) : iRng1 ta σ H R := k
theorem w_rng {R : It → Hp → Prop} {j : Int} (h : -(2 ^ 62) ≤ j ∧ j < 2 ^ 62) (k : R (Itr 0 j.toNat) H) : RngGo [.int j] H R := ⟨j, rfl, h.1, h.2, k⟩
def Rng2Go (vs : List V) (H : Hp) (R : It → Hp → Prop) : Prop := ∃ i j : Int, vs = [.int i, .int j] ∧ (-(2 ^ 62) ≤ i ∧ i < 2 ^ 62 ∧ -(2 ^ 62) ≤ j ∧ j < 2 ^ 62) ∧ R (Itr i (j - i).toNat) H
theorem w_rng2 {R : It → Hp → Prop} (k : ta σ H fun vs H1 => Rng2Go vs H1 R) : iRng2 ta σ H R := k
theorem w_rngB {R : It → Hp → Prop} {i j : Int} (h : -(2 ^ 62) ≤ i ∧ i < 2 ^ 62 ∧ -(2 ^ 62) ≤ j ∧ j < 2 ^ 62) (k : R (Itr i (j - i).toNat) H) : Rng2Go [.int i, .int j] H R := ⟨i, j, rfl, h, k⟩
def ZipGo (K : Fg) (vs : List V) (H : Hp) (R : It → Hp → Prop) : Prop := ∃ a b xs ys, vs = [.ref a, .ref b] ∧ ((SqL K H a xs ∧ SqL K H b ys ∧ R (Itz K a b) H) ∨ (L2.SqT K H a xs ∧ L2.SqT K H b ys ∧ R (RZ.ItzT K a b) H))
theorem w_zip {R : It → Hp → Prop} (k : ta σ H fun vs H1 => ZipGo K vs H1 R) : RZ.iZipA K ta σ H R := k
def ForGo (J : It) (g : TG) (tb : TS) (D : Ends) (σ : L2.St) (H : Hp) : Prop := ∃ W : Nat → Nat → L2.St → Hp → Prop, (∃ m, W 0 m σ H) ∧ ∀ i m σ H, W i m σ H →
  (J.stop i H ∧ D.nx σ H) ∨ (J.go i H ∧ ∃ N : L2.St → Hp → Prop, (∀ σ' H', N σ' H' → ∃ m', m' < m ∧ W (i + 1) m' σ' H') ∧ ∀ x H', J.yld i H x H' → g x σ H' fun σ2 H2 => tb { D with nx := N, ct := N, bk := D.nx } σ2 H2)
theorem s_for (k : wi σ H fun J H1 => ForGo J g tb D σ H1) : tFor wi g tb D σ H := k
theorem f_go (w : Walk J n G Y) (Pv : Nat → L2.St → Hp → Prop) (h0 : Pv 0 σ H) (hG : ∀ i σ H, i ≤ n → Pv i σ H → G H)
    (hs : ∀ i x σ H H', i < n → Pv i σ H → Y i H x H' → g x σ H' fun σ2 H2 => tb { D with nx := Pv (i + 1), ct := Pv (i + 1), bk := D.nx } σ2 H2) (hd : ∀ σ H, Pv n σ H → D.nx σ H) : ForGo J g tb D σ H := for_it w Pv h0 hG hs hd
def LcGo (J : It) (g : TG) (tt : TT) (te : TE) (vs : List Nat) (σ : L2.St) (H1 : Hp) (Q : VK) : Prop := ∀ D, H1 D = none → ∃ W : Nat → Nat → Hp → Prop, (∃ m, W 0 m (upd H1 D (.lst []))) ∧ ∀ i m H, W i m H →
  (J.stop i H ∧ Q (.ref D) H) ∨ (J.go i H ∧ ∃ Nx : Hp → Prop, (∀ H', Nx H' → ∃ m', m' < m ∧ W (i + 1) m' H') ∧ ∀ x H', J.yld i H x H' → g x (wipe σ vs) H' fun σ2 H2 => wipe σ2 vs = wipe σ vs ∧ tt σ2 H2 fun b H3 =>
    if b = true then te σ2 H3 fun y H4 => ∃ acc, H4 D = some (.lst acc) ∧ acc.length < sizeLine ∧ Nx (upd H4 D (.lst (acc ++ [y]))) else Nx H3)
theorem s_lc (k : wi σ H fun J H1 => LcGo J g tt te vs σ H1 Q) : tLc wi g tt te vs σ H Q := k
/-- by an invariant: D the new list, ys what it holds -/
theorem lc_inv (w : Walk J n G Y) (Pv : Addr → Nat → List V → Hp → Prop) (hz : n < 100000) (h0 : ∀ D H', H1 D = none → Same H1 H' → At D (.lst []) H1 H' → Pv D 0 [] H') (hG : ∀ D i ys H, i ≤ n → Pv D i ys H → G H)
    (hs : ∀ D i ys x H H', H1 D = none → i < n → Pv D i ys H → H D = some (.lst ys) → Y i H x H' → ∀ (Yes : V → Hp → Prop) (No : Hp → Prop),
      (∀ y H5, H5 D = some (.lst ys) → (∀ H6, At D (.lst (ys ++ [y])) H5 H6 → Pv D (i + 1) (ys ++ [y]) H6) → Yes y H5) → (∀ H5, H5 D = some (.lst ys) → Pv D (i + 1) ys H5 → No H5) →
      g x (wipe σ vs) H' fun σ2 H2 => wipe σ2 vs = wipe σ vs ∧ tt σ2 H2 fun b H3 => if b = true then te σ2 H3 Yes else No H3)
    (hd : ∀ D ys H, H1 D = none → Pv D n ys H → H D = some (.lst ys) → ys.length ≤ n → Q (.ref D) H) : LcGo J g tt te vs σ H1 Q := by
  intro D hD
  refine lc_it (Qd := fun H => Q (.ref D) H) w (fun i H => ∃ ys, ys.length ≤ i ∧ H D = some (.lst ys) ∧ Pv D i ys H) ⟨[], Nat.le_refl _, upd_same, h0 D _ hD (Same.new hD) (At.upd _ _ _)⟩ ?_ ?_ ?_
  · rintro i H hi ⟨ys, _, _, p⟩
    exact hG D i ys H hi p
  · rintro i x H H' hi ⟨ys, hl, hy, p⟩ yy
    refine hs D i ys x H H' hD hi p hy yy _ _ (fun y H5 h5 n6 => ⟨ys, h5, Nat.lt_of_le_of_lt hl (Nat.lt_trans hi (Nat.lt_of_lt_of_le hz (by decide))), ys ++ [y], ?_, upd_same, n6 _ (At.upd _ _ _)⟩) (fun H5 h5 p5 => ⟨ys, Nat.le_succ_of_le hl, h5, p5⟩)
    rw [List.length_append, List.length_singleton]
    omega
  · rintro H ⟨ys, hl, hy, p⟩
    exact hd D ys H hD p hy hl
/-- what stands at the turns that are taken -/
def picks {α : Type} (f : Nat → Bool) (d : Nat → α) : Nat → List α
  | 0 => []
  | i + 1 => if f i then picks f d i ++ [d i] else picks f d i
/-- by the data of its items; nothing that stood changes -/
theorem lc_data (w : Walk J n G Y) (f : Nat → Bool) (d : Nat → PyData) (hz : n < 100000) (hG : ∀ H', Same H1 H' → G H')
    (hs : ∀ i x H H', i < n → Same H1 H → Y i H x H' → ∀ (Yes : V → Hp → Prop) (No : Hp → Prop),
      (f i = true → ∀ y H5, Same H H5 → Tp K H5 y (d i) → Yes y H5) → (f i = false → ∀ H5, Same H H5 → No H5) →
      g x (wipe σ vs) H' fun σ2 H2 => wipe σ2 vs = wipe σ vs ∧ tt σ2 H2 fun b H3 => if b = true then te σ2 H3 Yes else No H3)
    (hd : ∀ D ys H, H1 D = none → Same H1 H → H D = some (.lst ys) → Tps K H ys (picks f d n) → ys.length ≤ n → Q (.ref D) H) : LcGo J g tt te vs σ H1 Q := by
  refine lc_inv w (fun D i ys H => Same H1 H ∧ Tps K H ys (picks f d i)) hz (fun D H' hD e _ => ⟨e, .nil⟩) (fun D i ys H _ p => hG H p.1) ?_ (fun D ys H hD p hy hl => hd D ys H hD p.1 hy p.2 hl)
  rintro D i ys x H H' hD hi ⟨e, p⟩ hy yy Yes No hyes hno
  refine hs i x H H' hi e yy Yes No (fun fi y H5 e5 t5 => hyes y H5 (e5 _ _ hy) fun H6 a6 => ⟨a6.same (Same.trans e e5) hD, ?_⟩) (fun fi H5 e5 => hno H5 (e5 _ _ hy) ⟨Same.trans e e5, ?_⟩)
  · have m6 := a6.tm (e5 _ _ hy)
    show Tps K H6 (ys ++ [y]) (if f i then picks f d i ++ [d i] else picks f d i)
    rw [if_pos fi]
    exact ((p.same e5).tm m6).snoc (t5.tm m6)
  · show Tps K H5 ys (if f i then picks f d i ++ [d i] else picks f d i)
    rw [if_neg (by rw [fi]; decide)]
    exact p.same e5
theorem picks_over {α β : Type} (f : α → Bool) (d : α → β) (z : β) (rs : List α) : ∀ n, n ≤ rs.length → picks (fun i => (rs[i]?.map f).getD false) (fun i => (rs[i]?.map d).getD z) n = ((rs.take n).filter f).map d
  | 0, _ => by rw [List.take_zero]; rfl
  | n + 1, h => by
    have hn : n < rs.length := h
    have ih := picks_over f d z rs n (Nat.le_of_lt hn)
    have e : rs[n]? = some rs[n] := List.getElem?_eq_getElem hn
    have et : rs.take (n + 1) = rs.take n ++ [rs[n]] := by rw [List.take_add_one, e]; rfl
    show (if (rs[n]?.map f).getD false then picks _ _ n ++ [(rs[n]?.map d).getD z] else picks _ _ n) = _
    rw [ih, et, e, List.filter_append, List.map_append]
    cases q : f rs[n] with
    | true => simp [q]
    | false => simp [q]
/-- by the data of what is walked over -/
theorem lc_over {α : Type} (rs : List α) (w : Walk J n G Y) (en : n = rs.length) (f : α → Bool) (d : α → PyData) (hz : n < 100000) (hG : ∀ H', Same H1 H' → G H')
    (hs : ∀ i r x H H', rs[i]? = some r → Same H1 H → Y i H x H' → ∀ (Yes : V → Hp → Prop) (No : Hp → Prop),
      (f r = true → ∀ y H5, Same H H5 → Tp K H5 y (d r) → Yes y H5) → (f r = false → ∀ H5, Same H H5 → No H5) →
      g x (wipe σ vs) H' fun σ2 H2 => wipe σ2 vs = wipe σ vs ∧ tt σ2 H2 fun b H3 => if b = true then te σ2 H3 Yes else No H3)
    (hd : ∀ D ys H, H1 D = none → Same H1 H → H D = some (.lst ys) → Tps K H ys ((rs.filter f).map d) → Q (.ref D) H) : LcGo J g tt te vs σ H1 Q := by
  subst en
  refine lc_data (K := K) w (fun i => (rs[i]?.map f).getD false) (fun i => (rs[i]?.map d).getD .none) hz hG ?_ ?_
  · intro i x H H' hi e y Yes No hy hn
    have e2 : rs[i]? = some rs[i] := List.getElem?_eq_getElem hi
    refine hs i rs[i] x H H' e2 e y Yes No (fun q y H5 s5 t5 => hy (by rw [e2]; exact q) y H5 s5 ?_) (fun q H5 s5 => hn (by rw [e2]; exact q) H5 s5)
    rw [e2]
    exact t5
  · intro D ys H hD e hy t _
    refine hd D ys H hD e hy ?_
    rw [picks_over f d .none rs rs.length (Nat.le_refl _), List.take_length] at t
    exact t
theorem filter_true {α : Type} (rs : List α) : rs.filter (fun _ => true) = rs := List.filter_eq_self.mpr fun _ _ => rfl
theorem picks_all {α : Type} (d : Nat → α) : ∀ n, picks (fun _ => true) d n = (List.range n).map d
  | 0 => rfl
  | n + 1 => by
    show picks (fun _ => true) d n ++ [d n] = _
    rw [picks_all d n, List.range_succ, List.map_append]
    rfl
end
end UW
namespace UW
open PySem PySem.Spec PyProof.Rows L2
/-- one step -/
local macro_rules | `(tactic| walk_at "s1") => `(tactic| first
  | with_reducible refine s_seq ?_
  | with_reducible refine s_for ?_
  | with_reducible refine s_lc ?_
  | with_reducible refine w_seq ?_
  | with_reducible refine w_rng1 ?_
  | with_reducible refine w_rng2 ?_
  | with_reducible refine w_zip ?_
  | with_reducible refine s_asg ?_
  | with_reducible refine s_gname ?_
  | with_reducible refine s_ret ?_
  | with_reducible refine s_drop ?_
  | with_reducible refine s_next ?_
  | with_reducible refine s_ifs ?_
  | with_reducible refine s_var (by with_unfolding_all rfl) ?_
  | with_reducible refine s_c ?_
  | with_reducible refine s_op ?_
  | with_reducible refine s_un ?_
  | with_reducible refine s_neg ?_
  | with_reducible refine s_test ?_
  | with_reducible refine s_yes ?_
  | with_reducible refine s_tB ?_
  | with_reducible refine s_bl ?_
  | with_reducible refine s_not ?_
  | with_reducible refine s_and ?_
  | with_reducible refine s_or ?_
  | with_reducible refine s_andV ?_
  | with_reducible refine s_orV ?_
  | with_reducible refine s_notV ?_
  | with_reducible refine s_chain ?_
  | with_reducible refine s_nil ?_
  | with_reducible refine s_cons ?_
  | with_reducible refine s_tup ?_
  | with_reducible refine s_lst ?_
  | with_reducible refine s_call ?_
  | with_reducible refine s_cb ?_
  | with_reducible refine s_part ?_
  | with_reducible refine s_nopart ?_
  | with_reducible refine s_ii ?_
  | with_reducible refine s_sl ?_
  | with_reducible refine s_par ?_
  | with_reducible refine s_par2 ?_
  | with_reducible refine s_bm ?_
  | with_reducible refine s_gsub ?_
  | with_reducible refine s_gcons ?_
  | with_reducible refine s_gnil ?_
  | with_reducible refine o_addI ?_
  | with_reducible refine o_sub ?_
  | with_reducible refine o_eqI ?_
  | with_reducible refine o_neI ?_
  | with_reducible refine o_ltI ?_
  | with_reducible refine o_le ?_
  | with_reducible refine o_gt ?_
  | with_reducible refine o_ge ?_
  | with_reducible refine o_int ?_
  | with_reducible refine o_intB ?_
  | with_reducible refine o_abs ?_
  | with_reducible refine o_max2 ?_
  | with_reducible refine o_min2 ?_
  | with_reducible refine o_isN ?_
  | with_reducible refine o_notN ?_
  | with_reducible refine o_mulI (by first | exact Or.inl ⟨by decide, by decide⟩ | exact Or.inr ⟨by decide, by decide⟩ | (first | (refine Or.inl ⟨?_, ?_⟩ <;> omega) | (refine Or.inr ⟨?_, ?_⟩ <;> omega))) ?_
  | with_reducible refine o_mod (by first | decide | omega) ?_
  | with_reducible refine o_div (by first | decide | omega) (by first | decide | omega) ?_
  | with_reducible refine s_blx ?_
  | with_reducible refine o_ixL (SqL.of (by assumption)) (by first | with_unfolding_all rfl | with_unfolding_all exact at_zero _ _) ?_
  | with_reducible refine o_ixT (by assumption) (by first | with_unfolding_all rfl | with_unfolding_all exact at_zero _ _) ?_
  | with_reducible refine o_tyL (by assumption) ?_
  | with_reducible refine iteT ?_
  | with_reducible refine iteF ?_)
local macro_rules | `(tactic| walk_at "sx") => `(tactic| repeat (walk_at "s1"))
def Well (H : Hp) (a l : Addr) : Prop := ∃ (cs : List Int) (s c : Int), H a = some (.lst [.ref l, .int s, .int c]) ∧ H l = some (.lst (cs.map V.int)) ∧ cs.length ≤ 64
/-- all but the well is as it was -/
def Kp (a l : Addr) (H H' : Hp) : Prop := ∀ b o, H b = some o → b ≠ a → b ≠ l → H' b = some o
theorem Well.ne {H : Hp} {a l : Addr} (w : Well H a l) : a ≠ l := by
  obtain ⟨cs, s, c, h1, h2, _⟩ := w
  refine ne_of h1 h2 fun z => ?_
  have e : ([.ref l, .int s, .int c] : List V) = cs.map V.int := by
    injection z
  cases cs with
  | nil => cases e
  | cons x r => cases e
theorem Kp.refl {a l : Addr} (H : Hp) : Kp a l H H := fun _ _ h _ _ => h
theorem Kp.trans {a l : Addr} {H H1 H2 : Hp} (e : Kp a l H H1) (f : Kp a l H1 H2) : Kp a l H H2 := fun b o h n1 n2 => f b o (e b o h n1 n2) n1 n2
theorem Kp.same {a l : Addr} {H H1 : Hp} (e : Same H H1) : Kp a l H H1 := fun b o h _ _ => e b o h
theorem Well.same {H H' : Hp} {a l : Addr} (w : Well H a l) (e : Same H H') : Well H' a l := by
  obtain ⟨cs, s, c, h1, h2, h3⟩ := w
  exact ⟨cs, s, c, e _ _ h1, e _ _ h2, h3⟩
theorem Kp.tm {a l : Addr} {H H' : Hp} (w : Well H a l) (e : Kp a l H H') : Tm H H' := by
  obtain ⟨cs, s, c, h1, h2, _⟩ := w
  exact fun b xs h => e b _ h (ne_of h h1 fun z => by cases z) (ne_of h h2 fun z => by cases z)
def sp__law_draw (K : Fg) : Sp := fun vs H Q _ => ∃ (a l : Addr) (m : Int), vs = [.ref a, .int m] ∧ Well H a l ∧ 0 < m ∧ m < 1073741824 ∧ ∀ (r : Int) (H' : Hp), 0 ≤ r → r < m → Well H' a l → Kp a l H H' → Q (.int r) H'
theorem l__law_draw {K : Fg} : ∀ vs H Q E, sp__law_draw K vs H Q E → vs.length = 2 := by
  rintro vs H Q E ⟨a, l, m, rfl, _⟩
  rfl
theorem canLay_ints : ∀ ns : List Int, PyData.canLayAll0 (ns.map PyData.int) = true
  | [] => by simp only [List.map_nil, PyData.canLayAll0]
  | n :: ns => by
    simp only [List.map_cons, PyData.canLayAll0, PyData.canLay0, Bool.and_eq_true, true_and]
    exact canLay_ints ns
theorem depth_ints : ∀ ns : List Int, PyData.depthAll (ns.map PyData.int) = 0
  | [] => by simp only [List.map_nil, PyData.depthAll]
  | n :: ns => by simp only [List.map_cons, PyData.depthAll, PyData.depth, depth_ints ns, Nat.max_self]
theorem shaped_ints (ns : List Int) : SeqAt.shaped (.list (ns.map PyData.int)) = true := by
  show (_ && decide _) = true
  simp only [PyData.canLay0, PyData.depth, canLay_ints, depth_ints]
  rfl
/-- _law_draw, slots well, many, cell, found -/
def t__law_draw (K : Fg) : TS :=
  (tSeq (tIfS (tTest (tOp (rNeU K) (tOp (rIx K) (tVar 0) (tC (.int 0))) (tLst tNil))) (tSeq (tAsg (tOp (rIx K) (tOp (rIx K) (tVar 0) (tC (.int 0)))
    (tC (.int 0))) (gName 2)) (tSeq (tAsg (tOp rDivI (tVar 2) (tVar 1)) (gSub (tOp (rIx K) (tVar 0) (tC (.int 0))) (tC (.int 0)) rSetL)) (Evl.tCut (tIfS (tTest (tOp (rLtU K) (tVar 2) (tVar 1))) (tDrop (tBM K "list" rPopAt (tOp (rIx
    K) (tVar 0) (tC (.int 0))) (tCons (tC (.int 0)) tNil))) tNext) (tRet (tOp rModI (tCB rInt (tCons (tVar 2) tNil)) (tVar 1)))))) tNext) (tSeq (tAsg (tOp (rAddU K) (tOp (rIx K) (tVar 0) (tC (.int 2))) (tC (.int 1))) (gSub (tVar 0)
    (tC (.int 2)) rSetL)) (tSeq (tAsg (tOp rModI (tCB rInt (tCons (tOp (rAddU K) (tOp (rIx K) (tVar 0) (tC (.int 1))) (tOp (rMulU K) (tC (.int 2246822519)) (tOp (rIx K) (tVar 0) (tC (.int 2))))) tNil)) (tC (.int 4294967291)))
    (gName 3)) (tSeq (tAsg (tOp rModI (tCB rInt (tCons (tOp (rAddU K) (tOp (rAddU K) (tOp (rMulU K) (tVar 3) (tVar 3)) (tOp (rMulU K) (tC (.int 30011)) (tOp (rIx K) (tVar 0) (tC (.int 2))))) (tC (.int 17))) tNil)) (tC (.int
    4294967279))) (gName 3)) (tSeq (tAsg (tOp rModI (tCB rInt (tCons (tOp (rAddU K) (tOp (rMulU K) (tVar 3) (tVar 3)) (tOp (rIx K) (tVar 0) (tC (.int 1)))) tNil)) (tC (.int 4294967231))) (gName 3)) (tRet (tOp rModI (tCB rInt (tCons
    (tOp rDivI (tVar 3) (tC (.int 128))) tNil)) (tVar 1))))))))
theorem p__law_draw {K : Fg} {vs : List V} {H : Hp} {Q : VK} {E : XK} (h : sp__law_draw K vs H Q E) : t__law_draw K { nx := fun _ H' => Q .non H', rt := Q } (start ["well", "many", "cell", "found"] vs) H := by
  obtain ⟨a, l, m, rfl, w, m0, m1, k⟩ := h
  have al := w.ne
  obtain ⟨cs, s, c, ha, hl, hc⟩ := w
  show t__law_draw K _ [some (.ref a), some (.int m), none, none] H
  unfold t__law_draw
  walk_at "sx"
  refine n_of rfl fun p H1 np e1 hp _ => ?_
  have ha1 := e1 _ _ ha
  have hl1 := e1 _ _ hl
  refine o_neD (.lst (SqL.of hl1) (Tps.of_ints cs).dp) (.lst (SqL.of hp) .nil) (shaped_ints cs) rfl ?_
  walk_at "sx"
  refine s_i1 _ (fun hc1 => ?_) (fun hc1 => ?_)
  · cases cs with
    | nil => cases hc1
    | cons x cs =>
      walk_at "sx"
      refine o_setL hl1 (ix_zero (Nat.succ_pos _)) fun H2 l2 => ?_
      have ha2 := l2.ne ha1 al
      refine s_cut (fun σ' H' => σ' = [some (.ref a), some (.int m), some (.int x), none] ∧ Well H' a l ∧ Kp a l H1 H') ?_ ?_
      · have kp : Kp a l H1 H2 := fun b o h n1 n2 => l2.ne h n2
        have hl2 := l2.1
        walk_at "sx"
        refine s_dec (fun _ => ?_) (fun _ => ?_)
        · walk_at "sx"
          refine o_popAt (n := 0) hl2 rfl rfl (by decide) fun H3 l3 => ?_
          exact ⟨rfl, ⟨cs, s, c, l3.ne ha2 al, l3.1, by simp at hc; omega⟩, fun b o h n1 n2 => l3.ne (kp b o h n1 n2) n2⟩
        · walk_at "sx"
          exact ⟨rfl, ⟨x / m :: cs, s, c, ha2, hl2, hc⟩, kp⟩
      · rintro σ' H' ⟨rfl, w', kp⟩
        walk_at "sx"
        exact k _ _ (Int.emod_nonneg _ (by omega)) (Int.emod_lt_of_pos _ m0) w' ((Kp.same e1).trans kp)
  · walk_at "sx"
    refine o_setL ha1 rfl fun H2 a2 => ?_
    have ha2 : H2 a = some (.lst [.ref l, .int s, .int (c + 1)]) := a2.1
    have hl2 := a2.ne hl1 (Ne.symm al)
    walk_at "sx"
    have r1 := Int.emod_nonneg (s + 2246822519 * (c + 1)) (b := 4294967291) (by decide)
    have r2 := Int.emod_lt_of_pos (s + 2246822519 * (c + 1)) (b := 4294967291) (by decide)
    generalize (s + 2246822519 * (c + 1)) % 4294967291 = f1 at r1 r2 ⊢
    walk_at "sx"
    refine k _ _ (Int.emod_nonneg _ (by omega)) (Int.emod_lt_of_pos _ m0) ⟨cs, s, c + 1, ha2, hl2, hc⟩ ?_
    exact fun b o h n1 n2 => a2.ne (e1 _ _ h) n1
end UW
namespace UW
open PySem PySem.Spec PyProof.Rows L2
/-- one step -/
local macro_rules | `(tactic| walk_at "s1") => `(tactic| first
  | with_reducible refine s_seq ?_
  | with_reducible refine s_for ?_
  | with_reducible refine s_lc ?_
  | with_reducible refine w_seq ?_
  | with_reducible refine w_rng1 ?_
  | with_reducible refine w_rng2 ?_
  | with_reducible refine w_zip ?_
  | with_reducible refine s_asg ?_
  | with_reducible refine s_gname ?_
  | with_reducible refine s_ret ?_
  | with_reducible refine s_drop ?_
  | with_reducible refine s_next ?_
  | with_reducible refine s_ifs ?_
  | with_reducible refine s_var (by with_unfolding_all rfl) ?_
  | with_reducible refine s_c ?_
  | with_reducible refine s_op ?_
  | with_reducible refine s_un ?_
  | with_reducible refine s_neg ?_
  | with_reducible refine s_test ?_
  | with_reducible refine s_yes ?_
  | with_reducible refine s_tB ?_
  | with_reducible refine s_bl ?_
  | with_reducible refine s_not ?_
  | with_reducible refine s_and ?_
  | with_reducible refine s_or ?_
  | with_reducible refine s_andV ?_
  | with_reducible refine s_orV ?_
  | with_reducible refine s_notV ?_
  | with_reducible refine s_chain ?_
  | with_reducible refine s_nil ?_
  | with_reducible refine s_cons ?_
  | with_reducible refine s_tup ?_
  | with_reducible refine s_lst ?_
  | with_reducible refine s_call ?_
  | with_reducible refine s_cb ?_
  | with_reducible refine s_part ?_
  | with_reducible refine s_nopart ?_
  | with_reducible refine s_ii ?_
  | with_reducible refine s_sl ?_
  | with_reducible refine s_par ?_
  | with_reducible refine s_par2 ?_
  | with_reducible refine s_bm ?_
  | with_reducible refine s_gsub ?_
  | with_reducible refine s_gcons ?_
  | with_reducible refine s_gnil ?_
  | with_reducible refine o_addI ?_
  | with_reducible refine o_sub ?_
  | with_reducible refine o_eqI ?_
  | with_reducible refine o_neI ?_
  | with_reducible refine o_ltI ?_
  | with_reducible refine o_le ?_
  | with_reducible refine o_gt ?_
  | with_reducible refine o_ge ?_
  | with_reducible refine o_int ?_
  | with_reducible refine o_intB ?_
  | with_reducible refine o_abs ?_
  | with_reducible refine o_max2 ?_
  | with_reducible refine o_min2 ?_
  | with_reducible refine o_isN ?_
  | with_reducible refine o_notN ?_
  | with_reducible refine o_mulI (by first | exact Or.inl ⟨by decide, by decide⟩ | exact Or.inr ⟨by decide, by decide⟩ | (first | (refine Or.inl ⟨?_, ?_⟩ <;> omega) | (refine Or.inr ⟨?_, ?_⟩ <;> omega))) ?_
  | with_reducible refine o_mod (by first | decide | omega) ?_
  | with_reducible refine o_div (by first | decide | omega) (by first | decide | omega) ?_
  | with_reducible refine s_blx ?_
  | with_reducible refine o_ixL (SqL.of (by assumption)) (by first | with_unfolding_all rfl | with_unfolding_all exact at_zero _ _) ?_
  | with_reducible refine o_ixT (by assumption) (by first | with_unfolding_all rfl | with_unfolding_all exact at_zero _ _) ?_
  | with_reducible refine o_tyL (by assumption) ?_
  | with_reducible refine iteT ?_
  | with_reducible refine iteF ?_)
local macro_rules | `(tactic| walk_at "sx") => `(tactic| repeat (walk_at "s1"))
section
variable {H : Hp} {Q : VK} {K : Fg} {a : Addr} {xs : List V} {lo hi : Option Int}
theorem o_slL (h : SqL K H a xs) (k : New Q H (.lst (cutV xs lo hi))) : rSlU K (.ref a) lo hi H Q := .inr ⟨a, xs, rfl, h, k⟩
end
theorem map_at {ns : List Int} {i : Nat} {x : V} (h : (ns.map V.int)[i]? = some x) : ∃ n, x = .int n := by
  rw [List.getElem?_map] at h
  cases e : ns[i]? with
  | none => rw [e] at h; cases h
  | some n => rw [e] at h; exact ⟨n, (Option.some.inj h).symm⟩
end UW
namespace UW
open PySem PySem.Spec PyProof.Rows L2
/-- one step -/
local macro_rules | `(tactic| walk_at "s1") => `(tactic| first
  | with_reducible refine s_seq ?_
  | with_reducible refine s_for ?_
  | with_reducible refine s_lc ?_
  | with_reducible refine w_seq ?_
  | with_reducible refine w_rng1 ?_
  | with_reducible refine w_rng2 ?_
  | with_reducible refine w_zip ?_
  | with_reducible refine s_asg ?_
  | with_reducible refine s_gname ?_
  | with_reducible refine s_ret ?_
  | with_reducible refine s_drop ?_
  | with_reducible refine s_next ?_
  | with_reducible refine s_ifs ?_
  | with_reducible refine s_var (by with_unfolding_all rfl) ?_
  | with_reducible refine s_c ?_
  | with_reducible refine s_op ?_
  | with_reducible refine s_un ?_
  | with_reducible refine s_neg ?_
  | with_reducible refine s_test ?_
  | with_reducible refine s_yes ?_
  | with_reducible refine s_tB ?_
  | with_reducible refine s_bl ?_
  | with_reducible refine s_not ?_
  | with_reducible refine s_and ?_
  | with_reducible refine s_or ?_
  | with_reducible refine s_andV ?_
  | with_reducible refine s_orV ?_
  | with_reducible refine s_notV ?_
  | with_reducible refine s_chain ?_
  | with_reducible refine s_nil ?_
  | with_reducible refine s_cons ?_
  | with_reducible refine s_tup ?_
  | with_reducible refine s_lst ?_
  | with_reducible refine s_call ?_
  | with_reducible refine s_cb ?_
  | with_reducible refine s_part ?_
  | with_reducible refine s_nopart ?_
  | with_reducible refine s_ii ?_
  | with_reducible refine s_sl ?_
  | with_reducible refine s_par ?_
  | with_reducible refine s_par2 ?_
  | with_reducible refine s_bm ?_
  | with_reducible refine s_gsub ?_
  | with_reducible refine s_gcons ?_
  | with_reducible refine s_gnil ?_
  | with_reducible refine o_addI ?_
  | with_reducible refine o_sub ?_
  | with_reducible refine o_eqI ?_
  | with_reducible refine o_neI ?_
  | with_reducible refine o_ltI ?_
  | with_reducible refine o_le ?_
  | with_reducible refine o_gt ?_
  | with_reducible refine o_ge ?_
  | with_reducible refine o_int ?_
  | with_reducible refine o_intB ?_
  | with_reducible refine o_abs ?_
  | with_reducible refine o_max2 ?_
  | with_reducible refine o_min2 ?_
  | with_reducible refine o_isN ?_
  | with_reducible refine o_notN ?_
  | with_reducible refine o_mulI (by first | exact Or.inl ⟨by decide, by decide⟩ | exact Or.inr ⟨by decide, by decide⟩ | (first | (refine Or.inl ⟨?_, ?_⟩ <;> omega) | (refine Or.inr ⟨?_, ?_⟩ <;> omega))) ?_
  | with_reducible refine o_mod (by first | decide | omega) ?_
  | with_reducible refine o_div (by first | decide | omega) (by first | decide | omega) ?_
  | with_reducible refine s_blx ?_
  | with_reducible refine o_ixL (SqL.of (by assumption)) (by first | with_unfolding_all rfl | with_unfolding_all exact at_zero _ _) ?_
  | with_reducible refine o_ixT (by assumption) (by first | with_unfolding_all rfl | with_unfolding_all exact at_zero _ _) ?_
  | with_reducible refine o_tyL (by assumption) ?_
  | with_reducible refine iteT ?_
  | with_reducible refine iteF ?_)
local macro_rules | `(tactic| walk_at "sx") => `(tactic| repeat (walk_at "s1"))
def iota (n : Nat) : List Int := (List.range n).map fun (i : Nat) => ((i : Nat) : Int)
theorem iota_len (n : Nat) : (iota n).length = n := by unfold iota; rw [List.length_map, List.length_range]
theorem rgV_iota (n : Int) : rgV 0 n = (iota n.toNat).map V.int := by
  unfold rgV iota
  rw [List.map_map]
  have e : (n - 0).toNat = n.toNat := by rw [Int.sub_zero]
  rw [e]
  refine List.map_congr_left fun i _ => ?_
  show V.int (0 + (i : Int)) = V.int (i : Int)
  rw [Int.zero_add]
theorem map_erase {α β : Type} (f : α → β) : ∀ (l : List α) (n : Nat), (l.map f).eraseIdx n = (l.eraseIdx n).map f
  | [], _ => rfl
  | _ :: _, 0 => rfl
  | x :: l, n + 1 => by
    show f x :: (l.map f).eraseIdx n = f x :: (l.eraseIdx n).map f
    rw [map_erase f l n]
theorem perm_erase {α : Type} : ∀ (l : List α) (n : Nat) (h : n < l.length), (l[n] :: l.eraseIdx n).Perm l
  | [], n, h => absurd h (Nat.not_lt_zero _)
  | x :: l, 0, _ => List.Perm.refl _
  | x :: l, n + 1, h => by
    have h' : n < l.length := Nat.lt_of_succ_lt_succ h
    show (l[n] :: x :: l.eraseIdx n).Perm (x :: l)
    exact (List.Perm.swap x l[n] _).trans ((perm_erase l n h').cons x)
/-- what stood stands, and the well is one -/
structure WK (a l : Addr) (H H' : Hp) : Prop where
  w : Well H' a l
  k : Kp a l H H'
theorem WK.trans {a l : Addr} {H H1 H2 : Hp} (e : WK a l H H1) (f : WK a l H1 H2) : WK a l H H2 := ⟨f.w, e.k.trans f.k⟩
theorem WK.same {a l : Addr} {H H1 H2 : Hp} (e : WK a l H H1) (f : Same H1 H2) : WK a l H H2 := ⟨e.w.same f, e.k.trans (Kp.same f)⟩
theorem WK.refl {a l : Addr} {H : Hp} (w : Well H a l) : WK a l H H := ⟨w, Kp.refl H⟩
/-- an object that is not the well's and not known at first is changed -/
theorem WK.at {a l p : Addr} {o : HO} {H H1 H2 : Hp} (w0 : Well H a l) (e : WK a l H H1) (f : At p o H1 H2) (n : H p = none) : WK a l H H2 := by
  obtain ⟨cs0, s0, c0, x1, x2, _⟩ := w0
  have na : a ≠ p := ne_of_none x1 n
  have nl : l ≠ p := ne_of_none x2 n
  obtain ⟨cs, s, c, h1, h2, h3⟩ := e.w
  exact ⟨⟨cs, s, c, f.ne h1 na, f.ne h2 nl, h3⟩, fun b u q n1 n2 => f.ne (e.k b u q n1 n2) (ne_of_none q n)⟩
theorem WK.get {a l b : Addr} {u : HO} {H H1 : Hp} (e : WK a l H H1) (h : H b = some u) (n1 : b ≠ a) (n2 : b ≠ l) : H1 b = some u := e.k b u h n1 n2
theorem Well.fresh {H : Hp} {a l p : Addr} (w : Well H a l) (n : H p = none) : p ≠ a ∧ p ≠ l := by
  obtain ⟨cs0, s0, c0, x1, x2, _⟩ := w
  exact ⟨(ne_of_none x1 n).symm, (ne_of_none x2 n).symm⟩
theorem WK.tm {a l : Addr} {H H' : Hp} (w : Well H a l) (e : WK a l H H') : Tm H H' := Kp.tm w e.k
def sp__law_mixed (K : Fg) : Sp := fun vs H Q _ => ∃ (a l : Addr) (n : Nat), vs = [.ref a, .int n] ∧ Well H a l ∧ n ≤ 1000 ∧
  ∀ (p : Addr) (H' : Hp) (ns : List Int), H p = none → WK a l H H' → H' p = some (.lst (ns.map V.int)) → ns.Perm (iota n) → Q (.ref p) H'
theorem l__law_mixed {K : Fg} : ∀ vs H Q E, sp__law_mixed K vs H Q E → vs.length = 2 := by
  rintro vs H Q E ⟨a, l, n, rfl, _⟩
  rfl
/-- _law_mixed, slots well, many, left, turn -/
def t__law_mixed (K : Fg) : TS :=
  (tSeq (tAsg (tLstRg (tRg1 (tVar 1))) (gName 2)) (tRet (tLc (iRng1 (tCons (tVar 1) tNil)) (gName 3) tYes (tBM K "list" rPopAt (tVar 2) (tCons (tG
    (sp__law_draw K) E00 (tCons (tVar 0) (tCons (tCB (rLenU K) (tCons (tVar 2) tNil)) tNil))) tNil)) [3])))
section
variable {H : Hp} {Q : VK} {σ : L2.St} {ta : TE}
theorem s_lstRg {te : L2.St → Hp → (Int → Int → Hp → Prop) → Prop} (k : te σ H fun a b H1 => RgOk a b ∧ New Q H1 (.lst (rgV a b))) : tLstRg te σ H Q := k
theorem s_rg1 {R : Int → Int → Hp → Prop} (k : ta σ H fun x H1 => ∃ n, x = .int n ∧ R 0 n H1) : tRg1 ta σ H R := k
end
theorem p__law_mixed {K : Fg} {vs : List V} {H : Hp} {Q : VK} {E : XK} (h : sp__law_mixed K vs H Q E) : t__law_mixed K { nx := fun _ H' => Q .non H', rt := Q } (start ["well", "many", "left", "turn"] vs) H := by
  obtain ⟨a, l, n, rfl, w, hn, k⟩ := h
  show t__law_mixed K _ [some (.ref a), some (.int n), none, none] H
  unfold t__law_mixed
  walk_at "sx"
  refine s_lstRg (s_rg1 ?_)
  walk_at "sx"
  refine ⟨⟨by omega, by omega, by omega, by omega, by omega⟩, n_new fun q H1 nq e1 hq _ => ?_⟩
  rw [rgV_iota] at hq
  have en : (n : Int).toNat = n := Int.toNat_natCast n
  rw [en] at hq
  walk_at "sx"
  refine w_rng (by omega) ?_
  rw [en]
  have fq := w.fresh nq
  refine lc_inv walk_range (fun D i ys H' => WK a l H H' ∧ ∃ zs ls : List Int, H' q = some (.lst (ls.map V.int)) ∧ ys = zs.map V.int ∧ (zs ++ ls).Perm (iota n) ∧ ls.length + i = n)
    (by omega) (fun D H' hD e _ => ⟨(WK.refl w).same (Same.trans e1 e), [], iota n, e _ _ hq, rfl, List.Perm.refl _, by rw [iota_len]; omega⟩) (fun _ _ _ _ _ _ => trivial) ?_ ?_
  · rintro D i ys x H2 H3 hD hi ⟨e2, zs, ls, hl, rfl, pm, le⟩ hy ⟨rfl, rfl⟩ Yes No hyes hno
    walk_at "sx"
    refine ⟨rfl, ?_⟩
    walk_at "sx"
    refine o_lenL (SqL.of hl) ?_
    walk_at "sx"
    rw [List.length_map]
    refine ⟨a, l, _, rfl, e2.w, by omega, by omega, fun r H4 r0 r1 w4 k4 => ?_⟩
    have hl4 := k4 _ _ hl fq.1 fq.2
    have hD0 : H D = none := e1.free hD
    have fD := w.fresh hD0
    have hy4 := k4 _ _ hy fD.1 fD.2
    have e4 : WK a l H H4 := e2.trans ⟨w4, k4⟩
    walk_at "sx"
    have hlt : r.toNat < ls.length := by omega
    have hx : (ls.map V.int)[r.toNat]? = some (.int ls[r.toNat]) := by rw [List.getElem?_map, List.getElem?_eq_getElem hlt]; rfl
    refine o_popAt hl4 (by omega) hx (by omega) fun H5 a5 => ?_
    have nDq : D ≠ q := fun z => by rw [z, hq] at hD; cases hD
    refine hyes _ _ (a5.ne hy4 nDq) fun H6 a6 => ⟨WK.at w (WK.at w e4 a5 nq) a6 hD0, zs ++ [ls[r.toNat]], ls.eraseIdx r.toNat, ?_, by rw [List.map_append]; rfl, ?_, ?_⟩
    · rw [a6.ne a5.1 nDq.symm, map_erase]
    · refine List.Perm.trans ?_ pm
      rw [List.append_assoc]
      exact List.Perm.append_left zs (perm_erase ls _ hlt)
    · rw [List.length_eraseIdx, if_pos hlt]
      omega
  · rintro D ys H2 hD ⟨e2, zs, ls, hl, rfl, pm, le⟩ hy -
    have : ls = [] := List.length_eq_zero_iff.mp (by omega)
    subst this
    rw [List.append_nil] at pm
    exact k D H2 zs (e1.free hD) e2 hy pm
end UW
namespace UW
open PySem
/-- every place is come to from 0 along roads -/
def Conn (n : Int) (rs : List (Int × Int)) : Prop := ∀ S : Int → Prop, S 0 → (∀ p ∈ rs, S p.1 ↔ S p.2) → ∀ i, 0 ≤ i → i < n → S i
structure Shape (n : Int) (rs : List (Int × Int)) : Prop where
  two : 2 ≤ n
  nd : rs.Nodup
  ok : ∀ p ∈ rs, 0 ≤ p.1 ∧ p.1 < p.2 ∧ p.2 < n
  cn : Conn n rs
def pathR (n : Int) : List (Int × Int) := (List.range (n - 1).toNat).map fun (k : Nat) => ((k : Int), (k : Int) + 1)
theorem mem_pathR {n : Int} {p : Int × Int} : p ∈ pathR n ↔ 0 ≤ p.1 ∧ p.2 = p.1 + 1 ∧ p.2 < n := by
  unfold pathR
  rw [List.mem_map]
  constructor
  · rintro ⟨k, hk, rfl⟩
    have := List.mem_range.mp hk
    refine ⟨?_, rfl, ?_⟩
    · show (0 : Int) ≤ (k : Int); omega
    · show (k : Int) + 1 < n; omega
  · rintro ⟨h1, h2, h3⟩
    refine ⟨p.1.toNat, List.mem_range.mpr (by omega), ?_⟩
    refine Prod.ext ?_ ?_
    · show ((p.1.toNat : Nat) : Int) = p.1; omega
    · show ((p.1.toNat : Nat) : Int) + 1 = p.2; omega
theorem nodup_map_range {α : Type} (f : Nat → α) (n : Nat) (h : ∀ i j, i < n → j < n → f i = f j → i = j) : ((List.range n).map f).Nodup := by
  induction n with
  | zero => exact List.nodup_nil
  | succ n ih =>
    rw [List.range_succ, List.map_append, List.nodup_append]
    refine ⟨ih fun i j hi hj e => h i j (by omega) (by omega) e, by simp, ?_⟩
    intro a ha b hb
    obtain ⟨i, hi, rfl⟩ := List.mem_map.mp ha
    have hi := List.mem_range.mp hi
    have hb : b = f n := by simpa using hb
    subst hb
    intro e
    have := h i n (by omega) (by omega) e
    omega
theorem Shape.path {n : Int} (h : 2 ≤ n) : Shape n (pathR n) := by
  refine ⟨h, ?_, ?_, ?_⟩
  · refine nodup_map_range _ _ fun i j _ _ e => ?_
    have e1 : ((i : Nat) : Int) = ((j : Nat) : Int) := (Prod.mk.inj e).1
    omega
  · intro p hp
    have := mem_pathR.mp hp
    omega
  · intro S h0 hs
    have key : ∀ k : Nat, (k : Int) < n → S (k : Int) := by
      intro k
      induction k with
      | zero => intro _; exact h0
      | succ k ih =>
        intro hk
        have m : (((k : Nat) : Int), ((k : Nat) : Int) + 1) ∈ pathR n := mem_pathR.mpr ⟨by show (0 : Int) ≤ (k : Int); omega, rfl, by show (k : Int) + 1 < n; omega⟩
        have := (hs _ m).mp (ih (by omega))
        exact this
    intro i h1 h2
    have := key i.toNat (by omega)
    rwa [show ((i.toNat : Nat) : Int) = i from by omega] at this
theorem Conn.more {n : Int} {rs qs : List (Int × Int)} (h : Conn n rs) (s : ∀ p ∈ rs, p ∈ qs) : Conn n qs := fun S h0 hs => h S h0 fun p hp => hs p (s p hp)
theorem Shape.add {n : Int} {rs : List (Int × Int)} {a b : Int} (h : Shape n rs) (h0 : 0 ≤ a) (h1 : a < b) (h2 : b < n) (hn : (a, b) ∉ rs) : Shape n (rs ++ [(a, b)]) := by
  refine ⟨h.two, ?_, ?_, h.cn.more fun p hp => List.mem_append_left _ hp⟩
  · rw [List.nodup_append]
    refine ⟨h.nd, by simp, ?_⟩
    intro p hp q hq
    have : q = (a, b) := by simpa using hq
    subst this
    exact fun e => hn (e ▸ hp)
  · intro p hp
    rcases List.mem_append.mp hp with hp | hp
    · exact h.ok p hp
    · have : p = (a, b) := by simpa using hp
      subst this
      exact ⟨h0, h1, h2⟩
theorem Shape.ring {n : Int} (h : 2 < n) : Shape n (pathR n ++ [(0, n - 1)]) :=
  (Shape.path (by omega)).add (by omega) (by omega) (by omega) fun m => by
    have := mem_pathR.mp m
    have e1 : n - 1 = 0 + 1 := this.2.1
    omega
structure PartB (base k : Int) (rs : List (Int × Int)) : Prop where
  nd : rs.Nodup
  ok : ∀ p ∈ rs, 0 ≤ p.1 ∧ p.1 ≤ k ∧ base + 1 ≤ p.2 ∧ p.2 < base + 1 + k
  cn : ∀ S : Int → Prop, S 0 → (∀ p ∈ rs, S p.1 ↔ S p.2) → (∀ i, 0 ≤ i → i ≤ k → S i) ∧ ∀ j, base + 1 ≤ j → j < base + 1 + k → S j
theorem PartB.nil {base : Int} : PartB base 0 [] := ⟨List.nodup_nil, fun p h => (by cases h), fun S h0 _ => ⟨fun i h1 h2 => by rw [show i = 0 from by omega]; exact h0, fun j h1 h2 => by omega⟩⟩
theorem PartB.step {base k r : Int} {rs : List (Int × Int)} (h : PartB base k rs) (h0 : 0 ≤ k) (r0 : 0 ≤ r) (r1 : r < k + 1) : PartB base (k + 1) (rs ++ [(r, base + 1 + k), (k + 1, base + 1 + k)]) := by
  refine ⟨?_, ?_, ?_⟩
  · rw [List.nodup_append]
    refine ⟨h.nd, ?_, ?_⟩
    · simp
      omega
    · intro p hp q hq e
      subst e
      have h1 := h.ok p hp
      have : p.2 = base + 1 + k := by
        have : p = (r, base + 1 + k) ∨ p = (k + 1, base + 1 + k) := by simpa using hq
        rcases this with e | e <;> rw [e]
      omega
  · intro p hp
    rcases List.mem_append.mp hp with hp | hp
    · have := h.ok p hp
      omega
    · have : p = (r, base + 1 + k) ∨ p = (k + 1, base + 1 + k) := by simpa using hp
      rcases this with e | e
      · rw [e]; show 0 ≤ r ∧ r ≤ k + 1 ∧ base + 1 ≤ base + 1 + k ∧ base + 1 + k < base + 1 + (k + 1); omega
      · rw [e]; show 0 ≤ k + 1 ∧ k + 1 ≤ k + 1 ∧ base + 1 ≤ base + 1 + k ∧ base + 1 + k < base + 1 + (k + 1); omega
  · intro S s0 hs
    obtain ⟨c1, c2⟩ := h.cn S s0 fun p hp => hs p (List.mem_append_left _ hp)
    have e1 : S r ↔ S (base + 1 + k) := hs (r, base + 1 + k) (by simp)
    have e2 : S (k + 1) ↔ S (base + 1 + k) := hs (k + 1, base + 1 + k) (by simp)
    have m := e1.mp (c1 r r0 (by omega))
    refine ⟨fun i i0 i1 => ?_, fun j j0 j1 => ?_⟩
    · by_cases q : i ≤ k
      · exact c1 i i0 q
      · rw [show i = k + 1 from by omega]; exact e2.mpr m
    · by_cases q : j < base + 1 + k
      · exact c2 j j0 q
      · rw [show j = base + 1 + k from by omega]; exact m
theorem PartB.shape {base : Int} {rs : List (Int × Int)} (h : PartB base base rs) (h1 : 1 ≤ base) : Shape (2 * base + 1) rs := by
  refine ⟨by omega, h.nd, fun p hp => by have := h.ok p hp; omega, ?_⟩
  intro S s0 hs i i0 i1
  obtain ⟨c1, c2⟩ := h.cn S s0 hs
  by_cases q : i ≤ base
  · exact c1 i i0 q
  · exact c2 i (by omega) (by omega)
def colR (k : Int) : List (Int × Int) := (List.range k.toNat).map fun (a : Nat) => ((a : Int), k)
theorem mem_colR {k : Int} {p : Int × Int} : p ∈ colR k ↔ 0 ≤ p.1 ∧ p.1 < k ∧ p.2 = k := by
  unfold colR
  rw [List.mem_map]
  constructor
  · rintro ⟨a, ha, rfl⟩
    have := List.mem_range.mp ha
    exact ⟨by show (0 : Int) ≤ (a : Int); omega, by show (a : Int) < k; omega, rfl⟩
  · rintro ⟨h1, h2, h3⟩
    exact ⟨p.1.toNat, List.mem_range.mpr (by omega), Prod.ext (by show ((p.1.toNat : Nat) : Int) = p.1; omega) h3.symm⟩
structure FullB (k : Int) (rs : List (Int × Int)) : Prop where
  nd : rs.Nodup
  ok : ∀ p ∈ rs, 0 ≤ p.1 ∧ p.1 < p.2 ∧ p.2 < k
  cn : Conn k rs
theorem FullB.nil : FullB 0 [] := ⟨List.nodup_nil, fun p h => (by cases h), fun S _ _ i h1 h2 => by omega⟩
theorem FullB.step {k : Int} {rs : List (Int × Int)} (h : FullB k rs) (h0 : 0 ≤ k) : FullB (k + 1) (rs ++ colR k) := by
  refine ⟨?_, ?_, ?_⟩
  · rw [List.nodup_append]
    refine ⟨h.nd, nodup_map_range _ _ fun i j _ _ e => ?_, ?_⟩
    · have e1 : ((i : Nat) : Int) = ((j : Nat) : Int) := (Prod.mk.inj e).1
      omega
    · intro p hp q hq e
      subst e
      have h1 := h.ok p hp
      have h2 := mem_colR.mp hq
      omega
  · intro p hp
    rcases List.mem_append.mp hp with hp | hp
    · have := h.ok p hp
      omega
    · have := mem_colR.mp hp
      omega
  · intro S s0 hs i i0 i1
    by_cases q : i < k
    · exact h.cn S s0 (fun p hp => hs p (List.mem_append_left _ hp)) i i0 q
    · have ek : i = k := by omega
      subst ek
      by_cases z : i = 0
      · rw [z]; exact s0
      · have e : S 0 ↔ S i := hs (0, i) (List.mem_append_right _ (mem_colR.mpr ⟨Int.le_refl 0, by omega, rfl⟩))
        exact e.mp s0
theorem FullB.shape {k : Int} {rs : List (Int × Int)} (h : FullB k rs) (h2 : 2 ≤ k) : Shape k rs := ⟨h2, h.nd, h.ok, h.cn⟩
def rowR (k lo hi : Int) : List (Int × Int) := (List.range (hi - lo).toNat).map fun (b : Nat) => (k, lo + (b : Int))
theorem mem_rowR {k lo hi : Int} {p : Int × Int} : p ∈ rowR k lo hi ↔ p.1 = k ∧ lo ≤ p.2 ∧ p.2 < hi := by
  unfold rowR
  rw [List.mem_map]
  constructor
  · rintro ⟨a, ha, rfl⟩
    have := List.mem_range.mp ha
    exact ⟨rfl, by show lo ≤ lo + (a : Int); omega, by show lo + (a : Int) < hi; omega⟩
  · rintro ⟨h1, h2, h3⟩
    exact ⟨(p.2 - lo).toNat, List.mem_range.mpr (by omega), Prod.ext h1.symm (by show lo + (((p.2 - lo).toNat : Nat) : Int) = p.2; omega)⟩
structure BoardB (rows n k : Int) (rs : List (Int × Int)) : Prop where
  nd : rs.Nodup
  ok : ∀ p ∈ rs, 0 ≤ p.1 ∧ p.1 < k ∧ rows ≤ p.2 ∧ p.2 < n
  cn : ∀ S : Int → Prop, S 0 → (∀ p ∈ rs, S p.1 ↔ S p.2) → (∀ i, 0 ≤ i → i < k → S i) ∧ (0 < k → ∀ j, rows ≤ j → j < n → S j)
theorem BoardB.nil {rows n : Int} : BoardB rows n 0 [] := ⟨List.nodup_nil, fun p h => (by cases h), fun S _ _ => ⟨fun i h1 h2 => by omega, fun h => by omega⟩⟩
theorem BoardB.step {rows n k : Int} {rs : List (Int × Int)} (h : BoardB rows n k rs) (h0 : 0 ≤ k) (hn : rows < n) : BoardB rows n (k + 1) (rs ++ rowR k rows n) := by
  refine ⟨?_, ?_, ?_⟩
  · rw [List.nodup_append]
    refine ⟨h.nd, nodup_map_range _ _ fun i j _ _ e => ?_, ?_⟩
    · have e1 : rows + ((i : Nat) : Int) = rows + ((j : Nat) : Int) := (Prod.mk.inj e).2
      omega
    · intro p hp q hq e
      subst e
      have h1 := h.ok p hp
      have h2 := mem_rowR.mp hq
      omega
  · intro p hp
    rcases List.mem_append.mp hp with hp | hp
    · have := h.ok p hp
      omega
    · have := mem_rowR.mp hp
      omega
  · intro S s0 hs
    obtain ⟨c1, c2⟩ := h.cn S s0 fun p hp => hs p (List.mem_append_left _ hp)
    have e : ∀ j, rows ≤ j → j < n → (S k ↔ S j) := fun j h1 h2 => hs (k, j) (List.mem_append_right _ (mem_rowR.mpr ⟨rfl, h1, h2⟩))
    have sk : S k := by
      by_cases z : k = 0
      · rw [z]; exact s0
      · exact (e rows (Int.le_refl _) hn).mpr (c2 (by omega) rows (Int.le_refl _) hn)
    refine ⟨fun i i0 i1 => ?_, fun _ j j0 j1 => (e j j0 j1).mp sk⟩
    by_cases q : i < k
    · exact c1 i i0 q
    · rw [show i = k from by omega]; exact sk
theorem BoardB.shape {rows n : Int} {rs : List (Int × Int)} (h : BoardB rows n rows rs) (h1 : 1 ≤ rows) (hn : rows < n) : Shape n rs := by
  refine ⟨by omega, h.nd, fun p hp => by have := h.ok p hp; omega, ?_⟩
  intro S s0 hs i i0 i1
  obtain ⟨c1, c2⟩ := h.cn S s0 hs
  by_cases q : i < rows
  · exact c1 i i0 q
  · exact c2 (by omega) i (by omega) i1
structure TreeB (k : Int) (rs : List (Int × Int)) : Prop where
  nd : rs.Nodup
  ok : ∀ p ∈ rs, 0 ≤ p.1 ∧ p.1 < p.2 ∧ p.2 ≤ k
  cn : Conn (k + 1) rs
theorem TreeB.nil : TreeB 0 [] := ⟨List.nodup_nil, fun p h => (by cases h), fun S s0 _ i h1 h2 => by rw [show i = 0 from by omega]; exact s0⟩
theorem TreeB.step {k r : Int} {rs : List (Int × Int)} (h : TreeB k rs) (r0 : 0 ≤ r) (r1 : r < k + 1) : TreeB (k + 1) (rs ++ [(r, k + 1)]) := by
  refine ⟨?_, ?_, ?_⟩
  · rw [List.nodup_append]
    refine ⟨h.nd, by simp, ?_⟩
    intro p hp q hq e
    subst e
    have h1 := h.ok p hp
    have : p = (r, k + 1) := by simpa using hq
    rw [this] at h1
    have : k + 1 ≤ k := h1.2.2
    omega
  · intro p hp
    rcases List.mem_append.mp hp with hp | hp
    · have := h.ok p hp
      omega
    · have : p = (r, k + 1) := by simpa using hp
      rw [this]
      exact ⟨r0, r1, Int.le_refl _⟩
  · intro S s0 hs i i0 i1
    have c := h.cn S s0 fun p hp => hs p (List.mem_append_left _ hp)
    have e : S r ↔ S (k + 1) := hs (r, k + 1) (by simp)
    by_cases q : i < k + 1
    · exact c i i0 q
    · rw [show i = k + 1 from by omega]
      exact e.mp (c r r0 r1)
theorem TreeB.shape {k : Int} {rs : List (Int × Int)} (h : TreeB k rs) (h1 : 1 ≤ k) : Shape (k + 1) rs := ⟨by omega, h.nd, fun p hp => by have := h.ok p hp; omega, h.cn⟩
end UW
namespace UW
open PySem PySem.Spec PyProof.Rows L2
/-- one step -/
local macro_rules | `(tactic| walk_at "s1") => `(tactic| first
  | with_reducible refine s_seq ?_
  | with_reducible refine s_for ?_
  | with_reducible refine s_lc ?_
  | with_reducible refine w_seq ?_
  | with_reducible refine w_rng1 ?_
  | with_reducible refine w_rng2 ?_
  | with_reducible refine w_zip ?_
  | with_reducible refine s_asg ?_
  | with_reducible refine s_gname ?_
  | with_reducible refine s_ret ?_
  | with_reducible refine s_drop ?_
  | with_reducible refine s_next ?_
  | with_reducible refine s_ifs ?_
  | with_reducible refine s_var (by with_unfolding_all rfl) ?_
  | with_reducible refine s_c ?_
  | with_reducible refine s_op ?_
  | with_reducible refine s_un ?_
  | with_reducible refine s_neg ?_
  | with_reducible refine s_test ?_
  | with_reducible refine s_yes ?_
  | with_reducible refine s_tB ?_
  | with_reducible refine s_bl ?_
  | with_reducible refine s_not ?_
  | with_reducible refine s_and ?_
  | with_reducible refine s_or ?_
  | with_reducible refine s_andV ?_
  | with_reducible refine s_orV ?_
  | with_reducible refine s_notV ?_
  | with_reducible refine s_chain ?_
  | with_reducible refine s_nil ?_
  | with_reducible refine s_cons ?_
  | with_reducible refine s_tup ?_
  | with_reducible refine s_lst ?_
  | with_reducible refine s_call ?_
  | with_reducible refine s_cb ?_
  | with_reducible refine s_part ?_
  | with_reducible refine s_nopart ?_
  | with_reducible refine s_ii ?_
  | with_reducible refine s_sl ?_
  | with_reducible refine s_par ?_
  | with_reducible refine s_par2 ?_
  | with_reducible refine s_bm ?_
  | with_reducible refine s_gsub ?_
  | with_reducible refine s_gcons ?_
  | with_reducible refine s_gnil ?_
  | with_reducible refine o_addI ?_
  | with_reducible refine o_sub ?_
  | with_reducible refine o_eqI ?_
  | with_reducible refine o_neI ?_
  | with_reducible refine o_ltI ?_
  | with_reducible refine o_le ?_
  | with_reducible refine o_gt ?_
  | with_reducible refine o_ge ?_
  | with_reducible refine o_int ?_
  | with_reducible refine o_intB ?_
  | with_reducible refine o_abs ?_
  | with_reducible refine o_max2 ?_
  | with_reducible refine o_min2 ?_
  | with_reducible refine o_isN ?_
  | with_reducible refine o_notN ?_
  | with_reducible refine o_mulI (by first | exact Or.inl ⟨by decide, by decide⟩ | exact Or.inr ⟨by decide, by decide⟩ | (first | (refine Or.inl ⟨?_, ?_⟩ <;> omega) | (refine Or.inr ⟨?_, ?_⟩ <;> omega))) ?_
  | with_reducible refine o_mod (by first | decide | omega) ?_
  | with_reducible refine o_div (by first | decide | omega) (by first | decide | omega) ?_
  | with_reducible refine s_blx ?_
  | with_reducible refine o_ixL (SqL.of (by assumption)) (by first | with_unfolding_all rfl | with_unfolding_all exact at_zero _ _) ?_
  | with_reducible refine o_ixT (by assumption) (by first | with_unfolding_all rfl | with_unfolding_all exact at_zero _ _) ?_
  | with_reducible refine o_tyL (by assumption) ?_
  | with_reducible refine iteT ?_
  | with_reducible refine iteF ?_)
local macro_rules | `(tactic| walk_at "sx") => `(tactic| repeat (walk_at "s1"))
theorem eqv_dP (p q : Int × Int) : PyData.eqv (dP p) (dP q) = decide (p = q) := by
  obtain ⟨a, b⟩ := p
  obtain ⟨c, d⟩ := q
  unfold dP
  simp only [PyData.eqv, PyData.eqvAll, Bool.and_true]
  by_cases h1 : a = c <;> by_cases h2 : b = d <;> simp [h1, h2]
theorem any_dP (rs : List (Int × Int)) (q : Int × Int) : ((rs.map dP).any fun z => PyData.eqv z (dP q)) = decide (q ∈ rs) := by
  induction rs with
  | nil => rfl
  | cons p rs ih =>
    rw [List.map_cons, List.any_cons, ih, eqv_dP]
    by_cases h : p = q
    · subst h; simp
    · have h' : ¬ q = p := fun e => h e.symm
      simp [h, h']
theorem shaped_pairs (rs : List (Int × Int)) : SeqAt.shaped (.list (rs.map dP)) = true := by
  have h1 : PyData.canLayAll0 (rs.map dP) = true := by
    induction rs with
    | nil => simp only [List.map_nil, PyData.canLayAll0]
    | cons p rs ih =>
      simp only [List.map_cons, PyData.canLayAll0, ih]
      unfold dP
      simp only [PyData.canLay0, PyData.canLayAll0]
      rfl
  have h2 : PyData.depthAll (rs.map dP) ≤ 1 := by
    clear h1
    induction rs with
    | nil => simp only [List.map_nil, PyData.depthAll]; omega
    | cons p rs ih =>
      simp only [List.map_cons, PyData.depthAll]
      have : (dP p).depth = 1 := by unfold dP; simp only [PyData.depth, PyData.depthAll, Nat.max_self]
      omega
  show (_ && decide _) = true
  simp only [PyData.canLay0, PyData.depth, h1, Bool.true_and]
  exact decide_eq_true (by omega)
theorem shaped_pair (p : Int × Int) : SeqAt.shaped (dP p) = true := by
  show (_ && decide _) = true
  unfold dP
  simp only [PyData.canLay0, PyData.canLayAll0, PyData.depth, PyData.depthAll]
  rfl
theorem walk_r0 {n : Nat} : Walk (Itr 0 n) n (fun _ => True) (fun i H x H' => H' = H ∧ x = V.int (i : Int)) :=
  walk_range.mono (fun _ h => h) fun i H x H' _ _ y => ⟨y.1, by rw [y.2]; show V.int (0 + (i : Int)) = _; rw [Int.zero_add]⟩
theorem walk_rB {n : Nat} {lo : Int} : Walk (Itr lo n) n (fun _ => True) (fun i H x H' => H' = H ∧ x = V.int (lo + (i : Int))) := walk_range
/-- at p a list of the pairs rs; else all stands but the well -/
structure PairsAt (K : Fg) (a l : Addr) (H0 H : Hp) (p : Addr) (rs : List (Int × Int)) : Prop where
  wk : WK a l H0 H
  np : H0 p = none
  at' : ∃ vs, H p = some (.lst vs) ∧ Tps K H vs (rs.map dP)
theorem PairsAt.wk2 {K : Fg} {a l p : Addr} {H0 H H2 : Hp} {rs : List (Int × Int)} (w0 : Well H0 a l) (x : PairsAt K a l H0 H p rs) (e : WK a l H H2) : PairsAt K a l H0 H2 p rs := by
  obtain ⟨wk, np, vs, h1, h2⟩ := x
  have f := w0.fresh np
  exact ⟨wk.trans e, np, vs, e.get h1 f.1 f.2, h2.tm (e.tm wk.w)⟩
theorem PairsAt.same {K : Fg} {a l p : Addr} {H0 H H2 : Hp} {rs : List (Int × Int)} (x : PairsAt K a l H0 H p rs) (e : Same H H2) : PairsAt K a l H0 H2 p rs := by
  obtain ⟨wk, np, vs, h1, h2⟩ := x
  exact ⟨wk.same e, np, vs, e _ _ h1, h2.same e⟩
section
variable {K : Fg} {H H2 H3 : Hp} {Q : VK} {l b : Addr} {xs zs : List V}
theorem o_cat (h1 : H l = some (.lst xs)) (h2 : H b = some (.lst zs)) (hl : xs.length + zs.length ≤ 100000) (k : New Q H (.lst (xs ++ zs))) : rAddU K (.ref l) (.ref b) H Q := .inr (.inl ⟨l, b, xs, zs, rfl, rfl, h1, h2, Nat.le_trans hl (by decide), k⟩)
end
theorem WK.free {a l p : Addr} {H H' : Hp} (w : Well H a l) (e : WK a l H H') (n : H' p = none) : H p = none := by
  cases q : H p with
  | none => rfl
  | some o =>
    have f := e.w.fresh n
    have := e.get q f.1 f.2
    rw [n] at this
    cases this
/-- a new list, all of it new or of before -/
theorem PairsAt.new {K : Fg} {a l p : Addr} {H0 H H2 : Hp} {vs : List V} {rs : List (Int × Int)} (w : Well H0 a l) (wk : WK a l H0 H) (np : H p = none) (e : Same H H2) (hp : H2 p = some (.lst vs)) (t : Tps K H2 vs (rs.map dP)) : PairsAt K a l H0 H2 p rs :=
  ⟨wk.same e, wk.free w np, vs, hp, t⟩
theorem PairsAt.push {K : Fg} {a l p q : Addr} {H0 H H2 H3 : Hp} {vs : List V} {rs : List (Int × Int)} {i j : Int} (w : Well H0 a l) (x : PairsAt K a l H0 H p rs) (hv : H p = some (.lst vs)) (tv : Tps K H vs (rs.map dP)) (e : Same H H2) (hq : H2 q = some (.tup [.int i, .int j])) (f : At p (.lst (vs ++ [.ref q])) H2 H3) :
    PairsAt K a l H0 H3 p (rs ++ [(i, j)]) := by
  have m := f.tm (e _ _ hv)
  refine ⟨(x.wk.same e).at w f x.np, x.np, _, f.1, ?_⟩
  rw [List.map_append]
  exact ((tv.same e).tm m).snoc ((Tp.mkpair (SqT.of hq)).tm m)
theorem pairs_len {K : Fg} {H : Hp} {vs : List V} {rs : List (Int × Int)} (t : Tps K H vs (rs.map dP)) : vs.length = rs.length := by
  rw [t.length, List.length_map]
def sp__law_shape (K : Fg) : Sp := fun vs H Q _ => ∃ (a l : Addr) (size room : Int), vs = [.ref a, .int size, .int room] ∧ Well H a l ∧ 3 ≤ size ∧ size ≤ 24 ∧ 1 ≤ room ∧ room ≤ 40 ∧
  ∀ (t p : Addr) (H' : Hp) (n : Int) (rs : List (Int × Int)), PairsAt K a l H H' p rs → SqT K H' t [.int n, .ref p] → Shape n rs → n ≤ size → (rs.length : Int) ≤ room → Q (.ref t) H'
theorem l__law_shape {K : Fg} : ∀ vs H Q E, sp__law_shape K vs H Q E → vs.length = 3 := by
  rintro vs H Q E ⟨a, l, n, r, rfl, _⟩
  rfl
/-- _law_shape, slots well, size, room, kind, n, pairs, base, k, b, rows, a, turn, place -/
def t__law_shape (K : Fg) : TS :=
  (tSeq (tPar 3 4 (tCons (tG (sp__law_draw K) E00 (tCons (tVar 0) (tCons (tC (.int 8)) tNil))) (tCons
    (tOp (rAddU K) (tC (.int 2)) (tG (sp__law_draw K) E00 (tCons (tVar 0) (tCons (tOp rSubI (tVar 1) (tC (.int 1))) tNil)))) tNil))) (tSeq (tAsg (tLc (iRng1 (tCons (tOp rSubI (tVar 4) (tC (.int 1))) tNil)) (gName 12) tYes (tTup
    (tCons (tVar 12) (tCons (tOp (rAddU K) (tVar 12) (tC (.int 1))) tNil))) [12]) (gName 5)) (Evl.tCut (tIfS (tAnd (tTest (tOp (rEqU K) (tVar 3) (tC (.int 1)))) (tTest (tOp rGtI (tVar 4) (tC (.int 2))))) (tDrop (tBM K "list"
    rAppend (tVar 5) (tCons (tTup (tCons (tC (.int 0)) (tCons (tOp rSubI (tVar 4) (tC (.int 1))) tNil))) tNil))) tNext) (Evl.tCut (tIfS (tAnd (tTest (tOp (rEqU K) (tVar 3) (tC (.int 2)))) (tTest (tOp rGtI (tVar 1) (tC (.int 2)))))
    (tSeq (tPar 6 5 (tCons (tOp (rAddU K) (tC (.int 1)) (tG (sp__law_draw K) E00 (tCons (tVar 0) (tCons (tOp rDivI (tOp rSubI (tVar 1) (tC (.int 1))) (tC (.int 2))) tNil)))) (tCons (tLst tNil) tNil))) (tSeq (tAsg (tOp (rAddU K)
    (tOp (rMulU K) (tC (.int 2)) (tVar 6)) (tC (.int 1))) (gName 4)) (tFor (iRng1 (tCons (tVar 6) tNil)) (gName 7) (tAsg (tOp (rAddU K) (tVar 5) (tLst (tCons (tTup (tCons (tG (sp__law_draw K) E00 (tCons (tVar 0) (tCons (tOp (rAddU
    K) (tVar 7) (tC (.int 1))) tNil))) (tCons (tOp (rAddU K) (tOp (rAddU K) (tVar 6) (tC (.int 1))) (tVar 7)) tNil))) (tCons (tTup (tCons (tOp (rAddU K) (tVar 7) (tC (.int 1))) (tCons (tOp (rAddU K) (tOp (rAddU K) (tVar 6) (tC
    (.int 1))) (tVar 7)) tNil))) tNil)))) (gName 5))))) tNext) (Evl.tCut (tIfS (tTest (tOp (rEqU K) (tVar 3) (tC (.int 3)))) (tSeq (tAsg (tOp (rAddU K) (tC (.int 2)) (tG (sp__law_draw K) E00 (tCons (tVar 0) (tCons (tOp rSubI (tCB
    rMin2 (tCons (tVar 1) (tCons (tC (.int 6)) tNil))) (tC (.int 1))) tNil)))) (gName 4)) (tSeq (tAsg (tLst tNil) (gName 5)) (tFor (iRng1 (tCons (tVar 4) tNil)) (gName 8) (tAsg (tOp (rAddU K) (tVar 5) (tLc (iRng1 (tCons (tVar 8)
    tNil)) (gName 10) tYes (tTup (tCons (tVar 10) (tCons (tVar 8) tNil))) [10])) (gName 5))))) tNext) (Evl.tCut (tIfS (tAnd (tTest (tOp (rEqU K) (tVar 3) (tC (.int 4)))) (tTest (tOp rGtI (tVar 1) (tC (.int 2))))) (tSeq (tAsg (tOp
    (rAddU K) (tC (.int 1)) (tG (sp__law_draw K) E00 (tCons (tVar 0) (tCons (tCB rMin2 (tCons (tC (.int 4)) (tCons (tOp rSubI (tVar 1) (tC (.int 1))) tNil))) tNil)))) (gName 9)) (tSeq (tAsg (tOp (rAddU K) (tOp (rAddU K) (tVar 9)
    (tC (.int 1))) (tG (sp__law_draw K) E00 (tCons (tVar 0) (tCons (tCB rMin2 (tCons (tC (.int 5)) (tCons (tOp rSubI (tVar 1) (tVar 9)) tNil))) tNil)))) (gName 4)) (tSeq (tAsg (tLst tNil) (gName 5)) (tFor (iRng1 (tCons (tVar 9)
    tNil)) (gName 10) (tAsg (tOp (rAddU K) (tVar 5) (tLc (iRng2 (tCons (tVar 9) (tCons (tVar 4) tNil))) (gName 8) tYes (tTup (tCons (tVar 10) (tCons (tVar 8) tNil))) [8])) (gName 5)))))) tNext) (Evl.tCut (tIfS (tTest (tOp rGtI
    (tVar 3) (tC (.int 4)))) (tSeq (tAsg (tLc (iRng2 (tCons (tC (.int 1)) (tCons (tVar 4) tNil))) (gName 12) tYes (tTup (tCons (tG (sp__law_draw K) E00 (tCons (tVar 0) (tCons (tVar 12) tNil))) (tCons (tVar 12) tNil))) [12]) (gName
    5)) (tFor (iRng1 (tCons (tG (sp__law_draw K) E00 (tCons (tVar 0) (tCons (tOp (rIx K) (tLst (tCons (tC (.int 1)) (tCons (tC (.int 4)) (tCons (tOp (rMulU K) (tC (.int 3)) (tVar 4)) tNil)))) (tOp rSubI (tVar 3) (tC (.int 5))))
    tNil))) tNil)) (gName 11) (tSeq (tAsg (tTup (tCons (tG (sp__law_draw K) E00 (tCons (tVar 0) (tCons (tVar 4) tNil))) (tCons (tG (sp__law_draw K) E00 (tCons (tVar 0) (tCons (tVar 4) tNil))) tNil))) (gTup K 2 (gCons (gName 10)
    (gCons (gName 8) gNil)))) (tIfS (tAnd (tTest (tOp (rLtU K) (tVar 10) (tVar 8))) (tAnd (tTest (tOp (rNiU K) (tTup (tCons (tVar 10) (tCons (tVar 8) tNil))) (tVar 5))) (tTest (tOp (rLtU K) (tCB (rLenU K) (tCons (tVar 5) tNil))
    (tVar 2))))) (tDrop (tBM K "list" rAppend (tVar 5) (tCons (tTup (tCons (tVar 10) (tCons (tVar 8) tNil))) tNil))) tNext)))) tNext) (Evl.tCut (tIfS (tTest (tOp rGtI (tCB (rLenU K) (tCons (tVar 5) tNil)) (tVar 2))) (tSeq (tAsg
    (tCB rMin2 (tCons (tVar 4) (tCons (tOp (rAddU K) (tVar 2) (tC (.int 1))) tNil))) (gName 4)) (tAsg (tLc (iRng1 (tCons (tOp rSubI (tVar 4) (tC (.int 1))) tNil)) (gName 12) tYes (tTup (tCons (tVar 12) (tCons (tOp (rAddU K) (tVar
    12) (tC (.int 1))) tNil))) [12]) (gName 5))) tNext) (tRet (tTup (tCons (tVar 4) (tCons (tVar 5) tNil))))))))))))
section
variable {K : Fg} {H : Hp} {Q : VK} {x0 x1 x2 x3 x4 x5 x6 x7 x8 x9 x10 x11 x12 : Option V}
theorem path_comp {n : Int} (h : 2 ≤ n) (hn : n ≤ 100) (k : ∀ p H' vs, H p = none → Same H H' → H' p = some (.lst vs) → Tps K H' vs ((pathR n).map dP) → Q (.ref p) H') :
    RngGo [V.int (n - 1)] H fun J H1 => LcGo J (gName 12) tYes (tTup (tCons (tVar 12) (tCons (tOp (rAddU K) (tVar 12) (tC (V.int 1))) tNil))) [12] [x0, x1, x2, x3, some (.int n), x5, x6, x7, x8, x9, x10, x11, x12] H1 Q := by
  refine w_rng (by omega) ?_
  refine lc_data (K := K) walk_r0 (fun _ => true) (fun i => dP ((i : Int), (i : Int) + 1)) (by omega) (fun _ _ => trivial) ?_ ?_
  · rintro i x H2 H3 hi e2 ⟨rfl, rfl⟩ Yes No hyes hno
    walk_at "sx"
    refine ⟨rfl, ?_⟩
    walk_at "sx"
    refine n_of rfl fun q H4 nq e4 hq _ => hyes rfl _ _ e4 ?_
    exact Tp.mkpair (SqT.of (K := K) hq)
  · intro D ys H2 hD e2 hy t _
    refine k D H2 ys hD e2 hy ?_
    rw [picks_all] at t
    unfold pathR
    rw [List.map_map]
    exact t
end
theorem p__law_shape {K : Fg} {vs : List V} {H : Hp} {Q : VK} {E : XK} (h : sp__law_shape K vs H Q E) : t__law_shape K { nx := fun _ H' => Q .non H', rt := Q } (start ["well", "size", "room", "kind", "n", "pairs", "base", "k", "b", "rows", "a", "turn", "place"] vs) H := by
  obtain ⟨a, l, size, room, rfl, w, hs3, hs, hr1, hr, k⟩ := h
  show t__law_shape K _ [some (.ref a), some (.int size), some (.int room), none, none, none, none, none, none, none, none, none, none] H
  unfold t__law_shape
  walk_at "sx"
  refine ⟨a, l, _, rfl, w, by omega, by omega, fun kind H1 k0 k1 w1 e1 => ?_⟩
  have wk1 : WK a l H H1 := ⟨w1, e1⟩
  walk_at "sx"
  refine ⟨a, l, _, rfl, w1, by omega, by omega, fun m H2 m0 m1 w2 e2 => ?_⟩
  have wk2 : WK a l H H2 := wk1.trans ⟨w2, e2⟩
  walk_at "sx"
  refine path_comp (K := K) (n := 2 + m) (by omega) (by omega) fun p H3 vs np e3 hp tp => ?_
  have np0 : H p = none := by
    cases q : H p with
    | none => rfl
    | some o =>
      have f := w2.fresh np
      have := wk2.get q f.1 f.2
      rw [np] at this
      cases this
  have A3 : PairsAt K a l H H3 p (pathR (2 + m)) := ⟨wk2.same e3, np0, vs, hp, tp⟩
  have lp : ∀ n : Int, n ≤ 24 → (pathR n).length ≤ 24 := fun n h => by unfold pathR; rw [List.length_map, List.length_range]; omega
  walk_at "sx"
  let M : L2.St → Hp → Prop := fun σ' H' => ∃ (n : Int) (p : Addr) (rs : List (Int × Int)) (x6 x7 x8 x9 x10 x11 x12 : Option V), σ' = [some (.ref a), some (.int size), some (.int room), some (.int kind), some (.int n), some (.ref p), x6, x7, x8, x9, x10, x11, x12] ∧
    PairsAt K a l H H' p rs ∧ Shape n rs ∧ n ≤ size ∧ rs.length ≤ 1000
  -- a ring
  refine s_cut M ?_ ?_
  · have stay : M [some (.ref a), some (.int size), some (.int room), some (.int kind), some (.int (2 + m)), some (.ref p), none, none, none, none, none, none, none] H3 :=
      ⟨2 + m, p, _, _, _, _, _, _, _, _, rfl, A3, Shape.path (by omega), by omega, Nat.le_trans (lp _ (by omega)) (by decide)⟩
    walk_at "sx"
    refine s_dec (fun c => ?_) (fun c => ?_)
    · walk_at "sx"
      refine s_dec (fun c2 => ?_) (fun c2 => ?_)
      · walk_at "sx"
        refine n_of rfl fun q H4 nq e4 hq _ => ?_
        walk_at "sx"
        refine o_append (e4 _ _ hp) (by rw [pairs_len tp]; have := lp (2 + m) (by omega); omega) fun H5 a5 => ?_
        refine ⟨2 + m, p, _, _, _, _, _, _, _, _, rfl, A3.push w hp tp e4 hq a5, Shape.ring c2, by omega, ?_⟩
        rw [List.length_append, List.length_singleton]
        have := lp (2 + m) (by omega)
        omega
      · walk_at "sx"
        exact stay
    · walk_at "sx"
      exact stay
  clear A3 tp hp np0 np e3 lp vs H3 p wk2 e2 w2 m0 m1 H2 m e1 w1 wk1 H1
  -- a tree whose roads are parted
  rintro σ' H1 ⟨n, p, rs, x6, x7, x8, x9, x10, x11, x12, rfl, A, sh, hn, hl⟩
  refine s_cut M ?_ ?_
  · walk_at "sx"
    refine s_dec (fun c => ?_) (fun c => ?_)
    · walk_at "sx"
      refine s_dec (fun c2 => ?_) (fun c2 => ?_)
      · walk_at "sx"
        refine ⟨a, l, _, rfl, A.wk.w, by omega, by omega, fun r H2 r0 r1 w2 e2 => ?_⟩
        have wk2 : WK a l H H2 := A.wk.trans ⟨w2, e2⟩
        walk_at "sx"
        refine n_of rfl fun q H3 nq e3 hq _ => ?_
        walk_at "sx"
        refine w_rng (by omega) ?_
        generalize hb : 1 + r = base
        refine f_go walk_r0 (fun i σ H' => ∃ (p : Addr) (rs : List (Int × Int)) (x7 x8 x9 x10 x11 x12 : Option V), σ = [some (.ref a), some (.int size), some (.int room), some (.int kind), some (.int (2 * base + 1)), some (.ref p), some (.int base), x7, x8, x9, x10, x11, x12] ∧
          PairsAt K a l H H' p rs ∧ PartB base i rs ∧ rs.length = 2 * i) ⟨q, [], _, _, _, _, _, _, rfl, PairsAt.new w wk2 nq e3 hq .nil, PartB.nil, rfl⟩ (fun _ _ _ _ _ => trivial) ?_ ?_
        · rintro i x σ H4 H5 hi ⟨p, rs, x7, x8, x9, x10, x11, x12, rfl, A4, pb, le⟩ ⟨rfl, rfl⟩
          walk_at "sx"
          refine ⟨a, l, _, rfl, A4.wk.w, by omega, by omega, fun r H6 r0 r1 w6 e6 => ?_⟩
          have A6 := A4.wk2 w ⟨w6, e6⟩
          walk_at "sx"
          refine n_of rfl fun t1 H7 nt1 e7 ht1 _ => ?_
          walk_at "sx"
          refine n_of rfl fun t2 H8 nt2 e8 ht2 _ => ?_
          walk_at "sx"
          refine n_of rfl fun u H9 nu e9 hu _ => ?_
          obtain ⟨vs, hv, tv⟩ := ((A6.same e7).same e8).at'
          refine o_cat (e9 _ _ hv) hu (by rw [pairs_len tv]; show _ + 2 ≤ _; omega) (n_new fun v HA nv eA hv2 _ => ?_)
          walk_at "sx"
          have e89 := Same.trans e9 eA
          have t1' := Tp.mkpair (SqT.of (K := K) (e89 _ _ (e8 _ _ ht1)))
          have t2' := Tp.mkpair (SqT.of (K := K) (e89 _ _ ht2))
          refine ⟨v, rs ++ [(r, base + 1 + i), ((i : Int) + 1, base + 1 + i)], _, _, _, _, _, _, rfl, ?_, ?_, ?_⟩
          · refine PairsAt.new w ((((A6.same e7).same e8).same e9).wk) nv eA hv2 ?_
            rw [List.map_append]
            exact (tv.same e89).append (.cons t1' (.cons t2' .nil))
          · exact pb.step (by omega) r0 r1
          · rw [List.length_append, le]; show 2 * i + 2 = 2 * (i + 1); omega
        · rintro σ H4 ⟨p, rs, x7, x8, x9, x10, x11, x12, rfl, A4, pb, le⟩
          rw [show ((base.toNat : Nat) : Int) = base from by omega] at pb
          exact ⟨2 * base + 1, p, rs, _, _, _, _, _, _, _, rfl, A4, pb.shape (by omega), by omega, by omega⟩
      · omega
    · walk_at "sx"
      exact ⟨n, p, rs, _, _, _, _, _, _, _, rfl, A, sh, hn, hl⟩
  clear A sh hn hl x6 x7 x8 x9 x10 x11 x12 rs p n H1
  -- a full one
  rintro σ' H1 ⟨n, p, rs, x6, x7, x8, x9, x10, x11, x12, rfl, A, sh, hn, hl⟩
  refine s_cut M ?_ ?_
  · walk_at "sx"
    refine s_dec (fun c => ?_) (fun c => ?_)
    · walk_at "sx"
      have mn : (if (6 : Int) < size then 6 else size) ≤ 6 ∧ (if (6 : Int) < size then 6 else size) ≤ size ∧ 3 ≤ (if (6 : Int) < size then 6 else size) := by split <;> omega
      refine ⟨a, l, _, rfl, A.wk.w, by omega, by omega, fun r H2 r0 r1 w2 e2 => ?_⟩
      have wk2 : WK a l H H2 := A.wk.trans ⟨w2, e2⟩
      walk_at "sx"
      refine n_of rfl fun q H3 nq e3 hq _ => ?_
      walk_at "sx"
      refine w_rng (by omega) ?_
      generalize hb : 2 + r = n
      refine f_go walk_r0 (fun i σ H' => ∃ (p : Addr) (rs : List (Int × Int)) (x6 x7 x8 x9 x10 x11 x12 : Option V), σ = [some (.ref a), some (.int size), some (.int room), some (.int kind), some (.int n), some (.ref p), x6, x7, x8, x9, x10, x11, x12] ∧
        PairsAt K a l H H' p rs ∧ FullB i rs ∧ rs.length ≤ 24 * i) ⟨q, [], _, _, _, _, _, _, _, rfl, PairsAt.new w wk2 nq e3 hq .nil, FullB.nil, Nat.zero_le _⟩ (fun _ _ _ _ _ => trivial) ?_ ?_
      · rintro i x σ H4 H5 hi ⟨p, rs, x6, x7, x8, x9, x10, x11, x12, rfl, A4, fb, le⟩ ⟨rfl, rfl⟩
        walk_at "sx"
        refine w_rng (by omega) ?_
        rw [Int.toNat_natCast]
        refine lc_data (K := K) walk_r0 (fun _ => true) (fun j => dP ((j : Int), (i : Int))) (by omega) (fun _ _ => trivial) ?_ ?_
        · rintro j x H6 H7 hj e6 ⟨rfl, rfl⟩ Yes No hyes hno
          walk_at "sx"
          refine ⟨rfl, ?_⟩
          walk_at "sx"
          exact n_of rfl fun q H8 nq e8 hq _ => hyes rfl _ _ e8 (Tp.mkpair (SqT.of (K := K) hq))
        · intro D ys H6 hD e6 hy t _
          obtain ⟨vs, hv, tv⟩ := (A4.same e6).at'
          rw [picks_all] at t
          have lt := t.length
          rw [List.length_map, List.length_range] at lt
          refine o_cat hv hy (by rw [pairs_len tv, lt]; omega) (n_new fun v H7 nv e7 hv2 _ => ?_)
          walk_at "sx"
          refine ⟨v, rs ++ colR i, _, _, _, _, _, _, _, rfl, PairsAt.new w (A4.same e6).wk nv e7 hv2 ?_, fb.step (by omega), ?_⟩
          · rw [List.map_append]
            refine (tv.same e7).append ?_
            unfold colR
            rw [List.map_map, Int.toNat_natCast]
            exact t.same e7
          · rw [List.length_append]
            unfold colR
            rw [List.length_map, List.length_range]
            omega
      · rintro σ H4 ⟨p, rs, x6, x7, x8, x9, x10, x11, x12, rfl, A4, fb, le⟩
        rw [show ((n.toNat : Nat) : Int) = n from by omega] at fb
        exact ⟨n, p, rs, _, _, _, _, _, _, _, rfl, A4, fb.shape (by omega), by omega, by omega⟩
    · walk_at "sx"
      exact ⟨n, p, rs, _, _, _, _, _, _, _, rfl, A, sh, hn, hl⟩
  clear A sh hn hl x6 x7 x8 x9 x10 x11 x12 rs p n H1
  -- a board
  rintro σ' H1 ⟨n, p, rs, x6, x7, x8, x9, x10, x11, x12, rfl, A, sh, hn, hl⟩
  refine s_cut M ?_ ?_
  · walk_at "sx"
    refine s_dec (fun c => ?_) (fun c => ?_)
    · walk_at "sx"
      refine s_dec (fun c2 => ?_) (fun c2 => ?_)
      · walk_at "sx"
        have mn : (if size - 1 < (4 : Int) then size - 1 else 4) ≤ 4 ∧ (if size - 1 < (4 : Int) then size - 1 else 4) ≤ size - 1 ∧ 2 ≤ (if size - 1 < (4 : Int) then size - 1 else 4) := by split <;> omega
        refine ⟨a, l, _, rfl, A.wk.w, by omega, by omega, fun r H2 r0 r1 w2 e2 => ?_⟩
        have wk2 : WK a l H H2 := A.wk.trans ⟨w2, e2⟩
        walk_at "sx"
        generalize hb : 1 + r = rows
        have mn2 : (if size - rows < (5 : Int) then size - rows else 5) ≤ 5 ∧ (if size - rows < (5 : Int) then size - rows else 5) ≤ size - rows ∧ 1 ≤ (if size - rows < (5 : Int) then size - rows else 5) := by split <;> omega
        refine ⟨a, l, _, rfl, w2, by omega, by omega, fun r' H3 r0' r1' w3 e3 => ?_⟩
        have wk3 : WK a l H H3 := wk2.trans ⟨w3, e3⟩
        walk_at "sx"
        refine n_of rfl fun q H4 nq e4 hq _ => ?_
        walk_at "sx"
        refine w_rng (by omega) ?_
        generalize hb2 : rows + 1 + r' = n
        refine f_go walk_r0 (fun i σ H' => ∃ (p : Addr) (rs : List (Int × Int)) (x6 x7 x8 x10 x11 x12 : Option V), σ = [some (.ref a), some (.int size), some (.int room), some (.int kind), some (.int n), some (.ref p), x6, x7, x8, some (.int rows), x10, x11, x12] ∧
          PairsAt K a l H H' p rs ∧ BoardB rows n i rs ∧ rs.length ≤ 24 * i) ⟨q, [], _, _, _, _, _, _, rfl, PairsAt.new w wk3 nq e4 hq .nil, BoardB.nil, Nat.zero_le _⟩ (fun _ _ _ _ _ => trivial) ?_ ?_
        · rintro i x σ H5 H6 hi ⟨p, rs, x6, x7, x8, x10, x11, x12, rfl, A5, bb, le⟩ ⟨rfl, rfl⟩
          walk_at "sx"
          refine w_rngB (by omega) ?_
          refine lc_data (K := K) walk_rB (fun _ => true) (fun j => dP ((i : Int), rows + (j : Int))) (by omega) (fun _ _ => trivial) ?_ ?_
          · rintro j x H7 H8 hj e7 ⟨rfl, rfl⟩ Yes No hyes hno
            walk_at "sx"
            refine ⟨rfl, ?_⟩
            walk_at "sx"
            exact n_of rfl fun q H9 nq e9 hq _ => hyes rfl _ _ e9 (Tp.mkpair (SqT.of (K := K) hq))
          · intro D ys H7 hD e7 hy t _
            obtain ⟨vs, hv, tv⟩ := (A5.same e7).at'
            rw [picks_all] at t
            have lt := t.length
            rw [List.length_map, List.length_range] at lt
            refine o_cat hv hy (by rw [pairs_len tv, lt]; omega) (n_new fun v H8 nv e8 hv2 _ => ?_)
            walk_at "sx"
            refine ⟨v, rs ++ rowR i rows n, _, _, _, _, _, _, rfl, PairsAt.new w (A5.same e7).wk nv e8 hv2 ?_, bb.step (by omega) (by omega), ?_⟩
            · rw [List.map_append]
              refine (tv.same e8).append ?_
              unfold rowR
              rw [List.map_map]
              exact t.same e8
            · rw [List.length_append]
              unfold rowR
              rw [List.length_map, List.length_range]
              omega
        · rintro σ H5 ⟨p, rs, x6, x7, x8, x10, x11, x12, rfl, A5, bb, le⟩
          rw [show ((rows.toNat : Nat) : Int) = rows from by omega] at bb
          exact ⟨n, p, rs, _, _, _, _, _, _, _, rfl, A5, bb.shape (by omega) (by omega), by omega, by omega⟩
      · omega
    · walk_at "sx"
      exact ⟨n, p, rs, _, _, _, _, _, _, _, rfl, A, sh, hn, hl⟩
  clear A sh hn hl x6 x7 x8 x9 x10 x11 x12 rs p n H1
  -- a tree and more
  rintro σ' H1 ⟨n, p, rs, x6, x7, x8, x9, x10, x11, x12, rfl, A, sh, hn, hl⟩
  refine s_cut M ?_ ?_
  · walk_at "sx"
    refine s_dec (fun c => ?_) (fun c => ?_)
    · walk_at "sx"
      refine w_rngB (by have := sh.two; omega) ?_
      refine lc_inv walk_rB (fun D i ys H' => WK a l H H' ∧ ∃ rs : List (Int × Int), Tps K H' ys (rs.map dP) ∧ TreeB i rs ∧ rs.length = i) (by omega)
        (fun D H' hD e _ => ⟨A.wk.same e, [], .nil, TreeB.nil, rfl⟩) (fun _ _ _ _ _ _ => trivial) ?_ ?_
      · rintro D i ys x H2 H3 hD hi ⟨wk2, rs, t2, tb, le⟩ hy ⟨rfl, rfl⟩ Yes No hyes hno
        walk_at "sx"
        refine ⟨rfl, ?_⟩
        walk_at "sx"
        refine ⟨a, l, _, rfl, wk2.w, by omega, by omega, fun r H4 r0 r1 w4 e4 => ?_⟩
        have wk4 : WK a l H3 H4 := ⟨w4, e4⟩
        have fD := w.fresh (A.wk.free w hD)
        walk_at "sx"
        refine n_of rfl fun q H5 nq e5 hq _ => ?_
        refine hyes _ _ (e5 _ _ (wk4.get hy fD.1 fD.2)) fun H6 a6 => ⟨((wk2.trans wk4).same e5).at w a6 (A.wk.free w hD), rs ++ [(r, (i : Int) + 1)], ?_, ?_, ?_⟩
        · have m6 : Tm H5 H6 := a6.tm (e5 _ _ (wk4.get hy fD.1 fD.2))
          rw [List.map_append]
          refine (((t2.tm (wk4.tm wk2.w)).same e5).tm m6).snoc ?_
          have := (Tp.mkpair (SqT.of (K := K) hq)).tm m6
          rwa [Int.add_comm 1 (i : Int)] at this
        · exact tb.step r0 (by omega)
        · rw [List.length_append, List.length_singleton, le]
      · rintro D ys H2 hD ⟨wk2, rs, t2, tb, le⟩ hy -
        have h2 := sh.two
        have en : (((n - 1).toNat : Nat) : Int) = n - 1 := by omega
        rw [en] at tb
        have sh2 := tb.shape (by omega)
        rw [show n - 1 + 1 = n from by omega] at sh2
        have A2 : PairsAt K a l H H2 D rs := ⟨wk2, A.wk.free w hD, ys, hy, t2⟩
        walk_at "sx"
        refine n_of rfl fun q H3 nq e3 hq _ => ?_
        have rm : ∃ m : Int, atI ([.int 1, .int 4, .int (3 * n)] : List V) (kind - 5) = some (.int m) ∧ 1 ≤ m ∧ m ≤ 1000 := by
          have : kind = 5 ∨ kind = 6 ∨ kind = 7 := by omega
          rcases this with rfl | rfl | rfl
          · exact ⟨1, rfl, by decide, by decide⟩
          · exact ⟨4, rfl, by decide, by decide⟩
          · exact ⟨3 * n, rfl, by omega, by omega⟩
        obtain ⟨m, hm, m1, m2⟩ := rm
        walk_at "sx"
        refine o_ixL (SqL.of hq) hm ?_
        refine ⟨a, l, _, rfl, wk2.w.same e3, by omega, by omega, fun r H4 r0 r1 w4 e4 => ?_⟩
        have A4 := (A2.same e3).wk2 w ⟨w4, e4⟩
        walk_at "sx"
        refine w_rng (by omega) ?_
        refine f_go walk_r0 (fun i σ H' => ∃ (rs : List (Int × Int)) (x6 x7 x8 x9 x10 x11 x12 : Option V), σ = [some (.ref a), some (.int size), some (.int room), some (.int kind), some (.int n), some (.ref D), x6, x7, x8, x9, x10, x11, x12] ∧
          PairsAt K a l H H' D rs ∧ Shape n rs ∧ rs.length ≤ 100) ⟨rs, _, _, _, _, _, _, _, rfl, A4, sh2, by omega⟩ (fun _ _ _ _ _ => trivial) ?_ ?_
        · rintro i x σ H5 H6 hi ⟨rs, x6, x7, x8, x9, x10, x11, x12, rfl, A5, sh5, le5⟩ ⟨rfl, rfl⟩
          walk_at "sx"
          refine ⟨a, l, _, rfl, A5.wk.w, by omega, by omega, fun u H7 u0 u1 w7 e7 => ?_⟩
          have A7 := A5.wk2 w ⟨w7, e7⟩
          walk_at "sx"
          refine ⟨a, l, _, rfl, w7, by omega, by omega, fun v H8 v0 v1 w8 e8 => ?_⟩
          have A80 := A7.wk2 w ⟨w8, e8⟩
          walk_at "sx"
          refine n_of rfl fun q H8 nq e80 hq _ => ?_
          have A8 := A80.same e80
          refine s_gtup (SqT.of hq) rfl ?_
          clear hq nq e80 A80
          walk_at "sx"
          refine s_dec (fun c3 => ?_) (fun c3 => ?_)
          · walk_at "sx"
            refine n_of rfl fun q H9 nq e9 hq _ => ?_
            have A9 := A8.same e9
            obtain ⟨vs, hv, tv⟩ := A9.at'
            walk_at "sx"
            refine .inr (.inl ⟨_, _, (Tp.mkpair (SqT.of (K := K) hq)).dp, .lst (SqL.of hv) tv.dp, shaped_pair _, shaped_pairs _, ?_⟩)
            rw [any_dP]
            walk_at "sx"
            refine s_ndec (fun c4 => ?_) (fun c4 => ?_)
            · walk_at "sx"
              refine o_lenL (SqL.of hv) ?_
              walk_at "sx"
              refine s_dec (fun c5 => ?_) (fun c5 => ?_)
              · walk_at "sx"
                refine n_of rfl fun q2 HA nq2 eA hq2 _ => ?_
                walk_at "sx"
                rw [pairs_len tv] at c5
                refine o_append (eA _ _ hv) (by rw [pairs_len tv]; omega) fun HB aB => ?_
                refine ⟨rs ++ [(u, v)], _, _, _, _, _, _, _, rfl, A9.push w hv tv eA hq2 aB, sh5.add u0 c3 v1 c4, ?_⟩
                rw [List.length_append, List.length_singleton]
                omega
              · walk_at "sx"
                exact ⟨rs, _, _, _, _, _, _, _, rfl, A9, sh5, le5⟩
            · walk_at "sx"
              exact ⟨rs, _, _, _, _, _, _, _, rfl, A9, sh5, le5⟩
          · walk_at "sx"
            exact ⟨rs, _, _, _, _, _, _, _, rfl, A8, sh5, le5⟩
        · rintro σ H5 ⟨rs, x6, x7, x8, x9, x10, x11, x12, rfl, A5, sh5, le5⟩
          exact ⟨n, D, rs, _, _, _, _, _, _, _, rfl, A5, sh5, hn, by omega⟩
    · walk_at "sx"
      exact ⟨n, p, rs, _, _, _, _, _, _, _, rfl, A, sh, hn, hl⟩
  clear A sh hn hl x6 x7 x8 x9 x10 x11 x12 rs p n H1
  -- no more roads than there is room for
  rintro σ' H1 ⟨n, p, rs, x6, x7, x8, x9, x10, x11, x12, rfl, A, sh, hn, hl⟩
  refine s_cut (fun σ' H' => ∃ (n : Int) (p : Addr) (rs : List (Int × Int)) (x6 x7 x8 x9 x10 x11 x12 : Option V), σ' = [some (.ref a), some (.int size), some (.int room), some (.int kind), some (.int n), some (.ref p), x6, x7, x8, x9, x10, x11, x12] ∧
    PairsAt K a l H H' p rs ∧ Shape n rs ∧ n ≤ size ∧ (rs.length : Int) ≤ room) ?_ ?_
  · obtain ⟨vs, hv, tv⟩ := id A.at'
    have h2 := sh.two
    walk_at "sx"
    refine o_lenL (SqL.of hv) ?_
    walk_at "sx"
    rw [pairs_len tv]
    refine s_dec (fun c => ?_) (fun c => ?_)
    · walk_at "sx"
      have mn : (if room + 1 < n then room + 1 else n) ≤ n ∧ (if room + 1 < n then room + 1 else n) ≤ room + 1 ∧ 2 ≤ (if room + 1 < n then room + 1 else n) := by split <;> omega
      generalize (if room + 1 < n then room + 1 else n) = n2 at mn ⊢
      refine path_comp (K := K) (n := n2) (by omega) (by omega) fun q H2 us nq e2 hq tq => ?_
      walk_at "sx"
      refine ⟨n2, q, _, _, _, _, _, _, _, _, rfl, PairsAt.new w A.wk nq e2 hq tq, Shape.path mn.2.2, by omega, ?_⟩
      unfold pathR
      rw [List.length_map, List.length_range]
      omega
    · walk_at "sx"
      exact ⟨n, p, rs, _, _, _, _, _, _, _, rfl, A, sh, hn, by omega⟩
  rintro σ' H2 ⟨n, p, rs, x6, x7, x8, x9, x10, x11, x12, rfl, A, sh, hn, hl⟩
  walk_at "sx"
  exact n_of rfl fun t H3 nt e3 ht _ => k t p H3 n rs (A.same e3) (SqT.of ht) sh hn hl
end UW
namespace UW
open PySem PySem.Spec PyProof.Rows L2
/-- one step -/
local macro_rules | `(tactic| walk_at "s1") => `(tactic| first
  | with_reducible refine s_seq ?_
  | with_reducible refine s_for ?_
  | with_reducible refine s_lc ?_
  | with_reducible refine w_seq ?_
  | with_reducible refine w_rng1 ?_
  | with_reducible refine w_rng2 ?_
  | with_reducible refine w_zip ?_
  | with_reducible refine s_asg ?_
  | with_reducible refine s_gname ?_
  | with_reducible refine s_ret ?_
  | with_reducible refine s_drop ?_
  | with_reducible refine s_next ?_
  | with_reducible refine s_ifs ?_
  | with_reducible refine s_var (by with_unfolding_all rfl) ?_
  | with_reducible refine s_c ?_
  | with_reducible refine s_op ?_
  | with_reducible refine s_un ?_
  | with_reducible refine s_neg ?_
  | with_reducible refine s_test ?_
  | with_reducible refine s_yes ?_
  | with_reducible refine s_tB ?_
  | with_reducible refine s_bl ?_
  | with_reducible refine s_not ?_
  | with_reducible refine s_and ?_
  | with_reducible refine s_or ?_
  | with_reducible refine s_andV ?_
  | with_reducible refine s_orV ?_
  | with_reducible refine s_notV ?_
  | with_reducible refine s_chain ?_
  | with_reducible refine s_nil ?_
  | with_reducible refine s_cons ?_
  | with_reducible refine s_tup ?_
  | with_reducible refine s_lst ?_
  | with_reducible refine s_call ?_
  | with_reducible refine s_cb ?_
  | with_reducible refine s_part ?_
  | with_reducible refine s_nopart ?_
  | with_reducible refine s_ii ?_
  | with_reducible refine s_sl ?_
  | with_reducible refine s_par ?_
  | with_reducible refine s_par2 ?_
  | with_reducible refine s_bm ?_
  | with_reducible refine s_gsub ?_
  | with_reducible refine s_gcons ?_
  | with_reducible refine s_gnil ?_
  | with_reducible refine o_addI ?_
  | with_reducible refine o_sub ?_
  | with_reducible refine o_eqI ?_
  | with_reducible refine o_neI ?_
  | with_reducible refine o_ltI ?_
  | with_reducible refine o_le ?_
  | with_reducible refine o_gt ?_
  | with_reducible refine o_ge ?_
  | with_reducible refine o_int ?_
  | with_reducible refine o_intB ?_
  | with_reducible refine o_abs ?_
  | with_reducible refine o_max2 ?_
  | with_reducible refine o_min2 ?_
  | with_reducible refine o_isN ?_
  | with_reducible refine o_notN ?_
  | with_reducible refine o_mulI (by first | exact Or.inl ⟨by decide, by decide⟩ | exact Or.inr ⟨by decide, by decide⟩ | (first | (refine Or.inl ⟨?_, ?_⟩ <;> omega) | (refine Or.inr ⟨?_, ?_⟩ <;> omega))) ?_
  | with_reducible refine o_mod (by first | decide | omega) ?_
  | with_reducible refine o_div (by first | decide | omega) (by first | decide | omega) ?_
  | with_reducible refine s_blx ?_
  | with_reducible refine o_ixL (SqL.of (by assumption)) (by first | with_unfolding_all rfl | with_unfolding_all exact at_zero _ _) ?_
  | with_reducible refine o_ixT (by assumption) (by first | with_unfolding_all rfl | with_unfolding_all exact at_zero _ _) ?_
  | with_reducible refine o_tyL (by assumption) ?_
  | with_reducible refine iteT ?_
  | with_reducible refine iteF ?_)
local macro_rules | `(tactic| walk_at "sx") => `(tactic| repeat (walk_at "s1"))
def rSortP (K : Fg) : List V → Hp → VK → Prop := fun vs H Q => ∃ (a : Addr) (xs : List V) (rs : List (Int × Int)), vs = [V.ref a] ∧ SqL K H a xs ∧ Tps K H xs (rs.map dP) ∧
  ∀ (ys : List V) (qs : List (Int × Int)), qs.Perm rs → qs.Pairwise (fun p q => SrtO.lexB q p = false) → Tps K H ys (qs.map dP) → New Q H (.lst ys)
open Classical in
noncomputable def pairAt (K : Fg) (H : Hp) (v : V) : Int × Int := if h : ∃ p, Tp K H v (dP p) then Classical.choose h else (0, 0)
section
variable {X : Cx}
theorem pair_one {pins : List (Addr × Obj)} {σ : L2.St} {H : Hp} {s : Shared} (I : Inv X pins σ H s) {v : V} {p : Int × Int} (h : Tp X.K H v (dP p)) : pairAt X.K H v = p := by
  have ex : ∃ p, Tp X.K H v (dP p) := ⟨p, h⟩
  unfold pairAt
  rw [dif_pos ex]
  have c := Classical.choose_spec ex
  generalize Classical.choose ex = q at c
  obtain ⟨a, rfl, h1⟩ := h.pair
  obtain ⟨b, e, h2⟩ := c.pair
  cases e
  have e2 := I.tuple_inj h1.up h2.up
  have e3 : p.1 = q.1 ∧ p.2 = q.2 := by simpa using e2
  exact Prod.ext e3.1.symm e3.2.symm
theorem pairs_map {pins : List (Addr × Obj)} {σ : L2.St} {H : Hp} {s : Shared} (I : Inv X pins σ H s) : ∀ {xs : List V} {rs : List (Int × Int)}, Tps X.K H xs (rs.map dP) → xs.map (pairAt X.K H) = rs
  | _, [], h => by rw [h.nil_inv]; rfl
  | _, p :: rs, h => by
    obtain ⟨v, vs, rfl, h1, h2⟩ := Tps.cons_inv h
    rw [List.map_cons, pair_one I h1, pairs_map I h2]
theorem tps_mem {K : Fg} {H : Hp} {rs : List (Int × Int)} {xs : List V} (h : Tps K H xs (rs.map dP)) {x : V} (m : x ∈ xs) : ∃ p, Tp K H x (dP p) := by
  obtain ⟨i, hi, rfl⟩ := List.mem_iff_getElem.mp m
  obtain ⟨p, a, h1, h2, h3⟩ := h.pair_at (List.getElem?_eq_getElem hi)
  exact ⟨p, by rw [h2]; exact Tp.mkpair h3⟩
theorem tps_of_map {K : Fg} {H : Hp} {f : V → Int × Int} : ∀ (ys : List V), (∀ y ∈ ys, Tp K H y (dP (f y))) → Tps K H ys ((ys.map f).map dP)
  | [], _ => .nil
  | y :: ys, h => .cons (h y (List.mem_cons_self ..)) (tps_of_map ys fun z hz => h z (List.mem_cons_of_mem _ hz))
theorem cr_sortP : CallR X (.builtin "sorted") (rSortP X.K) := by
  intro pins s σ H vs us Q I r h
  obtain ⟨a, xs, rs, rfl, hs, tx, q⟩ := h
  obtain ⟨its, rv, hl, hz⟩ := I.list hs
  obtain ⟨u, rfl, ru⟩ := vals1 r
  obtain rfl : u = Value.ref a := ru
  have isref : ∀ x ∈ xs, ∃ t, x = V.ref t := fun x m => by
    obtain ⟨p, hp⟩ := tps_mem tx m
    obtain ⟨t, e, _⟩ := hp.pair
    exact ⟨t, e⟩
  obtain ⟨e1, e2⟩ := refs_back rv isref
  refine SrtO.sorted_pairsO (k := fun u => pairAt X.K H (backV u)) hl.isList (by rw [← rv.length]; exact hz) ?_ ?_
  · intro v hv
    obtain ⟨t, rfl⟩ := e2 v hv
    have hm : V.ref t ∈ xs := by rw [e1]; exact List.mem_map.mpr ⟨_, hv, rfl⟩
    obtain ⟨p, hp⟩ := tps_mem tx hm
    have ek : pairAt X.K H (backV (.ref t)) = p := pair_one I hp
    obtain ⟨t', e, ht⟩ := hp.pair
    cases e
    obtain ⟨its2, r2, ⟨o, ho, hc, n, hd⟩, _⟩ := I.tuple ht.up
    obtain ⟨u1, u2, rfl, ri, rj⟩ := vals2 r2
    obtain ⟨t1, rfl⟩ := ri
    obtain ⟨t2, rfl⟩ := rj
    rw [ek]
    exact ⟨t, o, t1, t2, n, rfl, ho, hc, hd⟩
  · intro h' d out h1 h2 kp hd hn
    have h3 : ∀ u ∈ out, ∃ a, u = Value.ref a := fun u hu => e2 u (h2.perm.mem_iff.mp hu)
    obtain ⟨n, hn⟩ := hn
    have pm : (out.map backV).Perm xs := by rw [e1]; exact h2.perm.map _
    have qp : ((out.map backV).map (pairAt X.K H)).Perm rs := by
      have := pm.map (pairAt X.K H)
      rw [pairs_map I tx] at this
      exact this
    have ty : Tps X.K H (out.map backV) (((out.map backV).map (pairAt X.K H)).map dP) := by
      refine tps_of_map _ fun y hy => ?_
      obtain ⟨p, hp⟩ := tps_mem tx (pm.mem_iff.mp hy)
      rw [pair_one I hp]
      exact hp
    have srt : ((out.map backV).map (pairAt X.K H)).Pairwise (fun p q => SrtO.lexB q p = false) := by
      rw [List.pairwise_map, List.pairwise_map]
      exact h1
    refine ⟨.ref d, upd H d (.lst (out.map backV)), I.laid (t' := s.toks) kp hd ⟨?_, out, n, vals_back h3, hn⟩, rfl, q _ _ qp srt ty d (I.hok.fresh hd)⟩
    rw [pm.length_eq]
    exact hz
end
def nm (ns : List Int) (i : Int) : Int := ns.getD i.toNat 0
def reP (ns : List Int) (p : Int × Int) : Int × Int := (if nm ns p.2 < nm ns p.1 then nm ns p.2 else nm ns p.1, if nm ns p.2 > nm ns p.1 then nm ns p.2 else nm ns p.1)
theorem mem_iota {n : Nat} {x : Int} : x ∈ iota n ↔ 0 ≤ x ∧ x < n := by
  unfold iota
  rw [List.mem_map]
  constructor
  · rintro ⟨a, ha, rfl⟩
    have := List.mem_range.mp ha
    omega
  · rintro ⟨h1, h2⟩
    exact ⟨x.toNat, List.mem_range.mpr (by omega), by omega⟩
theorem nodup_iota (n : Nat) : (iota n).Nodup := nodup_map_range _ _ fun i j _ _ e => by omega
structure Names (n : Int) (ns : List Int) : Prop where
  len : (ns.length : Int) = n
  rng : ∀ i, 0 ≤ i → i < n → 0 ≤ nm ns i ∧ nm ns i < n
  inj : ∀ i j, 0 ≤ i → i < n → 0 ≤ j → j < n → nm ns i = nm ns j → i = j
  sur : ∀ y, 0 ≤ y → y < n → ∃ i, 0 ≤ i ∧ i < n ∧ nm ns i = y
theorem nm_get {ns : List Int} {i : Int} (h0 : 0 ≤ i) (h1 : i < ns.length) : ns[i.toNat]? = some (nm ns i) := by
  have h : i.toNat < ns.length := by omega
  unfold nm
  rw [List.getD_eq_getElem?_getD, List.getElem?_eq_getElem h]
  rfl
theorem Names.of {n : Int} {ns : List Int} (h : 0 ≤ n) (p : ns.Perm (iota n.toNat)) : Names n ns := by
  have hl : (ns.length : Int) = n := by rw [p.length_eq, iota_len]; omega
  have nd : ns.Nodup := p.nodup_iff.mpr (nodup_iota _)
  refine ⟨hl, fun i h0 h1 => ?_, fun i j i0 i1 j0 j1 e => ?_, fun y h0 h1 => ?_⟩
  · have m := List.mem_of_getElem? (nm_get h0 (show i < ns.length by omega))
    have := mem_iota.mp (p.mem_iff.mp m)
    omega
  · have a := nm_get i0 (show i < ns.length by omega)
    have b := nm_get j0 (show j < ns.length by omega)
    rw [e] at a
    have := nd_ix nd a b
    omega
  · have m : y ∈ ns := p.mem_iff.mpr (mem_iota.mpr ⟨h0, by omega⟩)
    obtain ⟨k, hk, e⟩ := List.mem_iff_getElem.mp m
    refine ⟨(k : Int), by omega, by omega, ?_⟩
    have a := nm_get (ns := ns) (i := (k : Int)) (by omega) (by omega)
    rw [Int.toNat_natCast, List.getElem?_eq_getElem hk, e] at a
    exact (Option.some.inj a).symm
theorem Conn.all {n : Int} {rs : List (Int × Int)} (h : Conn n rs) (S : Int → Prop) (hs : ∀ p ∈ rs, S p.1 ↔ S p.2) {i j : Int} (i0 : 0 ≤ i) (i1 : i < n) (j0 : 0 ≤ j) (j1 : j < n) : S i ↔ S j := by
  have c := h (fun x => S x ↔ S 0) Iff.rfl fun p hp => by rw [hs p hp]
  exact (c i i0 i1).trans (c j j0 j1).symm
theorem Conn.names {n : Int} {rs : List (Int × Int)} {ns : List Int} (h : Conn n rs) (N : Names n ns) (hn : 0 < n) : Conn n (rs.map (reP ns)) := by
  intro S s0 hs y y0 y1
  have cl : ∀ p ∈ rs, S (nm ns p.1) ↔ S (nm ns p.2) := by
    intro p hp
    have := hs (reP ns p) (List.mem_map.mpr ⟨p, hp, rfl⟩)
    unfold reP at this
    by_cases c : nm ns p.2 < nm ns p.1
    · have c2 : ¬ nm ns p.2 > nm ns p.1 := by omega
      simp only [if_pos c, if_neg c2] at this
      exact this.symm
    · by_cases c2 : nm ns p.2 > nm ns p.1
      · simp only [if_neg c, if_pos c2] at this
        exact this
      · have e : nm ns p.1 = nm ns p.2 := by omega
        rw [e]
  obtain ⟨i, i0, i1, ei⟩ := N.sur 0 (Int.le_refl 0) hn
  obtain ⟨j, j0, j1, ej⟩ := N.sur y y0 y1
  have := (h.all (fun x => S (nm ns x)) cl i0 i1 j0 j1).mp (by rw [ei]; exact s0)
  rwa [ej] at this
theorem nodup_map_of {α β : Type} {f : α → β} : ∀ {l : List α}, l.Nodup → (∀ x ∈ l, ∀ y ∈ l, f x = f y → x = y) → (l.map f).Nodup
  | [], _, _ => List.nodup_nil
  | a :: l, h, inj => by
    rw [List.map_cons, List.nodup_cons]
    have hc := List.nodup_cons.mp h
    refine ⟨fun m => ?_, nodup_map_of hc.2 fun x hx y hy => inj x (List.mem_cons_of_mem _ hx) y (List.mem_cons_of_mem _ hy)⟩
    obtain ⟨b, hb, e⟩ := List.mem_map.mp m
    have := inj b (List.mem_cons_of_mem _ hb) a (List.mem_cons_self ..) e
    exact hc.1 (this ▸ hb)
theorem Shape.names {n : Int} {rs : List (Int × Int)} {ns : List Int} (h : Shape n rs) (N : Names n ns) : Shape n (rs.map (reP ns)) := by
  refine ⟨h.two, nodup_map_of h.nd ?_, ?_, h.cn.names N (by have := h.two; omega)⟩
  · intro p hp q hq e
    have a := h.ok p hp
    have b := h.ok q hq
    have e1 := (Prod.mk.inj e).1
    have e2 := (Prod.mk.inj e).2
    have i11 := N.inj p.1 q.1 (by omega) (by omega) (by omega) (by omega)
    have i12 := N.inj p.1 q.2 (by omega) (by omega) (by omega) (by omega)
    have i21 := N.inj p.2 q.1 (by omega) (by omega) (by omega) (by omega)
    have i22 := N.inj p.2 q.2 (by omega) (by omega) (by omega) (by omega)
    have : (nm ns p.1 = nm ns q.1 ∧ nm ns p.2 = nm ns q.2) ∨ (nm ns p.1 = nm ns q.2 ∧ nm ns p.2 = nm ns q.1) := by
      generalize nm ns p.1 = u1 at e1 e2 ⊢
      generalize nm ns p.2 = u2 at e1 e2 ⊢
      generalize nm ns q.1 = u3 at e1 e2 ⊢
      generalize nm ns q.2 = u4 at e1 e2 ⊢
      by_cases c1 : u2 < u1 <;> by_cases c2 : u4 < u3 <;> by_cases c3 : u2 > u1 <;> by_cases c4 : u4 > u3 <;> simp only [c1, c2, c3, c4, if_true, if_false] at e1 e2 <;> omega
    rcases this with ⟨u, v⟩ | ⟨u, v⟩
    · exact Prod.ext (i11 u) (i22 v)
    · have := i12 u
      have := i21 v
      omega
  · intro q hq
    obtain ⟨p, hp, rfl⟩ := List.mem_map.mp hq
    have a := h.ok p hp
    have r1 := N.rng p.1 (by omega) (by omega)
    have r2 := N.rng p.2 (by omega) (by omega)
    have ne : nm ns p.1 ≠ nm ns p.2 := fun e => by
      have := N.inj p.1 p.2 (by omega) (by omega) (by omega) (by omega) e
      omega
    unfold reP
    show 0 ≤ (if nm ns p.2 < nm ns p.1 then nm ns p.2 else nm ns p.1) ∧ (if nm ns p.2 < nm ns p.1 then nm ns p.2 else nm ns p.1) < (if nm ns p.2 > nm ns p.1 then nm ns p.2 else nm ns p.1) ∧ (if nm ns p.2 > nm ns p.1 then nm ns p.2 else nm ns p.1) < n
    split <;> split <;> omega
theorem Shape.perm {n : Int} {rs qs : List (Int × Int)} (h : Shape n rs) (p : qs.Perm rs) : Shape n qs :=
  ⟨h.two, p.nodup_iff.mpr h.nd, fun x hx => h.ok x (p.mem_iff.mp hx), h.cn.more fun x hx => p.mem_iff.mpr hx⟩
theorem Shape.ne {n : Int} {rs : List (Int × Int)} (h : Shape n rs) : rs ≠ [] := by
  rintro rfl
  have := h.cn (fun i => i = 0) rfl (fun p hp => (by cases hp)) 1 (by decide) (by have := h.two; omega)
  exact absurd this (by decide)
theorem strict {qs : List (Int × Int)} (s : qs.Pairwise (fun p q => SrtO.lexB q p = false)) (nd : qs.Nodup) : qs.Pairwise (fun p q => SrtO.lexB p q = true) := by
  have := List.Pairwise.and s nd
  refine this.imp ?_
  rintro p q ⟨h1, h2⟩
  have a := SrtO.lexB_no.mp h1
  refine SrtO.lexB_iff.mpr ?_
  by_cases e : p.1 = q.1
  · by_cases e2 : p.2 = q.2
    · exact absurd (Prod.ext e e2) h2
    · omega
  · omega
structure WebOk (size room load n : Int) (rs : List (Int × Int)) (ms : List Int) : Prop where
  sh : Shape n rs
  up : rs.Pairwise (fun p q => SrtO.lexB p q = true)
  sz : n ≤ size
  rm : (rs.length : Int) ≤ room
  lm : ms.length = rs.length
  ld : ∀ m ∈ ms, 1 ≤ m ∧ m ≤ load
end UW
namespace UW
open PySem PySem.Spec PyProof.Rows L2
/-- one step -/
local macro_rules | `(tactic| walk_at "s1") => `(tactic| first
  | with_reducible refine s_seq ?_
  | with_reducible refine s_for ?_
  | with_reducible refine s_lc ?_
  | with_reducible refine w_seq ?_
  | with_reducible refine w_rng1 ?_
  | with_reducible refine w_rng2 ?_
  | with_reducible refine w_zip ?_
  | with_reducible refine s_asg ?_
  | with_reducible refine s_gname ?_
  | with_reducible refine s_ret ?_
  | with_reducible refine s_drop ?_
  | with_reducible refine s_next ?_
  | with_reducible refine s_ifs ?_
  | with_reducible refine s_var (by with_unfolding_all rfl) ?_
  | with_reducible refine s_c ?_
  | with_reducible refine s_op ?_
  | with_reducible refine s_un ?_
  | with_reducible refine s_neg ?_
  | with_reducible refine s_test ?_
  | with_reducible refine s_yes ?_
  | with_reducible refine s_tB ?_
  | with_reducible refine s_bl ?_
  | with_reducible refine s_not ?_
  | with_reducible refine s_and ?_
  | with_reducible refine s_or ?_
  | with_reducible refine s_andV ?_
  | with_reducible refine s_orV ?_
  | with_reducible refine s_notV ?_
  | with_reducible refine s_chain ?_
  | with_reducible refine s_nil ?_
  | with_reducible refine s_cons ?_
  | with_reducible refine s_tup ?_
  | with_reducible refine s_lst ?_
  | with_reducible refine s_call ?_
  | with_reducible refine s_cb ?_
  | with_reducible refine s_part ?_
  | with_reducible refine s_nopart ?_
  | with_reducible refine s_ii ?_
  | with_reducible refine s_sl ?_
  | with_reducible refine s_par ?_
  | with_reducible refine s_par2 ?_
  | with_reducible refine s_bm ?_
  | with_reducible refine s_gsub ?_
  | with_reducible refine s_gcons ?_
  | with_reducible refine s_gnil ?_
  | with_reducible refine o_addI ?_
  | with_reducible refine o_sub ?_
  | with_reducible refine o_eqI ?_
  | with_reducible refine o_neI ?_
  | with_reducible refine o_ltI ?_
  | with_reducible refine o_le ?_
  | with_reducible refine o_gt ?_
  | with_reducible refine o_ge ?_
  | with_reducible refine o_int ?_
  | with_reducible refine o_intB ?_
  | with_reducible refine o_abs ?_
  | with_reducible refine o_max2 ?_
  | with_reducible refine o_min2 ?_
  | with_reducible refine o_isN ?_
  | with_reducible refine o_notN ?_
  | with_reducible refine o_mulI (by first | exact Or.inl ⟨by decide, by decide⟩ | exact Or.inr ⟨by decide, by decide⟩ | (first | (refine Or.inl ⟨?_, ?_⟩ <;> omega) | (refine Or.inr ⟨?_, ?_⟩ <;> omega))) ?_
  | with_reducible refine o_mod (by first | decide | omega) ?_
  | with_reducible refine o_div (by first | decide | omega) (by first | decide | omega) ?_
  | with_reducible refine s_blx ?_
  | with_reducible refine o_ixL (SqL.of (by assumption)) (by first | with_unfolding_all rfl | with_unfolding_all exact at_zero _ _) ?_
  | with_reducible refine o_ixT (by assumption) (by first | with_unfolding_all rfl | with_unfolding_all exact at_zero _ _) ?_
  | with_reducible refine o_tyL (by assumption) ?_
  | with_reducible refine iteT ?_
  | with_reducible refine iteF ?_)
local macro_rules | `(tactic| walk_at "sx") => `(tactic| repeat (walk_at "s1"))
section
variable {K : Fg} {σ : L2.St} {H : Hp} {Q : VK} {t : TT} {ta tb : TE} {a : Addr} {xs : List V}
theorem s_ifj (P : V → Hp → Prop) (hk : ∀ v H', P v H' → Q v H') (k : (∀ v H', P v H' → Q v H') → t σ H fun b H1 => if b = true then ta σ H1 Q else tb σ H1 Q) : tIf t ta tb σ H Q := k hk
theorem o_sortP {rs : List (Int × Int)} (h : SqL K H a xs) (t : Tps K H xs (rs.map dP)) (k : ∀ (ys : List V) (qs : List (Int × Int)), qs.Perm rs → qs.Pairwise (fun p q => SrtO.lexB q p = false) → Tps K H ys (qs.map dP) → New Q H (.lst ys)) : rSortP K [.ref a] H Q := ⟨a, xs, rs, rfl, h, t, k⟩
theorem o_tupL (h : SqL K H a xs) (k : New Q H (.tup xs)) : rTupOf K [.ref a] H Q := ⟨a, xs, rfl, .inl ⟨h, k⟩⟩
end
def sp__law_web (K : Fg) : Sp := fun vs H Q _ => ∃ (a l : Addr) (size room load : Int), vs = [.ref a, .int size, .int room, .int load] ∧ Well H a l ∧ 3 ≤ size ∧ size ≤ 24 ∧ 1 ≤ room ∧ room ≤ 40 ∧ 1 ≤ load ∧ load ≤ 9 ∧
  ∀ (v : V) (H' : Hp) (n : Int) (rs : List (Int × Int)) (ms : List Int), WK a l H H' → Tp K H' v (dWeb n rs ms) → WebOk size room load n rs ms → Q v H'
theorem l__law_web {K : Fg} : ∀ vs H Q E, sp__law_web K vs H Q E → vs.length = 4 := by
  rintro vs H Q E ⟨a, l, n, r, m, rfl, _⟩
  rfl
/-- _law_web, slots well, size, room, load, n, pairs, names, roads, way, bounds, a, b, pair -/
def t__law_web (K : Fg) : TS :=
  (tSeq (tAsg (tG (sp__law_shape K) E00 (tCons (tVar 0) (tCons (tVar 1) (tCons (tVar 2) tNil)))) (gTup K
    2 (gCons (gName 4) (gCons (gName 5) gNil)))) (tSeq (tAsg (tIf (tTest (tOp rGtI (tG (sp__law_draw K) E00 (tCons (tVar 0) (tCons (tC (.int 4)) tNil))) (tC (.int 0)))) (tG (sp__law_mixed K) E00 (tCons (tVar 0) (tCons (tVar 4)
    tNil))) (tLstRg (tRg1 (tVar 4)))) (gName 6)) (tSeq (tAsg (tCB (rSortP K) (tCons (tLc (iSeq K (tVar 5)) (gTup K 2 (gCons (gName 10) (gCons (gName 11) gNil))) tYes (tTup (tCons (tCB rMin2 (tCons (tOp (rIx K) (tVar 6) (tVar 10))
    (tCons (tOp (rIx K) (tVar 6) (tVar 11)) tNil))) (tCons (tCB rMax2 (tCons (tOp (rIx K) (tVar 6) (tVar 10)) (tCons (tOp (rIx K) (tVar 6) (tVar 11)) tNil))) tNil))) [10, 11]) tNil)) (gName 7)) (tSeq (tPar 8 9 (tCons (tG
    (sp__law_draw K) E00 (tCons (tVar 0) (tCons (tC (.int 4)) tNil))) (tCons (tLc (iSeq K (tVar 7)) (gName 12) tYes (tC (.int 1)) [12]) tNil))) (Evl.tCut (tIfS (tTest (tOp (rEqU K) (tVar 8) (tC (.int 2)))) (tAsg (tOp (rAddU K) (tC
    (.int 1)) (tG (sp__law_draw K) E00 (tCons (tVar 0) (tCons (tVar 3) tNil)))) (gSub (tVar 9) (tG (sp__law_draw K) E00 (tCons (tVar 0) (tCons (tCB (rLenU K) (tCons (tVar 9) tNil)) tNil))) rSetL)) tNext) (Evl.tCut (tIfS (tTest (tOp
    (rEqU K) (tVar 8) (tC (.int 3)))) (tAsg (tLc (iSeq K (tVar 7)) (gName 12) tYes (tOp (rAddU K) (tC (.int 1)) (tG (sp__law_draw K) E00 (tCons (tVar 0) (tCons (tVar 3) tNil)))) [12]) (gName 9)) tNext) (tRet (tTup (tCons (tVar 4)
    (tCons (tCB (rTupOf K) (tCons (tVar 7) tNil)) (tCons (tCB (rTupOf K) (tCons (tVar 9) tNil)) tNil)))))))))))
theorem map_ints_at {ns : List Int} {i : Int} (h0 : 0 ≤ i) (h1 : i < ns.length) : atI (ns.map V.int) i = some (.int (nm ns i)) := by
  have e := nm_get h0 h1
  refine at_of (show i = ((i.toNat : Nat) : Int) by omega) ?_
  rw [List.getElem?_map, e]
  rfl
theorem ints_set (ns : List Int) (j : Nat) (v : Int) : (ns.map V.int).set j (.int v) = (ns.set j v).map V.int := by rw [List.map_set]
theorem p__law_web {K : Fg} {vs : List V} {H : Hp} {Q : VK} {E : XK} (h : sp__law_web K vs H Q E) : t__law_web K { nx := fun _ H' => Q .non H', rt := Q } (start ["well", "size", "room", "load", "n", "pairs", "names", "roads", "way", "bounds", "a", "b", "pair"] vs) H := by
  obtain ⟨a, l, size, room, load, rfl, w, hs3, hs, hr1, hr, hl1, hl, k⟩ := h
  show t__law_web K _ [some (.ref a), some (.int size), some (.int room), some (.int load), none, none, none, none, none, none, none, none, none] H
  unfold t__law_web
  walk_at "sx"
  refine ⟨a, l, size, room, rfl, w, hs3, hs, hr1, hr, fun t p H1 n rs A st sh hn hlen => ?_⟩
  have h2 := sh.two
  refine s_gtup st rfl ?_
  walk_at "sx"
  refine s_ifj (fun v H' => ∃ (q : Addr) (ns : List Int), v = .ref q ∧ WK a l H1 H' ∧ H1 q = none ∧ H' q = some (.lst (ns.map V.int)) ∧ Names n ns) ?_ (fun rest => ?_)
  · rintro v H2 ⟨q, ns, rfl, wk2, nq, hq, N⟩
    have A2 := A.wk2 w wk2
    obtain ⟨vs, hv, tv⟩ := id A2.at'
    walk_at "sx"
    refine w_seqL (SqL.of hv) ?_
    refine lc_over (K := K) rs walk_list (pairs_len tv) (fun _ => true) (fun p => dP (reP ns p)) (by rw [pairs_len tv]; omega) (fun H' e => SqL.of (e _ _ hv)) ?_ ?_
    · rintro i pp x H3 H4 hp e3 ⟨rfl, hx⟩ Yes No hyes hno
      obtain ⟨pp', b, hp', rfl, hb⟩ := tv.pair_at hx
      rw [hp] at hp'
      cases hp'
      have hb3 := Same.sqT e3 hb
      have ok := sh.ok pp (List.mem_of_getElem? hp)
      have hq3 := e3 _ _ hq
      have ln := N.len
      refine s_gtup hb3 rfl ?_
      walk_at "sx"
      refine ⟨rfl, ?_⟩
      walk_at "sx"
      refine o_ixL (SqL.of hq3) (map_ints_at ok.1 (by omega)) ?_
      walk_at "sx"
      refine o_ixL (SqL.of hq3) (map_ints_at (by omega) (by omega)) ?_
      walk_at "sx"
      refine o_ixL (SqL.of hq3) (map_ints_at ok.1 (by omega)) ?_
      walk_at "sx"
      refine o_ixL (SqL.of hq3) (map_ints_at (by omega) (by omega)) ?_
      walk_at "sx"
      exact n_of rfl fun t H5 nt e5 ht _ => hyes rfl _ _ e5 (Tp.mkpair (SqT.of (K := K) ht))
    · intro D ys H3 nD e3 hy ty
      walk_at "sx"
      rw [filter_true, show (fun p => dP (reP ns p)) = dP ∘ reP ns from rfl, ← List.map_map] at ty
      refine o_sortP (SqL.of hy) ty fun zs qs pq sq tz => n_new fun r H4 nr e4 hr4 _ => ?_
      walk_at "sx"
      have wk4 : WK a l H H4 := (A2.wk.same e3).same e4
      have tz4 := tz.same e4
      have nr0 : H r = none := (A2.wk.same e3).free w nr
      have fr := w.fresh nr0
      have sq2 := (sh.names N).perm pq
      have up2 := strict sq sq2.nd
      have ql : qs.length = rs.length := by rw [pq.length_eq, List.length_map]
      have qne : 0 < qs.length := List.length_pos_iff.mpr sq2.ne
      have zl := pairs_len tz
      refine ⟨a, l, _, rfl, wk4.w, by decide, by decide, fun way H5 y0 y1 w5 e5 => ?_⟩
      have wk5 : WK a l H4 H5 := ⟨w5, e5⟩
      have hr5 := wk5.get hr4 fr.1 fr.2
      have tz5 := tz4.tm (wk5.tm wk4.w)
      walk_at "sx"
      refine w_seqL (SqL.of hr5) ?_
      refine lc_over (K := K) qs walk_list zl (fun _ => true) (fun _ => PyData.int 1) (by omega) (fun H' e => SqL.of (e _ _ hr5)) ?_ ?_
      · rintro i pp x H6 H7 hp e6 ⟨rfl, hx⟩ Yes No hyes hno
        walk_at "sx"
        refine ⟨rfl, ?_⟩
        walk_at "sx"
        exact hyes rfl _ _ (Same.refl _) (.int 1)
      intro b us H6 nb e6 hb tb
      rw [filter_true] at tb
      have eb : us = (qs.map fun _ => (1 : Int)).map V.int := by
        refine Tps.ints (K := K) (H := H6) ?_
        rw [List.map_map]
        exact tb
      subst eb
      have wk6 : WK a l H H6 := (wk4.trans wk5).same e6
      have nb0 : H b = none := (wk4.trans wk5).free w nb
      have nbr : b ≠ r := fun z => by rw [z, hr5] at nb; cases nb
      have fb := w.fresh nb0
      walk_at "sx"
      let M : L2.St → Hp → Prop := fun σ' H' => ∃ (b : Addr) (ms : List Int) (x10 x11 x12 : Option V), σ' = [some (.ref a), some (.int size), some (.int room), some (.int load), some (.int n), some (.ref p), some (.ref q), some (.ref r), some (.int way), some (.ref b), x10, x11, x12] ∧
        WK a l H H' ∧ H' r = some (.lst zs) ∧ Tps K H' zs (qs.map dP) ∧ H b = none ∧ b ≠ r ∧ H' b = some (.lst (ms.map V.int)) ∧ ms.length = qs.length ∧ ∀ m ∈ ms, 1 ≤ m ∧ m ≤ load
      refine s_cut M ?_ ?_
      · have st : M [some (.ref a), some (.int size), some (.int room), some (.int load), some (.int n), some (.ref p), some (.ref q), some (.ref r), some (.int way), some (.ref b), none, none, none] H6 :=
          ⟨b, _, _, _, _, rfl, wk6, e6 _ _ hr5, tz5.same e6, nb0, nbr, hb, by rw [List.length_map], fun m hm => by
            obtain ⟨_, _, rfl⟩ := List.mem_map.mp hm
            omega⟩
        walk_at "sx"
        refine s_dec (fun c => ?_) (fun c => ?_)
        · walk_at "sx"
          refine ⟨a, l, _, rfl, wk6.w, by omega, by omega, fun x H7 x0 x1 w7 e7 => ?_⟩
          have wk7 : WK a l H6 H7 := ⟨w7, e7⟩
          have hb7 := wk7.get hb fb.1 fb.2
          walk_at "sx"
          refine o_lenL (SqL.of hb7) ?_
          walk_at "sx"
          rw [List.length_map, List.length_map]
          refine ⟨a, l, _, rfl, w7, by omega, by omega, fun j H8 j0 j1 w8 e8 => ?_⟩
          have wk8 : WK a l H7 H8 := ⟨w8, e8⟩
          have hb8 := wk8.get hb7 fb.1 fb.2
          refine o_setL hb8 (n := j.toNat) (by rw [List.length_map, List.length_map]; rw [show j = ((j.toNat : Nat) : Int) by omega]; exact ix_nat (by omega)) fun H9 a9 => ?_
          rw [ints_set] at a9
          have hr8 := wk8.get (wk7.get (e6 _ _ hr5) fr.1 fr.2) fr.1 fr.2
          refine ⟨b, _, _, _, _, rfl, ((wk6.trans wk7).trans wk8).at w a9 nb0, a9.ne hr8 nbr.symm, ((((tz5.same e6).tm (wk7.tm wk6.w)).tm (wk8.tm w7)).tm (a9.tm hb8)), nb0, nbr, a9.1, by rw [List.length_set, List.length_map], fun m hm => ?_⟩
          rcases List.mem_or_eq_of_mem_set hm with hm | rfl
          · obtain ⟨_, _, rfl⟩ := List.mem_map.mp hm
            omega
          · omega
        · walk_at "sx"
          exact st
      rintro σ' H7 ⟨b, ms, x10, x11, x12, rfl, wk7, hr7, tz7, nb0, nbr, hb7, ml, mb⟩
      refine s_cut M ?_ ?_
      · walk_at "sx"
        refine s_dec (fun c => ?_) (fun c => ?_)
        · walk_at "sx"
          refine w_seqL (SqL.of hr7) ?_
          refine lc_inv walk_list (fun D i ys H' => WK a l H H' ∧ H' r = some (.lst zs) ∧ Tps K H' zs (qs.map dP) ∧ ∃ ms : List Int, ys = ms.map V.int ∧ ms.length = i ∧ ∀ m ∈ ms, 1 ≤ m ∧ m ≤ load) (by omega)
            (fun D H' hD e _ => ⟨wk7.same e, e _ _ hr7, tz7.same e, [], rfl, rfl, fun m hm => by cases hm⟩) (fun D i ys H' _ pv => SqL.of pv.2.1) ?_ ?_
          · rintro D i ys x H8 H9 hD hi ⟨wk8, hr8, tz8, ms, rfl, ml8, mb8⟩ hy ⟨rfl, hx⟩ Yes No hyes hno
            have nD0 := wk7.free w hD
            have fD := w.fresh nD0
            have nDr : D ≠ r := fun z => by rw [z, hr7] at hD; cases hD
            walk_at "sx"
            refine ⟨rfl, ?_⟩
            walk_at "sx"
            refine ⟨a, l, _, rfl, wk8.w, by omega, by omega, fun x HA x0 x1 wA eA => ?_⟩
            have wkA : WK a l H9 HA := ⟨wA, eA⟩
            walk_at "sx"
            refine hyes _ _ (wkA.get hy fD.1 fD.2) fun HB aB => ⟨(wk8.trans wkA).at w aB nD0, aB.ne (wkA.get hr8 fr.1 fr.2) nDr.symm, ((tz8.tm (wkA.tm wk8.w)).tm (aB.tm (wkA.get hy fD.1 fD.2))), ms ++ [1 + x], by rw [List.map_append]; rfl, by rw [List.length_append, List.length_singleton, ml8], fun m hm => ?_⟩
            rcases List.mem_append.mp hm with hm | hm
            · exact mb8 m hm
            · have : m = 1 + x := by simpa using hm
              omega
          · rintro D ys H8 hD ⟨wk8, hr8, tz8, ms, rfl, ml8, mb8⟩ hy -
            have nDr : D ≠ r := fun z => by rw [z, hr7] at hD; cases hD
            walk_at "sx"
            exact ⟨D, ms, _, _, _, rfl, wk8, hr8, tz8, wk7.free w hD, nDr, hy, by omega, mb8⟩
        · walk_at "sx"
          exact ⟨b, ms, x10, x11, x12, rfl, wk7, hr7, tz7, nb0, nbr, hb7, ml, mb⟩
      clear wk7 hr7 tz7 nb0 nbr hb7 ml mb
      rintro σ' H8 ⟨b, ms, x10, x11, x12, rfl, wk8, hr8, tz8, nb0, nbr, hb8, ml, mb⟩
      walk_at "sx"
      refine o_tupL (SqL.of hr8) (n_new fun u H9 nu e9 hu _ => ?_)
      walk_at "sx"
      refine o_tupL (SqL.of (e9 _ _ hb8)) (n_new fun v HA nv eA hv _ => ?_)
      walk_at "sx"
      refine n_of rfl fun t HB nt eB ht _ => ?_
      have e9B := Same.trans (Same.trans e9 eA) eB
      refine k _ HB n qs ms (wk8.same e9B) ?_ ⟨sq2, up2, hn, by omega, ml, mb⟩
      refine .tup (SqT.of ht) (.cons (.int n) (.cons (.tup (SqT.of (Same.trans eA eB _ _ hu)) (tz8.same e9B)) (.cons (Tp.mkints (SqT.of (eB _ _ hv))) .nil)))
  · walk_at "sx"
    refine ⟨a, l, _, rfl, A.wk.w, by decide, by decide, fun r H2 r0 r1 w2 e2 => ?_⟩
    have wk2 : WK a l H1 H2 := ⟨w2, e2⟩
    walk_at "sx"
    refine s_dec (fun c => ?_) (fun c => ?_)
    · walk_at "sx"
      refine ⟨a, l, n.toNat, by rw [show ((n.toNat : Nat) : Int) = n from by omega], w2, by omega, fun q H3 ns nq wk3 hq pm => ?_⟩
      exact rest _ _ ⟨q, ns, rfl, wk2.trans wk3, wk2.free A.wk.w nq, hq, Names.of (by omega) pm⟩
    · refine s_lstRg (s_rg1 ?_)
      walk_at "sx"
      refine ⟨⟨by omega, by omega, by omega, by omega, by omega⟩, n_new fun q H3 nq e3 hq _ => ?_⟩
      rw [rgV_iota] at hq
      exact rest _ _ ⟨q, iota n.toNat, rfl, wk2.same e3, wk2.free A.wk.w nq, hq, Names.of (by omega) (List.Perm.refl _)⟩
end UW
namespace UW
open PySem PySem.Spec PyProof.Rows L2
/-- one step -/
local macro_rules | `(tactic| walk_at "s1") => `(tactic| first
  | with_reducible refine s_seq ?_
  | with_reducible refine s_for ?_
  | with_reducible refine s_lc ?_
  | with_reducible refine w_seq ?_
  | with_reducible refine w_rng1 ?_
  | with_reducible refine w_rng2 ?_
  | with_reducible refine w_zip ?_
  | with_reducible refine s_asg ?_
  | with_reducible refine s_gname ?_
  | with_reducible refine s_ret ?_
  | with_reducible refine s_drop ?_
  | with_reducible refine s_next ?_
  | with_reducible refine s_ifs ?_
  | with_reducible refine s_var (by with_unfolding_all rfl) ?_
  | with_reducible refine s_c ?_
  | with_reducible refine s_op ?_
  | with_reducible refine s_un ?_
  | with_reducible refine s_neg ?_
  | with_reducible refine s_test ?_
  | with_reducible refine s_yes ?_
  | with_reducible refine s_tB ?_
  | with_reducible refine s_bl ?_
  | with_reducible refine s_not ?_
  | with_reducible refine s_and ?_
  | with_reducible refine s_or ?_
  | with_reducible refine s_andV ?_
  | with_reducible refine s_orV ?_
  | with_reducible refine s_notV ?_
  | with_reducible refine s_chain ?_
  | with_reducible refine s_nil ?_
  | with_reducible refine s_cons ?_
  | with_reducible refine s_tup ?_
  | with_reducible refine s_lst ?_
  | with_reducible refine s_call ?_
  | with_reducible refine s_cb ?_
  | with_reducible refine s_part ?_
  | with_reducible refine s_nopart ?_
  | with_reducible refine s_ii ?_
  | with_reducible refine s_sl ?_
  | with_reducible refine s_par ?_
  | with_reducible refine s_par2 ?_
  | with_reducible refine s_bm ?_
  | with_reducible refine s_gsub ?_
  | with_reducible refine s_gcons ?_
  | with_reducible refine s_gnil ?_
  | with_reducible refine o_addI ?_
  | with_reducible refine o_sub ?_
  | with_reducible refine o_eqI ?_
  | with_reducible refine o_neI ?_
  | with_reducible refine o_ltI ?_
  | with_reducible refine o_le ?_
  | with_reducible refine o_gt ?_
  | with_reducible refine o_ge ?_
  | with_reducible refine o_int ?_
  | with_reducible refine o_intB ?_
  | with_reducible refine o_abs ?_
  | with_reducible refine o_max2 ?_
  | with_reducible refine o_min2 ?_
  | with_reducible refine o_isN ?_
  | with_reducible refine o_notN ?_
  | with_reducible refine o_mulI (by first | exact Or.inl ⟨by decide, by decide⟩ | exact Or.inr ⟨by decide, by decide⟩ | (first | (refine Or.inl ⟨?_, ?_⟩ <;> omega) | (refine Or.inr ⟨?_, ?_⟩ <;> omega))) ?_
  | with_reducible refine o_mod (by first | decide | omega) ?_
  | with_reducible refine o_div (by first | decide | omega) (by first | decide | omega) ?_
  | with_reducible refine s_blx ?_
  | with_reducible refine o_ixL (SqL.of (by assumption)) (by first | with_unfolding_all rfl | with_unfolding_all exact at_zero _ _) ?_
  | with_reducible refine o_ixT (by assumption) (by first | with_unfolding_all rfl | with_unfolding_all exact at_zero _ _) ?_
  | with_reducible refine o_tyL (by assumption) ?_
  | with_reducible refine iteT ?_
  | with_reducible refine iteF ?_)
local macro_rules | `(tactic| walk_at "sx") => `(tactic| repeat (walk_at "s1"))
/-- loads that the roads bear -/
structure Stand (ms ls : List Int) : Prop where
  len : ls.length = ms.length
  ok : ∀ (i : Nat) (l m : Int), ls[i]? = some l → ms[i]? = some m → 0 ≤ l ∧ l ≤ m
theorem ix_int {n : Nat} {i : Int} (h0 : 0 ≤ i) (h : i < n) : ixN n i = some i.toNat := by
  have e : i = ((i.toNat : Nat) : Int) := by omega
  have := ix_nat (n := n) (j := i.toNat) (by omega)
  rwa [← e] at this
def StandTo (ms ls : List Int) (i : Nat) : Prop := ls.length = i ∧ ∀ (j : Nat) (l m : Int), ls[j]? = some l → ms[j]? = some m → 0 ≤ l ∧ l ≤ m
theorem StandTo.nil {ms : List Int} : StandTo ms [] 0 := ⟨rfl, fun j l m h => by simp at h⟩
theorem StandTo.snoc {ms ls : List Int} {i : Nat} {x m : Int} (h : StandTo ms ls i) (hm : ms[i]? = some m) (h0 : 0 ≤ x) (h1 : x ≤ m) : StandTo ms (ls ++ [x]) (i + 1) := by
  refine ⟨by rw [List.length_append, h.1]; rfl, fun j l m' e1 e2 => ?_⟩
  by_cases q : j < ls.length
  · rw [List.getElem?_append_left q] at e1
    exact h.2 j l m' e1 e2
  · rw [List.getElem?_append_right (by omega)] at e1
    by_cases z : j - ls.length = 0
    · rw [z] at e1
      have e3 : x = l := by simpa using e1
      have : j = i := by have := h.1; omega
      rw [this, hm] at e2
      cases e2
      omega
    · have : ([x] : List Int)[j - ls.length]? = none := List.getElem?_eq_none (by simp; omega)
      rw [this] at e1
      cases e1
theorem Stand.set {ms ls : List Int} {i : Nat} {x m : Int} (h : Stand ms ls) (hm : ms[i]? = some m) (h0 : 0 ≤ x) (h1 : x ≤ m) : Stand ms (ls.set i x) := by
  refine ⟨by rw [List.length_set, h.len], fun j l m' e1 e2 => ?_⟩
  rw [List.getElem?_set] at e1
  split at e1
  · next q =>
    subst q
    rw [hm] at e2
    cases e2
    split at e1
    · cases e1; exact ⟨h0, h1⟩
    · cases e1
  · exact h.ok j l m' e1 e2
end UW
namespace UW
open PySem PySem.Spec PyProof.Rows L2
/-- one step -/
local macro_rules | `(tactic| walk_at "s1") => `(tactic| first
  | with_reducible refine s_seq ?_
  | with_reducible refine s_for ?_
  | with_reducible refine s_lc ?_
  | with_reducible refine w_seq ?_
  | with_reducible refine w_rng1 ?_
  | with_reducible refine w_rng2 ?_
  | with_reducible refine w_zip ?_
  | with_reducible refine s_asg ?_
  | with_reducible refine s_gname ?_
  | with_reducible refine s_ret ?_
  | with_reducible refine s_drop ?_
  | with_reducible refine s_next ?_
  | with_reducible refine s_ifs ?_
  | with_reducible refine s_var (by with_unfolding_all rfl) ?_
  | with_reducible refine s_c ?_
  | with_reducible refine s_op ?_
  | with_reducible refine s_un ?_
  | with_reducible refine s_neg ?_
  | with_reducible refine s_test ?_
  | with_reducible refine s_yes ?_
  | with_reducible refine s_tB ?_
  | with_reducible refine s_bl ?_
  | with_reducible refine s_not ?_
  | with_reducible refine s_and ?_
  | with_reducible refine s_or ?_
  | with_reducible refine s_andV ?_
  | with_reducible refine s_orV ?_
  | with_reducible refine s_notV ?_
  | with_reducible refine s_chain ?_
  | with_reducible refine s_nil ?_
  | with_reducible refine s_cons ?_
  | with_reducible refine s_tup ?_
  | with_reducible refine s_lst ?_
  | with_reducible refine s_call ?_
  | with_reducible refine s_cb ?_
  | with_reducible refine s_part ?_
  | with_reducible refine s_nopart ?_
  | with_reducible refine s_ii ?_
  | with_reducible refine s_sl ?_
  | with_reducible refine s_par ?_
  | with_reducible refine s_par2 ?_
  | with_reducible refine s_bm ?_
  | with_reducible refine s_gsub ?_
  | with_reducible refine s_gcons ?_
  | with_reducible refine s_gnil ?_
  | with_reducible refine o_addI ?_
  | with_reducible refine o_sub ?_
  | with_reducible refine o_eqI ?_
  | with_reducible refine o_neI ?_
  | with_reducible refine o_ltI ?_
  | with_reducible refine o_le ?_
  | with_reducible refine o_gt ?_
  | with_reducible refine o_ge ?_
  | with_reducible refine o_int ?_
  | with_reducible refine o_intB ?_
  | with_reducible refine o_abs ?_
  | with_reducible refine o_max2 ?_
  | with_reducible refine o_min2 ?_
  | with_reducible refine o_isN ?_
  | with_reducible refine o_notN ?_
  | with_reducible refine o_mulI (by first | exact Or.inl ⟨by decide, by decide⟩ | exact Or.inr ⟨by decide, by decide⟩ | (first | (refine Or.inl ⟨?_, ?_⟩ <;> omega) | (refine Or.inr ⟨?_, ?_⟩ <;> omega))) ?_
  | with_reducible refine o_mod (by first | decide | omega) ?_
  | with_reducible refine o_div (by first | decide | omega) (by first | decide | omega) ?_
  | with_reducible refine s_blx ?_
  | with_reducible refine o_ixL (SqL.of (by assumption)) (by first | with_unfolding_all rfl | with_unfolding_all exact at_zero _ _) ?_
  | with_reducible refine o_ixT (by assumption) (by first | with_unfolding_all rfl | with_unfolding_all exact at_zero _ _) ?_
  | with_reducible refine o_tyL (by assumption) ?_
  | with_reducible refine iteT ?_
  | with_reducible refine iteF ?_)
local macro_rules | `(tactic| walk_at "sx") => `(tactic| repeat (walk_at "s1"))
section
variable {K : Fg} {H : Hp} {Q : VK} {a : Addr} {xs : List V} {k : Int}
end
theorem flat_rep {α : Type} (x : α) : ∀ n, (List.replicate n [x]).flatten = List.replicate n x
  | 0 => rfl
  | n + 1 => by rw [List.replicate_succ, List.replicate_succ, List.flatten_cons, flat_rep x n]; rfl
/-- the roads that are at a place -/
def atP (i : Int) (p : Int × Int) : Bool := decide (i = p.1) || decide (i = p.2)
def sumP (rs : List (Int × Int)) (ls : List Int) (i : Int) : Int := (((rs.zip ls).filter fun q => atP i q.1).map (·.2)).sum
theorem iota_get {n k : Nat} (h : k < n) : (iota n)[k]? = some (k : Int) := by
  unfold iota
  rw [List.getElem?_map, List.getElem?_range h]
  rfl
end UW
namespace UW
open PySem PySem.Spec PyProof.Rows L2
/-- one step -/
local macro_rules | `(tactic| walk_at "s1") => `(tactic| first
  | with_reducible refine s_seq ?_
  | with_reducible refine s_for ?_
  | with_reducible refine s_lc ?_
  | with_reducible refine w_seq ?_
  | with_reducible refine w_rng1 ?_
  | with_reducible refine w_rng2 ?_
  | with_reducible refine w_zip ?_
  | with_reducible refine s_asg ?_
  | with_reducible refine s_gname ?_
  | with_reducible refine s_ret ?_
  | with_reducible refine s_drop ?_
  | with_reducible refine s_next ?_
  | with_reducible refine s_ifs ?_
  | with_reducible refine s_var (by with_unfolding_all rfl) ?_
  | with_reducible refine s_c ?_
  | with_reducible refine s_op ?_
  | with_reducible refine s_un ?_
  | with_reducible refine s_neg ?_
  | with_reducible refine s_test ?_
  | with_reducible refine s_yes ?_
  | with_reducible refine s_tB ?_
  | with_reducible refine s_bl ?_
  | with_reducible refine s_not ?_
  | with_reducible refine s_and ?_
  | with_reducible refine s_or ?_
  | with_reducible refine s_andV ?_
  | with_reducible refine s_orV ?_
  | with_reducible refine s_notV ?_
  | with_reducible refine s_chain ?_
  | with_reducible refine s_nil ?_
  | with_reducible refine s_cons ?_
  | with_reducible refine s_tup ?_
  | with_reducible refine s_lst ?_
  | with_reducible refine s_call ?_
  | with_reducible refine s_cb ?_
  | with_reducible refine s_part ?_
  | with_reducible refine s_nopart ?_
  | with_reducible refine s_ii ?_
  | with_reducible refine s_sl ?_
  | with_reducible refine s_par ?_
  | with_reducible refine s_par2 ?_
  | with_reducible refine s_bm ?_
  | with_reducible refine s_gsub ?_
  | with_reducible refine s_gcons ?_
  | with_reducible refine s_gnil ?_
  | with_reducible refine o_addI ?_
  | with_reducible refine o_sub ?_
  | with_reducible refine o_eqI ?_
  | with_reducible refine o_neI ?_
  | with_reducible refine o_ltI ?_
  | with_reducible refine o_le ?_
  | with_reducible refine o_gt ?_
  | with_reducible refine o_ge ?_
  | with_reducible refine o_int ?_
  | with_reducible refine o_intB ?_
  | with_reducible refine o_abs ?_
  | with_reducible refine o_max2 ?_
  | with_reducible refine o_min2 ?_
  | with_reducible refine o_isN ?_
  | with_reducible refine o_notN ?_
  | with_reducible refine o_mulI (by first | exact Or.inl ⟨by decide, by decide⟩ | exact Or.inr ⟨by decide, by decide⟩ | (first | (refine Or.inl ⟨?_, ?_⟩ <;> omega) | (refine Or.inr ⟨?_, ?_⟩ <;> omega))) ?_
  | with_reducible refine o_mod (by first | decide | omega) ?_
  | with_reducible refine o_div (by first | decide | omega) (by first | decide | omega) ?_
  | with_reducible refine s_blx ?_
  | with_reducible refine o_ixL (SqL.of (by assumption)) (by first | with_unfolding_all rfl | with_unfolding_all exact at_zero _ _) ?_
  | with_reducible refine o_ixT (by assumption) (by first | with_unfolding_all rfl | with_unfolding_all exact at_zero _ _) ?_
  | with_reducible refine o_tyL (by assumption) ?_
  | with_reducible refine iteT ?_
  | with_reducible refine iteF ?_)
local macro_rules | `(tactic| walk_at "sx") => `(tactic| repeat (walk_at "s1"))
structure Laid (n : Int) (rs : List (Int × Int)) (ms ls : List Int) : Prop where
  ok : ∀ p ∈ rs, 0 ≤ p.1 ∧ p.1 < p.2 ∧ p.2 < n
  lm : ms.length = rs.length
  ll : ls.length = rs.length
  n0 : 0 ≤ n
  n1 : n ≤ 1000
  r1 : rs.length ≤ 1000
theorem WebOk.laid {n : Int} {rs : List (Int × Int)} {ms ls : List Int} {size room load : Int} (w : WebOk size room load n rs ms) (s : Stand ms ls) (h1 : size ≤ 1000) (h2 : room ≤ 1000) : Laid n rs ms ls :=
  ⟨w.sh.ok, w.lm, by rw [s.len, w.lm], by have := w.sh.two; omega, by have := w.sz; omega, by have := w.rm; omega⟩
def unl (rs : List (Int × Int)) (ls : List Int) (i : Nat) : Bool := (rs[i]?.map fun p => !decide (sumP rs ls p.1 = sumP rs ls p.2)).getD false
def roomy (ms ls : List Int) (i : Nat) (b : Int) : Bool := decide (0 ≤ ls.getD i 0 + b) && decide (ls.getD i 0 + b ≤ ms.getD i 0)
end UW
namespace UW
open PySem PySem.Spec PyProof.Rows L2
/-- one step -/
local macro_rules | `(tactic| walk_at "s1") => `(tactic| first
  | with_reducible refine s_seq ?_
  | with_reducible refine s_for ?_
  | with_reducible refine s_lc ?_
  | with_reducible refine w_seq ?_
  | with_reducible refine w_rng1 ?_
  | with_reducible refine w_rng2 ?_
  | with_reducible refine w_zip ?_
  | with_reducible refine s_asg ?_
  | with_reducible refine s_gname ?_
  | with_reducible refine s_ret ?_
  | with_reducible refine s_drop ?_
  | with_reducible refine s_next ?_
  | with_reducible refine s_ifs ?_
  | with_reducible refine s_var (by with_unfolding_all rfl) ?_
  | with_reducible refine s_c ?_
  | with_reducible refine s_op ?_
  | with_reducible refine s_un ?_
  | with_reducible refine s_neg ?_
  | with_reducible refine s_test ?_
  | with_reducible refine s_yes ?_
  | with_reducible refine s_tB ?_
  | with_reducible refine s_bl ?_
  | with_reducible refine s_not ?_
  | with_reducible refine s_and ?_
  | with_reducible refine s_or ?_
  | with_reducible refine s_andV ?_
  | with_reducible refine s_orV ?_
  | with_reducible refine s_notV ?_
  | with_reducible refine s_chain ?_
  | with_reducible refine s_nil ?_
  | with_reducible refine s_cons ?_
  | with_reducible refine s_tup ?_
  | with_reducible refine s_lst ?_
  | with_reducible refine s_call ?_
  | with_reducible refine s_cb ?_
  | with_reducible refine s_part ?_
  | with_reducible refine s_nopart ?_
  | with_reducible refine s_ii ?_
  | with_reducible refine s_sl ?_
  | with_reducible refine s_par ?_
  | with_reducible refine s_par2 ?_
  | with_reducible refine s_bm ?_
  | with_reducible refine s_gsub ?_
  | with_reducible refine s_gcons ?_
  | with_reducible refine s_gnil ?_
  | with_reducible refine o_addI ?_
  | with_reducible refine o_sub ?_
  | with_reducible refine o_eqI ?_
  | with_reducible refine o_neI ?_
  | with_reducible refine o_ltI ?_
  | with_reducible refine o_le ?_
  | with_reducible refine o_gt ?_
  | with_reducible refine o_ge ?_
  | with_reducible refine o_int ?_
  | with_reducible refine o_intB ?_
  | with_reducible refine o_abs ?_
  | with_reducible refine o_max2 ?_
  | with_reducible refine o_min2 ?_
  | with_reducible refine o_isN ?_
  | with_reducible refine o_notN ?_
  | with_reducible refine o_mulI (by first | exact Or.inl ⟨by decide, by decide⟩ | exact Or.inr ⟨by decide, by decide⟩ | (first | (refine Or.inl ⟨?_, ?_⟩ <;> omega) | (refine Or.inr ⟨?_, ?_⟩ <;> omega))) ?_
  | with_reducible refine o_mod (by first | decide | omega) ?_
  | with_reducible refine o_div (by first | decide | omega) (by first | decide | omega) ?_
  | with_reducible refine s_blx ?_
  | with_reducible refine o_ixL (SqL.of (by assumption)) (by first | with_unfolding_all rfl | with_unfolding_all exact at_zero _ _) ?_
  | with_reducible refine o_ixT (by assumption) (by first | with_unfolding_all rfl | with_unfolding_all exact at_zero _ _) ?_
  | with_reducible refine o_tyL (by assumption) ?_
  | with_reducible refine iteT ?_
  | with_reducible refine iteF ?_)
local macro_rules | `(tactic| walk_at "sx") => `(tactic| repeat (walk_at "s1"))
section
variable {K : Fg} {H : Hp} {Q : VK} {p : Addr} {i a b : Int}
end
end UW
namespace UW
open PySem PySem.Spec PyProof.Rows L2
/-- one step -/
local macro_rules | `(tactic| walk_at "s1") => `(tactic| first
  | with_reducible refine s_seq ?_
  | with_reducible refine s_for ?_
  | with_reducible refine s_lc ?_
  | with_reducible refine w_seq ?_
  | with_reducible refine w_rng1 ?_
  | with_reducible refine w_rng2 ?_
  | with_reducible refine w_zip ?_
  | with_reducible refine s_asg ?_
  | with_reducible refine s_gname ?_
  | with_reducible refine s_ret ?_
  | with_reducible refine s_drop ?_
  | with_reducible refine s_next ?_
  | with_reducible refine s_ifs ?_
  | with_reducible refine s_var (by with_unfolding_all rfl) ?_
  | with_reducible refine s_c ?_
  | with_reducible refine s_op ?_
  | with_reducible refine s_un ?_
  | with_reducible refine s_neg ?_
  | with_reducible refine s_test ?_
  | with_reducible refine s_yes ?_
  | with_reducible refine s_tB ?_
  | with_reducible refine s_bl ?_
  | with_reducible refine s_not ?_
  | with_reducible refine s_and ?_
  | with_reducible refine s_or ?_
  | with_reducible refine s_andV ?_
  | with_reducible refine s_orV ?_
  | with_reducible refine s_notV ?_
  | with_reducible refine s_chain ?_
  | with_reducible refine s_nil ?_
  | with_reducible refine s_cons ?_
  | with_reducible refine s_tup ?_
  | with_reducible refine s_lst ?_
  | with_reducible refine s_call ?_
  | with_reducible refine s_cb ?_
  | with_reducible refine s_part ?_
  | with_reducible refine s_nopart ?_
  | with_reducible refine s_ii ?_
  | with_reducible refine s_sl ?_
  | with_reducible refine s_par ?_
  | with_reducible refine s_par2 ?_
  | with_reducible refine s_bm ?_
  | with_reducible refine s_gsub ?_
  | with_reducible refine s_gcons ?_
  | with_reducible refine s_gnil ?_
  | with_reducible refine o_addI ?_
  | with_reducible refine o_sub ?_
  | with_reducible refine o_eqI ?_
  | with_reducible refine o_neI ?_
  | with_reducible refine o_ltI ?_
  | with_reducible refine o_le ?_
  | with_reducible refine o_gt ?_
  | with_reducible refine o_ge ?_
  | with_reducible refine o_int ?_
  | with_reducible refine o_intB ?_
  | with_reducible refine o_abs ?_
  | with_reducible refine o_max2 ?_
  | with_reducible refine o_min2 ?_
  | with_reducible refine o_isN ?_
  | with_reducible refine o_notN ?_
  | with_reducible refine o_mulI (by first | exact Or.inl ⟨by decide, by decide⟩ | exact Or.inr ⟨by decide, by decide⟩ | (first | (refine Or.inl ⟨?_, ?_⟩ <;> omega) | (refine Or.inr ⟨?_, ?_⟩ <;> omega))) ?_
  | with_reducible refine o_mod (by first | decide | omega) ?_
  | with_reducible refine o_div (by first | decide | omega) (by first | decide | omega) ?_
  | with_reducible refine s_blx ?_
  | with_reducible refine o_ixL (SqL.of (by assumption)) (by first | with_unfolding_all rfl | with_unfolding_all exact at_zero _ _) ?_
  | with_reducible refine o_ixT (by assumption) (by first | with_unfolding_all rfl | with_unfolding_all exact at_zero _ _) ?_
  | with_reducible refine o_tyL (by assumption) ?_
  | with_reducible refine iteT ?_
  | with_reducible refine iteF ?_)
local macro_rules | `(tactic| walk_at "sx") => `(tactic| repeat (walk_at "s1"))
end UW
namespace UW
open PySem PySem.Spec PyProof.Rows L2
/-- what the written part says of the base -/
structure UeC (K : Fg) (CU : Addr) : Prop where
  sg : PySem.W.specialIn K (.ref CU) "__getattribute__" = some (some (.builtin "type.__getattribute__"))
  ty : PySem.W.typeIn K (.ref CU) = some (.type "type")
  rd : PySem.W.readsIn K CU (.type "type") = true
  fi : PySem.W.findCls K (.ref CU) (.type "type") "__init__" = some (.val (.builtin "ValueError.__init__"))
section
variable {X : Cx} {e : Expr} {es : List Expr} {ta : TA} {x : Str} {p1 p2 pos : Pos} {CU C fI : Addr}
theorem pe_ueinit {pl : Sem Bool} (hg : Gl X x) (hm : X.mg x = some (.ref CU)) (T : UeC X.K CU) (ha : PA X (e :: es) ta) (hdb : (x == ("__debug__" : Str)) = false := by decide)
    (hc : eval (.Call (.Attribute (.Name x p1) "__init__" p2) (e :: es) [] pos) X.env = (do
      let o ← eval (.Name x p1) X.env
      standAt p2.atName
      let (f, fs) ← holding [o] (getMethod o "__init__" pl)
      callWith pos f fs (backTo pos (starEach (e :: es) X.env)) (backToKw pos (keywordEach [] X.env))) := by rfl)
    (he : starEach (e :: es) X.env = (false, eval e X.env) :: starEach es X.env := by rfl) (hp : (backTo pos (starEach es X.env)).any (·.1) = false := by rfl) :
    PE X (.Call (.Attribute (.Name x p1) "__init__" p2) (e :: es) [] pos) (tVeI X.K ta) := by
  refine ⟨fun pins s σ H Q I h => ?_⟩
  refine PySem.W.methodCall_KW (ld_glob I hg hm ?_ hdb) hc
  obtain ⟨m, fr⟩ := I.fr
  refine PySem.W.method_of_cls fr I.ok.mod.kin T.sg (PySem.W.cls_val fr I.ok.mod.kin T.ty T.rd T.fi (by decide +kernel) ?_)
  show wpAny _ _ (callWith pos (.builtin "ValueError.__init__") [] (backTo pos (starEach (e :: es) X.env)) []) _ _ _
  refine PyProof.Rows.callWith_method1 (thn (ha.run pos pins _ σ H _ (I.tok _) h) fun us t ⟨vs, H1, J, rv, a, D, ws, ev, hl, O, ea, q⟩ => ?_) he hp
  subst ev
  cases rv with
  | @cons _ u _ ur ra rw' =>
    obtain rfl : u = Value.ref a := ra
    have len := Paired.length rw'
    have fit : ur.length ≤ sizeLine := by
      rw [← len, sizeLine_eq]
      exact Nat.le_trans hl (by decide)
    exact oinit_ok O J ea fit fun t' J' => ⟨.non, H1, J', rfl, q⟩
/-- C(), C's own __init__ keeping sp and changing nothing -/
def tMkB (C : Addr) (sp : Sp) : L2.St → Hp → XK → Prop := fun _ H Q => ∀ a, H a = none → sp [.ref a] (upd H a (exo a C none)) (fun v H2 => v = .non ∧ H2 = upd H a (exo a C none) ∧ Q (.ref C) none H) (fun _ _ _ => False)
/-- the end of such a call -/
theorem bare_end {pins : List (Addr × Obj)} {σ : L2.St} {H1 : Hp} {Q : XK} {hp hp2 h2 : Heap} {g1 g2 : Array GenState} {d1 d2 : Drawn} {t1 t2 : Nat} {os1 os2 : OsState} {a : Addr} (T : Raises X (.ref C)) (I1 : Inv X pins σ H1 ⟨hp, g1, d1, t1, os1⟩)
    (ha : hp.objs.size ≤ a) (k : ∀ b o, hp.get? b = some o → hp2.get? b = some o) (un : Un (frs X.stack) [] (upd H1 a (exo a C none)) (upd H1 a (exo a C none)) hp2 h2) (hok : HOk X.prog X.w (upd H1 a (exo a C none)) h2) (ho : os2 = os1) (hb : AllBare g2)
    (q : Q (.ref C) none H1) : MkP X pins σ Q (.ref a) ⟨h2, g2, d2, t2, os2⟩ := by
  have na : H1 a = none := I1.hok.fresh ha
  obtain ⟨tt, hoe⟩ := exo_at hok upd_same
  obtain ⟨G, ya, yb⟩ := restrict h2 fun b => decide (b ≠ a)
  have gk : ∀ {b}, b ≠ a → G.get? b = h2.get? b := fun {b} n => ya b (decide_eq_true n)
  have ge : G.get? a = none := yb a (by simp)
  have old : ∀ {b : Addr} {o : Obj}, hp.get? b = some o → b ≠ a := fun {b o} z => Nat.ne_of_lt (Nat.lt_of_lt_of_le (Heap.lt_size z) ha)
  have up : ∀ {b : Addr} {o : Option HO}, b ≠ a → H1 b = o → upd H1 a (exo a C none) b = o := fun {b o} n y => (upd_ne n).trans y
  have U : Un (frs X.stack) [] H1 H1 hp G := {
    keep := fun b o z n y1 y2 => by
      rw [gk (old z)]
      exact un.keep b o (k _ _ z) (up (old z) n) y1 y2
    slot := fun b o z n y1 y2 => by
      rw [gk (old z)]
      exact un.slot b o (k _ _ z) (up (old z) n) y1 y2
    free := fun _ _ _ n _ => n
    there := fun b o z y => by
      rw [gk (old z)]
      exact un.there b o (k _ _ z) y
    tups := fun _ _ z => z
    frzs := fun _ _ _ z => z
    tbls := fun b ps z => ⟨#[], by rw [z]; simp⟩ }
  have hok3 : HOk X.prog X.w H1 G := fun b o z => by
    have hba : b ≠ a := fun y => by
      rw [y, na] at z
      cases z
    have hne : ∀ {c : Addr} {u : HO}, H1 c = some u → c ≠ a := fun {c u} y => ne_of_none y na
    refine (hok b o (up hba z)).stay (fun c v hc y => ?_) (fun c hc => ?_) (fun c xs hc => ?_)
    · have hca : c ≠ a := by
        rcases hc with hc | hc
        · rw [hc]
          exact hba
        · exact at_ne upd_same hc exo_own
      rw [gk hca]
      exact y
    · rw [← up (at_ne (upd_same (H := H1)) hc exo_own) rfl]
      exact hc
    · rw [← up (at_ne (upd_same (H := H1)) hc exo_tup) rfl]
      exact hc
  have J : Inv X pins σ H1 ⟨G, g2, d2, t2, os2⟩ := I1.call' (ch := []) ho U hok3 hb (fun b z => absurd z (by simp))
  refine ⟨a, _, _, ⟨G, g2, d2, t2, os2⟩, H1, .ref C, none, rfl, J, fun b o z => ?_, ge, hoe, ⟨rfl, rfl⟩, rfl, rfl, na, rfl, hb, T, q⟩
  by_cases hba : b = a
  · rw [hba, ge] at z
    cases z
  · exact (gk hba).symm.trans z
theorem pmk_bare {CX : CXT} {k : Nat} {fd : FuncData} {sp : Sp} (T : OexC X.K C) (iC : PySem.W.findIn X.K (.ref C) "__init__" = some (some (.ref fI))) (tI : PySem.W.typeIn X.K (.ref fI) = some (.type "function"))
    (F1 : FnOk X.prog X.w X.K X.mg X.base CX k fI fd ["self"] sp) (hr : Room (k + 1) X.A) (hb : Binds X.K fd ["self"] []) (hx : Passes CX X (fun _ _ _ => False)) (hm : X.mg x = some (.ref C)) (hg : Gl X x := by rfl)
    (hdb : (x == ("__debug__" : Str)) = false := by decide) : PMk X (.Call (.Name x p1) [] [] pos) (tMkB C sp) := by
  intro pins s σ H Q I h
  obtain ⟨nm, q, N, bs, bm, sn, sub, ab, col, dd, k0, k1, k2, k3, k5, hC, hbm⟩ := T.cls
  refine wpAny_Call_Name_kw (ld_glob I hg hm ?_ hdb)
  refine PySem.W.callWith_K0 I.kIn T.kC ?_
  show wpAny _ _ (call (.ref C) []) _ _ _
  obtain ⟨hp, g, dr, tk, os⟩ := s
  have hsz : hp.objs.size ≤ hp.objs.size + 1 := Nat.le_succ _
  have hn : H (hp.objs.size + 1) = none := I.hok.fresh hsz
  have hq := h (hp.objs.size + 1) hn
  have kk : ∀ b o, hp.get? b = some o → ((hp.push (PySem.W.kdv_tup [])).push (PySem.HandSPX.excO C hp.objs.size)).get? b = some o := fun _ _ z => Heap.get?_push_of_some _ (Heap.get?_push_of_some _ z)
  have hget : ((hp.push (PySem.W.kdv_tup [])).push (PySem.HandSPX.excO C hp.objs.size)).get? (hp.objs.size + 1) = some (PySem.HandSPX.excO C hp.objs.size) := by heap_get
  have I2 : Inv X pins σ (upd H (hp.objs.size + 1) (exo (hp.objs.size + 1) C none)) ⟨(hp.push (PySem.W.kdv_tup [])).push (PySem.HandSPX.excO C hp.objs.size), g, dr, tk, os⟩ :=
    I.laid (t' := tk) (a := hp.objs.size + 1) (o := exo (hp.objs.size + 1) C none) (h' := (hp.push (PySem.W.kdv_tup [])).push (PySem.HandSPX.excO C hp.objs.size)) kk hsz (exo_ok hget)
  have rv : Vals [V.ref (hp.objs.size + 1)] [Value.ref (hp.objs.size + 1)] := .cons rfl .nil
  refine wpAny_call (PySem.HandSPX.call_own F.excBase_ValueError (fun Y => PySem.HandSPX.refsVE_contains Y bm hbm) (I.kIn _ _ hC) (PySem.W.looks_findIn I.kIn iC) (fun self => PySem.W.bind_fn I.kIn self tI) (Nat.zero_le _)
    (codeAny_mono (F1.run _ X.stack _ _ ⟨[Value.ref (hp.objs.size + 1)], []⟩ [Value.ref (hp.objs.size + 1)] _ _ (fun _ _ _ => False) (hr.make C [] []) (I2.env0.make C [] []) (hb _ [Value.ref (hp.objs.size + 1)] I2.kIn rfl) rv hq) fun r s' hq' => ?_))
  cases r with
  | error er => exact hx pins σ _ _ er s' I2 hq'
  | ok fl =>
    cases fl with
    | ret u =>
      obtain ⟨v, H2, os2, bare2, un2, hok2, ru, ev, eH, q2⟩ := hq'
      subst ev
      subst eH
      obtain ⟨h2, g2, d2, t2, os'⟩ := s'
      exact ⟨ru, bare_end (raises_own T.exC T.tyC) I hsz kk un2 hok2 os2 bare2 q2⟩
    | next => exact False.elim hq'
    | brk => exact False.elim hq'
    | cont => exact False.elim hq'
end
section
variable {H : Hp} {K : Fg} {σ : L2.St} {D : Ends}
end
/-- what __init__ of such does -/
def sp_bare (K : Fg) : Sp := fun vs H Q _ => ∃ (a D : Addr), vs = [.ref a] ∧ OexC K D ∧ H a = some (exo a D none) ∧ Q .non H
theorem l_bare {K : Fg} : ∀ vs H Q E, sp_bare K vs H Q E → vs.length = 1 := by
  rintro vs H Q E ⟨a, D, rfl, _⟩
  rfl
def t_bare (K : Fg) (z : Str) : TS := tDrop (tVeI K (tCons (tVar 0) (tCons (tC (.str z)) tNil)))
theorem p_bare {K : Fg} {z : Str} {vs : List V} {H : Hp} {Q : VK} {E : XK} (h : sp_bare K vs H Q E) : t_bare K z { nx := fun _ H' => Q .non H', rt := Q } (start ["self"] vs) H := by
  obtain ⟨a, D, rfl, T, ha, q⟩ := h
  refine ⟨_, rfl, a, D, _, rfl, ?_, T, ha, q⟩
  show 1 ≤ 1000
  decide
/-- raise C(), the making told -/
theorem s_raise {K : Fg} {C : Addr} {σ : L2.St} {H : Hp} {Q : XK} (T : OexC K C) (k : Q (.ref C) none H) : tMkB C (sp_bare K) σ H Q := fun a _ => ⟨a, C, rfl, T, upd_same, rfl, rfl, k⟩
end UW
namespace UW
open PySem PySem.Spec PyProof.Rows L2
/-- a key as data -/
def kD : L2.Key → PyData
  | .inl i => .int i
  | .inr s => .str s
mutual
/-- G holds of the addresses of what might be changed -/
inductive Od (K : Fg) (G : Addr → Prop) (H : Hp) : V → PyData → Prop
  | non : Od K G H .non .none
  | bl (b : Bool) : Od K G H (.bl b) (.bool b)
  | int (i : Int) : Od K G H (.int i) (.int i)
  | str (x : Str) : Od K G H (.str x) (.str x)
  | lst {a : Addr} {xs : List V} {ds : List PyData} : G a → H a = some (.lst xs) → Ods K G H xs ds → Od K G H (.ref a) (.list ds)
  | tup {a : Addr} {xs : List V} {ds : List PyData} : SqT K H a xs → Ods K G H xs ds → Od K G H (.ref a) (.tuple ds)
  | dic {a : Addr} : G a → H a = some (.dK []) → Od K G H (.ref a) (.dict [])
  | dic1 {a : Addr} {j : Int} {v : V} {d : PyData} : G a → H a = some (.dK [(.inl j, v)]) → Od K G H v d → Od K G H (.ref a) (.dict [(.int j, d)])
  | dk {a : Addr} {ls : List (L2.Key × V)} {kvs : List (PyData × PyData)} : G a → H a = some (.dK ls) → Odk K G H ls kvs → Od K G H (.ref a) (.dict kvs)
  | dt {a : Addr} {ls : List (List L2.Key × V)} {kvs : List (PyData × PyData)} : G a → H a = some (.dT ls) → Odt K G H ls kvs → Od K G H (.ref a) (.dict kvs)
inductive Ods (K : Fg) (G : Addr → Prop) (H : Hp) : List V → List PyData → Prop
  | nil : Ods K G H [] []
  | cons {v : V} {vs : List V} {d : PyData} {ds : List PyData} : Od K G H v d → Ods K G H vs ds → Ods K G H (v :: vs) (d :: ds)
inductive Odk (K : Fg) (G : Addr → Prop) (H : Hp) : List (L2.Key × V) → List (PyData × PyData) → Prop
  | nil : Odk K G H [] []
  | cons {k : L2.Key} {v : V} {d : PyData} {ls : List (L2.Key × V)} {kvs : List (PyData × PyData)} : Od K G H v d → Odk K G H ls kvs → Odk K G H ((k, v) :: ls) ((kD k, d) :: kvs)
inductive Odt (K : Fg) (G : Addr → Prop) (H : Hp) : List (List L2.Key × V) → List (PyData × PyData) → Prop
  | nil : Odt K G H [] []
  | cons {k : List L2.Key} {v : V} {d : PyData} {ls : List (List L2.Key × V)} {kvs : List (PyData × PyData)} : Od K G H v d → Odt K G H ls kvs → Odt K G H ((k, v) :: ls) ((.tuple (k.map kD), d) :: kvs)
end
section
variable {K : Fg} {G G' : Addr → Prop} {H H' : Hp}
mutual
theorem Od.mv (t : Tm H H') (g : ∀ a o, G a → H a = some o → G' a ∧ H' a = some o) : ∀ {v : V} {d : PyData}, Od K G H v d → Od K G' H' v d
  | _, _, .non => .non
  | _, _, .bl b => .bl b
  | _, _, .int i => .int i
  | _, _, .str x => .str x
  | _, _, .lst ga h hs => .lst (g _ _ ga h).1 (g _ _ ga h).2 (Ods.mv t g hs)
  | _, _, .tup h hs => .tup (t.sq h) (Ods.mv t g hs)
  | _, _, .dic ga h => .dic (g _ _ ga h).1 (g _ _ ga h).2
  | _, _, .dic1 ga h hv => .dic1 (g _ _ ga h).1 (g _ _ ga h).2 (Od.mv t g hv)
  | _, _, .dk ga h hs => .dk (g _ _ ga h).1 (g _ _ ga h).2 (Odk.mv t g hs)
  | _, _, .dt ga h hs => .dt (g _ _ ga h).1 (g _ _ ga h).2 (Odt.mv t g hs)
theorem Ods.mv (t : Tm H H') (g : ∀ a o, G a → H a = some o → G' a ∧ H' a = some o) : ∀ {vs : List V} {ds : List PyData}, Ods K G H vs ds → Ods K G' H' vs ds
  | _, _, .nil => .nil
  | _, _, .cons h hs => .cons (Od.mv t g h) (Ods.mv t g hs)
theorem Odk.mv (t : Tm H H') (g : ∀ a o, G a → H a = some o → G' a ∧ H' a = some o) : ∀ {ls : List (L2.Key × V)} {kvs : List (PyData × PyData)}, Odk K G H ls kvs → Odk K G' H' ls kvs
  | _, _, .nil => .nil
  | _, _, .cons h hs => .cons (Od.mv t g h) (Odk.mv t g hs)
theorem Odt.mv (t : Tm H H') (g : ∀ a o, G a → H a = some o → G' a ∧ H' a = some o) : ∀ {ls : List (List L2.Key × V)} {kvs : List (PyData × PyData)}, Odt K G H ls kvs → Odt K G' H' ls kvs
  | _, _, .nil => .nil
  | _, _, .cons h hs => .cons (Od.mv t g h) (Odt.mv t g hs)
end
theorem Od.same (e : Same H H') {v : V} {d : PyData} (h : Od K G H v d) : Od K G H' v d := h.mv (Tm.same e) fun a o ga q => ⟨ga, e a o q⟩
theorem Ods.same (e : Same H H') {v : List V} {d : List PyData} (h : Ods K G H v d) : Ods K G H' v d := h.mv (Tm.same e) fun a o ga q => ⟨ga, e a o q⟩
mutual
theorem Tp.od : ∀ {v : V} {d : PyData}, Tp K H v d → Od K G H v d
  | _, _, .non => .non
  | _, _, .bl b => .bl b
  | _, _, .int i => .int i
  | _, _, .str x => .str x
  | _, _, .tup h hs => .tup h (Tps.ods hs)
theorem Tps.ods : ∀ {vs : List V} {ds : List PyData}, Tps K H vs ds → Ods K G H vs ds
  | _, _, .nil => .nil
  | _, _, .cons h hs => .cons (Tp.od h) (Tps.ods hs)
end
theorem Ods.length : ∀ {xs : List V} {ds : List PyData}, Ods K G H xs ds → xs.length = ds.length
  | _, _, .nil => rfl
  | _, _, .cons _ h => by rw [List.length_cons, List.length_cons, Ods.length h]
theorem Ods.get : ∀ {xs : List V} {ds : List PyData} {i : Nat} {x : V}, Ods K G H xs ds → xs[i]? = some x → ∃ d, ds[i]? = some d ∧ Od K G H x d
  | _, _, _, _, .nil, e => by simp at e
  | _, _, 0, _, .cons h _, e => by
    simp at e
    subst e
    exact ⟨_, rfl, h⟩
  | _, _, i + 1, x, .cons _ t, e => by
    obtain ⟨d, h1, h2⟩ := Ods.get (i := i) t (by simpa using e)
    exact ⟨d, by simpa using h1, h2⟩
theorem Ods.nth : ∀ {xs : List V} {ds : List PyData} {i : Nat} {d : PyData}, Ods K G H xs ds → ds[i]? = some d → ∃ x, xs[i]? = some x ∧ Od K G H x d
  | _, _, _, _, .nil, e => by simp at e
  | _, _, 0, _, .cons h _, e => by
    simp at e
    subst e
    exact ⟨_, rfl, h⟩
  | _, _, i + 1, x, .cons _ t, e => by
    obtain ⟨d, h1, h2⟩ := Ods.nth (i := i) t (by simpa using e)
    exact ⟨d, by simpa using h1, h2⟩
theorem Ods.append : ∀ {xs ys : List V} {ds es : List PyData}, Ods K G H xs ds → Ods K G H ys es → Ods K G H (xs ++ ys) (ds ++ es)
  | _, _, _, _, .nil, s => s
  | _, _, _, _, .cons r t, s => .cons r (Ods.append t s)
/-- the kind of data -/
def tyD : PyData → Value
  | .none => .type "NoneType"
  | .bool _ => .type "bool"
  | .int _ => .type "int"
  | .str _ => .type "str"
  | .list _ => .type "list"
  | .tuple _ => .type "tuple"
  | .dict _ => .type "dict"
theorem Od.ty {v : V} {d : PyData} (h : Od K G H v d) : TyX K H v (tyD d) := by
  cases h with
  | non => exact .base .non
  | bl b => exact .base (.bl b)
  | int i => exact .base (.int i)
  | str x => exact .base (.str x)
  | lst g h hs => exact .base (.lst h)
  | tup h hs =>
    exact .base (.tup h)
  | dic g h => exact .base (.dK h)
  | dic1 g h _ => exact .base (.dK h)
  | dk g h _ => exact .base (.dK h)
  | dt g h _ => exact .base (.dT h)
end
section
variable {X : Cx} {pins : List (Addr × Obj)} {σ : L2.St} {G : Addr → Prop} {H : Hp} {s : Shared}
/-- the place of the modules' dict is taken ahead of all -/
def Smb (h : Heap) : Prop := ∃ o, h.get? sysModules = some o
theorem smb_ne {a : Addr} {o : HO} (I : Inv X pins σ H s) (hs : Smb X.base) (h : H a = some o) : a ≠ sysModules := by
  obtain ⟨m, e⟩ := hs
  exact ne_of_none h (I.bs _ _ e).2
theorem keys_read {h : Heap} : ∀ {ks : List L2.Key} {us : List Value}, Vals (ks.map kV) us → ReadsAll h us (ks.map kD) []
  | [], _, .nil => .nil
  | .inl i :: ks, _, .cons r t => by
    obtain ⟨t', rfl⟩ := r
    exact ReadsAll.cons (as := []) (bs := []) (Reads.int i t') (keys_read t)
  | .inr x :: ks, _, .cons r t => by
    obtain ⟨t', rfl⟩ := r
    exact ReadsAll.cons (as := []) (bs := []) (Reads.str x t') (keys_read t)
theorem key_read {h : Heap} {k : L2.Key} {v : Value} (e : keyIs k v = true) : Reads h v (kD k) [] := by
  rcases keyIs_shape e with ⟨i, t, rfl, rfl⟩ | ⟨x, t, rfl, rfl⟩
  · exact .int i t
  · exact .str x t
mutual
theorem Od.reads (I : Inv X pins σ H s) (g1 : Smb X.base) : ∀ {d : PyData} {v : V} {u : Value}, Od X.K G H v d → RelV v u → ∃ as, Reads s.heap u d as ∧ sysModules ∉ as
  | _, _, _, .non, r => by
    cases r
    exact ⟨_, .none, by simp⟩
  | _, _, _, .bl b, r => by
    cases r
    exact ⟨_, .bool b, by simp⟩
  | _, _, _, .int i, r => by
    obtain ⟨t, rfl⟩ := r
    exact ⟨_, .int i t, by simp⟩
  | _, _, _, .str x, r => by
    obtain ⟨t, rfl⟩ := r
    exact ⟨_, .str x t, by simp⟩
  | _, _, _, .lst ga h hs, r => by
    cases r
    obtain ⟨its, rv, ⟨o, n, ho, hc, _, hd⟩, _⟩ := I.list (SqL.of h)
    obtain ⟨as, hr, nn⟩ := Ods.reads I g1 hs rv
    exact ⟨_, .list ho hc hd hr, fun m => (List.mem_cons.mp m).elim (fun e => smb_ne I g1 h e.symm) nn⟩
  | _, _, _, .tup h hs, r => by
    cases r
    obtain ⟨its, rv, ⟨o, ho, hc, n, hd⟩, _⟩ := I.tuple h.up
    obtain ⟨as, hr, nn⟩ := Ods.reads I g1 hs rv
    exact ⟨_, .tuple ho hc hd hr, nn⟩
  | _, _, _, .dic (a := a) ga h, r => by
    cases r
    obtain ⟨_, _, vs, kv, o, es, ep, ho, hx, hd, hs⟩ := dk_of I.hok h
    cases kv
    have e0 : es.toList = [] := by
      have h0 := hs.2.1
      generalize es.toList = l at h0
      cases h0
      rfl
    exact ⟨_, .dict (kvs := []) (as := []) (bs := []) ho hx.1 hd (by rw [e0]; exact .nil) (by rw [e0]; exact .nil), fun m => smb_ne I g1 h (by simpa using m : sysModules = _).symm⟩
  | _, _, _, .dic1 (a := a) (j := j) ga h hv, r => by
    cases r
    obtain ⟨_, _, vs, kv, o, es, ep, ho, hx, hd, hs⟩ := dk_of I.hok h
    obtain ⟨_, hp, _⟩ := hs
    cases kv with
    | cons k1 k2 =>
      cases k2
      generalize hl : es.toList = l at hp
      cases hp with
      | cons a1 a2 a3 =>
        cases a3
        obtain ⟨e1, e2⟩ := k1
        rw [← a2] at e2
        obtain ⟨bs, q2, n2⟩ := Od.reads I g1 hv e2
        rw [← e1] at a1
        obtain ⟨t, e3⟩ := Value.isInt_shape a1
        refine ⟨_, .dict (kvs := [(.int j, _)]) ho hx.1 hd (by rw [hl]; exact .cons (by show Reads s.heap (DictEntry.key _) (.int j) _; rw [e3]; exact .int j t) .nil) (by rw [hl]; exact .cons q2 .nil), fun m => ?_⟩
        simp only [List.append_nil, List.nil_append, List.cons_append, List.mem_cons] at m
        exact m.elim (fun e => smb_ne I g1 h e.symm) n2
  | _, _, _, .dk (a := a) ga h hv, r => by
    cases r
    obtain ⟨_, _, vs, kv, o, es, ep, ho, hx, hd, hs⟩ := dk_of I.hok h
    obtain ⟨_, hp, _⟩ := hs
    obtain ⟨as, bs, q1, q2, n1, n2⟩ := Odk.reads I g1 hv kv hp
    refine ⟨_, .dict ho hx.1 hd q1 q2, fun m => ?_⟩
    simp only [List.cons_append, List.mem_cons, List.mem_append] at m
    exact m.elim (fun e => smb_ne I g1 h e.symm) fun m => m.elim n1 n2
  | _, _, _, .dt (a := a) ga h hv, r => by
    cases r
    obtain ⟨_, _, xs, kt, o, es, ep, ho, hx, hd, he, _, _⟩ := dt_of I.hok h
    obtain ⟨as, bs, q1, q2, n1, n2⟩ := Odt.reads I g1 hv kt
    refine ⟨_, .dict ho hx.1 hd (as := as) (bs := bs) (by rw [he, List.map_map]; exact q1) (by rw [he, List.map_map]; exact q2), fun m => ?_⟩
    simp only [List.cons_append, List.mem_cons, List.mem_append] at m
    exact m.elim (fun e => smb_ne I g1 h e.symm) fun m => m.elim n1 n2
theorem Ods.reads (I : Inv X pins σ H s) (g1 : Smb X.base) : ∀ {ds : List PyData} {vs : List V} {us : List Value}, Ods X.K G H vs ds → Vals vs us → ∃ as, ReadsAll s.heap us ds as ∧ sysModules ∉ as
  | _, _, _, .nil, r => by
    cases r
    exact ⟨_, .nil, by simp⟩
  | _, _, _, .cons h hs, r => by
    cases r with
    | cons r1 r2 =>
      obtain ⟨as, q1, n1⟩ := Od.reads I g1 h r1
      obtain ⟨bs, q2, n2⟩ := Ods.reads I g1 hs r2
      exact ⟨_, .cons q1 q2, fun m => (List.mem_append.mp m).elim n1 n2⟩
theorem Odk.reads (I : Inv X pins σ H s) (g1 : Smb X.base) : ∀ {kvs : List (PyData × PyData)} {ls : List (L2.Key × V)} {vs : List (L2.Key × Value)} {es : List DictEntry}, Odk X.K G H ls kvs → L2.KV ls vs → Pairs (mixKind X.prog X.w) es vs →
    ∃ as bs, ReadsAll s.heap (es.map (·.key)) (kvs.map (·.1)) as ∧ ReadsAll s.heap (es.map (·.val)) (kvs.map (·.2)) bs ∧ sysModules ∉ as ∧ sysModules ∉ bs
  | _, _, _, _, .nil, kv, hp => by
    cases kv
    cases hp
    exact ⟨[], [], .nil, .nil, by simp, by simp⟩
  | _, _, _, _, .cons (k := k) h hs, kv, hp => by
    cases kv with
    | cons k1 k2 =>
      cases hp with
      | cons a1 a2 a3 =>
        obtain ⟨e1, e2⟩ := k1
        rw [← a2] at e2
        rw [← e1] at a1
        obtain ⟨bs, q2, n2⟩ := Od.reads I g1 h e2
        obtain ⟨as', bs', p1, p2, m1, m2⟩ := Odk.reads I g1 hs k2 a3
        exact ⟨[] ++ as', bs ++ bs', .cons (key_read a1) p1, .cons q2 p2, m1, fun m => (List.mem_append.mp m).elim n2 m2⟩
theorem Odt.reads (I : Inv X pins σ H s) (g1 : Smb X.base) : ∀ {kvs : List (PyData × PyData)} {ls : List (List L2.Key × V)} {xs : List (List L2.Key × Addr × Value)}, Odt X.K G H ls kvs → KT H ls xs →
    ∃ as bs, ReadsAll s.heap (xs.map ((·.key) ∘ entryOfKey (tupleKind (mixKind X.prog X.w)))) (kvs.map (·.1)) as ∧ ReadsAll s.heap (xs.map ((·.val) ∘ entryOfKey (tupleKind (mixKind X.prog X.w)))) (kvs.map (·.2)) bs ∧ sysModules ∉ as ∧ sysModules ∉ bs
  | _, _, _, .nil, kt => by
    cases kt
    exact ⟨[], [], .nil, .nil, by simp, by simp⟩
  | _, _, _, .cons (k := k) h hs, kt => by
    cases kt with
    | cons k1 k2 =>
      obtain ⟨e1, e2, e3⟩ := k1
      obtain ⟨bs, q2, n2⟩ := Od.reads I g1 h e3
      obtain ⟨as', bs', p1, p2, m1, m2⟩ := Odt.reads I g1 hs k2
      obtain ⟨its, rv, ⟨o, ho, hc, n, hd⟩, _⟩ := I.tuple (SqT.of (K := X.K) e2).up
      exact ⟨[] ++ as', bs ++ bs', .cons (.tuple ho hc hd (keys_read rv)) p1, .cons q2 p2, m1, fun m => (List.mem_append.mp m).elim n2 m2⟩
end
/-- repr(x), x odd data -/
def rReprO (K : Fg) : List V → Hp → VK → Prop := fun xs H Q => ∃ (G : Addr → Prop) (v : V) (d : PyData), xs = [v] ∧ Od K G H v d ∧ d.showable = true ∧ d.depth ≤ 60 ∧ d.shown.length ≤ sizeLine ∧ Q (.str d.shown) H
theorem call_reprO (hG : X.A.guards = some []) (hu : X.A.units + 64 < cLine) (g1 : Smb X.base) : CallR X (.builtin "repr") (rReprO X.K) := by
  intro pins s σ H xs us Q I r h
  obtain ⟨G, v, d, rfl, hd, h1, h3, h4, q⟩ := h
  cases r with
  | cons ra rn =>
    rename_i u ur
    cases rn
    obtain ⟨as, rd, nn⟩ := hd.reads I g1 ra
    have fin : ∀ {h' : Heap} {t : Tok} {tk : Nat}, (∀ b o, s.heap.get? b = some o → h'.get? b = some o) → EP X pins σ Q (.str d.shown t) { s with heap := h', toks := tk } := fun hk => ⟨.str d.shown, H, I.kept hk, ⟨_, rfl⟩, q⟩
    cases hd with
    | non =>
      cases ra
      exact PySem.P.repr_of_none ⟨.str _, H, I.tok _, ⟨_, rfl⟩, by rw [PyData.shown_none] at q; exact q⟩
    | bl b =>
      cases ra
      exact PySem.P.repr_of_bool ⟨.str _, H, I.tok _, ⟨_, rfl⟩, by rw [PyData.shown_bool] at q; exact q⟩
    | int i =>
      obtain ⟨t, rfl⟩ := ra
      exact PySem.P.repr_of_int (by simpa [PyData.showable] using h1) ⟨.str _, H, I.tok _, ⟨_, rfl⟩, by rw [PyData.shown_int] at q; exact q⟩
    | str x =>
      obtain ⟨t, rfl⟩ := ra
      rw [PyData.shown_str] at h4 q
      exact PySem.P.repr_of_str ⟨.str _, H, I.tok _, ⟨_, rfl⟩, q⟩ h4
    | lst ga h hs =>
      cases ra
      exact repr_of_reads' rd h1 (fun _ => nn) hG (by omega) (fun _ _ e => e) (fun _ _ _ hk => fin hk) h4
    | tup h hs =>
      cases ra
      exact repr_of_reads' rd h1 (fun _ => nn) hG (by omega) (fun _ _ e => e) (fun _ _ _ hk => fin hk) h4
    | dic ga h =>
      cases ra
      exact repr_of_reads' rd h1 (fun _ => nn) hG (by omega) (fun _ _ e => e) (fun _ _ _ hk => fin hk) h4
    | dic1 ga h hv =>
      cases ra
      exact repr_of_reads' rd h1 (fun _ => nn) hG (by omega) (fun _ _ e => e) (fun _ _ _ hk => fin hk) h4
    | dk ga h hv =>
      cases ra
      exact repr_of_reads' rd h1 (fun _ => nn) hG (by omega) (fun _ _ e => e) (fun _ _ _ hk => fin hk) h4
    | dt ga h hv =>
      cases ra
      exact repr_of_reads' rd h1 (fun _ => nn) hG (by omega) (fun _ _ e => e) (fun _ _ _ hk => fin hk) h4
/-- repr, in either way -/
def rReprU (K : Fg) : List V → Hp → VK → Prop := fun xs H Q => rRepr K xs H Q ∨ rReprO K xs H Q
theorem call_reprU (hG : X.A.guards = some []) (hu : X.A.units + 64 < cLine) (g1 : Smb X.base) : CallR X (.builtin "repr") (rReprU X.K) := by
  intro pins s σ H xs us Q I r h
  rcases h with h | h
  · exact call_repr hG hu pins s σ H xs us Q I r h
  · exact call_reprO hG hu g1 pins s σ H xs us Q I r h
end
/-- what is told of an own class C of errors, under the class D -/
structure ExT (K : Fg) (C D : Addr) : Prop where
  o : OexC K C
  x : ExcC K C
  e : PySem.W.exmOne K (.ref C) (.ref C) = some true
  q : PySem.W.kitOne K (.ref C) (.ref D) = some true
def rIsX (K : Fg) (cls : Value) (d : Option Addr) (a : Addr) : List V → Hp → VK → Prop := fun xs H Q => ∃ (C D : Addr) (b : Bool), cls = .ref C ∧ d = none ∧ ExcC K C ∧ xs = [.ref a, .ref D] ∧ PySem.W.kitOne K (.ref C) (.ref D) = some b ∧ Q (.bl b) H
theorem call_isX {X : Cx} {a : Addr} {oe : Obj} {cls : Value} {d : Option Addr} {pn : List (Addr × Obj)} (hz : Zc cls d oe) (hf : ∃ vs, oe.data = .fields vs) : CallR (X.suite a ((a, oe) :: pn)) (.builtin "isinstance") (rIsX X.K cls d a) := by
  intro pins s σ H xs us Q I r h
  obtain ⟨C, D, b, rfl, rfl, x, rfl, e, q⟩ := h
  exact call_isE x hz hf pins s σ H _ us Q I r ⟨.ref D, .ref D, b, rfl, fun u y => y, e, q⟩
/-- try: .., except c as the i-th: .. -/
def tTry (K : Fg) (c : Value) (i : Nat) (tb : WX → TS) (ts : Addr → Value → Option Addr → TS) (W : WX) : TS := fun D σ H => tb (wAs K c i ts W D) D σ H
/-- raise -/
def tRaise (t : L2.St → Hp → XK → Prop) (W : WX) : TS := fun _ σ H => t σ H fun cls d H' => W cls d σ H'
/-- the classes of errors -/
structure Cl where
  (UnevenError BadWeb BadStanding BadText Unfit NotJoined TooMany NoName Taken BadBatch Rejected TooManyEdits NothingToUndo NothingToRedo NoVersion BadLog : Addr)
end UW
namespace UW
open PySem PySem.Spec PyProof.Rows L2
theorem law_goM {P : Program} {w : World} {K : Fg} {mg mb : Str → Option Value} {k : Nat} {fa a : Addr} {fd : FuncData} {x : Str} {sp : Sp} {s : Shared} {vs : List Value} {H : Hp}
    (KX : K.In s.heap) (hns : s.heap.Ns mainGlobals mg) (hb : s.heap.Ns builtinsNs mb) (hbb : ∀ x : Str, x ≠ "__name__" → mb x = bootBuiltins x) (hlim : s.heap.NoLimit) (hg : s.gens = #[])
    (ha : s.heap.get? a = some { cls := .type "list", data := .seq vs.toArray }) (hr : Room k callerA) (sm : ∃ mm, s.heap.Ns sysModules mm)
    (F : ∀ base : Heap, K.In base → base.Ns mainGlobals mg → Smb base → FnG P w K mg base k fa fd [x] sp) (hbind : ∀ (s : Shared) (u : Value), BindsTo s fd ⟨[u], []⟩ [(x, u)])
    (hO : Only H) (hA : ∀ b, H b ≠ none → b = a) (hK : H a ≠ none → K.lookup a = none) (hok : HOk P w H s.heap)
    (hsp : sp [.ref a] H (fun v _ => v = .bl true) fun _ _ _ => False) :
    codeAny (model P w) callerA (.call (.ref fa) ⟨[.ref a], []⟩) (fun r s' => r = .ok (.ret (.bool true)) ∧ OldK s.heap s'.heap ∧ s'.os = s.os ∧ AllBare s'.gens) s := by
  have isA : ∀ {b : Addr} {u : HO}, H b = some u → b = a := fun {b u} q => hA b (by rw [q]; intro z; cases z)
  have seen : ∀ {b : Addr} {o : Obj}, s.heap.get? b = some o → H b = none → (hidT s.heap H).get? b = some o := fun e n => hidT_get e n
  have dfree : ∀ {b : Addr} {o : Obj} {es : Array DictEntry} {ep : Nat}, s.heap.get? b = some o → o.data = .dict es ep → H b = none := by
    intro b o es ep e d
    cases q : H b with
    | none => rfl
    | some u =>
      have z := isA q
      rw [z, ha] at e
      cases e
      cases d
  have ns' : ∀ {b : Addr} {m : Str → Option Value}, s.heap.Ns b m → (hidT s.heap H).Ns b m := by
    rintro b m ⟨o, es, ep, e, d, r⟩
    exact ⟨o, es, ep, seen e (dfree e d), d, r⟩
  have kfree : ∀ {b : Addr} {o : Obj}, K.lookup b = some o → H b = none := by
    intro b o e
    cases q : H b with
    | none => rfl
    | some u =>
      have z := isA q
      subst z
      have y := hK (by rw [q]; intro z; cases z)
      rw [y] at e
      cases e
  have kin : K.In (hidT s.heap H) := fun b o e => seen (KX b o e) (kfree e)
  obtain ⟨mc, l1, l2⟩ := hlim
  have hM : Mod K mg (hidT s.heap H) := ⟨kin, ns' hns, ⟨mb, ns' hb, hbb⟩, ⟨mc, ns' l1, l2⟩⟩
  have sB : Smb (hidT s.heap H) := by
    obtain ⟨mm, z⟩ := sm
    obtain ⟨o, _, _, e, _⟩ := ns' z
    exact ⟨o, e⟩
  have nof : ∀ b : Addr, b ∉ frs [] := fun b z => by cases z
  have e0 : Env0 P w K mg (hidT s.heap H) callerA [] s H := ⟨rfl, hM, fun b o e => of_hidT e, Nat.le_of_eq (hidT_size _ _), trivial, fun b z => absurd z (nof b), hok, .of_eq hg⟩
  refine codeAny_mono ((F _ kin (ns' hns) sB).go callerA [] s H ⟨[.ref a], []⟩ [.ref a] [.ref a] _ _ rfl hr e0 (hbind s (.ref a)) (.cons rfl .nil) hsp) ?_
  intro r s' h
  cases r with
  | error e =>
    obtain ⟨_, _, _, _, _, _, _, _, _, _, _, _, z⟩ := h
    exact (z : False).elim
  | ok fl =>
    cases fl with
    | next => exact False.elim h
    | brk => exact False.elim h
    | cont => exact False.elim h
    | ret u =>
      obtain ⟨v, H', os, bare, un, hok', rv, q⟩ := h
      have q' : v = .bl true := q
      subst q'
      obtain rfl : u = Value.bool true := rv
      refine ⟨rfl, OldK.of_keep ?_, os, bare⟩
      intro b o e
      rcases hO b with z | ⟨ob, xs, z⟩
      · exact un.keep b o e z (nof b) (by simp)
      · obtain ⟨e1, _⟩ := hok b _ z
        obtain ⟨e2, _⟩ := hok' b _ (un.frzs b ob _ z)
        rw [e] at e1
        cases e1
        exact e2
theorem law_anyM {P : Program} {w : World} {K : Fg} {mg mb : Str → Option Value} {k : Nat} {fa a : Addr} {fd : FuncData} {x : Str} {sp : Sp} {s : Shared} {vs : List Value} {ns : List Int}
    (KX : K.In s.heap) (hns : s.heap.Ns mainGlobals mg) (hb : s.heap.Ns builtinsNs mb) (hbb : ∀ x : Str, x ≠ "__name__" → mb x = bootBuiltins x) (hlim : s.heap.NoLimit) (hg : s.gens = #[])
    (ha : s.heap.get? a = some { cls := .type "list", data := .seq vs.toArray }) (hi : IntsAre vs ns) (hl : ns.length ≤ sizeLine) (hr : Room k callerA) (sm : ∃ mm, s.heap.Ns sysModules mm)
    (F : ∀ base : Heap, K.In base → base.Ns mainGlobals mg → Smb base → FnG P w K mg base k fa fd [x] sp) (hbind : ∀ (s : Shared) (u : Value), BindsTo s fd ⟨[u], []⟩ [(x, u)])
    (hsp : ∀ H : Hp, Only H → SqL K H a (ns.map V.int) → sp [.ref a] H (fun v _ => v = .bl true) fun _ _ _ => False) :
    codeAny (model P w) callerA (.call (.ref fa) ⟨[.ref a], []⟩) (fun r s' => r = .ok (.ret (.bool true)) ∧ OldK s.heap s'.heap ∧ s'.os = s.os ∧ AllBare s'.gens) s := by
  have rv := vals_ints hi
  have lv := hi.length
  cases hk : K.lookup a with
  | some o =>
    have e := KX a o hk
    rw [ha] at e
    cases e
    have hO : Only fun _ => none := fun _ => .inl rfl
    have hS : SqL K (fun _ => none) a (ns.map V.int) := .inr ⟨_, vs.toArray, _, hk, rfl, rfl, rfl, by rw [List.size_toArray, lv]; exact hl, by simpa using rv⟩
    exact law_goM KX hns hb hbb hlim hg ha hr sm F hbind hO (fun b z => absurd rfl z) (fun z => absurd rfl z) (fun b u z => by cases z) (hsp _ hO hS)
  | none =>
    have hO : Only (scrH a { cls := .type "list", data := .seq vs.toArray } (.lst (ns.map V.int))) := by
      intro b
      unfold scrH
      split
      · exact .inr ⟨_, _, rfl⟩
      · exact .inl rfl
    have hS : SqL K (scrH a { cls := .type "list", data := .seq vs.toArray } (.lst (ns.map V.int))) a (ns.map V.int) := .inl (.inr ⟨_, if_pos rfl⟩)
    refine law_goM KX hns hb hbb hlim hg ha hr sm F hbind hO ?_ (fun _ => hk) ?_ (hsp _ hO hS)
    · intro b z
      by_cases q : b = a
      · exact q
      · exact absurd (if_neg q) z
    · intro b u z
      by_cases q : b = a
      · subst q
        have z' := (if_pos rfl).symm.trans z
        cases z'
        exact ⟨ha, by rw [List.length_map]; exact hl, vs, _, rv, ha⟩
      · have z' := (if_neg q).symm.trans z
        cases z'
/-- what k_head leaves, from the law's promise; sp may lean on what is told of K -/
theorem walk_GM {l : PySem.W.OpenLaw} {n k : Nat} {q : Program} {loose : List Str} {XP : (Str → Option Value) → Heap → Prop} {YP : World → Heap → Prop} {d : DefRec} {K : Params → Fg} {x : Str}
    (hn : l.most = some n) (hn2 : n ≤ sizeLine) (hdf : d.params.defaults = []) (hr : Room k callerA) (hi : importsNone q = true)
    (hY : ∀ (w : World) (h : Heap), YP w h → (K w.params).In h)
    (F : ∀ (w : World) (mg : Str → Option Value) (fa : Addr) (h : Heap), (K w.params).In h → h.Ns mainGlobals mg → mg d.name = some (.ref fa) →
      ∃ (fd : FuncData) (sp : Sp), (∀ (s : Shared) (u : Value), BindsTo s fd ⟨[u], []⟩ [(x, u)]) ∧
        (∀ base : Heap, (K w.params).In base → base.Ns mainGlobals mg → Smb base → FnG l.prog w (K w.params) mg base k fa fd [x] sp) ∧
        ∀ (H : Hp) (a : Addr) (ns : List Int), ns.length ≤ n → SqL (K w.params) H a (ns.map V.int) → sp [.ref a] H (fun v _ => v = .bl true) fun _ _ _ => False) :
    PySem.W.WalkO q loose XP YP l.row.toRowW d [] (fun f vs => PySem.call f vs) := by
  refine Att.attach_call hn hdf ?_
  intro w s₀ s₁ mg mb fa o pm cd doc a vs ns G Y ho hd hcd hmg hobj hints hlen hg
  have KX := hY w _ Y
  obtain ⟨fd, sp, hb, hF, hsp⟩ := F w mg fa _ KX G.T.g hmg
  have sm : ∃ mm, s₁.heap.Ns sysModules mm := by
    obtain ⟨mm, z, _⟩ := (G.T.seer hi).mods
    exact ⟨mm, z⟩
  exact law_anyM KX G.T.g G.T.b G.T.builtins G.T.nolimit hg hobj hints (Nat.le_trans hlen hn2) hr sm hF hb fun H hO hS => hsp H a ns hlen hS
end UW
namespace UW
open PySem PySem.Spec PyProof.Rows L2
theorem okd_int {i : Int} (h : i.natAbs < 1000000) : Okd (.int i) 0 121 := Okd.int (Nat.lt_of_lt_of_le h (by decide))
theorem okd_dP {p : Int × Int} (h1 : p.1.natAbs < 1000000) (h2 : p.2.natAbs < 1000000) : Okd (dP p) 1 248 := by
  unfold dP
  refine Okd.tup (n := 121) (m := 2) (fun d hd => ?_) (Nat.le_refl _)
  rcases List.mem_cons.mp hd with rfl | hd
  · exact okd_int h1
  · rcases List.mem_cons.mp hd with rfl | hd
    · exact okd_int h2
    · cases hd
theorem okd_dPs {l : List (Int × Int)} {m : Nat} (h : ∀ p ∈ l, p.1.natAbs < 1000000 ∧ p.2.natAbs < 1000000) (hl : l.length ≤ m) : Okd (dPs l) 2 (m * 250 + 2) := by
  unfold dPs
  refine Okd.tup (n := 248) (fun d hd => ?_) (by rw [List.length_map]; exact hl)
  obtain ⟨p, hp, rfl⟩ := List.mem_map.mp hd
  exact okd_dP (h p hp).1 (h p hp).2
theorem okd_dIs {l : List Int} {m : Nat} (h : ∀ i ∈ l, i.natAbs < 1000000) (hl : l.length ≤ m) : Okd (dIs l) 1 (m * 123 + 2) := by
  unfold dIs
  refine Okd.tup (n := 121) (fun d hd => ?_) (by rw [List.length_map]; exact hl)
  obtain ⟨p, hp, rfl⟩ := List.mem_map.mp hd
  exact okd_int (h p hp)
theorem shaped_of {d : PyData} (h1 : d.canLay0 = true) (h2 : d.depth ≤ 60) : SeqAt.shaped d = true := by
  show (_ && decide _) = true
  rw [h1, Bool.true_and]
  exact decide_eq_true (Nat.le_trans h2 (by decide))
section
variable {K : Fg} {H : Hp} {Q : VK} {a : Addr} {d : PyData} {σ : L2.St}
end
def sp_law (K : Fg) : Sp := fun vs H Q _ => ∃ (a : Addr) (ns : List Int), vs = [.ref a] ∧ SqL K H a (ns.map V.int) ∧ ns.length ≤ 63 ∧ ∀ H' : Hp, Q (.bl true) H'
theorem l_law {K : Fg} : ∀ vs H Q E, sp_law K vs H Q E → vs.length = 1 := by
  rintro vs H Q E ⟨a, ns, rfl, _⟩
  rfl
end UW
namespace UW
open PySem PySem.Spec PyProof.Rows L2
/-- one step -/
local macro_rules | `(tactic| walk_at "s1") => `(tactic| first
  | with_reducible refine s_seq ?_
  | with_reducible refine s_for ?_
  | with_reducible refine s_lc ?_
  | with_reducible refine w_seq ?_
  | with_reducible refine w_rng1 ?_
  | with_reducible refine w_rng2 ?_
  | with_reducible refine w_zip ?_
  | with_reducible refine s_asg ?_
  | with_reducible refine s_gname ?_
  | with_reducible refine s_ret ?_
  | with_reducible refine s_drop ?_
  | with_reducible refine s_next ?_
  | with_reducible refine s_ifs ?_
  | with_reducible refine s_var (by with_unfolding_all rfl) ?_
  | with_reducible refine s_c ?_
  | with_reducible refine s_op ?_
  | with_reducible refine s_un ?_
  | with_reducible refine s_neg ?_
  | with_reducible refine s_test ?_
  | with_reducible refine s_yes ?_
  | with_reducible refine s_tB ?_
  | with_reducible refine s_bl ?_
  | with_reducible refine s_not ?_
  | with_reducible refine s_and ?_
  | with_reducible refine s_or ?_
  | with_reducible refine s_andV ?_
  | with_reducible refine s_orV ?_
  | with_reducible refine s_notV ?_
  | with_reducible refine s_chain ?_
  | with_reducible refine s_nil ?_
  | with_reducible refine s_cons ?_
  | with_reducible refine s_tup ?_
  | with_reducible refine s_lst ?_
  | with_reducible refine s_call ?_
  | with_reducible refine s_cb ?_
  | with_reducible refine s_part ?_
  | with_reducible refine s_nopart ?_
  | with_reducible refine s_ii ?_
  | with_reducible refine s_sl ?_
  | with_reducible refine s_par ?_
  | with_reducible refine s_par2 ?_
  | with_reducible refine s_bm ?_
  | with_reducible refine s_gsub ?_
  | with_reducible refine s_gcons ?_
  | with_reducible refine s_gnil ?_
  | with_reducible refine o_addI ?_
  | with_reducible refine o_sub ?_
  | with_reducible refine o_eqI ?_
  | with_reducible refine o_neI ?_
  | with_reducible refine o_ltI ?_
  | with_reducible refine o_le ?_
  | with_reducible refine o_gt ?_
  | with_reducible refine o_ge ?_
  | with_reducible refine o_int ?_
  | with_reducible refine o_intB ?_
  | with_reducible refine o_abs ?_
  | with_reducible refine o_max2 ?_
  | with_reducible refine o_min2 ?_
  | with_reducible refine o_isN ?_
  | with_reducible refine o_notN ?_
  | with_reducible refine o_mulI (by first | exact Or.inl ⟨by decide, by decide⟩ | exact Or.inr ⟨by decide, by decide⟩ | (first | (refine Or.inl ⟨?_, ?_⟩ <;> omega) | (refine Or.inr ⟨?_, ?_⟩ <;> omega))) ?_
  | with_reducible refine o_mod (by first | decide | omega) ?_
  | with_reducible refine o_div (by first | decide | omega) (by first | decide | omega) ?_
  | with_reducible refine s_blx ?_
  | with_reducible refine o_ixL (SqL.of (by assumption)) (by first | with_unfolding_all rfl | with_unfolding_all exact at_zero _ _) ?_
  | with_reducible refine o_ixT (by assumption) (by first | with_unfolding_all rfl | with_unfolding_all exact at_zero _ _) ?_
  | with_reducible refine o_tyL (by assumption) ?_
  | with_reducible refine iteT ?_
  | with_reducible refine iteF ?_)
local macro_rules | `(tactic| walk_at "sx") => `(tactic| repeat (walk_at "s1"))
/-- what repr of odd data may cost -/
structure Okx (d : PyData) (k n : Nat) : Prop where
  sh : d.showable = true
  dp : d.depth ≤ k
  ln : d.shown.length ≤ n
theorem Okd.x {d : PyData} {k n : Nat} (h : Okd d k n) : Okx d k n := ⟨h.sh, h.dp, h.ln⟩
theorem Okx.mono {d : PyData} {k n k' n' : Nat} (h : Okx d k n) (hk : k ≤ k') (hn : n ≤ n') : Okx d k' n' := ⟨h.sh, Nat.le_trans h.dp hk, Nat.le_trans h.ln hn⟩
theorem okx_all {ds : List PyData} {k n : Nat} (h : ∀ d ∈ ds, Okx d k n) : PyData.showableAll ds = true ∧ PyData.depthAll ds ≤ k ∧ piled (PyData.shownAll ds) ≤ ds.length * (n + 2) := by
  induction ds with
  | nil => exact ⟨by simp only [PyData.showableAll], by simp only [PyData.depthAll]; omega, by simp only [PyData.shownAll]; simp [piled]⟩
  | cons d ds ih =>
    obtain ⟨a, c, e⟩ := ih fun x hx => h x (List.mem_cons_of_mem _ hx)
    have q := h d (List.mem_cons_self ..)
    refine ⟨by simp only [PyData.showableAll]; rw [q.sh, a]; rfl, by simp only [PyData.depthAll]; have := q.dp; omega, ?_⟩
    simp only [PyData.shownAll]
    rw [piled_cons, List.length_cons]
    have := q.ln
    have e2 : (ds.length + 1) * (n + 2) = ds.length * (n + 2) + (n + 2) := Nat.succ_mul _ _
    omega
theorem Okx.tup {ds : List PyData} {k n m : Nat} (h : ∀ d ∈ ds, Okx d k n) (hl : ds.length ≤ m) : Okx (.tuple ds) (k + 1) (m * (n + 2) + 2) := by
  obtain ⟨a, c, e⟩ := okx_all h
  refine ⟨by simp only [PyData.showable]; exact a, by simp only [PyData.depth]; omega, ?_⟩
  simp only [PyData.shown]
  refine Nat.le_trans (tupText_le _) ?_
  have := Nat.mul_le_mul_right (n + 2) hl
  omega
theorem Okx.lst {ds : List PyData} {k n m : Nat} (h : ∀ d ∈ ds, Okx d k n) (hl : ds.length ≤ m) : Okx (.list ds) (k + 1) (m * (n + 2) + 2) := by
  obtain ⟨a, c, e⟩ := okx_all h
  refine ⟨by simp only [PyData.showable]; exact a, by simp only [PyData.depth]; omega, ?_⟩
  simp only [PyData.shown]
  refine Nat.le_trans (lstText_le _) ?_
  have := Nat.mul_le_mul_right (n + 2) hl
  omega
theorem Okx.dic : Okx (.dict []) 1 2 := by
  refine ⟨by simp only [PyData.showable, PyData.showableKv], by simp only [PyData.depth, PyData.depthKv]; omega, ?_⟩
  simp only [PyData.shown, PyData.shownKv]
  decide +kernel
theorem Okx.dic1 {d : PyData} {k n : Nat} {j : Int} (i : Okx (.int j) 0 121) (h : Okx d k n) : Okx (.dict [(.int j, d)]) (k + 1) (n + 150) := by
  refine ⟨by simp only [PyData.showable, PyData.showableKv, h.sh, Bool.and_true]; simpa only [PyData.showable] using i.sh, by simp only [PyData.depth, PyData.depthKv]; have := h.dp; omega, ?_⟩
  have a1 := i.ln
  have a2 := h.ln
  have a3 := dictText_len_le (PyData.shownKv [(.int j, d)])
  have a4 : ((PyData.shownKv [(.int j, d)]).map (·.length)).sum ≤ (PyData.shown (.int j)).length + d.shown.length + 2 := by
    simp only [PyData.shownKv, List.map_cons, List.map_nil, List.sum_cons, List.sum_nil]
    rw [strLen_append, strLen_append]
    show _ + 2 + _ + 0 ≤ _
    omega
  have a5 : (PyData.shownKv [(PyData.int j, d)]).length = 1 := by simp only [PyData.shownKv, List.length_cons, List.length_nil]
  rw [show (PyData.dict [(.int j, d)]).shown = dictText (PyData.shownKv [(.int j, d)]) from by simp only [PyData.shown]]
  omega
/-- an odd value: known data, bounded, its lists not the well's -/
def OdV (K : Fg) (a l : Addr) (k n : Nat) (H : Hp) (x : V) : Prop := ∃ d, Od K (fun b => b ≠ a ∧ b ≠ l) H x d ∧ Okx d k n
theorem OdV.wk {K : Fg} {a l : Addr} {k n : Nat} {H H' : Hp} {x : V} (w : Well H a l) (e : WK a l H H') (h : OdV K a l k n H x) : OdV K a l k n H' x := by
  obtain ⟨d, h1, h2⟩ := h
  exact ⟨d, h1.mv (e.tm w) fun b o g q => ⟨g, e.get q g.1 g.2⟩, h2⟩
theorem OdV.mono {K : Fg} {a l : Addr} {k n k' n' : Nat} {H : Hp} {x : V} (h : OdV K a l k n H x) (hk : k ≤ k') (hn : n ≤ n') : OdV K a l k' n' H x := by
  obtain ⟨d, h1, h2⟩ := h
  exact ⟨d, h1, h2.mono hk hn⟩
section
variable {K : Fg} {a l : Addr} {k n m : Nat} {σ : L2.St} {te tf : TE} {ta : TA} {H H0 : Hp}
/-- an expression that tells odd values, behind the heap H0 -/
def IE (K : Fg) (a l : Addr) (H0 : Hp) (k n : Nat) (σ : L2.St) (te : TE) : Prop := ∀ (H : Hp) (Q : VK), WK a l H0 H → (∀ x H', WK a l H H' → OdV K a l k n H' x → Q x H') → te σ H Q
/-- several -/
def IT (K : Fg) (a l : Addr) (H0 : Hp) (k n m : Nat) (σ : L2.St) (ta : TA) : Prop := ∀ (H : Hp) (R : List V → Hp → Prop), WK a l H0 H → (∀ xs H', WK a l H H' → xs.length = m → (∀ x ∈ xs, OdV K a l k n H' x) → R xs H') → ta σ H R
theorem IT.nil : IT K a l H0 k n 0 σ tNil := fun H R w q => q [] H (WK.refl w.w) rfl fun x hx => by cases hx
theorem IT.cons (h : IE K a l H0 k n σ te) (t : IT K a l H0 k n m σ ta) : IT K a l H0 k n (m + 1) σ (tCons te ta) := fun H R w q =>
  h H _ w fun x H1 e1 o1 => t H1 _ (w.trans e1) fun xs H2 e2 hl o2 => q (x :: xs) H2 (e1.trans e2) (by rw [List.length_cons, hl]) fun y hy => by
    rcases List.mem_cons.mp hy with rfl | hy
    · exact o1.wk e1.w e2
    · exact o2 y hy
theorem IE.mono {k' n' : Nat} (h : IE K a l H0 k n σ te) (hk : k ≤ k') (hn : n ≤ n') : IE K a l H0 k' n' σ te := fun H Q w q => h H Q w fun x H' e o => q x H' e (o.mono hk hn)
theorem IE.int (h : ∀ (H : Hp) (Q : VK), (∀ i : Int, i.natAbs < 2 ^ 120 → Q (.int i) H) → te σ H Q) : IE K a l H0 0 121 σ te := fun H Q w q => h H Q fun i hi => q _ H (WK.refl w.w) ⟨.int i, .int i, (Okd.int hi).x⟩
theorem IE.c {i : Int} (h : i.natAbs < 2 ^ 120) : IE K a l H0 0 121 σ (tC (.int i)) := IE.int fun _ _ q => q i h
theorem IE.bl {b : Bool} : IE K a l H0 0 121 σ (tC (.bl b)) := fun H Q w q => q _ H (WK.refl w.w) ⟨.bool b, .bl b, (Okd.bl b).x.mono (Nat.le_refl _) (by decide)⟩
theorem IE.non : IE K a l H0 0 121 σ (tC .non) := fun H Q w q => q _ H (WK.refl w.w) ⟨.none, .non, Okd.non.x.mono (Nat.le_refl _) (by decide)⟩
theorem IE.str {x : Str} (h : (reprText x).length ≤ 121) : IE K a l H0 0 121 σ (tC (.str x)) := fun H Q w q => q _ H (WK.refl w.w) ⟨.str x, .str x, (Okd.str h).x⟩
theorem ods_of {G : Addr → Prop} {H : Hp} : ∀ (xs : List V), (∀ x ∈ xs, ∃ d, Od K G H x d ∧ Okx d k n) → ∃ ds, Ods K G H xs ds ∧ ∀ d ∈ ds, Okx d k n
  | [], _ => ⟨[], .nil, fun d hd => by cases hd⟩
  | x :: xs, h => by
    obtain ⟨d, h1, h2⟩ := h x (List.mem_cons_self ..)
    obtain ⟨ds, h3, h4⟩ := ods_of xs fun y hy => h y (List.mem_cons_of_mem _ hy)
    exact ⟨d :: ds, .cons h1 h3, fun e he => by
      rcases List.mem_cons.mp he with rfl | he
      · exact h2
      · exact h4 e he⟩
theorem IE.tup (t : IT K a l H0 k n m σ ta) (hm : Nat.ble m 1000 = true) : IE K a l H0 (k + 1) (m * (n + 2) + 2) σ (tTup ta) := fun H Q w q =>
  s_tup (t H _ w fun xs H1 e1 hl ho => by
    refine n_of (by rw [hl]; exact hm) fun p H2 np e2 hp _ => ?_
    obtain ⟨ds, h3, h4⟩ := ods_of xs ho
    exact q _ H2 (e1.same e2) ⟨.tuple ds, .tup (SqT.of hp) (h3.same e2), Okx.tup h4 (by rw [← h3.length, hl]; exact Nat.le_refl _)⟩)
theorem IE.lst (t : IT K a l H0 k n m σ ta) (hm : Nat.ble m 1000 = true) : IE K a l H0 (k + 1) (m * (n + 2) + 2) σ (tLst ta) := fun H Q w q =>
  s_lst (t H _ w fun xs H1 e1 hl ho => by
    refine n_of (by rw [hl]; exact hm) fun p H2 np e2 hp _ => ?_
    obtain ⟨ds, h3, h4⟩ := ods_of xs ho
    exact q _ H2 (e1.same e2) ⟨.list ds, .lst (e1.w.fresh np) hp (h3.same e2), Okx.lst h4 (by rw [← h3.length, hl]; exact Nat.le_refl _)⟩)
theorem s_dnew {Q : VK} (q : New Q H (.dK [])) : tDNewK σ H Q := q
theorem IE.dic : IE K a l H0 1 2 σ tDNewK := fun H Q w q => s_dnew (n_new fun p H2 np e2 hp _ => q _ H2 ((WK.refl w.w).same e2) ⟨.dict [], .dic (w.w.fresh np) hp, .dic⟩)
/-- a list of odd values, not the well's -/
def OdL (K : Fg) (a l : Addr) (k n m : Nat) (H : Hp) (p : Addr) : Prop := p ≠ a ∧ p ≠ l ∧ ∃ xs, H p = some (.lst xs) ∧ xs.length = m ∧ ∀ x ∈ xs, OdV K a l k n H x
theorem OdL.wk {p : Addr} {H' : Hp} (w : Well H a l) (e : WK a l H H') (h : OdL K a l k n m H p) : OdL K a l k n m H' p := by
  obtain ⟨n1, n2, xs, h1, h2, h3⟩ := h
  exact ⟨n1, n2, xs, e.get h1 n1 n2, h2, fun x hx => (h3 x hx).wk w e⟩
end
def sp__law_pick (K : Fg) : Sp := fun vs H Q _ => ∃ (a l p : Addr) (xs : List V), vs = [.ref a, .ref p] ∧ Well H a l ∧ SqU K H p xs ∧ (∀ H', WK a l H H' → SqU K H' p xs) ∧ 0 < xs.length ∧ xs.length ≤ 1000 ∧
  ∀ (x : V) (H' : Hp), x ∈ xs → WK a l H H' → Q x H'
theorem l__law_pick {K : Fg} : ∀ vs H Q E, sp__law_pick K vs H Q E → vs.length = 2 := by
  rintro vs H Q E ⟨a, l, p, xs, rfl, _⟩
  rfl
/-- _law_pick, slots well, items -/
def t__law_pick (K : Fg) : TS :=
  (tRet (tOp (rIx K) (tVar 1) (tG (sp__law_draw K) E00 (tCons (tVar 0) (tCons (tCB (rLenU K) (tCons (tVar 1) tNil)) tNil)))))
theorem p__law_pick {K : Fg} {vs : List V} {H : Hp} {Q : VK} {E : XK} (h : sp__law_pick K vs H Q E) : t__law_pick K { nx := fun _ H' => Q .non H', rt := Q } (start ["well", "items"] vs) H := by
  obtain ⟨a, l, p, xs, rfl, w, hp, keep, h0, h1, k⟩ := h
  show t__law_pick K _ [some (.ref a), some (.ref p)] H
  unfold t__law_pick
  walk_at "sx"
  refine ⟨p, xs, rfl, hp, ?_⟩
  walk_at "sx"
  refine ⟨a, l, _, rfl, w, by omega, by omega, fun r H1 r0 r1 w1 e1 => ?_⟩
  have wk : WK a l H H1 := ⟨w1, e1⟩
  have hx : xs[r.toNat]? = some (xs[r.toNat]'(by omega)) := List.getElem?_eq_getElem _
  have ha : atI xs r = some (xs[r.toNat]'(by omega)) := at_of (show r = ((r.toNat : Nat) : Int) by omega) hx
  rcases keep H1 wk with q | q
  · exact o_ixL q ha (k _ _ (List.mem_of_getElem? hx) wk)
  · exact o_ixT0 q ha (k _ _ (List.mem_of_getElem? hx) wk)
end UW
namespace UW
open PySem PySem.Spec PyProof.Rows L2
/-- one step -/
local macro_rules | `(tactic| walk_at "s1") => `(tactic| first
  | with_reducible refine s_seq ?_
  | with_reducible refine s_for ?_
  | with_reducible refine s_lc ?_
  | with_reducible refine w_seq ?_
  | with_reducible refine w_rng1 ?_
  | with_reducible refine w_rng2 ?_
  | with_reducible refine w_zip ?_
  | with_reducible refine s_asg ?_
  | with_reducible refine s_gname ?_
  | with_reducible refine s_ret ?_
  | with_reducible refine s_drop ?_
  | with_reducible refine s_next ?_
  | with_reducible refine s_ifs ?_
  | with_reducible refine s_var (by with_unfolding_all rfl) ?_
  | with_reducible refine s_c ?_
  | with_reducible refine s_op ?_
  | with_reducible refine s_un ?_
  | with_reducible refine s_neg ?_
  | with_reducible refine s_test ?_
  | with_reducible refine s_yes ?_
  | with_reducible refine s_tB ?_
  | with_reducible refine s_bl ?_
  | with_reducible refine s_not ?_
  | with_reducible refine s_and ?_
  | with_reducible refine s_or ?_
  | with_reducible refine s_andV ?_
  | with_reducible refine s_orV ?_
  | with_reducible refine s_notV ?_
  | with_reducible refine s_chain ?_
  | with_reducible refine s_nil ?_
  | with_reducible refine s_cons ?_
  | with_reducible refine s_tup ?_
  | with_reducible refine s_lst ?_
  | with_reducible refine s_call ?_
  | with_reducible refine s_cb ?_
  | with_reducible refine s_part ?_
  | with_reducible refine s_nopart ?_
  | with_reducible refine s_ii ?_
  | with_reducible refine s_sl ?_
  | with_reducible refine s_par ?_
  | with_reducible refine s_par2 ?_
  | with_reducible refine s_bm ?_
  | with_reducible refine s_gsub ?_
  | with_reducible refine s_gcons ?_
  | with_reducible refine s_gnil ?_
  | with_reducible refine o_addI ?_
  | with_reducible refine o_sub ?_
  | with_reducible refine o_eqI ?_
  | with_reducible refine o_neI ?_
  | with_reducible refine o_ltI ?_
  | with_reducible refine o_le ?_
  | with_reducible refine o_gt ?_
  | with_reducible refine o_ge ?_
  | with_reducible refine o_int ?_
  | with_reducible refine o_intB ?_
  | with_reducible refine o_abs ?_
  | with_reducible refine o_max2 ?_
  | with_reducible refine o_min2 ?_
  | with_reducible refine o_isN ?_
  | with_reducible refine o_notN ?_
  | with_reducible refine o_mulI (by first | exact Or.inl ⟨by decide, by decide⟩ | exact Or.inr ⟨by decide, by decide⟩ | (first | (refine Or.inl ⟨?_, ?_⟩ <;> omega) | (refine Or.inr ⟨?_, ?_⟩ <;> omega))) ?_
  | with_reducible refine o_mod (by first | decide | omega) ?_
  | with_reducible refine o_div (by first | decide | omega) (by first | decide | omega) ?_
  | with_reducible refine s_blx ?_
  | with_reducible refine o_ixL (SqL.of (by assumption)) (by first | with_unfolding_all rfl | with_unfolding_all exact at_zero _ _) ?_
  | with_reducible refine o_ixT (by assumption) (by first | with_unfolding_all rfl | with_unfolding_all exact at_zero _ _) ?_
  | with_reducible refine o_tyL (by assumption) ?_
  | with_reducible refine iteT ?_
  | with_reducible refine iteF ?_)
local macro_rules | `(tactic| walk_at "sx") => `(tactic| repeat (walk_at "s1"))
section
variable {K : Fg} {G : Addr → Prop} {H : Hp} {Q : VK} {x : V} {d : PyData}
theorem Od.tup_inv {ds : List PyData} (h : Od K G H x (.tuple ds)) : ∃ p xs, x = .ref p ∧ SqT K H p xs ∧ Ods K G H xs ds := by
  cases h with
  | tup h hs => exact ⟨_, _, rfl, h, hs⟩
theorem Od.int_inv {i : Int} (h : Od K G H x (.int i)) : x = .int i := by cases h; rfl
theorem Ods.cons_inv {xs : List V} {ds : List PyData} (h : Ods K G H xs (d :: ds)) : ∃ v vs, xs = v :: vs ∧ Od K G H v d ∧ Ods K G H vs ds := by
  cases h with
  | cons h hs => exact ⟨_, _, rfl, h, hs⟩
theorem Ods.nil_inv {xs : List V} (h : Ods K G H xs []) : xs = [] := by cases h; rfl
end
/-- what keeps data from being a deed that is let -/
def deedO (rs : List (Int × Int)) (ms ls : List Int) : PyData → Option Str
  | .tuple [.int r, .int b] => if 0 ≤ r ∧ r < rs.length then (if b = 1 ∨ b = -1 then (if unl rs ls r.toNat = true then (if roomy ms ls r.toNat b = true then none else some "room") else some "alike") else some "by") else some "road"
  | _ => some "form"
theorem len_two {α : Type} {xs : List α} (h : xs.length = 2) : ∃ x y, xs = [x, y] := by
  match xs, h with
  | [x, y], _ => exact ⟨x, y, rfl⟩
end UW
namespace UW
open PySem PySem.Spec PyProof.Rows L2
/-- one step -/
local macro_rules | `(tactic| walk_at "s1") => `(tactic| first
  | with_reducible refine s_seq ?_
  | with_reducible refine s_for ?_
  | with_reducible refine s_lc ?_
  | with_reducible refine w_seq ?_
  | with_reducible refine w_rng1 ?_
  | with_reducible refine w_rng2 ?_
  | with_reducible refine w_zip ?_
  | with_reducible refine s_asg ?_
  | with_reducible refine s_gname ?_
  | with_reducible refine s_ret ?_
  | with_reducible refine s_drop ?_
  | with_reducible refine s_next ?_
  | with_reducible refine s_ifs ?_
  | with_reducible refine s_var (by with_unfolding_all rfl) ?_
  | with_reducible refine s_c ?_
  | with_reducible refine s_op ?_
  | with_reducible refine s_un ?_
  | with_reducible refine s_neg ?_
  | with_reducible refine s_test ?_
  | with_reducible refine s_yes ?_
  | with_reducible refine s_tB ?_
  | with_reducible refine s_bl ?_
  | with_reducible refine s_not ?_
  | with_reducible refine s_and ?_
  | with_reducible refine s_or ?_
  | with_reducible refine s_andV ?_
  | with_reducible refine s_orV ?_
  | with_reducible refine s_notV ?_
  | with_reducible refine s_chain ?_
  | with_reducible refine s_nil ?_
  | with_reducible refine s_cons ?_
  | with_reducible refine s_tup ?_
  | with_reducible refine s_lst ?_
  | with_reducible refine s_call ?_
  | with_reducible refine s_cb ?_
  | with_reducible refine s_part ?_
  | with_reducible refine s_nopart ?_
  | with_reducible refine s_ii ?_
  | with_reducible refine s_sl ?_
  | with_reducible refine s_par ?_
  | with_reducible refine s_par2 ?_
  | with_reducible refine s_bm ?_
  | with_reducible refine s_gsub ?_
  | with_reducible refine s_gcons ?_
  | with_reducible refine s_gnil ?_
  | with_reducible refine o_addI ?_
  | with_reducible refine o_sub ?_
  | with_reducible refine o_eqI ?_
  | with_reducible refine o_neI ?_
  | with_reducible refine o_ltI ?_
  | with_reducible refine o_le ?_
  | with_reducible refine o_gt ?_
  | with_reducible refine o_ge ?_
  | with_reducible refine o_int ?_
  | with_reducible refine o_intB ?_
  | with_reducible refine o_abs ?_
  | with_reducible refine o_max2 ?_
  | with_reducible refine o_min2 ?_
  | with_reducible refine o_isN ?_
  | with_reducible refine o_notN ?_
  | with_reducible refine o_mulI (by first | exact Or.inl ⟨by decide, by decide⟩ | exact Or.inr ⟨by decide, by decide⟩ | (first | (refine Or.inl ⟨?_, ?_⟩ <;> omega) | (refine Or.inr ⟨?_, ?_⟩ <;> omega))) ?_
  | with_reducible refine o_mod (by first | decide | omega) ?_
  | with_reducible refine o_div (by first | decide | omega) (by first | decide | omega) ?_
  | with_reducible refine s_blx ?_
  | with_reducible refine o_ixL (SqL.of (by assumption)) (by first | with_unfolding_all rfl | with_unfolding_all exact at_zero _ _) ?_
  | with_reducible refine o_ixT (by assumption) (by first | with_unfolding_all rfl | with_unfolding_all exact at_zero _ _) ?_
  | with_reducible refine o_tyL (by assumption) ?_
  | with_reducible refine iteT ?_
  | with_reducible refine iteF ?_)
local macro_rules | `(tactic| walk_at "sx") => `(tactic| repeat (walk_at "s1"))
end UW
namespace UW
open PySem PySem.Spec PyProof.Rows L2
/-- one step -/
local macro_rules | `(tactic| walk_at "s1") => `(tactic| first
  | with_reducible refine s_seq ?_
  | with_reducible refine s_for ?_
  | with_reducible refine s_lc ?_
  | with_reducible refine w_seq ?_
  | with_reducible refine w_rng1 ?_
  | with_reducible refine w_rng2 ?_
  | with_reducible refine w_zip ?_
  | with_reducible refine s_asg ?_
  | with_reducible refine s_gname ?_
  | with_reducible refine s_ret ?_
  | with_reducible refine s_drop ?_
  | with_reducible refine s_next ?_
  | with_reducible refine s_ifs ?_
  | with_reducible refine s_var (by with_unfolding_all rfl) ?_
  | with_reducible refine s_c ?_
  | with_reducible refine s_op ?_
  | with_reducible refine s_un ?_
  | with_reducible refine s_neg ?_
  | with_reducible refine s_test ?_
  | with_reducible refine s_yes ?_
  | with_reducible refine s_tB ?_
  | with_reducible refine s_bl ?_
  | with_reducible refine s_not ?_
  | with_reducible refine s_and ?_
  | with_reducible refine s_or ?_
  | with_reducible refine s_andV ?_
  | with_reducible refine s_orV ?_
  | with_reducible refine s_notV ?_
  | with_reducible refine s_chain ?_
  | with_reducible refine s_nil ?_
  | with_reducible refine s_cons ?_
  | with_reducible refine s_tup ?_
  | with_reducible refine s_lst ?_
  | with_reducible refine s_call ?_
  | with_reducible refine s_cb ?_
  | with_reducible refine s_part ?_
  | with_reducible refine s_nopart ?_
  | with_reducible refine s_ii ?_
  | with_reducible refine s_sl ?_
  | with_reducible refine s_par ?_
  | with_reducible refine s_par2 ?_
  | with_reducible refine s_bm ?_
  | with_reducible refine s_gsub ?_
  | with_reducible refine s_gcons ?_
  | with_reducible refine s_gnil ?_
  | with_reducible refine o_addI ?_
  | with_reducible refine o_sub ?_
  | with_reducible refine o_eqI ?_
  | with_reducible refine o_neI ?_
  | with_reducible refine o_ltI ?_
  | with_reducible refine o_le ?_
  | with_reducible refine o_gt ?_
  | with_reducible refine o_ge ?_
  | with_reducible refine o_int ?_
  | with_reducible refine o_intB ?_
  | with_reducible refine o_abs ?_
  | with_reducible refine o_max2 ?_
  | with_reducible refine o_min2 ?_
  | with_reducible refine o_isN ?_
  | with_reducible refine o_notN ?_
  | with_reducible refine o_mulI (by first | exact Or.inl ⟨by decide, by decide⟩ | exact Or.inr ⟨by decide, by decide⟩ | (first | (refine Or.inl ⟨?_, ?_⟩ <;> omega) | (refine Or.inr ⟨?_, ?_⟩ <;> omega))) ?_
  | with_reducible refine o_mod (by first | decide | omega) ?_
  | with_reducible refine o_div (by first | decide | omega) (by first | decide | omega) ?_
  | with_reducible refine s_blx ?_
  | with_reducible refine o_ixL (SqL.of (by assumption)) (by first | with_unfolding_all rfl | with_unfolding_all exact at_zero _ _) ?_
  | with_reducible refine o_ixT (by assumption) (by first | with_unfolding_all rfl | with_unfolding_all exact at_zero _ _) ?_
  | with_reducible refine o_tyL (by assumption) ?_
  | with_reducible refine iteT ?_
  | with_reducible refine iteF ?_)
local macro_rules | `(tactic| walk_at "sx") => `(tactic| repeat (walk_at "s1"))
section
variable {K : Fg} {H : Hp} {Q : VK} {a b : Addr} {xs ys : List V} {lo hi : Option Int}
theorem o_catT (h1 : SqT K H a xs) (h2 : SqT K H b ys) (hl : xs.length + ys.length ≤ 100000) (k : ∀ p H', Same H H' → SqT K H' p (xs ++ ys) → Q (.ref p) H') : rAddU K (.ref a) (.ref b) H Q :=
  .inr (.inr (.inl ⟨a, b, xs, ys, rfl, rfl, h1.up, h2.up, Nat.le_trans hl (by decide), fun e => k b H (Same.refl _) (by rw [e]; exact h2), fun _ e => k a H (Same.refl _) (by rw [e, List.append_nil]; exact h1), fun _ _ p np => k p _ (Same.new np) (SqT.of upd_same)⟩))
end
/-- the standing behind a deed -/
def bh (ls : List Int) (r b : Int) : List Int := ls.set r.toNat (ls.getD r.toNat 0 + b)
section
variable {K : Fg} {H : Hp} {σ : L2.St} {D : Ends} {W : WX} {t : L2.St → Hp → XK → Prop} {tb : WX → TS} {ts : Addr → Value → Option Addr → TS} {c : Value} {i : Nat}
theorem s_rse (k : t σ H fun cls d H' => W cls d σ H') : tRaise t W D σ H := k
theorem s_try (k : tb (wAs K c i ts W D) D σ H) : tTry K c i tb ts W D σ H := k
/-- the error that is named -/
theorem w_caught {C : Addr} (T : PySem.W.exmOne K (.ref C) (.ref C) = some true) (k : ∀ a, H a = none → ts a (.ref C) none { nx := fun σ' H' => D.nx (σ'.set i none) H', rt := D.rt, bk := fun σ' H' => D.bk (σ'.set i none) H', ct := fun σ' H' => D.ct (σ'.set i none) H' } (σ.set i (some (.ref a))) H) :
    wAs K (.ref C) i ts W D (.ref C) none σ H := ⟨true, T, fun _ a na => k a na, fun z => by cases z⟩
end
end UW
namespace UW
open PySem PySem.Spec PyProof.Rows L2
structure There (n : Int) (rs : List (Int × Int)) (ms ls : List Int) (r b : Int) : Prop where
  L : Laid n rs ms (bh ls r b)
  s : Stand ms (bh ls r b)
  d : deedO rs ms (bh ls r b) (.tuple [.int r, .int (-b)]) = none
  e : bh (bh ls r b) r (-b) = ls
end UW
namespace UW
open PySem PySem.Spec PyProof.Rows L2
end UW
namespace UW
open PySem PySem.Spec PyProof.Rows L2
/-- what a dict of one's own holds -/
inductive Dic where
  | k (kvs : List (L2.Key × PyData))
  | t (kvs : List (List L2.Key × PyData))
/-- what stands in a slot -/
inductive Sot where
  | x
  | d (d : PyData)
  | own (ds : List PyData)
  | wl (u : Nat)
  | err (a : Addr)
  | erx (a dx : Addr) (fs : List (Str × PyData))
  | dic (c : Dic)
/-- what an expression is worth: data; a new list; the list of a slot; the well -/
inductive Avl where
  | d (d : PyData)
  | l (ds : List PyData)
  | b (i : Nat) (ds : List PyData)
  | wl (u : Nat)
  | k (c : Dic)
abbrev Sot.well : Sot := .wl 0
abbrev Avl.w : Avl := .wl 0
abbrev Afr := List Sot
/-- as data -/
def Avl.dat : Avl → Option PyData
  | .d x => some x
  | .l ds => some (.list ds)
  | .b _ ds => some (.list ds)
  | .wl _ => none
  | .k _ => none
/-- as data that may be kept -/
def Avl.cl : Avl → Option PyData
  | .d x => some x
  | .l ds => some (.list ds)
  | _ => none
def Avl.tup : Avl → Option (List PyData)
  | .d (.tuple ds) => some ds
  | _ => none
def Avl.lst : Avl → Option (List PyData)
  | .d (.list ds) => some ds
  | .l ds => some ds
  | .b _ ds => some ds
  | _ => none
def Avl.isB : Avl → Bool
  | .b _ _ => true
  | _ => false
def Sot.av (i : Nat) : Sot → Option Avl
  | .x => none
  | .d y => some (.d y)
  | .own ds => some (.b i ds)
  | .wl u => some (.wl u)
  | .err _ => none
  | .erx _ _ _ => none
  | .dic _ => none
/-- where the well is -/
def Urn (H : Hp) (a l : Addr) : Prop := ∃ (cs : List Int) (s t c : Int), H a = some (.lst [.ref l, .int s, .int t, .int c]) ∧ H l = some (.lst (cs.map V.int)) ∧ cs.length ≤ 64 ∧ 0 ≤ t ∧ t < 4294967296
def Bag (H : Hp) (a l : Addr) : Prop := ∃ (cs : List Int) (s c : Int), H a = some (.dK [(.inr "great", .ref l), (.inr "mixed", .int s), (.inr "turn", .int c)]) ∧ H l = some (.lst (cs.map V.int)) ∧ cs.length ≤ 64
def Jar (H : Hp) (a l m : Addr) : Prop := ∃ (cs ds : List Int) (s c : Int), H a = some (.dK [(.inr "far", .ref l), (.inr "cells", .ref m), (.inr "seal", .int s), (.inr "count", .int c)]) ∧ H l = some (.lst (cs.map V.int)) ∧ cs.length ≤ 64 ∧ H m = some (.lst (ds.map V.int)) ∧ ds.length ≤ 64 ∧ ds ≠ [] ∧ l ≠ m
def Deck (H : Hp) (a l : Addr) : Prop := ∃ (cs : List Int) (s : Int), H a = some (.dK [(.inr "deep", .ref l), (.inr "state", .int s)]) ∧ H l = some (.lst (cs.map V.int)) ∧ cs.length ≤ 64
/-- the ways in which laws keep what they draw from -/
def WelU : Nat → Hp → Addr → Addr → Addr → Prop
  | 0, H, a, l, m => Well H a l ∧ m = l
  | 1, H, a, l, m => Urn H a l ∧ m = l
  | 2, H, a, l, m => Bag H a l ∧ m = l
  | 3, H, a, l, m => Jar H a l m
  | _, H, a, l, m => Deck H a l ∧ m = l
theorem WelU.mt {u : Nat} {H : Hp} {a l m b : Addr} (w : WelU u H a l m) (h : b = a ∨ b = l ∨ b = m) : ∃ o, H b = some o ∧ ∀ xs, o ≠ .tup xs := by
  match u, w with
  | 0, ⟨⟨cs, s, c, e1, e2, _⟩, e⟩ => rcases h with rfl | rfl | h <;> first | exact ⟨_, e1, fun _ z => by cases z⟩ | exact ⟨_, e2, fun _ z => by cases z⟩ | (subst h; subst e; exact ⟨_, e2, fun _ z => by cases z⟩)
  | 1, ⟨⟨cs, s, t, c, e1, e2, _⟩, e⟩ => rcases h with rfl | rfl | h <;> first | exact ⟨_, e1, fun _ z => by cases z⟩ | exact ⟨_, e2, fun _ z => by cases z⟩ | (subst h; subst e; exact ⟨_, e2, fun _ z => by cases z⟩)
  | 2, ⟨⟨cs, s, c, e1, e2, _⟩, e⟩ => rcases h with rfl | rfl | h <;> first | exact ⟨_, e1, fun _ z => by cases z⟩ | exact ⟨_, e2, fun _ z => by cases z⟩ | (subst h; subst e; exact ⟨_, e2, fun _ z => by cases z⟩)
  | 3, ⟨cs, ds, s, c, e1, e2, _, e3, _⟩ => rcases h with rfl | rfl | rfl <;> first | exact ⟨_, e1, fun _ z => by cases z⟩ | exact ⟨_, e2, fun _ z => by cases z⟩ | exact ⟨_, e3, fun _ z => by cases z⟩
  | n + 4, ⟨⟨cs, s, e1, e2, _⟩, e⟩ => rcases h with rfl | rfl | h <;> first | exact ⟨_, e1, fun _ z => by cases z⟩ | exact ⟨_, e2, fun _ z => by cases z⟩ | (subst h; subst e; exact ⟨_, e2, fun _ z => by cases z⟩)
theorem WelU.keep {u : Nat} {H H' : Hp} {a l m : Addr} (w : WelU u H a l m) (h : ∀ b o, (b = a ∨ b = l ∨ b = m) → H b = some o → H' b = some o) : WelU u H' a l m := by
  match u, w with
  | 0, ⟨⟨cs, s, c, e1, e2, e3⟩, e⟩ => exact ⟨⟨cs, s, c, h _ _ (.inl rfl) e1, h _ _ (.inr (.inl rfl)) e2, e3⟩, e⟩
  | 1, ⟨⟨cs, s, t, c, e1, e2, e3⟩, e⟩ => exact ⟨⟨cs, s, t, c, h _ _ (.inl rfl) e1, h _ _ (.inr (.inl rfl)) e2, e3⟩, e⟩
  | 2, ⟨⟨cs, s, c, e1, e2, e3⟩, e⟩ => exact ⟨⟨cs, s, c, h _ _ (.inl rfl) e1, h _ _ (.inr (.inl rfl)) e2, e3⟩, e⟩
  | 3, ⟨cs, ds, s, c, e1, e2, e4, e3, e5⟩ => exact ⟨cs, ds, s, c, h _ _ (.inl rfl) e1, h _ _ (.inr (.inl rfl)) e2, e4, h _ _ (.inr (.inr rfl)) e3, e5⟩
  | n + 4, ⟨⟨cs, s, e1, e2, e3⟩, e⟩ => exact ⟨⟨cs, s, h _ _ (.inl rfl) e1, h _ _ (.inr (.inl rfl)) e2, e3⟩, e⟩
structure Wel where
  a : Addr
  l : Addr
  m : Addr
  u : Nat
  on : Bool
def Wel.has (W : Wel) (b : Addr) : Prop := W.on = true ∧ (b = W.a ∨ b = W.l ∨ b = W.m)
def Wel.is (W : Wel) (u : Nat) : Prop := W.on = true ∧ W.u = u
def Wel.ok (W : Wel) (H : Hp) : Prop := W.on = true → WelU W.u H W.a W.l W.m
theorem Wel.mt {W : Wel} {H : Hp} (w : W.ok H) {b : Addr} (h : W.has b) : ∃ o, H b = some o ∧ ∀ xs, o ≠ .tup xs := (w h.1).mt h.2
theorem Wel.ok.of {W : Wel} {H : Hp} {u : Nat} (w : W.ok H) (h : W.is u) : WelU u H W.a W.l W.m := by
  have := w h.1
  rw [h.2] at this
  exact this
theorem Wel.ok.keep {W : Wel} {H H' : Hp} (w : W.ok H) (h : ∀ b o, W.has b → H b = some o → H' b = some o) : W.ok H' := fun on => (w on).keep fun b o e q => h b o ⟨on, e⟩ q
theorem Wel.ok.put {W : Wel} {H : Hp} {p : Addr} {u : HO} (w : W.ok H) (n : ¬ W.has p) : W.ok (upd H p u) := w.keep fun b o z e => by
  have ne : b ≠ p := fun y => n (by rw [← y]; exact z)
  rw [upd_ne ne]
  exact e
theorem Wel.ne {W : Wel} {H : Hp} (w : W.ok H) {b : Addr} (h : H b = none) : ¬ W.has b := fun z => by
  obtain ⟨vs, e, _⟩ := Wel.mt w z
  rw [h] at e
  cases e
abbrev Ads := Addr → Prop
/-- what an expression does to the heap: it grows, draws from the well; S: where lists of kept data may be -/
structure Mvh (W : Wel) (S : Ads) (H : Hp) (S' : Ads) (H' : Hp) : Prop where
  k : ∀ b o, H b = some o → ¬ W.has b → H' b = some o
  w : W.ok H'
  s : ∀ b, S b → S' b
  n : ∀ b, S' b → S b ∨ H b = none
  t : ∀ b, S' b → H' b ≠ none ∧ ¬ W.has b
section
variable {W : Wel} {S S1 S2 : Ads} {H H1 H2 : Hp} {K : Fg}
theorem Mvh.back (m : Mvh W S H S1 H1) {b : Addr} (h : H1 b = none) : H b = none := by
  cases q : H b with
  | none => rfl
  | some o =>
    by_cases z : W.has b
    · obtain ⟨vs, e, _⟩ := Wel.mt m.w z
      rw [h] at e
      cases e
    · rw [m.k b o q z] at h
      cases h
theorem Mvh.trans (m : Mvh W S H S1 H1) (n : Mvh W S1 H1 S2 H2) : Mvh W S H S2 H2 := by
  refine ⟨fun b o h z => n.k b o (m.k b o h z) z, n.w, fun b h => n.s b (m.s b h), fun b h => ?_, n.t⟩
  rcases n.n b h with q | q
  · exact m.n b q
  · exact .inr (m.back q)
theorem Mvh.tm (w : W.ok H) (m : Mvh W S H S1 H1) : Tm H H1 := by
  intro a xs h
  by_cases z : W.has a
  · obtain ⟨vs, e, ne⟩ := Wel.mt w z
    rw [h] at e
    exact absurd (Option.some.inj e).symm (ne xs)
  · exact m.k _ _ h z
theorem Mvh.od (w : W.ok H) (t : ∀ b, S b → ¬ W.has b) (m : Mvh W S H S1 H1) {v : V} {d : PyData} (h : Od K S H v d) : Od K S1 H1 v d :=
  h.mv (m.tm w) fun a o ga q => ⟨m.s a ga, m.k a o q (t a ga)⟩
theorem Mvh.ods (w : W.ok H) (t : ∀ b, S b → ¬ W.has b) (m : Mvh W S H S1 H1) {v : List V} {d : List PyData} (h : Ods K S H v d) : Ods K S1 H1 v d :=
  h.mv (m.tm w) fun a o ga q => ⟨m.s a ga, m.k a o q (t a ga)⟩
theorem Od.gr {G G' : Ads} (g : ∀ a, G a → G' a) {v : V} {d : PyData} (h : Od K G H v d) : Od K G' H v d := h.mv (Tm.refl H) fun a o ga q => ⟨g a ga, q⟩
theorem Ods.gr {G G' : Ads} (g : ∀ a, G a → G' a) {v : List V} {d : List PyData} (h : Ods K G H v d) : Ods K G' H v d := h.mv (Tm.refl H) fun a o ga q => ⟨g a ga, q⟩
end
/-- a state that may be gone on from -/
structure Oks (W : Wel) (S : Ads) (H : Hp) : Prop where
  w : W.ok H
  t : ∀ b, S b → H b ≠ none ∧ ¬ W.has b
section
variable {W : Wel} {S S1 S2 : Ads} {H H1 H2 : Hp} {K : Fg}
theorem Mvh.oks (m : Mvh W S H S1 H1) : Oks W S1 H1 := ⟨m.w, m.t⟩
theorem Oks.refl (k : Oks W S H) : Mvh W S H S H := ⟨fun _ _ h _ => h, k.w, fun _ h => h, fun _ h => .inl h, k.t⟩
theorem Oks.same (k : Oks W S H) (e : Same H H1) : Mvh W S H S H1 := by
  refine ⟨fun b o h _ => e b o h, k.w.keep fun b o _ q => e b o q, fun _ h => h, fun _ h => .inl h, fun b h => ⟨fun z => ?_, (k.t b h).2⟩⟩
  cases q : H b with
  | none => exact (k.t b h).1 q
  | some o =>
    rw [e b o q] at z
    cases z
/-- a new list may be kept -/
theorem Oks.keep (k : Oks W S H) (e : Mvh W S H S1 H1) {p : Addr} {vs : List V} (h : H1 p = some (.lst vs)) (n : H p = none) : Mvh W S H (fun b => S1 b ∨ b = p) H1 := by
  refine ⟨e.k, e.w, fun b h => .inl (e.s b h), fun b h => ?_, fun b h => ?_⟩
  · rcases h with h | rfl
    · exact e.n b h
    · exact .inr n
  · rcases h with h | rfl
    · exact e.t b h
    · exact ⟨(by rw [h]; intro z; cases z), Wel.ne k.w n⟩
end
/-- a dict on the heap -/
def DcR (K : Fg) (S : Ads) (H : Hp) (p : Addr) : Dic → Prop
  | .k kvs => ∃ ls, H p = some (.dK ls) ∧ Paired (fun (a : L2.Key × V) (b : L2.Key × PyData) => a.1 = b.1 ∧ Od K S H a.2 b.2) ls kvs
  | .t kvs => ∃ ls, H p = some (.dT ls) ∧ Paired (fun (a : List L2.Key × V) (b : List L2.Key × PyData) => a.1 = b.1 ∧ Od K S H a.2 b.2) ls kvs
theorem DcR.mp {K : Fg} {S S1 : Ads} {H H1 : Hp} {p : Addr} {c : Dic} (h : DcR K S H p c) (hk : ∀ o, H p = some o → H1 p = some o) (hf : ∀ {v d}, Od K S H v d → Od K S1 H1 v d) : DcR K S1 H1 p c := by
  cases c with
  | k kvs =>
    obtain ⟨ls, a, b⟩ := h
    exact ⟨ls, hk _ a, L2.Paired.mapP b fun _ _ z => ⟨z.1, hf z.2⟩⟩
  | t kvs =>
    obtain ⟨ls, a, b⟩ := h
    exact ⟨ls, hk _ a, L2.Paired.mapP b fun _ _ z => ⟨z.1, hf z.2⟩⟩
theorem DcR.at {K : Fg} {S : Ads} {H : Hp} {p : Addr} {c : Dic} (h : DcR K S H p c) : ∃ o, H p = some o ∧ ∀ xs, o ≠ .tup xs := by
  cases c with
  | k kvs =>
    obtain ⟨ls, a, b⟩ := h
    exact ⟨_, a, fun xs z => by cases z⟩
  | t kvs =>
    obtain ⟨ls, a, b⟩ := h
    exact ⟨_, a, fun xs z => by cases z⟩
theorem DcR.ne {K : Fg} {S : Ads} {H : Hp} {p : Addr} {c : Dic} (h : DcR K S H p c) : H p ≠ none := by
  obtain ⟨o, a, _⟩ := h.at
  rw [a]
  intro z
  cases z
/-- what a value is worth; Hs: the heap at the beginning -/
def Vrp (K : Fg) (W : Wel) (Hs : Hp) (O : Nat → Option Addr) (S : Ads) (H : Hp) (v : V) : Avl → Prop
  | .d x => Od K S H v x
  | .l ds => ∃ p vs, v = .ref p ∧ H p = some (.lst vs) ∧ Ods K S H vs ds ∧ ¬ S p ∧ Hs p = none ∧ ¬ W.has p
  | .b i ds => ∃ p vs, v = .ref p ∧ O i = some p ∧ H p = some (.lst vs) ∧ Ods K S H vs ds ∧ ¬ W.has p
  | .wl u => W.is u ∧ v = .ref W.a
  | .k c => ∃ p, v = .ref p ∧ DcR K S H p c ∧ ¬ S p ∧ Hs p = none ∧ ¬ W.has p
/-- the data of an error, kept -/
def Xfs (K : Fg) (S : Ads) (H : Hp) (dx : Addr) (fs : List (Str × PyData)) : Prop := S dx ∧ ∃ vs, H dx = some (.xd vs) ∧ Paired (fun (p : Str × V) (q : Str × PyData) => p.1 = q.1 ∧ Od K S H p.2 q.2) vs fs
theorem Xfs.mv' {K : Fg} {S S1 : Ads} {H H1 : Hp} {dx : Addr} {fs : List (Str × PyData)} (h : Xfs K S H dx fs) (s : ∀ b, S b → S1 b) (k : ∀ b o, S b → H b = some o → H1 b = some o) (f : ∀ {v d}, Od K S H v d → Od K S1 H1 v d) : Xfs K S1 H1 dx fs := by
  obtain ⟨a, vs, b, c⟩ := h
  exact ⟨s _ a, vs, k _ _ a b, L2.Paired.mapP c fun _ _ z => ⟨z.1, f z.2⟩⟩
/-- what stands in a slot -/
def Slr (K : Fg) (W : Wel) (O : Nat → Option Addr) (S : Ads) (H : Hp) (σ : L2.St) (i : Nat) : Sot → Prop
  | .x => True
  | .d x => ∃ v, σ[i]? = some (some v) ∧ Od K S H v x
  | .own ds => ∃ p vs, O i = some p ∧ σ[i]? = some (some (.ref p)) ∧ H p = some (.lst vs) ∧ Ods K S H vs ds
  | .wl u => W.is u ∧ σ[i]? = some (some (.ref W.a))
  | .err a => σ[i]? = some (some (.ref a))
  | .erx a dx fs => σ[i]? = some (some (.ref a)) ∧ Xfs K S H dx fs
  | .dic c => ∃ p, O i = some p ∧ σ[i]? = some (some (.ref p)) ∧ DcR K S H p c
/-- the frame; H0, S0: as it was entered -/
structure Frm (K : Fg) (W : Wel) (H0 : Hp) (S0 : Ads) (O : Nat → Option Addr) (S : Ads) (α : Afr) (σ : L2.St) (H : Hp) : Prop where
  k : Oks W S H
  k0 : ∀ b o, H0 b = some o → ¬ W.has b → H b = some o
  n0 : ∀ b, S b → S0 b ∨ H0 b = none
  w0 : W.ok H0
  o : ∀ i p, O i = some p → H0 p = none ∧ H p ≠ none ∧ ¬ S p ∧ ∀ j, O j = some p → j = i
  len : α.length = σ.length
  sl : ∀ i z, α[i]? = some z → Slr K W O S H σ i z
/-- how statements go on: what is kept stays -/
structure Kee (S : Ads) (H : Hp) (S' : Ads) (H' : Hp) : Prop where
  s : ∀ b, S b → S' b
  t : Tm H H'
  k : ∀ b o, S b → H b = some o → H' b = some o
theorem Kee.refl {S : Ads} {H : Hp} : Kee S H S H := ⟨fun _ h => h, Tm.refl _, fun _ _ _ h => h⟩
theorem Kee.trans {S S1 S2 : Ads} {H H1 H2 : Hp} (a : Kee S H S1 H1) (b : Kee S1 H1 S2 H2) : Kee S H S2 H2 :=
  ⟨fun x h => b.s x (a.s x h), a.t.trans b.t, fun x o h q => b.k x o (a.s x h) (a.k x o h q)⟩
theorem Kee.od {K : Fg} {S S1 : Ads} {H H1 : Hp} (a : Kee S H S1 H1) {v : V} {d : PyData} (h : Od K S H v d) : Od K S1 H1 v d := h.mv a.t fun x o ga q => ⟨a.s x ga, a.k x o ga q⟩
theorem Kee.ods {K : Fg} {S S1 : Ads} {H H1 : Hp} (a : Kee S H S1 H1) {v : List V} {d : List PyData} (h : Ods K S H v d) : Ods K S1 H1 v d := h.mv a.t fun x o ga q => ⟨a.s x ga, a.k x o ga q⟩
section
variable {K : Fg} {W : Wel} {Hs H0 H H1 : Hp} {S0 S S1 : Ads} {O : Nat → Option Addr} {α : Afr} {σ : L2.St} {v : V} {av : Avl}
theorem Mvh.kee (k : Oks W S H) (m : Mvh W S H S1 H1) : Kee S H S1 H1 := ⟨m.s, m.tm k.w, fun b o h q => m.k b o q (k.t b h).2⟩
theorem Vrp.mv (k : Oks W S H) (h : Vrp K W Hs O S H v av) (m : Mvh W S H S1 H1) : Vrp K W Hs O S1 H1 v av := by
  have t : ∀ b, S b → ¬ W.has b := fun b z => (k.t b z).2
  cases av with
  | d x => exact m.od k.w t h
  | l ds =>
    obtain ⟨p, vs, rfl, h1, h2, h3, h4, h5⟩ := h
    exact ⟨p, vs, rfl, m.k _ _ h1 h5, m.ods k.w t h2, fun z => (m.n p z).elim h3 fun q => (by rw [h1] at q; cases q), h4, h5⟩
  | b i ds =>
    obtain ⟨p, vs, rfl, h0, h1, h2, h3⟩ := h
    exact ⟨p, vs, rfl, h0, m.k _ _ h1 h3, m.ods k.w t h2, h3⟩
  | wl u => exact h
  | k c =>
    obtain ⟨p, rfl, h1, h3, h4, h5⟩ := h
    exact ⟨p, rfl, h1.mp (fun o e => m.k _ _ e h5) (fun z => m.od k.w t z), fun z => (m.n p z).elim h3 h1.ne, h4, h5⟩
theorem Vrp.hs (h : Vrp K W H1 O S H v av) (g : ∀ b, H1 b = none → Hs b = none) : Vrp K W Hs O S H v av := by
  cases av with
  | d x => exact h
  | l ds =>
    obtain ⟨p, vs, rfl, h1, h2, h3, h4, h5⟩ := h
    exact ⟨p, vs, rfl, h1, h2, h3, g _ h4, h5⟩
  | b i ds => exact h
  | wl u => exact h
  | k c =>
    obtain ⟨p, rfl, h1, h3, h4, h5⟩ := h
    exact ⟨p, rfl, h1, h3, g _ h4, h5⟩
theorem Frm.mv (f : Frm K W H0 S0 O S α σ H) (m : Mvh W S H S1 H1) : Frm K W H0 S0 O S1 α σ H1 := by
  have nw : ∀ i p, O i = some p → ¬ W.has p := fun i p e => Wel.ne f.w0 (f.o i p e).1
  have t : ∀ b, S b → ¬ W.has b := fun b z => (f.k.t b z).2
  refine ⟨m.oks, fun b o h z => m.k b o (f.k0 b o h z) z, fun b h => ?_, f.w0, fun i p e => ?_, f.len, fun i z e => ?_⟩
  · rcases m.n b h with q | q
    · exact f.n0 b q
    · refine .inr ?_
      cases y : H0 b with
      | none => rfl
      | some o =>
        by_cases z : W.has b
        · exact absurd z (m.t b h).2
        · rw [f.k0 b o y z] at q
          cases q
  · obtain ⟨h1, h2, h3, h4⟩ := f.o i p e
    refine ⟨h1, fun q => h2 (m.back q), fun z => (m.n p z).elim h3 h2, h4⟩
  · have := f.sl i z e
    cases z with
    | x => trivial
    | d x =>
      obtain ⟨v, h1, h2⟩ := this
      exact ⟨v, h1, m.od f.k.w t h2⟩
    | own ds =>
      obtain ⟨p, vs, h1, h2, h3, h4⟩ := this
      exact ⟨p, vs, h1, h2, m.k _ _ h3 (nw i p h1), m.ods f.k.w t h4⟩
    | wl u => exact this
    | err a => exact this
    | erx a dx fs => exact ⟨this.1, this.2.mv' m.s (fun b o e y => m.k b o y (t b e)) fun h => m.od f.k.w t h⟩
    | dic c =>
      obtain ⟨p, h1, h2, h3⟩ := this
      exact ⟨p, h1, h2, h3.mp (fun o e => m.k _ _ e (nw i p h1)) (fun z => m.od f.k.w t z)⟩
end
abbrev AXr := Afr → Addr → Option (List (Str × PyData)) → Prop
abbrev AEx := AXr → Afr → (Avl → Prop) → Prop
abbrev ATx := AXr → Afr → (Bool → Prop) → Prop
abbrev AAd := AXr → Afr → (List PyData → Prop) → Prop
abbrev AAv := AXr → Afr → (List Avl → Prop) → Prop
/-- an error's own data -/
def Xrp (K : Fg) (S : Ads) (H : Hp) (d : Option Addr) : Option (List (Str × PyData)) → Prop
  | none => d = none
  | some fs => ∃ dx, d = some dx ∧ Xfs K S H dx fs
/-- the errors go on -/
def Lkx (K : Fg) (W : Wel) (H0 : Hp) (S0 : Ads) (S : Ads) (H : Hp) (E : WX) (X : AXr) : Prop :=
  ∀ O S' α σ H' C d f, Kee S H S' H' → Frm K W H0 S0 O S' α σ H' → Xrp K S' H' d f → X α C f → E (.ref C) d σ H'
theorem Lkx.kee {K : Fg} {W : Wel} {H0 : Hp} {S0 S S1 : Ads} {H H1 : Hp} {E : WX} {X : AXr} (l : Lkx K W H0 S0 S H E X) (a : Kee S H S1 H1) : Lkx K W H0 S0 S1 H1 E X :=
  fun O S' α σ H' C d f b g x h => l O S' α σ H' C d f (a.trans b) g x h
def REx (K : Fg) (E : WX) (t : TE) (e : AEx) : Prop := ∀ {W : Wel} {H0 : Hp} {S0 : Ads} {O : Nat → Option Addr} {S : Ads} {α : Afr} {σ : L2.St} {H : Hp} {X : AXr} {k : Avl → Prop} {Q : VK},
  Frm K W H0 S0 O S α σ H → e X α k → Lkx K W H0 S0 S H E X → (∀ v av S' H', Mvh W S H S' H' → Vrp K W H O S' H' v av → k av → Q v H') → t σ H Q
def RTx (K : Fg) (E : WX) (t : TT) (e : ATx) : Prop := ∀ {W : Wel} {H0 : Hp} {S0 : Ads} {O : Nat → Option Addr} {S : Ads} {α : Afr} {σ : L2.St} {H : Hp} {X : AXr} {k : Bool → Prop} {Q : Bool → Hp → Prop},
  Frm K W H0 S0 O S α σ H → e X α k → Lkx K W H0 S0 S H E X → (∀ b S' H', Mvh W S H S' H' → k b → Q b H') → t σ H Q
def RAd (K : Fg) (E : WX) (t : TA) (e : AAd) (n : Nat) : Prop := ∀ {W : Wel} {H0 : Hp} {S0 : Ads} {O : Nat → Option Addr} {S : Ads} {α : Afr} {σ : L2.St} {H : Hp} {X : AXr} {k : List PyData → Prop} {Q : List V → Hp → Prop},
  Frm K W H0 S0 O S α σ H → e X α k → Lkx K W H0 S0 S H E X → (∀ vs xs S' H', Mvh W S H S' H' → Ods K S' H' vs xs → vs.length = n → k xs → Q vs H') → t σ H Q
def RAv (K : Fg) (E : WX) (t : TA) (e : AAv) (n : Nat) : Prop := ∀ {W : Wel} {H0 : Hp} {S0 : Ads} {O : Nat → Option Addr} {S : Ads} {α : Afr} {σ : L2.St} {H : Hp} {X : AXr} {k : List Avl → Prop} {Q : List V → Hp → Prop},
  Frm K W H0 S0 O S α σ H → e X α k → Lkx K W H0 S0 S H E X → (∀ vs avs S' H', Mvh W S H S' H' → Paired (Vrp K W H O S' H') vs avs → vs.length = n → k avs → Q vs H') → t σ H Q
section
variable {K : Fg} {E : WX}
def aVar (i : Nat) : AEx := fun _ α k => ∃ z av, α[i]? = some z ∧ z.av i = some av ∧ k av
theorem re_var {i : Nat} : REx K E (tVar i) (aVar i) := by
  intro W H0 S0 O S α σ H X k Q f h _ q
  obtain ⟨z, av, h1, h2, h3⟩ := h
  have s := f.sl i z h1
  cases z with
  | x => cases h2
  | d x =>
    cases h2
    obtain ⟨v, s1, s2⟩ := s
    exact ⟨v, s1, q v (.d x) S H f.k.refl s2 h3⟩
  | own ds =>
    cases h2
    obtain ⟨p, vs, s1, s2, s3, s4⟩ := s
    exact ⟨_, s2, q _ (.b i ds) S H f.k.refl ⟨p, vs, rfl, s1, s3, s4, Wel.ne f.w0 (f.o i p s1).1⟩ h3⟩
  | wl u =>
    cases h2
    exact ⟨_, s.2, q _ (.wl u) S H f.k.refl ⟨s.1, rfl⟩ h3⟩
  | err a => cases h2
  | erx a dx fs => cases h2
  | dic c => cases h2
def aC (d : PyData) : AEx := fun _ _ k => k (.d d)
theorem re_c {v : V} {d : PyData} (h : ∀ S H, Od K S H v d) : REx K E (tC v) (aC d) := fun f h1 _ q => q _ (.d d) _ _ f.k.refl (h _ _) h1
theorem re_int {i : Int} : REx K E (tC (.int i)) (aC (.int i)) := re_c fun _ _ => .int i
theorem re_str {i : Str} : REx K E (tC (.str i)) (aC (.str i)) := re_c fun _ _ => .str i
theorem re_bl {i : Bool} : REx K E (tC (.bl i)) (aC (.bool i)) := re_c fun _ _ => .bl i
theorem re_non : REx K E (tC .non) (aC .none) := re_c fun _ _ => .non
def aNil : AAd := fun _ _ k => k []
def aCons (e : AEx) (r : AAd) : AAd := fun X α k => e X α fun av => ∃ x, av.cl = some x ∧ r X α fun xs => k (x :: xs)
theorem ra_nil : RAd K E tNil aNil 0 := fun f h _ q => q _ _ _ _ f.k.refl .nil rfl h
/-- a value, kept -/
theorem keepx {W : Wel} {O : Nat → Option Addr} {S S1 : Ads} {H H1 : Hp} {v : V} {av : Avl} {x : PyData} (k : Oks W S H) (m : Mvh W S H S1 H1) (h : Vrp K W H O S1 H1 v av) (e : av.cl = some x) : ∃ S2, Mvh W S H S2 H1 ∧ (∀ b, S1 b → S2 b) ∧ Od K S2 H1 v x := by
  cases av with
  | d y => cases e; exact ⟨S1, m, fun _ h => h, h⟩
  | l ds =>
    cases e
    obtain ⟨p, vs, rfl, h1, h2, h3, h4, h5⟩ := h
    exact ⟨_, k.keep m h1 h4, fun _ h => .inl h, .lst (.inr rfl) h1 (h2.gr fun _ h => .inl h)⟩
  | b i ds => cases e
  | wl u => cases e
  | k c => cases e
theorem ra_cons {te : TE} {tr : TA} {e : AEx} {r : AAd} {n : Nat} (h1 : REx K E te e) (h2 : RAd K E tr r n) : RAd K E (tCons te tr) (aCons e r) (n + 1) := by
  intro W H0 S0 O S α σ H X k Q f h lk q
  refine h1 f h lk fun v av S1 H1 m1 r1 ⟨x, ex, h'⟩ => ?_
  obtain ⟨S2, m2, _, o2⟩ := keepx f.k m1 r1 ex
  have f2 := f.mv m2
  refine h2 f2 h' (lk.kee (m2.kee f.k)) fun vs xs S3 H3 m3 r3 l3 k3 => ?_
  exact q (v :: vs) _ S3 H3 (m2.trans m3) (.cons (m3.od f2.k.w (fun b z => (f2.k.t b z).2) o2) r3) (by rw [List.length_cons, l3]) k3
def bNil : AAv := fun _ _ k => k []
def bCons (e : AEx) (r : AAv) : AAv := fun X α k => e X α fun x => r X α fun xs => k (x :: xs)
theorem rv_nil : RAv K E tNil bNil 0 := fun f h _ q => q _ _ _ _ f.k.refl .nil rfl h
theorem rv_cons {te : TE} {tr : TA} {e : AEx} {r : AAv} {n : Nat} (h1 : REx K E te e) (h2 : RAv K E tr r n) : RAv K E (tCons te tr) (bCons e r) (n + 1) := by
  intro W H0 S0 O S α σ H X k Q f h lk q
  refine h1 f h lk fun v av S1 H1 m1 r1 h' => ?_
  have f1 := f.mv m1
  refine h2 f1 h' (lk.kee (m1.kee f.k)) fun vs xs S3 H3 m3 r3 l3 k3 => ?_
  exact q (v :: vs) _ S3 H3 (m1.trans m3) (.cons (r1.mv f1.k m3) (L2.Paired.mapP r3 fun a b z => Vrp.hs z fun c y => m1.back y)) (by rw [List.length_cons, l3]) k3
def aTup (a : AAd) : AEx := fun X α k => a X α fun xs => k (.d (.tuple xs))
def aLst (a : AAd) : AEx := fun X α k => a X α fun xs => k (.l xs)
theorem re_tup {t : TA} {a : AAd} {n : Nat} (h1 : RAd K E t a n) (hn : Nat.ble n 1000 = true := by rfl) : REx K E (tTup t) (aTup a) := by
  intro W H0 S0 O S α σ H X k Q f h lk q
  refine h1 f h lk fun vs xs S1 H1 m1 r1 l1 k1 => ⟨by rw [l1]; exact Nat.le_trans (Nat.le_of_ble_eq_true hn) (by decide), fun p np => ?_⟩
  have m2 := m1.oks.same (Same.new (o := .tup vs) np)
  exact q _ (.d (.tuple xs)) S1 _ (m1.trans m2) (Od.tup (SqT.of upd_same) (r1.same (Same.new np))) k1
theorem re_lst {t : TA} {a : AAd} {n : Nat} (h1 : RAd K E t a n) (hn : Nat.ble n 1000 = true := by rfl) : REx K E (tLst t) (aLst a) := by
  intro W H0 S0 O S α σ H X k Q f h lk q
  refine h1 f h lk fun vs xs S1 H1 m1 r1 l1 k1 => ⟨by rw [l1]; exact Nat.le_trans (Nat.le_of_ble_eq_true hn) (by decide), fun p np => ?_⟩
  have m2 := m1.oks.same (Same.new (o := .lst vs) np)
  exact q _ (.l xs) S1 _ (m1.trans m2) ⟨p, vs, rfl, upd_same, r1.same (Same.new np), fun z => (m1.t p z).1 np, m1.back np, Wel.ne m1.w np⟩ k1
theorem rt_of {t : TE} {e : AEx} (h1 : REx K E t e) : RTx K E (tTest t) (fun X α k => e X α fun av => ∃ b, av = .d (.bool b) ∧ k b) := by
  intro W H0 S0 O S α σ H X k Q f h lk q
  refine h1 f h lk fun v av S1 H1 m1 r1 ⟨b, eb, k1⟩ => ?_
  subst eb
  cases r1
  exact ⟨b, rfl, q b S1 H1 m1 k1⟩
def aB (e : AEx) : ATx := fun X α k => e X α fun av => ∃ b, av = .d (.bool b) ∧ k b
theorem rt_test {t : TE} {e : AEx} (h1 : REx K E t e) : RTx K E (tTest t) (aB e) := rt_of h1
theorem rt_b {t : TE} {e : AEx} (h1 : REx K E t e) : RTx K E (tB t) (aB e) := rt_of h1
def aYes : ATx := fun _ _ k => k true
theorem rt_yes : RTx K E tYes aYes := fun f h _ q => q true _ _ f.k.refl h
def aAnd (t u : ATx) : ATx := fun X α k => t X α fun c => if c = true then u X α k else k false
def aOr (t u : ATx) : ATx := fun X α k => t X α fun c => if c = true then k true else u X α k
def aNot (t : ATx) : ATx := fun X α k => t X α fun c => k (!c)
theorem rt_and {t u : TT} {a b : ATx} (h1 : RTx K E t a) (h2 : RTx K E u b) : RTx K E (tAnd t u) (aAnd a b) := by
  intro W H0 S0 O S α σ H X k Q f h lk q
  refine h1 f h lk fun c S1 H1 m1 k1 => ?_
  cases c with
  | true =>
    rw [if_pos rfl] at k1 ⊢
    exact h2 (f.mv m1) k1 (lk.kee (m1.kee f.k)) fun b S2 H2 m2 k2 => q b S2 H2 (m1.trans m2) k2
  | false =>
    rw [if_neg (by decide)] at k1 ⊢
    exact q false S1 H1 m1 k1
theorem rt_or {t u : TT} {a b : ATx} (h1 : RTx K E t a) (h2 : RTx K E u b) : RTx K E (tOr t u) (aOr a b) := by
  intro W H0 S0 O S α σ H X k Q f h lk q
  refine h1 f h lk fun c S1 H1 m1 k1 => ?_
  cases c with
  | true =>
    rw [if_pos rfl] at k1 ⊢
    exact q true S1 H1 m1 k1
  | false =>
    rw [if_neg (by decide)] at k1 ⊢
    exact h2 (f.mv m1) k1 (lk.kee (m1.kee f.k)) fun b S2 H2 m2 k2 => q b S2 H2 (m1.trans m2) k2
theorem rt_not {t : TT} {a : ATx} (h1 : RTx K E t a) : RTx K E (tNot t) (aNot a) := by
  intro W H0 S0 O S α σ H X k Q f h lk q
  exact h1 f h lk fun c S1 H1 m1 k1 => q _ S1 H1 m1 k1
def aIf (t : ATx) (a b : AEx) : AEx := fun X α k => t X α fun c => if c = true then a X α k else b X α k
theorem re_if {t : TT} {ta tb : TE} {c : ATx} {a b : AEx} (h0 : RTx K E t c) (h1 : REx K E ta a) (h2 : REx K E tb b) : REx K E (tIf t ta tb) (aIf c a b) := by
  intro W H0 S0 O S α σ H X k Q f h lk q
  refine h0 f h lk fun c S1 H1 m1 k1 => ?_
  have go : ∀ {t : TE} {e : AEx}, REx K E t e → e X α k → t σ H1 Q := fun r z => r (f.mv m1) z (lk.kee (m1.kee f.k)) fun v av S2 H2 m2 r2 k2 => q v av S2 H2 (m1.trans m2) (r2.hs fun b y => m1.back y) k2
  cases c with
  | true =>
    rw [if_pos rfl] at k1 ⊢
    exact go h1 k1
  | false =>
    rw [if_neg (by decide)] at k1 ⊢
    exact go h2 k1
def aAndV (a b : AEx) : AEx := fun X α k => a X α fun x => ∃ c, x = .d (.bool c) ∧ if c = true then b X α k else k (.d (.bool false))
def aOrV (a b : AEx) : AEx := fun X α k => a X α fun x => ∃ c, x = .d (.bool c) ∧ if c = true then k (.d (.bool true)) else b X α k
def aNotV (a : AEx) : AEx := fun X α k => a X α fun x => ∃ c, x = .d (.bool c) ∧ k (.d (.bool (!c)))
theorem re_andV {ta tb : TE} {a b : AEx} (h1 : REx K E ta a) (h2 : REx K E tb b) : REx K E (tAndV ta tb) (aAndV a b) := by
  intro W H0 S0 O S α σ H X k Q f h lk q
  refine h1 f h lk fun v av S1 H1 m1 r1 ⟨c, ec, k1⟩ => ?_
  subst ec
  cases r1
  refine ⟨c, rfl, ?_⟩
  cases c with
  | true =>
    rw [if_pos rfl] at k1 ⊢
    exact h2 (f.mv m1) k1 (lk.kee (m1.kee f.k)) fun v av S2 H2 m2 r2 k2 => q v av S2 H2 (m1.trans m2) (r2.hs fun b y => m1.back y) k2
  | false =>
    rw [if_neg (by decide)] at k1 ⊢
    exact q _ (.d (.bool false)) S1 H1 m1 (Od.bl false) k1
abbrev AO2 := Avl → Avl → (Avl → Prop) → Prop
def ROp (K : Fg) (r : R2) (g : AO2) : Prop := ∀ {W : Wel} {Hs : Hp} {O : Nat → Option Addr} {S : Ads} {H : Hp} {x y : V} {ax ay : Avl} {k : Avl → Prop} {Q : VK},
  Oks W S H → Vrp K W Hs O S H x ax → Vrp K W Hs O S H y ay → g ax ay k → (∀ v av S' H', Mvh W S H S' H' → Vrp K W H O S' H' v av → k av → Q v H') → r x y H Q
def aOp (g : AO2) (a b : AEx) : AEx := fun X α k => a X α fun x => b X α fun y => g x y k
theorem re_op {r : R2} {ta tb : TE} {g : AO2} {a b : AEx} (ho : ROp K r g) (h1 : REx K E ta a) (h2 : REx K E tb b) : REx K E (tOp r ta tb) (aOp g a b) := by
  intro W H0 S0 O S α σ H X k Q f h lk q
  refine h1 f h lk fun v av S1 H1 m1 r1 k1 => ?_
  have f1 := f.mv m1
  refine h2 f1 k1 (lk.kee (m1.kee f.k)) fun u au S2 H2 m2 r2 k2 => ?_
  refine ho m2.oks (r1.mv f1.k m2) (r2.hs fun b y => m1.back y) k2 fun w aw S3 H3 m3 r3 k3 => ?_
  exact q w aw S3 H3 ((m1.trans m2).trans m3) (r3.hs fun b y => (m1.trans m2).back y) k3
def aChain (g g' : AO2) (a b c : AEx) : AEx := fun X α k => a X α fun x => b X α fun y => g x y fun z => ∃ p, z = .d (.bool p) ∧ if p = true then c X α fun w => g' y w k else k (.d (.bool false))
abbrev AO1 := Avl → (Avl → Prop) → Prop
def aUn (g : AO1) (a : AEx) : AEx := fun X α k => a X α fun x => g x k
abbrev AOn := List Avl → (Avl → Prop) → Prop
def RCb (K : Fg) (r : List V → Hp → VK → Prop) (g : AOn) : Prop := ∀ {W : Wel} {Hs : Hp} {O : Nat → Option Addr} {S : Ads} {H : Hp} {xs : List V} {as : List Avl} {k : Avl → Prop} {Q : VK},
  Oks W S H → Paired (Vrp K W Hs O S H) xs as → g as k → (∀ v av S' H', Mvh W S H S' H' → Vrp K W H O S' H' v av → k av → Q v H') → r xs H Q
def aCB (g : AOn) (a : AAv) : AEx := fun X α k => a X α fun xs => g xs k
theorem re_cb {r : List V → Hp → VK → Prop} {ta : TA} {g : AOn} {a : AAv} {n : Nat} (ho : RCb K r g) (h1 : RAv K E ta a n) : REx K E (tCB r ta) (aCB g a) := by
  intro W H0 S0 O S α σ H X k Q f h lk q
  refine h1 f h lk fun vs avs S1 H1 m1 r1 _ k1 => ?_
  exact ho m1.oks r1 k1 fun w aw S3 H3 m3 r3 k3 => q w aw S3 H3 (m1.trans m3) (r3.hs fun b y => m1.back y) k3
abbrev AOp := AXr → Afr → (Option Int → Prop) → Prop
def aNoPart : AOp := fun _ _ k => k none
def aPart (e : AEx) : AOp := fun X α k => e X α fun av => ∃ i, av = .d (.int i) ∧ k (some i)
end
end UW
namespace UW
open PySem PySem.Spec PyProof.Rows L2
def odel (O : Nat → Option Addr) (i : Nat) : Nat → Option Addr := fun j => if j = i then none else O j
def oput (O : Nat → Option Addr) (i : Nat) (p : Addr) : Nat → Option Addr := fun j => if j = i then some p else O j
section
variable {K : Fg} {W : Wel} {Hs H0 H H1 : Hp} {S0 S S1 : Ads} {O : Nat → Option Addr} {α : Afr} {σ : L2.St} {v : V} {av : Avl} {i : Nat}
theorem Frm.back (f : Frm K W H0 S0 O S α σ H) {b : Addr} (h : H b = none) : H0 b = none := by
  cases y : H0 b with
  | none => rfl
  | some o =>
    by_cases z : W.has b
    · exact absurd z (Wel.ne f.k.w h)
    · rw [f.k0 b o y z] at h
      cases h
theorem set_get {α : Type} {l : List α} {i j : Nat} {x y : α} (h : (l.set i x)[j]? = some y) : (j = i ∧ y = x ∧ i < l.length) ∨ (j ≠ i ∧ l[j]? = some y) := by
  by_cases e : i = j
  · subst e
    by_cases hl : i < l.length
    · rw [List.getElem?_set_self hl] at h
      exact .inl ⟨rfl, (Option.some.inj h).symm, hl⟩
    · rw [List.getElem?_eq_none (by simpa using hl)] at h
      cases h
  · rw [List.getElem?_set_ne e] at h
    exact .inr ⟨fun z => e z.symm, h⟩
theorem Slr.other {z : Sot} {j : Nat} {w : Option V} {O' : Nat → Option Addr} (h : Slr K W O S H σ j z) (n : j ≠ i) (ho : O' j = O j) : Slr K W O' S H (σ.set i w) j z := by
  have e : (σ.set i w)[j]? = σ[j]? := List.getElem?_set_ne (fun q => n q.symm)
  cases z with
  | x => trivial
  | d x => obtain ⟨v, a, b⟩ := h; exact ⟨v, e.trans a, b⟩
  | own ds => obtain ⟨p, vs, a, b, c, d⟩ := h; exact ⟨p, vs, ho.trans a, e.trans b, c, d⟩
  | wl u => exact ⟨h.1, e.trans h.2⟩
  | err a => exact e.trans h
  | erx a dx fs => exact ⟨e.trans h.1, h.2⟩
  | dic c => obtain ⟨p, a, b, d⟩ := h; exact ⟨p, ho.trans a, e.trans b, d⟩
/-- any slot, its list let go -/
theorem Frm.put (f : Frm K W H0 S0 O S α σ H) {z : Sot} {w : Option V} (hz : i < σ.length → Slr K W (odel O i) S H (σ.set i w) i z) : Frm K W H0 S0 (odel O i) S (α.set i z) (σ.set i w) H := by
  refine ⟨f.k, f.k0, f.n0, f.w0, fun j p e => ?_, by rw [List.length_set, List.length_set]; exact f.len, fun j y e => ?_⟩
  · unfold odel at e
    by_cases q : j = i
    · rw [if_pos q] at e; cases e
    · rw [if_neg q] at e
      obtain ⟨a, b, c, d⟩ := f.o j p e
      refine ⟨a, b, c, fun j' e' => ?_⟩
      by_cases q' : j' = i
      · unfold odel at e'; rw [if_pos q'] at e'; cases e'
      · unfold odel at e'; rw [if_neg q'] at e'; exact d j' e'
  · rcases set_get e with ⟨rfl, rfl, hl⟩ | ⟨n, e⟩
    · exact hz (by rw [← f.len]; exact hl)
    · exact (f.sl j y e).other n (if_neg n)
theorem Frm.setD (f : Frm K W H0 S0 O S α σ H) {x : PyData} (h : Od K S H v x) : Frm K W H0 S0 (odel O i) S (α.set i (.d x)) (σ.set i (some v)) H :=
  f.put fun hl => ⟨v, List.getElem?_set_self hl, h⟩
theorem Frm.setX (f : Frm K W H0 S0 O S α σ H) {w : Option V} : Frm K W H0 S0 (odel O i) S (α.set i .x) (σ.set i w) H := f.put fun _ => trivial
theorem Frm.setW {u : Nat} (f : Frm K W H0 S0 O S α σ H) (h : W.is u) : Frm K W H0 S0 (odel O i) S (α.set i (.wl u)) (σ.set i (some (.ref W.a))) H := f.put fun hl => ⟨h, List.getElem?_set_self hl⟩
theorem Frm.setE (f : Frm K W H0 S0 O S α σ H) {a : Addr} : Frm K W H0 S0 (odel O i) S (α.set i (.err a)) (σ.set i (some (.ref a))) H := f.put fun hl => List.getElem?_set_self hl
theorem Frm.setL (f : Frm K W H0 S0 O S α σ H) {p : Addr} {vs : List V} {ds : List PyData} (h1 : H p = some (.lst vs)) (h2 : Ods K S H vs ds) (h3 : ¬ S p) (h4 : H0 p = none) (h5 : ∀ j, O j ≠ some p) :
    Frm K W H0 S0 (oput O i p) S (α.set i (.own ds)) (σ.set i (some (.ref p))) H := by
  refine ⟨f.k, f.k0, f.n0, f.w0, fun j q e => ?_, by rw [List.length_set, List.length_set]; exact f.len, fun j y e => ?_⟩
  · unfold oput at e
    by_cases z : j = i
    · rw [if_pos z] at e
      cases e
      refine ⟨h4, (by rw [h1]; intro z; cases z), h3, fun j' e' => ?_⟩
      unfold oput at e'
      by_cases z' : j' = i
      · rw [z', z]
      · rw [if_neg z'] at e'; exact absurd e' (h5 j')
    · rw [if_neg z] at e
      obtain ⟨a, b, c, d⟩ := f.o j q e
      refine ⟨a, b, c, fun j' e' => ?_⟩
      unfold oput at e'
      by_cases z' : j' = i
      · rw [if_pos z'] at e'; cases e'; exact absurd e (h5 j)
      · rw [if_neg z'] at e'; exact d j' e'
  · rcases set_get e with ⟨rfl, rfl, hl⟩ | ⟨n, e⟩
    · exact ⟨p, vs, if_pos rfl, List.getElem?_set_self (by rw [← f.len]; exact hl), h1, h2⟩
    · exact (f.sl j y e).other n (if_neg n)
theorem Frm.setC (f : Frm K W H0 S0 O S α σ H) {p : Addr} {c : Dic} (h1 : DcR K S H p c) (h3 : ¬ S p) (h4 : H0 p = none) (h5 : ∀ j, O j ≠ some p) :
    Frm K W H0 S0 (oput O i p) S (α.set i (.dic c)) (σ.set i (some (.ref p))) H := by
  refine ⟨f.k, f.k0, f.n0, f.w0, fun j q e => ?_, by rw [List.length_set, List.length_set]; exact f.len, fun j y e => ?_⟩
  · unfold oput at e
    by_cases z : j = i
    · rw [if_pos z] at e
      cases e
      refine ⟨h4, h1.ne, h3, fun j' e' => ?_⟩
      unfold oput at e'
      by_cases z' : j' = i
      · rw [z', z]
      · rw [if_neg z'] at e'; exact absurd e' (h5 j')
    · rw [if_neg z] at e
      obtain ⟨a, b, c, d⟩ := f.o j q e
      refine ⟨a, b, c, fun j' e' => ?_⟩
      unfold oput at e'
      by_cases z' : j' = i
      · rw [if_pos z'] at e'; cases e'; exact absurd e (h5 j)
      · rw [if_neg z'] at e'; exact d j' e'
  · rcases set_get e with ⟨rfl, rfl, hl⟩ | ⟨n, e⟩
    · exact ⟨p, if_pos rfl, List.getElem?_set_self (by rw [← f.len]; exact hl), h1⟩
    · exact (f.sl j y e).other n (if_neg n)
/-- the dict of a slot is changed -/
theorem Frm.chgD (f : Frm K W H0 S0 O S α σ H) {p : Addr} {c c' : Dic} {o : HO} (ho : O i = some p) (hs : σ[i]? = some (some (.ref p))) (hu : DcR K S H p c) (h2 : (∀ {v d}, Od K S H v d → Od K S (upd H p o) v d) → DcR K S (upd H p o) p c') (hi : i < α.length) :
    Frm K W H0 S0 O S (α.set i (.dic c')) σ (upd H p o) ∧ Kee S H S (upd H p o) := by
  obtain ⟨p0, p1, p2, p3⟩ := f.o i p ho
  obtain ⟨o0, a0, a1⟩ := hu.at
  have pw : ¬ W.has p := Wel.ne f.w0 p0
  have nS : ∀ b, S b → b ≠ p := fun b h z => p2 (z ▸ h)
  have tm : Tm H (upd H p o) := fun a xs h => by
    by_cases z : a = p
    · rw [z, a0] at h
      exact absurd (Option.some.inj h) (a1 xs)
    · rw [upd_ne z]; exact h
  have kk : ∀ b u, S b → H b = some u → upd H p o b = some u := fun b u hb h => by rw [upd_ne (nS b hb)]; exact h
  have mo : ∀ {v d}, Od K S H v d → Od K S (upd H p o) v d := fun h => h.mv tm fun a o ga q => ⟨ga, kk a o ga q⟩
  have mos : ∀ {v d}, Ods K S H v d → Ods K S (upd H p o) v d := fun h => h.mv tm fun a o ga q => ⟨ga, kk a o ga q⟩
  refine ⟨⟨⟨fun on => ?_, fun b h => ?_⟩, fun b o h z => ?_, f.n0, f.w0, fun j q e => ?_, by rw [List.length_set]; exact f.len, fun j y e => ?_⟩, ⟨fun _ h => h, tm, kk⟩⟩
  · exact f.k.w.put pw on
  · rw [upd_ne (nS b h)]; exact f.k.t b h
  · rw [upd_ne fun q => by rw [q, p0] at h; cases h]; exact f.k0 b o h z
  · obtain ⟨a, b, c, d⟩ := f.o j q e
    refine ⟨a, ?_, c, d⟩
    by_cases z : q = p
    · rw [z, upd_same]; intro y; cases y
    · rw [upd_ne z]; exact b
  · rcases set_get e with ⟨rfl, rfl, hl⟩ | ⟨n, e⟩
    · exact ⟨p, ho, hs, h2 mo⟩
    · have := f.sl j y e
      cases y with
      | x => trivial
      | d x => obtain ⟨v, a, b⟩ := this; exact ⟨v, a, mo b⟩
      | own es =>
        obtain ⟨q, ws, a, b, c, d⟩ := this
        exact ⟨q, ws, a, b, by rw [upd_ne fun z => n (p3 j (by rw [← z]; exact a))]; exact c, mos d⟩
      | dic c =>
        obtain ⟨q, a, b, c⟩ := this
        exact ⟨q, a, b, c.mp (fun o e => by rw [upd_ne fun z => n (p3 j (by rw [← z]; exact a))]; exact e) mo⟩
      | wl u => exact this
      | err a => exact this
      | erx a dx fs => exact ⟨this.1, this.2.mv' (fun _ h => h) kk mo⟩
/-- the list of a slot is changed -/
theorem Frm.chg (f : Frm K W H0 S0 O S α σ H) {p : Addr} {us vs : List V} {ds : List PyData} (ho : O i = some p) (hs : σ[i]? = some (some (.ref p))) (hu : H p = some (.lst us)) (h2 : Ods K S H vs ds) (hi : i < α.length) :
    Frm K W H0 S0 O S (α.set i (.own ds)) σ (upd H p (.lst vs)) ∧ Kee S H S (upd H p (.lst vs)) := by
  obtain ⟨p0, p1, p2, p3⟩ := f.o i p ho
  have pw : ¬ W.has p := Wel.ne f.w0 p0
  have nS : ∀ b, S b → b ≠ p := fun b h z => p2 (z ▸ h)
  have tm : Tm H (upd H p (.lst vs)) := Tm.lst hu
  have kk : ∀ b o, S b → H b = some o → upd H p (.lst vs) b = some o := fun b o hb h => by rw [upd_ne (nS b hb)]; exact h
  have mo : ∀ {v d}, Od K S H v d → Od K S (upd H p (.lst vs)) v d := fun h => h.mv tm fun a o ga q => ⟨ga, kk a o ga q⟩
  have mos : ∀ {v d}, Ods K S H v d → Ods K S (upd H p (.lst vs)) v d := fun h => h.mv tm fun a o ga q => ⟨ga, kk a o ga q⟩
  refine ⟨⟨⟨fun on => ?_, fun b h => ?_⟩, fun b o h z => ?_, f.n0, f.w0, fun j q e => ?_, by rw [List.length_set]; exact f.len, fun j y e => ?_⟩, ⟨fun _ h => h, tm, kk⟩⟩
  · exact f.k.w.put pw on
  · rw [upd_ne (nS b h)]; exact f.k.t b h
  · rw [upd_ne fun q => by rw [q, p0] at h; cases h]; exact f.k0 b o h z
  · obtain ⟨a, b, c, d⟩ := f.o j q e
    refine ⟨a, ?_, c, d⟩
    by_cases z : q = p
    · rw [z, upd_same]; intro y; cases y
    · rw [upd_ne z]; exact b
  · rcases set_get e with ⟨rfl, rfl, hl⟩ | ⟨n, e⟩
    · exact ⟨p, vs, ho, hs, upd_same, mos h2⟩
    · have := f.sl j y e
      cases y with
      | dic c =>
        obtain ⟨q, a, b, c⟩ := this
        exact ⟨q, a, b, c.mp (fun o e => by rw [upd_ne fun z => n (p3 j (by rw [← z]; exact a))]; exact e) mo⟩
      | x => trivial
      | d x => obtain ⟨v, a, b⟩ := this; exact ⟨v, a, mo b⟩
      | own es =>
        obtain ⟨q, ws, a, b, c, d⟩ := this
        exact ⟨q, ws, a, b, by rw [upd_ne fun z => n (p3 j (by rw [← z]; exact a))]; exact c, mos d⟩
      | wl u => exact this
      | err a => exact this
      | erx a dx fs => exact ⟨this.1, this.2.mv' (fun _ h => h) kk mo⟩
/-- the list of a slot is kept as it is from now on -/
def frz1 (α : Afr) (i : Nat) : Afr := match α[i]? with
  | some (.own ds) => α.set i (.d (.list ds))
  | _ => α
def frzs (α : Afr) (fz : List Nat) : Afr := fz.foldl frz1 α
theorem Frm.frz (f : Frm K W H0 S0 O S α σ H) {p : Addr} {ds : List PyData} (e0 : α[i]? = some (.own ds)) (ho : O i = some p) : Frm K W H0 S0 (odel O i) (fun b => S b ∨ b = p) (α.set i (.d (.list ds))) σ H ∧ Kee S H (fun b => S b ∨ b = p) H := by
  obtain ⟨q, vs, h1, h2, h3, h4⟩ := f.sl i _ e0
  rw [ho] at h1
  cases h1
  obtain ⟨p0, p1, p2, p3⟩ := f.o i p ho
  have hl : i < α.length := (List.getElem?_eq_some_iff.mp e0).1
  refine ⟨⟨⟨f.k.w, fun b h => ?_⟩, f.k0, fun b h => ?_, f.w0, fun j q e => ?_, by rw [List.length_set]; exact f.len, fun j y e => ?_⟩, ⟨fun _ h => .inl h, Tm.refl _, fun _ _ _ h => h⟩⟩
  · rcases h with h | rfl
    · exact f.k.t b h
    · exact ⟨p1, Wel.ne f.w0 p0⟩
  · rcases h with h | rfl
    · exact f.n0 b h
    · exact .inr p0
  · unfold odel at e
    by_cases z : j = i
    · rw [if_pos z] at e; cases e
    · rw [if_neg z] at e
      obtain ⟨a, b, c, d⟩ := f.o j q e
      refine ⟨a, b, fun y => y.elim c fun y => z ?_, fun j' e' => ?_⟩
      · subst y
        exact p3 j e
      · by_cases q' : j' = i
        · unfold odel at e'; rw [if_pos q'] at e'; cases e'
        · unfold odel at e'; rw [if_neg q'] at e'; exact d j' e'
  · rcases set_get e with ⟨rfl, rfl, _⟩ | ⟨n, e⟩
    · exact ⟨_, h2, .lst (.inr rfl) h3 (h4.gr fun _ h => .inl h)⟩
    · have := f.sl j y e
      cases y with
      | dic c => obtain ⟨q, a, b, c⟩ := this; exact ⟨q, (if_neg n).trans a, b, c.mp (fun o e => e) fun z => z.gr fun _ h => .inl h⟩
      | x => trivial
      | d x => obtain ⟨v, a, b⟩ := this; exact ⟨v, a, b.gr fun _ h => .inl h⟩
      | own es => obtain ⟨q, ws, a, b, c, d⟩ := this; exact ⟨q, ws, (if_neg n).trans a, b, c, d.gr fun _ h => .inl h⟩
      | wl u => exact this
      | err a => exact this
      | erx a dx fs => exact ⟨this.1, this.2.mv' (fun _ h => .inl h) (fun _ _ _ h => h) fun z => z.gr fun _ h => .inl h⟩
end
structure AEn where
  nx : Afr → Prop
  rt : Avl → Prop
  bk : Afr → Prop := fun _ => False
  ct : Afr → Prop := fun _ => False
  er : AXr := fun _ _ _ => False
abbrev ASt := AEn → Afr → Prop
def Avl.out : Avl → Avl
  | .b _ ds => .l ds
  | x => x
/-- a value that is handed back -/
def Rtn (K : Fg) (W : Wel) (H0 : Hp) (S0 : Ads) (v : V) (av : Avl) (H' : Hp) : Prop := ∃ S' : Ads, W.ok H' ∧ (∀ b o, H0 b = some o → ¬ W.has b → H' b = some o) ∧ (∀ b, S' b → (S0 b ∨ H0 b = none) ∧ H' b ≠ none ∧ ¬ W.has b) ∧ Vrp K W H0 (fun _ => none) S' H' v av
structure Lnk (K : Fg) (W : Wel) (H0 : Hp) (S0 : Ads) (S : Ads) (H : Hp) (E : WX) (A : AEn) (D : Ends) : Prop where
  nx : ∀ O' S' α' σ' H', Kee S H S' H' → Frm K W H0 S0 O' S' α' σ' H' → A.nx α' → D.nx σ' H'
  bk : ∀ O' S' α' σ' H', Kee S H S' H' → Frm K W H0 S0 O' S' α' σ' H' → A.bk α' → D.bk σ' H'
  ct : ∀ O' S' α' σ' H', Kee S H S' H' → Frm K W H0 S0 O' S' α' σ' H' → A.ct α' → D.ct σ' H'
  rt : ∀ v av H', Rtn K W H0 S0 v av H' → A.rt av → D.rt v H'
  er : Lkx K W H0 S0 S H E A.er
theorem Lnk.kee {K : Fg} {W : Wel} {H0 : Hp} {S0 S S1 : Ads} {H H1 : Hp} {E : WX} {A : AEn} {D : Ends} (l : Lnk K W H0 S0 S H E A D) (k : Kee S H S1 H1) : Lnk K W H0 S0 S1 H1 E A D :=
  ⟨fun O' S' α' σ' H' a b c => l.nx O' S' α' σ' H' (k.trans a) b c, fun O' S' α' σ' H' a b c => l.bk O' S' α' σ' H' (k.trans a) b c, fun O' S' α' σ' H' a b c => l.ct O' S' α' σ' H' (k.trans a) b c, l.rt, l.er.kee k⟩
def RSt (K : Fg) (E : WX) (t : TS) (s : ASt) : Prop := ∀ {W : Wel} {H0 : Hp} {S0 : Ads} {O : Nat → Option Addr} {S : Ads} {α : Afr} {σ : L2.St} {H : Hp} {A : AEn} {D : Ends},
  Frm K W H0 S0 O S α σ H → s A α → Lnk K W H0 S0 S H E A D → t D σ H
section
variable {K : Fg} {E : WX} {t u : TS} {a b : ASt} {te ti : TE} {e ei : AEx} {i j : Nat}
def aSeq (a b : ASt) : ASt := fun A α => a { A with nx := b A } α
theorem rs_seq (h1 : RSt K E t a) (h2 : RSt K E u b) : RSt K E (tSeq t u) (aSeq a b) := by
  intro W H0 S0 O S α σ H A D f h l
  exact h1 (D := { D with nx := u D }) f h ⟨fun O' S' α' σ' H' k g q => h2 g q (l.kee k), l.bk, l.ct, l.rt, l.er⟩
def aCut (a b : ASt) : ASt := fun A α => ∃ M : Afr → Prop, a { A with nx := M } α ∧ ∀ α', M α' → b A α'
theorem rs_cut (h1 : RSt K E t a) (h2 : RSt K E u b) : RSt K E (Evl.tCut t u) (aCut a b) := by
  intro W H0 S0 O S α σ H A D f ⟨M, h, hm⟩ l
  refine ⟨fun σ' H' => ∃ O' S' α', Kee S H S' H' ∧ Frm K W H0 S0 O' S' α' σ' H' ∧ M α', ?_, ?_⟩
  · exact h1 (D := { D with nx := _ }) f h ⟨fun O' S' α' σ' H' k g q => ⟨O', S', α', k, g, q⟩, l.bk, l.ct, l.rt, l.er⟩
  · rintro σ' H' ⟨O', S', α', k, g, q⟩
    exact h2 g (hm α' q) (l.kee k)
def aNext : ASt := fun A α => A.nx α
def aBrk : ASt := fun A α => A.bk α
def aCont : ASt := fun A α => A.ct α
theorem rs_next : RSt K E tNext aNext := fun f h l => l.nx _ _ _ _ _ Kee.refl f h
/-- a value leaves -/
theorem rtn_of {W : Wel} {H0 : Hp} {S0 : Ads} {O : Nat → Option Addr} {S S1 : Ads} {α : Afr} {σ : L2.St} {H H1 : Hp} {v : V} {av : Avl} (f : Frm K W H0 S0 O S α σ H) (m : Mvh W S H S1 H1) (r : Vrp K W H O S1 H1 v av) : Rtn K W H0 S0 v av.out H1 := by
  have g := f.mv m
  refine ⟨S1, g.k.w, g.k0, fun b h => ⟨g.n0 b h, g.k.t b h⟩, ?_⟩
  cases av with
  | d x => exact r
  | l ds =>
    obtain ⟨p, vs, rfl, h1, h2, h3, h4, h5⟩ := r
    exact ⟨p, vs, rfl, h1, h2, h3, f.back h4, h5⟩
  | b i ds =>
    obtain ⟨p, vs, rfl, h0, h1, h2, h3⟩ := r
    obtain ⟨a, b, c, d⟩ := g.o i p h0
    exact ⟨p, vs, rfl, h1, h2, c, a, h3⟩
  | wl u => exact r
  | k c =>
    obtain ⟨p, rfl, h1, h3, h4, h5⟩ := r
    exact ⟨p, rfl, h1, h3, f.back h4, h5⟩
def aRet (e : AEx) : ASt := fun A α => e A.er α fun av => A.rt av.out
def aRetN : ASt := fun A _ => A.rt (.d .none)
theorem rs_ret (h1 : REx K E te e) : RSt K E (tRet te) (aRet e) := by
  intro W H0 S0 O S α σ H A D f h l
  exact h1 f h l.er fun v av S1 H1 m r k => l.rt v _ H1 (rtn_of f m r) k
def aDrop (e : AEx) : ASt := fun A α => e A.er α fun _ => A.nx α
def aIfS (c : ATx) (a b : ASt) : ASt := fun A α => c A.er α fun x => if x = true then a A α else b A α
theorem rs_ifs {c : TT} {x : ATx} (h0 : RTx K E c x) (h1 : RSt K E t a) (h2 : RSt K E u b) : RSt K E (tIfS c t u) (aIfS x a b) := by
  intro W H0 S0 O S α σ H A D f h l
  refine h0 f h l.er fun c S1 H1 m k => ?_
  cases c with
  | true =>
    rw [if_pos rfl] at k ⊢
    exact h1 (f.mv m) k (l.kee (m.kee f.k))
  | false =>
    rw [if_neg (by decide)] at k ⊢
    exact h2 (f.mv m) k (l.kee (m.kee f.k))
def Avl.sot : Avl → Option Sot
  | .d x => some (.d x)
  | .l ds => some (.own ds)
  | .b _ _ => none
  | .wl u => some (.wl u)
  | .k c => some (.dic c)
def Avl.isL : Avl → Bool
  | .l _ => true
  | .k _ => true
  | _ => false
/-- a value comes to a slot -/
theorem store_av {W : Wel} {H0 : Hp} {S0 : Ads} {O : Nat → Option Addr} {S : Ads} {α : Afr} {σ : L2.St} {H Hs : Hp} {v : V} {av : Avl} {z : Sot} (f : Frm K W H0 S0 O S α σ H) (r : Vrp K W Hs O S H v av) (hz : av.sot = some z) (hb : ∀ b, Hs b = none → H0 b = none) (ho : ∀ j p, O j = some p → Hs p ≠ none) :
    ∃ O', Frm K W H0 S0 O' S (α.set i z) (σ.set i (some v)) H ∧ ∀ j p, O' j = some p → O j = some p ∨ (av.isL = true ∧ v = .ref p) := by
  cases av with
  | d x =>
    cases hz
    exact ⟨_, f.setD r, fun j p e => .inl (by unfold odel at e; split at e <;> first | cases e | exact e)⟩
  | l ds =>
    cases hz
    obtain ⟨p, vs, rfl, h1, h2, h3, h4, h5⟩ := r
    refine ⟨_, f.setL (i := i) h1 h2 h3 (hb _ h4) (fun j e => ho j p e h4), fun j q e => ?_⟩
    unfold oput at e
    split at e
    · cases e; exact .inr ⟨rfl, rfl⟩
    · exact .inl e
  | b i ds => cases hz
  | k c =>
    cases hz
    obtain ⟨p, rfl, h1, h3, h4, h5⟩ := r
    refine ⟨_, f.setC (i := i) h1 h3 (hb _ h4) (fun j e => ho j p e h4), fun j q e => ?_⟩
    unfold oput at e
    split at e
    · cases e; exact .inr ⟨rfl, rfl⟩
    · exact .inl e
  | wl u =>
    cases hz
    obtain ⟨on, rfl⟩ := r
    exact ⟨_, f.setW on, fun j p e => .inl (by unfold odel at e; split at e <;> first | cases e | exact e)⟩
def aSet (i : Nat) (e : AEx) : ASt := fun A α => e A.er α fun av => ∃ z, av.sot = some z ∧ A.nx (α.set i z)
theorem rs_set (h1 : REx K E te e) : RSt K E (tAsg te (gName i)) (aSet i e) := by
  intro W H0 S0 O S α σ H A D f h l
  refine h1 f h l.er fun v av S1 H1 m r ⟨z, hz, k⟩ => ?_
  obtain ⟨O', g, _⟩ := store_av (i := i) (f.mv m) r hz (fun b q => f.back q) fun j p e => (f.o j p e).2.1
  exact l.nx O' S1 _ _ H1 (m.kee f.k) g k
/-- two values to two slots -/
def aSet2 (i j : Nat) (e e' : AEx) : ASt := fun A α => e A.er α fun x => e' A.er α fun y => ∃ z w, x.sot = some z ∧ y.sot = some w ∧ A.nx ((α.set i z).set j w)
theorem own_old {W : Wel} {H0 : Hp} {S0 : Ads} {O O1 : Nat → Option Addr} {S1 : Ads} {α : Afr} {σ : L2.St} {H H1 : Hp} {v : V} {av : Avl} (f1 : Frm K W H0 S0 O S1 α σ H1) (r1 : Vrp K W H O S1 H1 v av) (h1 : ∀ j p, O1 j = some p → O j = some p ∨ (av.isL = true ∧ v = .ref p)) : ∀ j p, O1 j = some p → H1 p ≠ none := by
  intro j p e
  rcases h1 j p e with q | ⟨q, rfl⟩
  · exact (f1.o j p q).2.1
  · cases av with
    | l ds =>
      obtain ⟨p', vs, e', a1, _⟩ := r1
      cases e'
      rw [a1]
      intro y
      cases y
    | k c =>
      obtain ⟨p', e', a1, _⟩ := r1
      cases e'
      exact a1.ne
    | d x => cases q
    | b i ds => cases q
    | wl u => cases q
theorem store2 {W : Wel} {H0 : Hp} {S0 : Ads} {O : Nat → Option Addr} {S S1 S2 : Ads} {α : Afr} {σ : L2.St} {H H1 H2 : Hp} {v u : V} {av au : Avl} {z w : Sot} (f : Frm K W H0 S0 O S α σ H) (m1 : Mvh W S H S1 H1) (r1 : Vrp K W H O S1 H1 v av) (m2 : Mvh W S1 H1 S2 H2) (r2 : Vrp K W H1 O S2 H2 u au)
    (hz : av.sot = some z) (hw : au.sot = some w) : ∃ O', Frm K W H0 S0 O' S2 ((α.set i z).set j w) ((σ.set i (some v)).set j (some u)) H2 := by
  have f1 := f.mv m1
  have f2 := f1.mv m2
  obtain ⟨O1, g1, h1⟩ := store_av (i := i) f2 (r1.mv f1.k m2) hz (fun b q => f.back q) fun j p e => (f.o j p e).2.1
  have old := own_old f1 r1 h1
  have r2' : Vrp K W H1 O1 S2 H2 u au := by
    cases au with
    | b k ds => cases hw
    | d x => exact r2
    | l ds => exact r2
    | k c => exact r2
    | wl u => exact r2
  obtain ⟨O2, g2, _⟩ := store_av (i := j) g1 r2' hw (fun b q => f1.back q) old
  exact ⟨O2, g2⟩
theorem rs_set2 {te' : TE} {e' : AEx} (h1 : REx K E te e) (h2 : REx K E te' e') : RSt K E (tPar i j (tCons te (tCons te' tNil))) (aSet2 i j e e') := by
  intro W H0 S0 O S α σ H A D f h l
  refine h1 f h l.er fun v av S1 H1 m r h' => ?_
  have f1 := f.mv m
  refine h2 f1 h' (l.er.kee (m.kee f.k)) fun u au S2 H2 m2 r2 ⟨z, w, hz, hw, k⟩ => ?_
  obtain ⟨O', g⟩ := store2 (i := i) (j := j) f m r m2 r2 hz hw
  exact ⟨v, u, rfl, l.nx O' S2 _ _ H2 ((m.trans m2).kee f.k) g k⟩
/-- by way of a new tuple -/
theorem rs_setT2 {te' : TE} {e' : AEx} (h1 : REx K E te e) (h2 : REx K E te' e') : RSt K E (tAsg (tTup (tCons te (tCons te' tNil))) (gTup K 2 (gCons (gName i) (gCons (gName j) gNil)))) (aSet2 i j e e') := by
  intro W H0 S0 O S α σ H A D f h l
  refine h1 f h l.er fun v av S1 H1 m r h' => ?_
  have f1 := f.mv m
  refine h2 f1 h' (l.er.kee (m.kee f.k)) fun u au S2 H2 m2 r2 ⟨z, w, hz, hw, k⟩ => ?_
  refine ⟨by show 2 ≤ sizeLine; decide, fun p np => ?_⟩
  have m3 := m2.oks.same (Same.new (o := .tup [v, u]) np)
  obtain ⟨O', g⟩ := store2 (i := i) (j := j) f m r (m2.trans m3) (r2.mv m2.oks m3) hz hw
  exact ⟨p, _, rfl, (SqT.of (K := K) upd_same).up, rfl, _, _, rfl, _, _, rfl, rfl, l.nx O' S2 _ _ _ (((m.trans m2).trans m3).kee f.k) g k⟩
def aSet3 (i j n : Nat) (e e' e2 : AEx) : ASt := fun A α => e A.er α fun x => e' A.er α fun y => e2 A.er α fun x2 => ∃ z w z2, x.sot = some z ∧ y.sot = some w ∧ x2.sot = some z2 ∧ A.nx (((α.set i z).set j w).set n z2)
def aApp (i : Nat) (e : AEx) : ASt := fun A α => ∃ ds, α[i]? = some (.own ds) ∧ e A.er α fun av => ∃ x, av.cl = some x ∧ ds.length < 100000 ∧ A.nx (α.set i (.own (ds ++ [x])))
theorem own_at {W : Wel} {H0 : Hp} {S0 : Ads} {O : Nat → Option Addr} {S : Ads} {α : Afr} {σ : L2.St} {H : Hp} {ds : List PyData} (f : Frm K W H0 S0 O S α σ H) (h : α[i]? = some (.own ds)) : ∃ p vs, O i = some p ∧ σ[i]? = some (some (.ref p)) ∧ H p = some (.lst vs) ∧ Ods K S H vs ds ∧ i < α.length ∧ ¬ W.has p ∧ vs.length = ds.length := by
  obtain ⟨p, vs, a, b, c, d⟩ := f.sl i _ h
  exact ⟨p, vs, a, b, c, d, (List.getElem?_eq_some_iff.mp h).1, Wel.ne f.w0 (f.o i p a).1, d.length⟩
/-- the slot's list, ahead of and behind an expression -/
theorem own_mv {W : Wel} {H0 : Hp} {S0 : Ads} {O : Nat → Option Addr} {S S1 : Ads} {α : Afr} {σ : L2.St} {H H1 : Hp} (f : Frm K W H0 S0 O S α σ H) (m : Mvh W S H S1 H1) {p : Addr} {vs : List V} (a : O i = some p) (c : H p = some (.lst vs)) : H1 p = some (.lst vs) := m.k _ _ c (Wel.ne f.w0 (f.o i p a).1)
end
section
variable {K : Fg} {E : WX} {te ti : TE} {e ei : AEx} {i j : Nat}
theorem rs_app (h1 : REx K E te e) : RSt K E (tDrop (tBM K "list" rAppend (tVar i) (tCons te tNil))) (aApp i e) := by
  intro W H0 S0 O S α σ H A D f ⟨ds, h0, h⟩ l
  obtain ⟨p, vs, a, b, c, d, hi, nw, ln⟩ := own_at f h0
  refine ⟨_, b, o_tyL c ?_⟩
  refine h1 f h l.er fun v av S1 H1 m r ⟨x, hx, hl, k⟩ => ?_
  obtain ⟨S2, m2, _, od⟩ := keepx f.k m r hx
  have c2 := own_mv f m2 a c
  have f2 := f.mv m2
  have ods : Ods K S2 H1 (vs ++ [v]) (ds ++ [x]) := (m2.ods f.k.w (fun b z => (f.k.t b z).2) d).append (.cons od .nil)
  obtain ⟨g, ke⟩ := f2.chg a b c2 ods hi
  exact ⟨p, vs, v, rfl, rfl, c2, Nat.lt_of_lt_of_le (by omega) (show 100000 ≤ sizeLine by decide), l.nx O S2 _ σ _ ((m2.kee f.k).trans ke) g k⟩
def aExt (i : Nat) (e : AEx) : ASt := fun A α => ∃ ds, α[i]? = some (.own ds) ∧ e A.er α fun av => ∃ xs, av.lst = some xs ∧ ds.length + xs.length < 100000 ∧ A.nx (α.set i (.own (ds ++ xs)))
theorem Vrp.lst {W : Wel} {Hs : Hp} {O : Nat → Option Addr} {S : Ads} {H : Hp} {v : V} {av : Avl} {ds : List PyData} (r : Vrp K W Hs O S H v av) (e : av.lst = some ds) : ∃ p vs, v = .ref p ∧ H p = some (.lst vs) ∧ Ods K S H vs ds := by
  cases av with
  | d x =>
    cases x with
    | list xs =>
      cases e
      cases r with
      | lst a b c => exact ⟨_, _, rfl, b, c⟩
    | _ => cases e
  | l xs =>
    cases e
    obtain ⟨p, vs, rfl, h1, h2, _⟩ := r
    exact ⟨p, vs, rfl, h1, h2⟩
  | b j xs =>
    cases e
    obtain ⟨p, vs, rfl, _, h1, h2, _⟩ := r
    exact ⟨p, vs, rfl, h1, h2⟩
  | k c => cases e
  | wl u => cases e
theorem Vrp.tup {W : Wel} {Hs : Hp} {O : Nat → Option Addr} {S : Ads} {H : Hp} {v : V} {av : Avl} {ds : List PyData} (r : Vrp K W Hs O S H v av) (e : av.tup = some ds) : ∃ p vs, v = .ref p ∧ SqT K H p vs ∧ Ods K S H vs ds := by
  cases av with
  | d x =>
    cases x with
    | tuple xs =>
      cases e
      cases r with
      | tup a b => exact ⟨_, _, rfl, a, b⟩
    | _ => cases e
  | l xs => cases e
  | b j xs => cases e
  | k c => cases e
  | wl u => cases e
/-- x = y.pop(i) -/
def aPop (i j : Nat) (e : AEx) : ASt := fun A α => ∃ ds, α[i]? = some (.own ds) ∧ e A.er α fun av => ∃ (n : Nat) (x : PyData), av = .d (.int n) ∧ ds[n]? = some x ∧ n < 100000 ∧ A.nx ((α.set i (.own (ds.eraseIdx n))).set j (.d x))
theorem Ods.erase {G : Ads} {H : Hp} : ∀ {vs : List V} {ds : List PyData} (n : Nat), Ods K G H vs ds → Ods K G H (vs.eraseIdx n) (ds.eraseIdx n)
  | _, _, _, .nil => .nil
  | _, _, 0, .cons _ h => h
  | _, _, n + 1, .cons a h => .cons a (Ods.erase n h)
theorem rs_pop (h1 : REx K E te e) : RSt K E (tAsg (tBM K "list" rPopAt (tVar i) (tCons te tNil)) (gName j)) (aPop i j e) := by
  intro W H0 S0 O S α σ H A D f ⟨ds, h0, h⟩ l
  obtain ⟨p, vs, a, b, c, d, hi, nw, ln⟩ := own_at f h0
  refine ⟨_, b, o_tyL c ?_⟩
  refine h1 f h l.er fun v av S1 H1 m r ⟨n, x, ev, hx, hl, k⟩ => ?_
  subst ev
  cases r
  have c2 := own_mv f m a c
  have f2 := f.mv m
  have od1 := m.ods f.k.w (fun b z => (f.k.t b z).2) d
  obtain ⟨y, hy, oy⟩ := od1.nth hx
  obtain ⟨g, ke⟩ := f2.chg a b c2 (od1.erase n) hi
  refine o_popAt c2 rfl hy hl fun H2 a2 => ?_
  have e2 : H2 = upd H1 p (.lst (vs.eraseIdx n)) := by
    funext q
    by_cases z : q = p
    · rw [z, upd_same]; exact a2.1
    · rw [upd_ne z]; exact a2.2 q z
  rw [e2]
  exact l.nx _ S1 _ _ _ ((m.kee f.k).trans ke) (g.setD (ke.od oy)) k
/-- x[i] = e, x a slot's list -/
def aSetI (i : Nat) (e ei : AEx) : ASt := fun A α => e A.er α fun av => ∃ x, av.cl = some x ∧ ∃ ds, α[i]? = some (.own ds) ∧ ei A.er α fun ai => ∃ (j : Int) (n : Nat), ai = .d (.int j) ∧ ixN ds.length j = some n ∧ A.nx (α.set i (.own (ds.set n x)))
theorem Ods.setN {G : Ads} {H : Hp} {v : V} {x : PyData} (o : Od K G H v x) : ∀ {vs : List V} {ds : List PyData} (n : Nat), Ods K G H vs ds → Ods K G H (vs.set n v) (ds.set n x)
  | _, _, _, .nil => .nil
  | _, _, 0, .cons _ h => .cons o h
  | _, _, n + 1, .cons a h => .cons a (Ods.setN o n h)
theorem rs_setI (h1 : REx K E te e) (h2 : REx K E ti ei) : RSt K E (tAsg te (gSub (tVar i) ti rSetL)) (aSetI i e ei) := by
  intro W H0 S0 O S α σ H A D f h l
  refine h1 f h l.er fun v av S1 H1 m r ⟨x, hx, ds, h0, h'⟩ => ?_
  obtain ⟨S2, m2, _, od⟩ := keepx f.k m r hx
  have f2 := f.mv m2
  obtain ⟨p, vs, a, b, c, d, hi, nw, ln⟩ := own_at f2 h0
  refine ⟨_, b, ?_⟩
  refine h2 f2 h' (l.er.kee (m2.kee f.k)) fun u au S3 H3 m3 r3 ⟨j, n, ev, hn, k⟩ => ?_
  subst ev
  cases r3
  have f3 := f2.mv m3
  have t2 : ∀ b, S2 b → ¬ W.has b := fun b z => (f2.k.t b z).2
  have c3 := own_mv f2 m3 a c
  obtain ⟨g, ke⟩ := f3.chg a b c3 ((m3.ods f2.k.w t2 d).setN (m3.od f2.k.w t2 od) n) hi
  exact ⟨p, vs, j, n, rfl, rfl, c3, by rw [ln]; exact hn, l.nx O S3 _ _ _ (((m2.trans m3).kee f.k).trans ke) g k⟩
end
abbrev ATg := PyData → Afr → (Afr → Prop) → Prop
abbrev ATgs := List PyData → Afr → (Afr → Prop) → Prop
def awipe (α : Afr) : List Nat → Afr
  | [] => α
  | v :: vs => (awipe α vs).set v .x
/-- is: what it may store to -/
def RTg (K : Fg) (g : TG) (ag : ATg) (is : List Nat) : Prop := ∀ {W : Wel} {H0 : Hp} {S0 : Ads} {O : Nat → Option Addr} {S : Ads} {α : Afr} {σ : L2.St} {H : Hp} {v : V} {x : PyData} {k : Afr → Prop} {Q : L2.St → Hp → Prop},
  Frm K W H0 S0 O S α σ H → Od K S H v x → ag x α k → (∀ O' α' σ', Frm K W H0 S0 O' S α' σ' H → (∀ i, i ∉ is → σ'[i]? = σ[i]?) → σ'.length = σ.length → k α' → Q σ' H) → g v σ H Q
def RTgs (K : Fg) (g : TGs) (ag : ATgs) (is : List Nat) : Prop := ∀ {W : Wel} {H0 : Hp} {S0 : Ads} {O : Nat → Option Addr} {S : Ads} {α : Afr} {σ : L2.St} {H : Hp} {vs : List V} {xs : List PyData} {k : Afr → Prop} {Q : L2.St → Hp → Prop},
  Frm K W H0 S0 O S α σ H → Ods K S H vs xs → ag xs α k → (∀ O' α' σ', Frm K W H0 S0 O' S α' σ' H → (∀ i, i ∉ is → σ'[i]? = σ[i]?) → σ'.length = σ.length → k α' → Q σ' H) → g vs σ H Q
section
variable {K : Fg} {E : WX} {i n : Nat} {g : TG} {gs : TGs} {ag : ATg} {ags : ATgs} {is js : List Nat}
def agName (i : Nat) : ATg := fun x α k => k (α.set i (.d x))
def agNil : ATgs := fun xs α k => xs = [] ∧ k α
def agCons (a : ATg) (r : ATgs) : ATgs := fun xs α k => ∃ y ys, xs = y :: ys ∧ a y α fun α1 => r ys α1 k
def agTup (n : Nat) (r : ATgs) : ATg := fun x α k => ∃ ds, x = .tuple ds ∧ ds.length = n ∧ r ds α k
theorem rg_name : RTg K (gName i) (agName i) [i] := by
  intro W H0 S0 O S α σ H v x k Q f o h q
  exact q _ _ _ (f.setD o) (fun j hj => List.getElem?_set_ne fun z => hj (by rw [z]; exact List.mem_singleton_self _)) (List.length_set) h
theorem rgs_nil : RTgs K gNil agNil [] := by
  intro W H0 S0 O S α σ H vs xs k Q f o ⟨e, h⟩ q
  subst e
  cases o
  exact ⟨rfl, q _ _ _ f (fun _ _ => rfl) rfl h⟩
theorem rgs_cons (h1 : RTg K g ag is) (h2 : RTgs K gs ags js) : RTgs K (gCons g gs) (agCons ag ags) (is ++ js) := by
  intro W H0 S0 O S α σ H vs xs k Q f o ⟨y, ys, e, h⟩ q
  subst e
  cases o with
  | cons o os =>
    refine ⟨_, _, rfl, h1 f o h fun O1 α1 σ1 f1 a1 l1 h' => ?_⟩
    exact h2 f1 os h' fun O2 α2 σ2 f2 a2 l2 k2 => q _ _ _ f2 (fun i hi => (a2 i fun z => hi (List.mem_append_right _ z)).trans (a1 i fun z => hi (List.mem_append_left _ z))) (l2.trans l1) k2
theorem rg_tup (h1 : RTgs K gs ags is) : RTg K (gTup K n gs) (agTup n ags) is := by
  intro W H0 S0 O S α σ H v x k Q f o ⟨ds, e, hl, h⟩ q
  subst e
  cases o with
  | tup a b => exact ⟨_, _, rfl, a.up, by rw [b.length]; exact hl, h1 f b h q⟩
def aAsg (e : AEx) (g : ATg) : ASt := fun A α => e A.er α fun av => ∃ x, av.cl = some x ∧ g x α A.nx
theorem rs_asg {te : TE} {e : AEx} (h1 : REx K E te e) (h2 : RTg K g ag is) : RSt K E (tAsg te g) (aAsg e ag) := by
  intro W H0 S0 O S α σ H A D f h l
  refine h1 f h l.er fun v av S1 H1 m r ⟨x, hx, k⟩ => ?_
  obtain ⟨S2, m2, _, od⟩ := keepx f.k m r hx
  exact h2 (f.mv m2) od k fun O' α' σ' f' _ _ k' => l.nx O' S2 α' σ' H1 (m2.kee f.k) f' k'
abbrev AIt := AXr → Afr → (List PyData → List Nat → Prop) → Prop
def Kgo (G : Ads) (H1 : Hp) : Hp → Prop := fun H2 => Tm H1 H2 ∧ ∀ b o, G b → H1 b = some o → H2 b = some o
def Ygo (K : Fg) (G : Ads) (xs : List PyData) : Nat → Hp → V → Hp → Prop := fun i H v H' => Same H H' ∧ ∃ x, xs[i]? = some x ∧ Od K G H' v x
def RIt (K : Fg) (E : WX) (t : TI) (e : AIt) : Prop := ∀ {W : Wel} {H0 : Hp} {S0 : Ads} {O : Nat → Option Addr} {S : Ads} {α : Afr} {σ : L2.St} {H : Hp} {X : AXr} {k : List PyData → List Nat → Prop} {R : It → Hp → Prop},
  Frm K W H0 S0 O S α σ H → e X α k → Lkx K W H0 S0 S H E X → (∀ J xs fz G S' H', Mvh W S H S' H' → (∀ i ∈ fz, ∃ ds, α[i]? = some (.own ds)) → (∀ b, G b → S' b ∨ ∃ i ∈ fz, O i = some b) → Walk J xs.length (Kgo G H') (Ygo K S' xs) → k xs fz → R J H') → t σ H R
def aFrz (α : Afr) : List Nat → Afr
  | [] => α
  | i :: r => aFrz (match α[i]? with | some (.own ds) => α.set i (.d (.list ds)) | _ => α) r
theorem Frm.frzs {W : Wel} {H0 : Hp} {S0 : Ads} {σ : L2.St} {H : Hp} : ∀ (fz : List Nat) {O : Nat → Option Addr} {S : Ads} {α : Afr}, Frm K W H0 S0 O S α σ H → ∃ O' S', Frm K W H0 S0 O' S' (aFrz α fz) σ H ∧ Kee S H S' H ∧ ∀ i ∈ fz, (∃ ds, α[i]? = some (.own ds)) → ∀ b, O i = some b → S' b
  | [], O, S, α, f => ⟨O, S, f, Kee.refl, fun i hi => by cases hi⟩
  | j :: r, O, S, α, f => by
    unfold aFrz
    split
    · rename_i ds e
      obtain ⟨p, vs, a, _⟩ := f.sl j _ e
      obtain ⟨f1, k1⟩ := f.frz e a
      obtain ⟨O', S', f', k', h'⟩ := Frm.frzs r f1
      refine ⟨O', S', f', k1.trans k', fun i hi ⟨es, ei⟩ b hb => ?_⟩
      by_cases z : i = j
      · subst z
        rw [a] at hb
        cases hb
        exact k'.s _ (.inr rfl)
      · rcases List.mem_cons.mp hi with q | hi
        · exact absurd q z
        · exact h' i hi ⟨es, by rw [List.getElem?_set_ne fun y => z y.symm]; exact ei⟩ b (by unfold odel; rw [if_neg z]; exact hb)
    · rename_i ne
      obtain ⟨O', S', f', k', h'⟩ := Frm.frzs r f
      refine ⟨O', S', f', k', fun i hi ⟨es, ei⟩ b hb => ?_⟩
      rcases List.mem_cons.mp hi with q | hi
      · subst q
        exact absurd ei (ne es)
      · exact h' i hi ⟨es, ei⟩ b hb
def aLoop (g : ATg) (b : ASt) (A : AEn) (xs : List PyData) (α : Afr) : Prop := ∃ Pv : Nat → Afr → Prop, Pv 0 α ∧ (∀ i x α, xs[i]? = some x → Pv i α → g x α fun α1 => b { A with nx := Pv (i + 1), ct := Pv (i + 1), bk := A.nx } α1) ∧ ∀ α, Pv xs.length α → A.nx α
def aFor (w : AIt) (g : ATg) (b : ASt) : ASt := fun A α => w A.er α fun xs fz => aLoop g b A xs (aFrz α fz)
theorem rs_for {wi : TI} {tb : TS} {w : AIt} {b : ASt} (h1 : RIt K E wi w) (h2 : RTg K g ag is) (h3 : RSt K E tb b) : RSt K E (tFor wi g tb) (aFor w ag b) := by
  intro W H0 S0 O S α σ H A D f h l
  refine s_for ?_
  refine h1 f h l.er fun J xs fz G S1 H1 m hz hG wk ⟨Pv, p0, ps, pd⟩ => ?_
  obtain ⟨O2, S2, f2, k2, hS⟩ := Frm.frzs fz (f.mv m)
  have gs : ∀ b, G b → S2 b := fun b hb => by
    rcases hG b hb with q | ⟨i, hi, q⟩
    · exact k2.s b q
    · exact hS i hi (hz i hi) b q
  have k02 := (m.kee f.k).trans k2
  refine f_go wk (fun i σ' H' => ∃ O' S' α', Kee S2 H1 S' H' ∧ Frm K W H0 S0 O' S' α' σ' H' ∧ Pv i α') ⟨O2, S2, _, Kee.refl, f2, p0⟩ (fun i σ' H' _ ⟨_, _, _, ke, _⟩ => ⟨ke.t, fun b o hb e => ke.k b o (gs b hb) e⟩) ?_ ?_
  · rintro i v σ' H' H2 hi ⟨O', S', α', ke, f', hl⟩ ⟨sm, x, hx, ox⟩
    have m' := f'.k.same sm
    have f'' := f'.mv m'
    refine h2 f'' (ox.gr fun b hb => ke.s b (k2.s b hb)) (ps i x α' hx hl) fun O3 α3 σ3 f3 _ _ hb => ?_
    have ke3 := ke.trans (m'.kee f'.k)
    refine h3 (D := { D with nx := _, ct := _, bk := D.nx }) f3 hb ⟨fun O4 S4 α4 σ4 H4 q1 q2 q3 => ⟨O4, S4, α4, ke3.trans q1, q2, q3⟩, fun O4 S4 α4 σ4 H4 q1 q2 q3 => l.nx O4 S4 α4 σ4 H4 (k02.trans (ke3.trans q1)) q2 q3, fun O4 S4 α4 σ4 H4 q1 q2 q3 => ⟨O4, S4, α4, ke3.trans q1, q2, q3⟩, l.rt, l.er.kee (k02.trans ke3)⟩
  · rintro σ' H' ⟨O', S', α', ke, f', hl⟩
    exact l.nx O' S' α' σ' H' (k02.trans ke) f' (pd α' hl)
def aWhile (c : ATx) (b : ASt) : ASt := fun A α => ∃ I : Nat → Afr → Prop, (∃ m, I m α) ∧ ∀ m α, I m α → c A.er α fun t => if t = true then b { A with nx := fun α' => ∃ m', m' < m ∧ I m' α', ct := fun α' => ∃ m', m' < m ∧ I m' α', bk := A.nx } α else A.nx α
theorem rs_while {c : TT} {tb : TS} {x : ATx} {b : ASt} (h1 : RTx K E c x) (h2 : RSt K E tb b) : RSt K E (tWhile c tb) (aWhile x b) := by
  intro W H0 S0 O S α σ H A D f ⟨I, ⟨m0, i0⟩, h⟩ l
  refine ⟨fun m σ' H' => ∃ O' S' α', Kee S H S' H' ∧ Frm K W H0 S0 O' S' α' σ' H' ∧ I m α', ⟨m0, O, S, α, Kee.refl, f, i0⟩, ?_⟩
  rintro m σ' H' ⟨O', S', α', ke, f', im⟩
  refine h1 f' (h m α' im) (l.er.kee ke) fun t S1 H1 m1 k1 => ?_
  have ke1 := ke.trans (m1.kee f'.k)
  cases t with
  | true =>
    rw [if_pos rfl] at k1 ⊢
    refine ⟨fun σ' H' => ∃ m', m' < m ∧ ∃ O' S' α', Kee S H S' H' ∧ Frm K W H0 S0 O' S' α' σ' H' ∧ I m' α', fun σ2 H2 ⟨m', hm, q⟩ => ⟨m', hm, q⟩, ?_⟩
    exact h2 (D := { D with nx := _, ct := _, bk := D.nx }) (f'.mv m1) k1 ⟨fun O4 S4 α4 σ4 H4 q1 q2 ⟨m', hm, q3⟩ => ⟨m', hm, O4, S4, α4, ke1.trans q1, q2, q3⟩, fun O4 S4 α4 σ4 H4 q1 q2 q3 => l.nx O4 S4 α4 σ4 H4 (ke1.trans q1) q2 q3, fun O4 S4 α4 σ4 H4 q1 q2 ⟨m', hm, q3⟩ => ⟨m', hm, O4, S4, α4, ke1.trans q1, q2, q3⟩, l.rt, l.er.kee ke1⟩
  | false =>
    rw [if_neg (by decide)] at k1 ⊢
    exact l.nx O' S1 α' σ' H1 ke1 (f'.mv m1) k1
end
end UW
namespace UW
open PySem PySem.Spec PyProof.Rows L2
theorem wipe_get {σ : L2.St} {j : Nat} : ∀ {vs : List Nat}, (wipe σ vs)[j]? = if j ∈ vs ∧ j < σ.length then some none else σ[j]?
  | [] => by simp [wipe]
  | v :: vs => by
    unfold wipe
    by_cases e : v = j
    · subst e
      by_cases hl : v < σ.length
      · rw [List.getElem?_set_self (by rw [wipe_length]; exact hl), if_pos ⟨List.mem_cons_self .., hl⟩]
      · rw [List.getElem?_eq_none (by rw [List.length_set, wipe_length]; omega), if_neg (fun z => hl z.2), List.getElem?_eq_none (by omega)]
    · rw [List.getElem?_set_ne e, wipe_get (vs := vs)]
      by_cases q : j ∈ vs ∧ j < σ.length
      · rw [if_pos q, if_pos ⟨List.mem_cons_of_mem _ q.1, q.2⟩]
      · rw [if_neg q, if_neg fun z => q ⟨(List.mem_cons.mp z.1).elim (fun y => absurd y.symm e) id, z.2⟩]
theorem wipe_agree {σ σ2 : L2.St} {vs : List Nat} (h : ∀ i, i ∉ vs → σ2[i]? = (wipe σ vs)[i]?) (hl : σ2.length = (wipe σ vs).length) : wipe σ2 vs = wipe σ vs := by
  rw [wipe_length] at hl
  refine List.ext_getElem? fun j => ?_
  rw [wipe_get, wipe_get]
  by_cases e : j ∈ vs
  · by_cases q : j < σ.length
    · rw [if_pos ⟨e, by omega⟩, if_pos ⟨e, q⟩]
    · rw [if_neg (fun z => q (by omega)), if_neg (fun z => q z.2), List.getElem?_eq_none (by omega), List.getElem?_eq_none (by omega)]
  · rw [if_neg (fun z => e z.1), if_neg (fun z => e z.1), h j e, wipe_get, if_neg (fun z => e z.1)]
section
variable {K : Fg} {W : Wel} {H0 H H1 : Hp} {S0 S S1 : Ads} {O : Nat → Option Addr} {α : Afr} {σ : L2.St} {i : Nat}
theorem Frm.keepO (f : Frm K W H0 S0 O S α σ H) : Frm K W H0 S0 O S (α.set i .x) (σ.set i none) H := by
  refine ⟨f.k, f.k0, f.n0, f.w0, f.o, by rw [List.length_set, List.length_set]; exact f.len, fun j y e => ?_⟩
  rcases set_get e with ⟨rfl, rfl, hl⟩ | ⟨n, e⟩
  · trivial
  · exact (f.sl j y e).other n rfl
theorem Frm.wiped (f : Frm K W H0 S0 O S α σ H) : ∀ vs : List Nat, Frm K W H0 S0 O S (awipe α vs) (wipe σ vs) H
  | [] => f
  | v :: vs => (Frm.wiped f vs).keepO
end
def aX0 : AXr := fun _ _ _ => False
def aLcGo (g : ATg) (t : ATx) (e : AEx) (α : Afr) (k : Avl → Prop) (xs : List PyData) : Prop := ∃ Pv : Nat → List PyData → Prop, Pv 0 [] ∧
  (∀ i x acc, xs[i]? = some x → Pv i acc → g x α fun α2 => t aX0 α2 fun b => if b = true then e aX0 α2 fun av => ∃ y, av.cl = some y ∧ Pv (i + 1) (acc ++ [y]) else Pv (i + 1) acc) ∧ ∀ acc, Pv xs.length acc → acc.length ≤ xs.length → k (.l acc)
def aLc (w : AIt) (g : ATg) (t : ATx) (e : AEx) (vs : List Nat) : AEx := fun X α k => w X α fun xs _ => xs.length < 100000 ∧ aLcGo g t e (awipe α vs) k xs
section
variable {K : Fg} {E : WX} {n : Nat} {g : TG} {ag : ATg} {is : List Nat}
theorem re_lc {wi : TI} {tt : TT} {te : TE} {w : AIt} {t : ATx} {e : AEx} {vs : List Nat} (h1 : RIt K E wi w) (h2 : RTg K g ag is) (h3 : RTx K E tt t) (h4 : REx K E te e) (hs : is.all (fun i => vs.contains i) = true) : REx K E (tLc wi g tt te vs) (aLc w ag t e vs) := by
  intro W H0 S0 O S α σ H X k Q f h lk q
  refine s_lc ?_
  refine h1 f h lk fun J xs fz G S1 H1 m hz hG wk ⟨hl, Pv, p0, ps, pd⟩ => ?_
  have f1 := f.mv m
  have hv : ∀ i, i ∉ vs → i ∉ is := fun i hi z => hi (by have := List.all_eq_true.mp hs i z; simpa using this)
  have noX : ∀ {S' : Ads} {H' : Hp}, Lkx K W H0 S0 S' H' E aX0 := fun O S' α σ H' C d f _ _ _ z => z.elim
  have keepG : ∀ {S2 : Ads} {H2 : Hp}, Mvh W S1 H1 S2 H2 → Kgo G H1 H2 := fun m2 => ⟨m2.tm f1.k.w, fun b o hb e => by
    rcases hG b hb with z | ⟨i, hi, z⟩
    · exact m2.k b o e (f1.k.t b z).2
    · exact m2.k b o e (Wel.ne f.w0 (f.o i b z).1)⟩
  -- the new list changes
  have push : ∀ {D : Addr} {S5 : Ads} {H5 H6 : Hp} {us ws : List V}, H1 D = none → Mvh W S1 H1 S5 H5 → ¬ S5 D → H5 D = some (.lst us) → At D (.lst ws) H5 H6 → Mvh W S1 H1 S5 H6 := by
    intro D S5 H5 H6 us ws hD m5 nD h5 a6
    have nDw : ¬ W.has D := Wel.ne m.w hD
    refine ⟨fun b o e z => a6.ne (m5.k b o e z) (fun y => by rw [y, hD] at e; cases e), fun on => ?_, m5.s, m5.n, fun b hb => ⟨?_, (m5.t b hb).2⟩⟩
    · exact (m5.w.keep fun b o z e => a6.ne e fun y => nDw (y ▸ z)) on
    · rw [a6.2 b fun y => nD (y ▸ hb)]
      exact (m5.t b hb).1
  refine lc_inv wk (fun D i ys H' => ∃ S2 acc, Mvh W S1 H1 S2 H' ∧ Ods K S2 H' ys acc ∧ ¬ S2 D ∧ Pv i acc ∧ acc.length ≤ i) hl ?_ ?_ ?_ ?_
  · intro D H' hD sm _
    exact ⟨S1, [], m.oks.same sm, .nil, fun z => (m.t D z).1 hD, p0, Nat.le_refl _⟩
  · rintro D i ys H' _ ⟨S2, acc, m2, _⟩
    exact keepG m2
  · rintro D i ys x H2 H3 hD hi ⟨S2, acc, m2, oy, nD, go, la⟩ hy ⟨sm, z, hx, ox⟩ Yes No hyes hno
    have m23 := m2.oks.same sm
    have m3 := m2.trans m23
    have fw := (f1.mv m3).wiped vs
    refine h2 fw (ox.gr m2.s) (ps i z acc hx go) fun O3 α3 σ3 f3 a3 l3 go => ⟨wipe_agree (fun i hi => a3 i (hv i hi)) l3, ?_⟩
    refine h3 f3 go noX fun b S4 H4 m4 go => ?_
    have f4 := f3.mv m4
    have m14 := m3.trans m4
    have nD4 : ¬ S4 D := fun y => (m4.n D y).elim nD fun y => by rw [sm D _ hy] at y; cases y
    have nDw : ¬ W.has D := Wel.ne m.w hD
    have hy4 := m4.k D _ (sm D _ hy) nDw
    have oy4 := (m23.trans m4).ods m2.w (fun b z => (m2.t b z).2) oy
    cases b with
    | true =>
      rw [if_pos rfl] at go ⊢
      refine h4 f4 go noX fun v av S5 H5 m5 r5 ⟨y, hy5, go⟩ => ?_
      obtain ⟨S6, m6, _, o6⟩ := keepx f4.k m5 r5 hy5
      have nD6 : ¬ S6 D := fun y => (m6.n D y).elim nD4 fun y => by rw [hy4] at y; cases y
      have hy6 := m6.k D _ hy4 nDw
      refine hyes v H5 hy6 fun H7 a7 => ⟨S6, acc ++ [y], push hD (m14.trans m6) nD6 hy6 a7, ?_, nD6, go, by rw [List.length_append, List.length_singleton]; omega⟩
      have kk : ∀ b o, S6 b → H5 b = some o → H7 b = some o := fun b o hb e => a7.ne e (fun y => nD6 (y ▸ hb))
      have tm := a7.tm hy6
      exact ((m6.ods f4.k.w (fun b z => (f4.k.t b z).2) oy4).append (.cons o6 .nil)).mv tm fun b o hb e => ⟨hb, kk b o hb e⟩
    | false =>
      rw [if_neg (by decide)] at go ⊢
      exact hno H4 hy4 ⟨S4, acc, m14, oy4, nD4, go, by omega⟩
  · rintro D ys H2 hD ⟨S2, acc, m2, oy, nD, go, la⟩ hy _
    exact q (.ref D) (.l acc) S2 H2 (m.trans m2) ⟨D, ys, rfl, hy, oy, nD, m.back hD, Wel.ne m.w hD⟩ (pd acc go la)
def aSeqI (e : AEx) : AIt := fun X α k => e X α fun av => (∃ ds, av = .d (.tuple ds) ∧ k ds []) ∨ (∃ ds, av.cl = some (.list ds) ∧ k ds []) ∨ ∃ i ds, av = .b i ds ∧ α[i]? = some (.own ds) ∧ k ds [i]
theorem walk_seqT {S' G : Ads} {H' : Hp} {p : Addr} {vs : List V} {ds : List PyData} (h : SqT K H' p vs) (o : Ods K S' H' vs ds) (g : ∀ b, S' b → G b) : Walk (Itt K p) ds.length (Kgo G H') (Ygo K S' ds) := by
  rw [← o.length]
  refine walk_tup.mono (fun H2 k => k.1.sq h) fun i H2 x H3 hi k y => ?_
  obtain ⟨rfl, hx⟩ := y
  obtain ⟨d, hd, od⟩ := o.get hx
  exact ⟨Same.refl _, d, hd, od.mv k.1 fun a o ga e => ⟨ga, k.2 a o (g a ga) e⟩⟩
theorem walk_seqL {S' G : Ads} {H' : Hp} {p : Addr} {vs : List V} {ds : List PyData} (h : H' p = some (.lst vs)) (gp : G p) (o : Ods K S' H' vs ds) (g : ∀ b, S' b → G b) : Walk (Itl K p) ds.length (Kgo G H') (Ygo K S' ds) := by
  rw [← o.length]
  refine walk_list.mono (fun H2 k => SqL.of (k.2 p _ gp h)) fun i H2 x H3 hi k y => ?_
  obtain ⟨rfl, hx⟩ := y
  obtain ⟨d, hd, od⟩ := o.get hx
  exact ⟨Same.refl _, d, hd, od.mv k.1 fun a o ga e => ⟨ga, k.2 a o (g a ga) e⟩⟩
/-- what is walked: where it is, and what is to be kept -/
theorem seq_at {W : Wel} {H0 : Hp} {S0 : Ads} {O : Nat → Option Addr} {S S1 : Ads} {α : Afr} {σ : L2.St} {H H1 : Hp} {v : V} {av : Avl} {k : List PyData → List Nat → Prop} (f : Frm K W H0 S0 O S α σ H) (m : Mvh W S H S1 H1) (r : Vrp K W H O S1 H1 v av)
    (h : (∃ ds, av = .d (.tuple ds) ∧ k ds []) ∨ (∃ ds, av.cl = some (.list ds) ∧ k ds []) ∨ ∃ i ds, av = .b i ds ∧ α[i]? = some (.own ds) ∧ k ds [i]) :
    ∃ p vs ds fz S2, v = .ref p ∧ Mvh W S H S2 H1 ∧ Ods K S2 H1 vs ds ∧ (SqT K H1 p vs ∨ (H1 p = some (.lst vs) ∧ (S2 p ∨ ∃ i ∈ fz, O i = some p))) ∧ (∀ i ∈ fz, ∃ ds, α[i]? = some (.own ds)) ∧ k ds fz := by
  rcases h with ⟨ds, e, h⟩ | ⟨ds, e, h⟩ | ⟨i, ds, e, hi, h⟩
  · subst e
    obtain ⟨p, vs, rfl, a, b⟩ := r.tup (ds := ds) rfl
    exact ⟨p, vs, ds, [], S1, rfl, m, b, .inl a, (fun i hi => by cases hi), h⟩
  · obtain ⟨S2, m2, _, o⟩ := keepx f.k m r e
    cases o with
    | lst a b c => exact ⟨_, _, ds, [], S2, rfl, m2, c, .inr ⟨b, .inl a⟩, (fun i hi => by cases hi), h⟩
  · subst e
    obtain ⟨p, vs, rfl, a, b, c, _⟩ := r
    exact ⟨p, vs, ds, [i], S1, rfl, m, c, .inr ⟨b, .inr ⟨i, List.mem_singleton_self _, a⟩⟩, fun j hj => by rw [List.mem_singleton.mp hj]; exact ⟨ds, hi⟩, h⟩
theorem ri_seq {tl : TE} {e : AEx} (h1 : REx K E tl e) : RIt K E (iSeq K tl) (aSeqI e) := by
  intro W H0 S0 O S α σ H X k R f h lk q
  refine w_seq ?_
  refine h1 f h lk fun v av S1 H1 m r h' => ?_
  obtain ⟨p, vs, ds, fz, S2, rfl, m2, o, hp, hz, hk⟩ := seq_at f m r h'
  rcases hp with hp | ⟨hp, gp⟩
  · exact w_seqT hp (q _ ds fz S2 S2 H1 m2 hz (fun b z => .inl z) (walk_seqT hp o fun _ z => z) hk)
  · exact w_seqL (SqL.of hp) (q _ ds fz (fun b => S2 b ∨ b = p) S2 H1 m2 hz (fun b z => z.elim .inl fun y => by rw [y]; exact gp) (walk_seqL hp (.inr rfl) o fun _ z => .inl z) hk)
def aRng1 (a : AAv) : AIt := fun X α k => a X α fun as => ∃ j : Int, as = [.d (.int j)] ∧ -1000000 ≤ j ∧ j ≤ 1000000 ∧ k ((iota j.toNat).map .int) []
def rgI (i j : Int) : List Int := (List.range (j - i).toNat).map fun (t : Nat) => i + (t : Int)
def aRng2 (a : AAv) : AIt := fun X α k => a X α fun as => ∃ i j : Int, as = [.d (.int i), .d (.int j)] ∧ -1000000 ≤ i ∧ i ≤ 1000000 ∧ -1000000 ≤ j ∧ j ≤ 1000000 ∧ k ((rgI i j).map .int) []
theorem walk_rg {S' G : Ads} {H' : Hp} {lo : Int} {n : Nat} {ns : List Int} (h : ns = (List.range n).map fun (t : Nat) => lo + (t : Int)) : Walk (Itr lo n) (ns.map PyData.int).length (Kgo G H') (Ygo K S' (ns.map .int)) := by
  have e : (ns.map PyData.int).length = n := by rw [List.length_map, h, List.length_map, List.length_range]
  rw [e]
  refine walk_range.mono (fun _ _ => trivial) fun i H2 x H3 hi _ y => ?_
  obtain ⟨rfl, rfl⟩ := y
  refine ⟨Same.refl _, .int (lo + (i : Int)), ?_, .int _⟩
  rw [h, List.map_map, List.getElem?_map, List.getElem?_range hi]
  rfl
theorem ri_rng1 {ta : TA} {a : AAv} (h1 : RAv K E ta a 1) : RIt K E (iRng1 ta) (aRng1 a) := by
  intro W H0 S0 O S α σ H X k R f h lk q
  refine w_rng1 ?_
  refine h1 f h lk fun vs avs S1 H1 m r _ ⟨j, e, j0, j1, hk⟩ => ?_
  subst e
  rcases r with _ | ⟨r1, r2⟩
  cases r2
  cases r1
  refine w_rng (by omega) (q _ _ [] S1 S1 H1 m (fun i hi => by cases hi) (fun b z => .inl z) (walk_rg ?_) hk)
  unfold iota
  exact List.map_congr_left fun t _ => (Int.zero_add _).symm
theorem ri_rng2 {ta : TA} {a : AAv} (h1 : RAv K E ta a 2) : RIt K E (iRng2 ta) (aRng2 a) := by
  intro W H0 S0 O S α σ H X k R f h lk q
  refine w_rng2 ?_
  refine h1 f h lk fun vs avs S1 H1 m r _ ⟨i, j, e, i0, i1, j0, j1, hk⟩ => ?_
  subst e
  rcases r with _ | ⟨r1, r2⟩
  rcases r2 with _ | ⟨r2, r3⟩
  cases r3
  cases r1
  cases r2
  exact w_rngB (by omega) (q _ _ [] S1 S1 H1 m (fun i hi => by cases hi) (fun b z => .inl z) (walk_rg rfl) hk)
def enD (ds : List PyData) : List PyData := (List.range ds.length).map fun (i : Nat) => .tuple [.int (i : Int), ds.getD i .none]
def ziD : List PyData → List PyData → List PyData
  | x :: xs, y :: ys => .tuple [x, y] :: ziD xs ys
  | _, _ => []
def aEnum (a : AAv) : AIt := fun X α k => a X α fun as => ∃ av, as = [av] ∧ ((∃ ds, av = .d (.tuple ds) ∧ k (enD ds) []) ∨ (∃ ds, av.cl = some (.list ds) ∧ k (enD ds) []) ∨ ∃ i ds, av = .b i ds ∧ α[i]? = some (.own ds) ∧ k (enD ds) [i])
theorem od_pair {S' : Ads} {H3 : Hp} {T : Addr} {v u : V} {x y : PyData} (h : H3 T = some (.tup [v, u])) (a : Od K S' H3 v x) (b : Od K S' H3 u y) : Od K S' H3 (.ref T) (.tuple [x, y]) := .tup (SqT.of h) (.cons a (.cons b .nil))
theorem enD_get {ds : List PyData} {i : Nat} {d : PyData} (h : ds[i]? = some d) : (enD ds)[i]? = some (.tuple [.int (i : Int), d]) := by
  have hl := (List.getElem?_eq_some_iff.mp h).1
  unfold enD
  rw [List.getElem?_map, List.getElem?_range hl]
  show some (PyData.tuple [.int (i : Int), ds.getD i .none]) = _
  rw [List.getD_eq_getElem?_getD, h]
  rfl
theorem enD_len (ds : List PyData) : (enD ds).length = ds.length := by unfold enD; rw [List.length_map, List.length_range]
def iEnumV (K : Fg) (ta : TA) : TI := fun σ H R => ta σ H fun vs H1 => ∃ a, vs = [.ref a] ∧ ((∃ xs, L2.SqT K H1 a xs ∧ R (IteT K a) H1) ∨ ∃ xs, SqL K H1 a xs ∧ R (Ite K a) H1)
theorem pi_enumV {X : Cx} {e : Expr} {ta : TA} {p pos tpos : Pos} {elts : List Expr} {kk : Nat} (hm : X.mg "enumerate" = none) (ha : PA X [e] ta) (hg : Gl X "enumerate" := by rfl) (hs : starEach [e] X.env = [(false, eval e X.env)] := by rfl) :
    PI X (.Tuple elts kk tpos) (.Call (.Name "enumerate" p) [e] [] pos) (iEnumV X.K ta) := by
  refine ⟨fun pins s σ H R I h => ?_⟩
  refine Call_ (ld_blt I hg hm PyProof.Rows.boot_enumerate (PyProof.Rows.callWith_type1 (thn (ha.run pos pins s σ H _ I h) ?_) hs rfl))
  intro us s1 ⟨vs, H1, I1, r1, a, ex, q⟩
  subst ex
  cases r1 with
  | cons r rr =>
    cases rr
    cases r
    have fresh : ∀ b ∈ [s1.heap.objs.size + 1, s1.heap.objs.size], FpOk X pins H1 b := fun b hb => by
      have hle : s1.heap.objs.size ≤ b := by
        rcases (show b = s1.heap.objs.size + 1 ∨ b = s1.heap.objs.size by simpa using hb) with z | z
        · rw [z]; exact Nat.le_succ _
        · rw [z]; exact Nat.le_refl _
      exact I1.fpOk hle (I1.hok.fresh hle)
    rcases q with ⟨xs, hq, q⟩ | ⟨xs, hq, q⟩
    · obtain ⟨its, rv, p', hz⟩ := I1.tuple hq
      refine enum_one (begins_tuple a its.toArray) p' fun h' he hit hk => wpAny_pyIter_enum he ?_
      have I2 : Inv X pins σ H1 { s1 with heap := h' } := I1.kept (t' := s1.toks) hk
      have al : a < s1.heap.objs.size := by
        obtain ⟨_, q, _⟩ := p'
        exact Heap.lt_size q
      exact ⟨s1.heap.objs.size + 1, [s1.heap.objs.size + 1, s1.heap.objs.size], _, _, H1, rfl, I2, turn_enumT a (s1.heap.objs.size + 1) s1.heap.objs.size, ⟨⟨.none, he⟩, ⟨_, hit, rfl, rfl⟩, Nat.succ_ne_self _, Nat.ne_of_lt (Nat.lt_succ_of_lt al), Nat.ne_of_lt al⟩, fresh, q⟩
    · obtain ⟨its, rv, p', hz⟩ := I1.list hq
      refine call_enumerate_list p'.isList fun h' he hit hsz hk => wpAny_pyIter_enum he ?_
      have I2 : Inv X pins σ H1 { s1 with heap := h' } := I1.kept (t' := s1.toks) hk
      exact ⟨s1.heap.objs.size + 1, [s1.heap.objs.size + 1, s1.heap.objs.size], _, _, H1, rfl, I2, turn_enum a (s1.heap.objs.size + 1) s1.heap.objs.size, ⟨⟨.none, he⟩, hit, Nat.succ_ne_self _⟩, fresh, q⟩
theorem ri_enum {ta : TA} {a : AAv} (h1 : RAv K E ta a 1) : RIt K E (iEnumV K ta) (aEnum a) := by
  intro W H0 S0 O S α σ H X k R f h lk q
  refine h1 f h lk fun us avs S1 H1 m r _ ⟨av, e, h'⟩ => ?_
  subst e
  rcases r with _ | ⟨r1, r2⟩
  cases r2
  obtain ⟨p, vs, ds, fz, S2, rfl, m2, o, hp, hz, hk⟩ := seq_at (k := fun ds fz => k (enD ds) fz) f m r1 h'
  refine ⟨p, rfl, ?_⟩
  have fin : ∀ {G : Ads} {J : It}, (∀ b, S2 b → G b) → (∀ b, G b → S2 b ∨ ∃ i ∈ fz, O i = some b) → Walk J vs.length (Kgo G H1) (YPair (fun i => some (.int (i : Nat))) (fun i => vs[i]?)) → R J H1 := by
    intro G J g1 g2 w
    refine q J (enD ds) fz G S2 H1 m2 hz g2 ?_ hk
    rw [enD_len, ← o.length]
    refine w.mono (fun _ z => z) fun i H2 x H3 hi kg y => ?_
    obtain ⟨T, v1, v2, rfl, nT, rfl, e1, e2⟩ := y
    cases e1
    obtain ⟨d, hd, od⟩ := o.get e2
    exact ⟨Same.new nT, _, enD_get hd, od_pair upd_same (.int _) ((od.mv kg.1 fun a o ga e => ⟨ga, kg.2 a o (g1 a ga) e⟩).same (Same.new nT))⟩
  rcases hp with hp | ⟨hp, gp⟩
  · exact .inl ⟨vs, hp.up, fin (G := S2) (fun _ z => z) (fun _ z => .inl z) (walk_enumT.mono (fun H2 k => k.1.sq hp) fun _ _ _ _ _ _ y => y)⟩
  · exact .inr ⟨vs, SqL.of hp, fin (G := fun b => S2 b ∨ b = p) (fun _ z => .inl z) (fun b z => z.elim .inl fun y => by rw [y]; exact gp) (walk_enum.mono (fun H2 k => SqL.of (k.2 p _ (.inr rfl) hp)) fun _ _ _ _ _ _ y => y)⟩
/-- zip of two tuples; of two lists (slots' or kept) -/
def aZip (a : AAv) : AIt := fun X α k => a X α fun as => (∃ xs ys, as = [.d (.tuple xs), .d (.tuple ys)] ∧ k (ziD xs ys) []) ∨ (∃ x y xs ys, as = [x, y] ∧ x.cl = some (.list xs) ∧ y.cl = some (.list ys) ∧ k (ziD xs ys) [])
mutual
def flatD : PyData → Bool
  | .tuple ds => flatDs ds
  | .list _ => false
  | .dict _ => false
  | _ => true
def flatDs : List PyData → Bool
  | [] => true
  | d :: ds => flatD d && flatDs ds
end
mutual
theorem Od.flat {G G' : Ads} {H : Hp} : ∀ {d : PyData} {v : V}, flatD d = true → Od K G H v d → Od K G' H v d
  | _, _, _, .non => .non
  | _, _, _, .bl b => .bl b
  | _, _, _, .int i => .int i
  | _, _, _, .str x => .str x
  | _, _, h, .tup a b => .tup a (Ods.flat (by simpa [flatD] using h) b)
  | _, _, h, .lst _ _ _ => by simp [flatD] at h
  | _, _, h, .dic _ _ => by simp [flatD] at h
  | _, _, h, .dic1 _ _ _ => by simp [flatD] at h
  | _, _, h, .dk _ _ _ => by simp [flatD] at h
  | _, _, h, .dt _ _ _ => by simp [flatD] at h
theorem Ods.flat {G G' : Ads} {H : Hp} : ∀ {ds : List PyData} {vs : List V}, flatDs ds = true → Ods K G H vs ds → Ods K G' H vs ds
  | _, _, _, .nil => .nil
  | _, _, h, .cons a b => by
    simp only [flatDs, Bool.and_eq_true] at h
    exact .cons (Od.flat h.1 a) (Ods.flat h.2 b)
end
def flatC : Dic → Bool
  | .k kvs => flatDs (kvs.map (·.2))
  | .t kvs => flatDs (kvs.map (·.2))
theorem flat_pairs {κ : Type} {K : Fg} {G G' : Ads} {H : Hp} : ∀ {ls : List (κ × V)} {kvs : List (κ × PyData)}, flatDs (kvs.map (·.2)) = true → Paired (fun (a : κ × V) (b : κ × PyData) => a.1 = b.1 ∧ Od K G H a.2 b.2) ls kvs → Paired (fun (a : κ × V) (b : κ × PyData) => a.1 = b.1 ∧ Od K G' H a.2 b.2) ls kvs
  | _, _, _, .nil => .nil
  | _, _, h, .cons a b => by
    simp only [List.map_cons, flatDs, Bool.and_eq_true] at h
    exact .cons ⟨a.1, Od.flat h.1 a.2⟩ (flat_pairs h.2 b)
theorem DcR.flat {K : Fg} {G G' : Ads} {H : Hp} {p : Addr} {c : Dic} (h : flatC c = true) (r : DcR K G H p c) : DcR K G' H p c := by
  cases c with
  | k kvs => obtain ⟨ls, a, b⟩ := r; exact ⟨ls, a, flat_pairs h b⟩
  | t kvs => obtain ⟨ls, a, b⟩ := r; exact ⟨ls, a, flat_pairs h b⟩
def Avl.flat : Avl → Bool
  | .d x => flatD x
  | .l ds => flatDs ds
  | .b _ ds => flatDs ds
  | .wl u => true
  | .k c => flatC c
abbrev AXc := Addr → Option (List (Str × PyData)) → Prop
abbrev AFn := List Avl → AXc → (Avl → Prop) → Prop
def anyB (as : List Avl) : Bool := as.any Avl.isB
/-- where lists of what is handed in may be -/
def argS (W : Wel) (Hs : Hp) (O : Nat → Option Addr) (S : Ads) (H : Hp) (as : List Avl) : Ads := fun b => S b ∨ (Hs b = none ∧ H b ≠ none ∧ ¬ W.has b) ∨ (anyB as = true ∧ (∃ i, O i = some b) ∧ H b ≠ none ∧ ¬ W.has b)
def Xrn (K : Fg) (W : Wel) (H0 : Hp) (S0 : Ads) (d : Option Addr) (f : Option (List (Str × PyData))) (H' : Hp) : Prop := ∃ S' : Ads, W.ok H' ∧ (∀ b o, H0 b = some o → ¬ W.has b → H' b = some o) ∧ (∀ b, S' b → (S0 b ∨ H0 b = none) ∧ H' b ≠ none ∧ ¬ W.has b) ∧ Xrp K S' H' d f
/-- a def's promise, by its mirror -/
def SpA (K : Fg) (n : Nat) (m : AFn) : Sp := fun vs H Q E => ∃ (W : Wel) (Hs : Hp) (O : Nat → Option Addr) (S : Ads) (as : List Avl) (x : AXc) (k : Avl → Prop),
  vs.length = n ∧ Oks W S H ∧ (∀ b, H b = none → Hs b = none) ∧ Paired (Vrp K W Hs O S H) vs as ∧ m as x k ∧ (∀ v av H', Rtn K W H (argS W Hs O S H as) v av H' → k av → Q v H') ∧ ∀ C d f H', Xrn K W H (argS W Hs O S H as) d f H' → x C f → E (.ref C) d H'
theorem l_spa {m : AFn} : ∀ vs H Q E, SpA K n m vs H Q E → vs.length = n := by
  rintro vs H Q E ⟨W, Hs, O, S, as, x, k, h, _⟩
  exact h
def aCall (m : AFn) (a : AAv) : AEx := fun X α k => a X α fun as => m as (fun C f => X α C f ∧ (anyB as = true → f = none)) fun av => k av ∧ (anyB as = true → av.flat = true)
section
variable {W : Wel} {H0 H H1 H' : Hp} {S0 S S1 : Ads} {O : Nat → Option Addr} {α : Afr} {σ : L2.St} {v : V} {av : Avl} {as : List Avl}
/-- what a call hands back, to the caller -/
theorem back_of (f : Frm K W H0 S0 O S α σ H) (m : Mvh W S H S1 H1) (r : Rtn K W H1 (argS W H O S1 H1 as) v av H') (hf : anyB as = true → av.flat = true) : ∃ S2, Mvh W S H S2 H' ∧ Vrp K W H O S2 H' v av := by
  obtain ⟨S', w', k', t', r'⟩ := r
  have kk : ∀ b o, H b = some o → ¬ W.has b → H' b = some o := fun b o e z => k' b o (m.k b o e z) z
  have nn : ∀ b, H1 b = none → H b = none := fun b => m.back
  have tS : ∀ b, S1 b → H' b ≠ none ∧ ¬ W.has b := fun b hb => by
    refine ⟨?_, (m.t b hb).2⟩
    cases q : H1 b with
    | none => exact absurd q (m.t b hb).1
    | some o => rw [k' b o q (m.t b hb).2]; intro y; cases y
  by_cases hB : anyB as = true
  · have fl := hf hB
    refine ⟨S1, ⟨kk, w', m.s, m.n, tS⟩, ?_⟩
    cases av with
    | d x => exact Od.flat fl r'
    | l ds =>
      obtain ⟨p, vs, rfl, h1, h2, h3, h4, h5⟩ := r'
      exact ⟨p, vs, rfl, h1, Ods.flat fl h2, fun z => (m.t p z).1 h4, nn p h4, h5⟩
    | b i ds =>
      obtain ⟨p, vs, _, h0, _⟩ := r'
      cases h0
    | wl u => exact r'
    | k c =>
      obtain ⟨p, rfl, h1, h3, h4, h5⟩ := r'
      exact ⟨p, rfl, DcR.flat fl h1, fun z => (m.t p z).1 h4, nn p h4, h5⟩
  · refine ⟨fun b => S1 b ∨ S' b, ⟨kk, w', fun b hb => .inl (m.s b hb), fun b hb => ?_, fun b hb => ?_⟩, ?_⟩
    · rcases hb with hb | hb
      · exact m.n b hb
      · rcases (t' b hb).1 with (q | q | q) | q
        · exact m.n b q
        · exact .inr q.1
        · exact absurd q.1 hB
        · exact .inr (nn b q)
    · rcases hb with hb | hb
      · exact tS b hb
      · exact (t' b hb).2
    · cases av with
      | d x => exact Od.gr (fun b hb => .inr hb) r'
      | l ds =>
        obtain ⟨p, vs, rfl, h1, h2, h3, h4, h5⟩ := r'
        exact ⟨p, vs, rfl, h1, h2.gr fun b hb => .inr hb, fun z => z.elim (fun z => (m.t p z).1 h4) h3, nn p h4, h5⟩
      | b i ds =>
        obtain ⟨p, vs, _, h0, _⟩ := r'
        cases h0
      | wl u => exact r'
      | k c =>
        obtain ⟨p, rfl, h1, h3, h4, h5⟩ := r'
        exact ⟨p, rfl, h1.mp (fun o e => e) (fun z => z.gr fun b hb => .inr hb), fun z => z.elim (fun z => (m.t p z).1 h4) h3, nn p h4, h5⟩
theorem backX_of (f : Frm K W H0 S0 O S α σ H) (m : Mvh W S H S1 H1) {d : Option Addr} {fs : Option (List (Str × PyData))} (r : Xrn K W H1 (argS W H O S1 H1 as) d fs H') (hf : anyB as = true → fs = none) : ∃ S2, Mvh W S H S2 H' ∧ Xrp K S2 H' d fs := by
  obtain ⟨S', w', k', t', r'⟩ := r
  have kk : ∀ b o, H b = some o → ¬ W.has b → H' b = some o := fun b o e z => k' b o (m.k b o e z) z
  have nn : ∀ b, H1 b = none → H b = none := fun b => m.back
  have tS : ∀ b, S1 b → H' b ≠ none ∧ ¬ W.has b := fun b hb => by
    refine ⟨?_, (m.t b hb).2⟩
    cases q : H1 b with
    | none => exact absurd q (m.t b hb).1
    | some o => rw [k' b o q (m.t b hb).2]; intro y; cases y
  by_cases hB : anyB as = true
  · have fl := hf hB
    subst fl
    exact ⟨S1, ⟨kk, w', m.s, m.n, tS⟩, r'⟩
  · refine ⟨fun b => S1 b ∨ S' b, ⟨kk, w', fun b hb => .inl (m.s b hb), fun b hb => ?_, fun b hb => ?_⟩, ?_⟩
    · rcases hb with hb | hb
      · exact m.n b hb
      · rcases (t' b hb).1 with (q | q | q) | q
        · exact m.n b q
        · exact .inr q.1
        · exact absurd q.1 hB
        · exact .inr (nn b q)
    · rcases hb with hb | hb
      · exact tS b hb
      · exact (t' b hb).2
    · cases fs with
      | none => exact r'
      | some fs =>
        obtain ⟨dx, e, h1⟩ := r'
        exact ⟨dx, e, h1.mv' (fun _ hb => .inr hb) (fun _ _ _ z => z) fun z => z.gr fun b hb => .inr hb⟩
end
theorem re_call {sp : Sp} {m : AFn} {ta : TA} {a : AAv} {E' : L2.St → XK} (hb : ∀ vs H Q E, SpA K n m vs H Q E → sp vs H Q E) (hE : ∀ σ c d H, E c d σ H → E' σ c d H) (h1 : RAv K E ta a n) : REx K E (tG sp E' ta) (aCall m a) := by
  intro W H0 S0 O S α σ H X k Q f h lk q
  refine h1 f h lk fun vs avs S1 H1 m1 r1 hl h' => ?_
  refine hb _ _ _ _ ⟨W, H, O, S1, avs, _, _, hl, m1.oks, fun b => m1.back, r1, h', fun v av H' rt ⟨kv, kf⟩ => ?_, fun C d fs H' rx ⟨x1, x2⟩ => ?_⟩
  · obtain ⟨S2, m2, r2⟩ := back_of f m1 rt kf
    exact q v av S2 H' m2 r2 kv
  · obtain ⟨S2, m2, r2⟩ := backX_of f m1 rx x2
    exact hE _ _ _ _ (lk O S2 α σ H' C d fs (m2.kee f.k) (f.mv m2) r2 x1)
/-- where no error can come -/
theorem re_call0 {sp : Sp} {m : AFn} {ta : TA} {a : AAv} {E' : L2.St → XK} (hb : ∀ vs H Q E, SpA K n m vs H Q E → sp vs H Q E) (h1 : RAv K E ta a n) : REx K E (tG sp E' ta) (fun X α k => a X α fun as => m as (fun _ _ => False) fun av => k av ∧ (anyB as = true → av.flat = true)) := by
  intro W H0 S0 O S α σ H X k Q f h lk q
  refine h1 f h lk fun vs avs S1 H1 m1 r1 hl h' => ?_
  refine hb _ _ _ _ ⟨W, H, O, S1, avs, _, _, hl, m1.oks, fun b => m1.back, r1, h', fun v av H' rt ⟨kv, kf⟩ => ?_, fun C d fs H' rx z => z.elim⟩
  obtain ⟨S2, m2, r2⟩ := back_of f m1 rt kf
  exact q v av S2 H' m2 r2 kv
def aCall0 (m : AFn) (a : AAv) : AEx := fun X α k => a X α fun as => m as (fun _ _ => False) fun av => k av ∧ (anyB as = true → av.flat = true)
/-- by keywords -/
def aKw (n : Nat) (g : List Avl → List Avl) (a : AAv) : AAv := fun X α k => a X α fun as => k (g as)
theorem re_kw {sp : Sp} {m : AFn} {ta : TA} {a : AAv} {E' : L2.St → XK} {g : {α : Type} → List α → List α} (hb : ∀ vs H Q E, SpA K n m vs H Q E → sp vs H Q E) (hE : ∀ σ c d H, E c d σ H → E' σ c d H)
    (hg : ∀ {R : V → Avl → Prop} {vs : List V} {as : List Avl}, Paired R vs as → vs.length = n → Paired R (g vs) (g as) ∧ (g vs).length = n) (h1 : RAv K E ta a n) : REx K E (tKw sp n (fun l => g l) E' ta) (aCall m (aKw n (fun l => g l) a)) := by
  intro W H0 S0 O S α σ H X k Q f h lk q
  refine h1 f h lk fun vs avs S1 H1 m1 r1 hl h' => ⟨hl, ?_⟩
  obtain ⟨r2, l2⟩ := hg r1 hl
  refine hb _ _ _ _ ⟨W, H, O, S1, g avs, _, _, l2, m1.oks, fun b => m1.back, r2, h', fun v av H' rt ⟨kv, kf⟩ => ?_, fun C d fs H' rx ⟨x1, x2⟩ => ?_⟩
  · obtain ⟨S2, m2, r2⟩ := back_of f m1 rt kf
    exact q v av S2 H' m2 r2 kv
  · obtain ⟨S2, m2, r2⟩ := backX_of f m1 rx x2
    exact hE _ _ _ _ (lk O S2 α σ H' C d fs (m2.kee f.k) (f.mv m2) r2 x1)
def Avl.inn : Avl → Sot
  | .d x => .d x
  | .l ds => .d (.list ds)
  | .b _ ds => .d (.list ds)
  | .wl u => .wl u
  | .k _ => .x
/-- what a body is worth as a def of n parameters and x further names -/
def mOf (x : Nat) (a : ASt) : AFn := fun as e k => a { nx := fun _ => k (.d .none), rt := k, er := fun _ => e } (as.map Avl.inn ++ List.replicate x .x)
theorem pair_get {α β : Type} {R : α → β → Prop} : ∀ {xs : List α} {ys : List β} {i : Nat} {y : β}, Paired R xs ys → ys[i]? = some y → ∃ x, xs[i]? = some x ∧ R x y
  | _, _, _, _, .nil, e => by simp at e
  | _, _, 0, _, .cons r _, e => by simp at e; subst e; exact ⟨_, rfl, r⟩
  | _, _, i + 1, _, .cons _ t, e => by
    obtain ⟨x, h1, h2⟩ := pair_get (i := i) t (by simpa using e)
    exact ⟨x, by simpa using h1, h2⟩
theorem pair_len {α β : Type} {R : α → β → Prop} : ∀ {xs : List α} {ys : List β}, Paired R xs ys → xs.length = ys.length
  | _, _, .nil => rfl
  | _, _, .cons _ t => by rw [List.length_cons, List.length_cons, pair_len t]
theorem p_spa {t : TS} {a : ASt} {x : Nat} {N : List Str} {vs : List V} {H : Hp} {Q : VK} {E : XK} (hr : RSt K (fun c d _ H => E c d H) t a) (h : SpA K n (mOf x a) vs H Q E) (hN : N.length = n + x) : t { nx := fun _ H' => Q .non H', rt := Q } (start N vs) H := by
  obtain ⟨W, Hs, O, S, as, e, k, hl, ok, hh, pr, hm, hq, he⟩ := h
  have la := pair_len pr
  have tt : ∀ b, argS W Hs O S H as b → H b ≠ none ∧ ¬ W.has b := by
    rintro b (q | q | q)
    · exact ok.t b q
    · exact q.2
    · exact q.2.2
  have f0 : Frm K W H (argS W Hs O S H as) (fun _ => none) (argS W Hs O S H as) (as.map Avl.inn ++ List.replicate x .x) (start N vs) H := by
    refine ⟨⟨ok.w, tt⟩, fun b o h _ => h, fun b h => .inl h, ok.w, (fun i p z => by cases z), ?_, fun i z ez => ?_⟩
    · unfold L2.start
      simp only [List.length_append, List.length_map, List.length_replicate]
      omega
    · rw [List.getElem?_append] at ez
      split at ez
      · rename_i hi
        rw [List.getElem?_map] at ez
        cases q : as[i]? with
        | none => rw [q] at ez; cases ez
        | some av =>
          rw [q] at ez
          have ez' : av.inn = z := Option.some.inj ez
          subst ez'
          obtain ⟨v, hv, rv⟩ := pair_get pr q
          have sv : (start N vs)[i]? = some (some v) := by
            unfold L2.start
            rw [List.getElem?_append, if_pos (by rw [List.length_map] at hi ⊢; omega), List.getElem?_map, hv]
            rfl
          have bq : av.isB = true → anyB as = true := fun z => List.any_eq_true.mpr ⟨av, List.mem_of_getElem? q, z⟩
          cases av with
          | d y => exact ⟨v, sv, Od.gr (fun b hb => .inl hb) rv⟩
          | l ds =>
            obtain ⟨p, us, rfl, h1, h2, h3, h4, h5⟩ := rv
            exact ⟨_, sv, .lst (.inr (.inl ⟨h4, (by rw [h1]; intro y; cases y), h5⟩)) h1 (h2.gr fun b hb => .inl hb)⟩
          | b j ds =>
            obtain ⟨p, us, rfl, h0, h1, h2, h3⟩ := rv
            exact ⟨_, sv, .lst (.inr (.inr ⟨bq rfl, ⟨j, h0⟩, (by rw [h1]; intro y; cases y), h3⟩)) h1 (h2.gr fun b hb => .inl hb)⟩
          | wl u =>
            obtain ⟨on, rfl⟩ := rv
            exact ⟨on, sv⟩
          | k c => trivial
      · rw [List.getElem?_replicate] at ez
        split at ez
        · cases ez; trivial
        · cases ez
  refine hr (D := { nx := fun _ H' => Q .non H', rt := Q }) f0 hm ⟨fun O' S' α' σ' H' ke f' z => hq .non _ H' (rtn_of (av := .d .none) f' f'.k.refl Od.non) z, fun O' S' α' σ' H' ke f' z => z.elim, fun O' S' α' σ' H' ke f' z => z.elim, hq, ?_⟩
  intro O' S' α' σ' H' C d fs ke f' xr z
  exact he C d fs H' ⟨S', f'.k.w, f'.k0, fun b hb => ⟨f'.n0 b hb, f'.k.t b hb⟩, xr⟩ z
end
end UW
namespace UW
open PySem PySem.Spec PyProof.Rows L2
section
variable {K : Fg} {E : WX} {i n : Nat} {C D : Addr}
def aRaise (C : Addr) : ASt := fun A α => A.er α C none
theorem rs_raise (T : OexC K C) : RSt K E (tRaise (tMkB C (sp_bare K)) E) (aRaise C) := by
  intro W H0 S0 O S α σ H A D f h l
  exact s_rse (s_raise T (l.er O S α σ H C none none Kee.refl f rfl h))
def aTry (C : Addr) (i : Nat) (b : ASt) (s : Addr → ASt) : ASt := fun A α =>
  b { A with er := fun α' C' f => C' = C ∧ f = none ∧ ∀ a, s a { A with nx := fun α'' => A.nx (α''.set i .x), bk := fun α'' => A.bk (α''.set i .x), ct := fun α'' => A.ct (α''.set i .x) } (α'.set i (.err a)) } α
theorem rs_try {tb : WX → TS} {ts : Addr → Value → Option Addr → TS} {b : ASt} {s : Addr → ASt} (T : PySem.W.exmOne K (.ref C) (.ref C) = some true) (h1 : ∀ E1, RSt K E1 (tb E1) b) (h2 : ∀ a, RSt K E (ts a (.ref C) none) (s a)) :
    RSt K E (tTry K (.ref C) i tb ts E) (aTry C i b s) := by
  intro W H0 S0 O S α σ H A D f h l
  refine s_try ?_
  refine h1 _ f h ⟨l.nx, l.bk, l.ct, l.rt, ?_⟩
  rintro O' S' α' σ' H' C' d fs ke f' xr ⟨rfl, rfl, h'⟩
  have ed : d = none := xr
  subst ed
  refine w_caught T fun a na => ?_
  refine h2 a (f'.setE (i := i)) (h' a) ⟨fun O2 S2 α2 σ2 H2 k2 g2 q => l.nx _ S2 _ _ H2 (ke.trans k2) (g2.setX (i := i)) q, fun O2 S2 α2 σ2 H2 k2 g2 q => l.bk _ S2 _ _ H2 (ke.trans k2) (g2.setX (i := i)) q, fun O2 S2 α2 σ2 H2 k2 g2 q => l.ct _ S2 _ _ H2 (ke.trans k2) (g2.setX (i := i)) q, l.rt, l.er.kee ke⟩
def aIsX (i : Nat) (a : Addr) : AEx := fun _ α k => α[i]? = some (.err a) ∧ k (.d (.bool true))
theorem re_isX {a : Addr} (T : ExT K C D) : REx K E (tCB (rIsX K (.ref C) none a) (tCons (tVar i) (tCons (tC (.ref D)) tNil))) (aIsX i a) := by
  intro W H0 S0 O S α σ H X k Q f ⟨h, hk⟩ lk q
  exact ⟨_, f.sl i _ h, C, D, true, rfl, rfl, T.x, rfl, T.q, q _ (.d (.bool true)) S H f.k.refl (Od.bl true) hk⟩
theorem Vrp.od {W : Wel} {Hs : Hp} {O : Nat → Option Addr} {S : Ads} {H : Hp} {v : V} {av : Avl} {d : PyData} (r : Vrp K W Hs O S H v av) (e : av.dat = some d) : Od K (fun _ => True) H v d := by
  cases av with
  | d x => cases e; exact Od.gr (fun _ _ => trivial) r
  | l ds =>
    cases e
    obtain ⟨p, vs, rfl, h1, h2, _⟩ := r
    exact .lst trivial h1 (h2.gr fun _ _ => trivial)
  | b j ds =>
    cases e
    obtain ⟨p, vs, rfl, _, h1, h2, _⟩ := r
    exact .lst trivial h1 (h2.gr fun _ _ => trivial)
  | wl u => cases e
  | k c => cases e
def aIsi (g : PyData → Bool) (e : AEx) : AEx := fun X α k => e X α fun av => ∃ d, av.dat = some d ∧ k (.d (.bool (g d)))
def aParD (i j : Nat) (a : AAd) : ASt := fun A α => a A.er α fun xs => ∃ x y, xs = [x, y] ∧ A.nx ((α.set i (.d x)).set j (.d y))
theorem rs_parD {j : Nat} {ta : TA} {a : AAd} (h1 : RAd K E ta a 2) : RSt K E (tPar i j ta) (aParD i j a) := by
  intro W H0 S0 O S α σ H A D f h l
  refine h1 f h l.er fun vs xs S1 H1 m r _ ⟨x, y, e, k⟩ => ?_
  subst e
  cases r with
  | cons r1 r2 =>
    cases r2 with
    | cons r2 r3 =>
      cases r3
      exact ⟨_, _, rfl, l.nx _ S1 _ _ H1 (m.kee f.k) (((f.mv m).setD r1).setD r2) k⟩
end
end UW
namespace UW
open PySem PySem.Spec PyProof.Rows L2
section
variable {K : Fg} {G : Ads} {H : Hp}
mutual
theorem Od.dp : ∀ {d : PyData} {v : V}, d.canLay0 = true → Od K G H v d → Dp K H v d
  | _, _, _, .non => .non
  | _, _, _, .bl b => .bl b
  | _, _, _, .int i => .int i
  | _, _, _, .str x => .str x
  | _, _, h, .tup a b => .tup a.up (Ods.dp (by simpa only [PyData.canLay0] using h) b)
  | _, _, h, .lst _ a b => .lst (SqL.of a) (Ods.dp (by simpa only [PyData.canLay0] using h) b)
  | _, _, h, .dic _ _ => by simp [PyData.canLay0] at h
  | _, _, h, .dic1 _ _ _ => by simp [PyData.canLay0] at h
  | _, _, h, .dk _ _ _ => by simp [PyData.canLay0] at h
  | _, _, h, .dt _ _ _ => by simp [PyData.canLay0] at h
theorem Ods.dp : ∀ {ds : List PyData} {vs : List V}, PyData.canLayAll0 ds = true → Ods K G H vs ds → DpAll K H vs ds
  | _, _, _, .nil => .nil
  | _, _, h, .cons a b => by
    simp only [PyData.canLayAll0, Bool.and_eq_true] at h
    exact .cons (Od.dp h.1 a) (Ods.dp h.2 b)
end
mutual
theorem Od.tp : ∀ {d : PyData} {v : V}, flatD d = true → Od K G H v d → Tp K H v d
  | _, _, _, .non => .non
  | _, _, _, .bl b => .bl b
  | _, _, _, .int i => .int i
  | _, _, _, .str x => .str x
  | _, _, h, .tup a b => .tup a (Ods.tps (by simpa [flatD] using h) b)
  | _, _, h, .lst _ _ _ => by simp [flatD] at h
  | _, _, h, .dic _ _ => by simp [flatD] at h
  | _, _, h, .dic1 _ _ _ => by simp [flatD] at h
  | _, _, h, .dk _ _ _ => by simp [flatD] at h
  | _, _, h, .dt _ _ _ => by simp [flatD] at h
theorem Ods.tps : ∀ {ds : List PyData} {vs : List V}, flatDs ds = true → Ods K G H vs ds → Tps K H vs ds
  | _, _, _, .nil => .nil
  | _, _, h, .cons a b => by
    simp only [flatDs, Bool.and_eq_true] at h
    exact .cons (Od.tp h.1 a) (Ods.tps h.2 b)
end
theorem Ods.drop : ∀ {vs : List V} {ds : List PyData} (n : Nat), Ods K G H vs ds → Ods K G H (vs.drop n) (ds.drop n)
  | _, _, 0, h => h
  | _, _, _ + 1, .nil => .nil
  | _, _, n + 1, .cons _ h => Ods.drop n h
theorem Ods.take : ∀ {vs : List V} {ds : List PyData} (n : Nat), Ods K G H vs ds → Ods K G H (vs.take n) (ds.take n)
  | _, _, 0, _ => .nil
  | _, _, _ + 1, .nil => .nil
  | _, _, n + 1, .cons a h => .cons a (Ods.take n h)
theorem Ods.ints {ns : List Int} : ∀ {vs : List V}, Ods K G H vs (ns.map .int) → vs = ns.map V.int := by
  induction ns with
  | nil => intro vs h; cases h; rfl
  | cons n ns ih =>
    intro vs h
    cases h with
    | cons a b => cases a; rw [ih b]; rfl
theorem Ods.at {vs : List V} {ds : List PyData} {i : Int} {x : PyData} (o : Ods K G H vs ds) (h : atI ds i = some x) : ∃ v, atI vs i = some v ∧ Od K G H v x := by
  unfold atI at h ⊢
  rw [o.length]
  cases q : ixN ds.length i with
  | none => rw [q] at h; cases h
  | some j =>
    rw [q] at h
    exact o.nth h
theorem Ods.rep {vs : List V} {ds : List PyData} (o : Ods K G H vs ds) : ∀ n : Nat, Ods K G H (List.replicate n vs).flatten (List.replicate n ds).flatten
  | 0 => .nil
  | n + 1 => by
    rw [List.replicate_succ, List.replicate_succ, List.flatten_cons, List.flatten_cons]
    exact o.append (Ods.rep o n)
end
def cutD (ds : List PyData) (lo hi : Option Int) : List PyData := (ds.drop (HT.sIx ds.length 0 lo)).take (HT.sIx ds.length ds.length hi - HT.sIx ds.length 0 lo)
section
variable {K : Fg} {E : WX}
abbrev Rst (K : Fg) (W : Wel) (O : Nat → Option Addr) (S : Ads) (H : Hp) (k : Avl → Prop) (Q : VK) : Prop := ∀ v av S' H', Mvh W S H S' H' → Vrp K W H O S' H' v av → k av → Q v H'
section
variable {W : Wel} {O : Nat → Option Addr} {S : Ads} {H : Hp} {k : Avl → Prop} {Q : VK}
theorem Rst.int (q : Rst K W O S H k Q) (ok : Oks W S H) {i : Int} (h : k (.d (.int i))) : Q (.int i) H := q _ (.d (.int i)) S H ok.refl (Od.int i) h
theorem Rst.bl (q : Rst K W O S H k Q) (ok : Oks W S H) {i : Bool} (h : k (.d (.bool i))) : Q (.bl i) H := q _ (.d (.bool i)) S H ok.refl (Od.bl i) h
theorem Rst.str (q : Rst K W O S H k Q) (ok : Oks W S H) {i : Str} (h : k (.d (.str i))) : Q (.str i) H := q _ (.d (.str i)) S H ok.refl (Od.str i) h
theorem Rst.d (q : Rst K W O S H k Q) (ok : Oks W S H) {v : V} {x : PyData} (o : Od K S H v x) (h : k (.d x)) : Q v H := q _ (.d x) S H ok.refl o h
theorem Rst.tup (q : Rst K W O S H k Q) (ok : Oks W S H) {p : Addr} {H' : Hp} {vs : List V} {ds : List PyData} (e : Same H H') (a : SqT K H' p vs) (o : Ods K S H vs ds) (h : k (.d (.tuple ds))) : Q (.ref p) H' :=
  q _ (.d (.tuple ds)) S H' (ok.same e) (Od.tup a (o.same e)) h
theorem Rst.new (q : Rst K W O S H k Q) (ok : Oks W S H) {vs : List V} {ds : List PyData} (o : Ods K S H vs ds) (h : k (.l ds)) : New Q H (.lst vs) := fun p np =>
  q _ (.l ds) S _ (ok.same (Same.new np)) ⟨p, vs, rfl, upd_same, o.same (Same.new np), fun z => (ok.t p z).1 np, np, Wel.ne ok.w np⟩ h
theorem Rst.newT (q : Rst K W O S H k Q) (ok : Oks W S H) {vs : List V} {ds : List PyData} (o : Ods K S H vs ds) (h : k (.d (.tuple ds))) : New Q H (.tup vs) := fun p np => q.tup ok (Same.new np) (SqT.of upd_same) o h
end
def gI (g : Int → Int → PyData) : AO2 := fun x y k => ∃ i j, x = .d (.int i) ∧ y = .d (.int j) ∧ k (.d (g i j))
theorem int_inv {W : Wel} {Hs : Hp} {O : Nat → Option Addr} {S : Ads} {H : Hp} {v : V} {i : Int} (r : Vrp K W Hs O S H v (.d (.int i))) : v = .int i := by cases r; rfl
theorem str_inv {W : Wel} {Hs : Hp} {O : Nat → Option Addr} {S : Ads} {H : Hp} {v : V} {i : Str} (r : Vrp K W Hs O S H v (.d (.str i))) : v = .str i := by cases r; rfl
theorem non_inv {W : Wel} {Hs : Hp} {O : Nat → Option Addr} {S : Ads} {H : Hp} {v : V} (r : Vrp K W Hs O S H v (.d .none)) : v = .non := by cases r; rfl
theorem ro_i0 {g : Int → Int → V} {g' : Int → Int → PyData} (h : ∀ i j S H, Od K S H (g i j) (g' i j)) : ROp K (rI0 g) (gI g') := by
  intro W Hs O S H x y ax ay k Q ok r1 r2 ⟨i, j, e1, e2, hk⟩ q
  subst e1 e2
  obtain rfl := int_inv r1
  obtain rfl := int_inv r2
  exact ⟨i, j, rfl, rfl, Rst.d q ok (h i j _ _) hk⟩
def gAdd : AO2 := fun x y k => (∃ i j, x = .d (.int i) ∧ y = .d (.int j) ∧ k (.d (.int (i + j)))) ∨ (∃ i j, x = .d (.str i) ∧ y = .d (.str j) ∧ i.length + j.length ≤ 100000 ∧ k (.d (.str (i ++ j)))) ∨
  (∃ xs ys, x.tup = some xs ∧ y.tup = some ys ∧ xs.length + ys.length ≤ 100000 ∧ k (.d (.tuple (xs ++ ys)))) ∨ (∃ xs ys, x.lst = some xs ∧ y.lst = some ys ∧ xs.length + ys.length ≤ 100000 ∧ k (.l (xs ++ ys)))
theorem ro_add : ROp K (rAddU K) gAdd := by
  intro W Hs O S H x y ax ay k Q ok r1 r2 h q
  rcases h with ⟨i, j, e1, e2, hk⟩ | ⟨i, j, e1, e2, hl, hk⟩ | ⟨xs, ys, e1, e2, hl, hk⟩ | ⟨xs, ys, e1, e2, hl, hk⟩
  · subst e1 e2
    obtain rfl := int_inv r1
    obtain rfl := int_inv r2
    exact o_addI (Rst.int q ok hk)
  · subst e1 e2
    obtain rfl := str_inv r1
    obtain rfl := str_inv r2
    exact .inr (.inr (.inr ⟨i, j, rfl, rfl, Nat.le_trans hl (by decide), Rst.str q ok hk⟩))
  · obtain ⟨p, us, rfl, a1, o1⟩ := r1.tup e1
    obtain ⟨p', vs, rfl, a2, o2⟩ := r2.tup e2
    exact o_catT a1 a2 (by rw [o1.length, o2.length]; exact hl) fun p H' e a => Rst.tup q ok e a (o1.append o2) hk
  · obtain ⟨p, us, rfl, a1, o1⟩ := r1.lst e1
    obtain ⟨p', vs, rfl, a2, o2⟩ := r2.lst e2
    exact o_cat a1 a2 (by rw [o1.length, o2.length]; exact hl) (Rst.new q ok (o1.append o2) hk)
def gSub' : AO2 := gI fun i j => .int (i - j)
theorem ro_sub : ROp K rSubI gSub' := ro_i0 fun i j _ _ => .int _
def Sml (i j : Int) : Prop := (-(2 ^ 64) < i ∧ i < 2 ^ 64) ∨ (-(2 ^ 64) < j ∧ j < 2 ^ 64)
def gMul : AO2 := fun x y k => (∃ i j, x = .d (.int i) ∧ y = .d (.int j) ∧ Sml i j ∧ k (.d (.int (i * j)))) ∨ (∃ xs n, x.lst = some xs ∧ y = .d (.int n) ∧ 0 ≤ n ∧ n ≤ 100000 ∧ xs.length * n.toNat ≤ 100000 ∧ k (.l (List.replicate n.toNat xs).flatten))
theorem ro_mul : ROp K (rMulU K) gMul := by
  intro W Hs O S H x y ax ay k Q ok r1 r2 h q
  rcases h with ⟨i, j, e1, e2, hs, hk⟩ | ⟨xs, n, e1, e2, n0, n1, hl, hk⟩
  · subst e1 e2
    obtain rfl := int_inv r1
    obtain rfl := int_inv r2
    exact o_mulI hs (Rst.int q ok hk)
  · subst e2
    obtain rfl := int_inv r2
    obtain ⟨p, us, rfl, a1, o1⟩ := r1.lst e1
    exact .inr (.inl ⟨p, n, us, rfl, rfl, a1, by omega, by omega, by rw [o1.length]; exact Nat.le_trans hl (by decide), Rst.new q ok (o1.rep _) hk⟩)
def gDiv : AO2 := fun x y k => ∃ i j, x = .d (.int i) ∧ y = .d (.int j) ∧ 0 < j ∧ j < 1073741824 ∧ k (.d (.int (i / j)))
def gMod : AO2 := fun x y k => ∃ i j, x = .d (.int i) ∧ y = .d (.int j) ∧ 0 < j ∧ k (.d (.int (i % j)))
theorem ro_div : ROp K rDivI gDiv := by
  intro W Hs O S H x y ax ay k Q ok r1 r2 ⟨i, j, e1, e2, h1, h2, hk⟩ q
  subst e1 e2
  obtain rfl := int_inv r1
  obtain rfl := int_inv r2
  exact o_div h1 h2 (Rst.int q ok hk)
theorem ro_mod : ROp K rModI gMod := by
  intro W Hs O S H x y ax ay k Q ok r1 r2 ⟨i, j, e1, e2, h1, hk⟩ q
  subst e1 e2
  obtain rfl := int_inv r1
  obtain rfl := int_inv r2
  exact o_mod h1 (Rst.int q ok hk)
def gEq : AO2 := fun x y k => (∃ i j, x = .d (.int i) ∧ y = .d (.int j) ∧ k (.d (.bool (decide (i = j))))) ∨ (∃ i j, x = .d (.str i) ∧ y = .d (.str j) ∧ k (.d (.bool (decide (i = j))))) ∨
  ∃ d e, x.dat = some d ∧ y.dat = some e ∧ SeqAt.shaped d = true ∧ SeqAt.shaped e = true ∧ k (.d (.bool (PyData.eqv d e)))
def gNe : AO2 := fun x y k => (∃ i j, x = .d (.int i) ∧ y = .d (.int j) ∧ k (.d (.bool (!decide (i = j))))) ∨ (∃ i j, x = .d (.str i) ∧ y = .d (.str j) ∧ k (.d (.bool (!decide (i = j))))) ∨
  ∃ d e, x.dat = some d ∧ y.dat = some e ∧ SeqAt.shaped d = true ∧ SeqAt.shaped e = true ∧ k (.d (.bool (!PyData.eqv d e)))
theorem dec_str {i j : Str} : decide (V.str i = V.str j) = decide (i = j) := by simp
theorem ro_eq : ROp K (rEqU K) gEq := by
  intro W Hs O S H x y ax ay k Q ok r1 r2 h q
  rcases h with ⟨i, j, e1, e2, hk⟩ | ⟨i, j, e1, e2, hk⟩ | ⟨d, e, e1, e2, h1, h2, hk⟩
  · subst e1 e2
    obtain rfl := int_inv r1
    obtain rfl := int_inv r2
    exact o_eqI (Rst.bl q ok hk)
  · subst e1 e2
    obtain rfl := str_inv r1
    obtain rfl := str_inv r2
    exact o_eqS rfl (by rw [dec_str]; exact Rst.bl q ok hk)
  · exact o_eqD ((r1.od e1).dp (SeqAt.canLay_of_shaped h1)) ((r2.od e2).dp (SeqAt.canLay_of_shaped h2)) h1 h2 (Rst.bl q ok hk)
theorem ro_ne : ROp K (rNeU K) gNe := by
  intro W Hs O S H x y ax ay k Q ok r1 r2 h q
  rcases h with ⟨i, j, e1, e2, hk⟩ | ⟨i, j, e1, e2, hk⟩ | ⟨d, e, e1, e2, h1, h2, hk⟩
  · subst e1 e2
    obtain rfl := int_inv r1
    obtain rfl := int_inv r2
    exact o_neI (Rst.bl q ok hk)
  · subst e1 e2
    obtain rfl := str_inv r1
    obtain rfl := str_inv r2
    exact o_neS rfl (by rw [dec_str]; exact Rst.bl q ok hk)
  · exact o_neD ((r1.od e1).dp (SeqAt.canLay_of_shaped h1)) ((r2.od e2).dp (SeqAt.canLay_of_shaped h2)) h1 h2 (Rst.bl q ok hk)
def gLt : AO2 := fun x y k => (∃ i j, x = .d (.int i) ∧ y = .d (.int j) ∧ k (.d (.bool (decide (i < j))))) ∨ ∃ ns ms : List Int, x = .d (.tuple (ns.map .int)) ∧ y = .d (.tuple (ms.map .int)) ∧ k (.d (.bool (HT.lexLt ns ms)))
theorem ro_lt : ROp K (rLtU K) gLt := by
  intro W Hs O S H x y ax ay k Q ok r1 r2 h q
  rcases h with ⟨i, j, e1, e2, hk⟩ | ⟨ns, ms, e1, e2, hk⟩
  · subst e1 e2
    obtain rfl := int_inv r1
    obtain rfl := int_inv r2
    exact o_ltI (Rst.bl q ok hk)
  · subst e1 e2
    obtain ⟨p, us, rfl, a1, o1⟩ := r1.tup rfl
    obtain ⟨p', vs, rfl, a2, o2⟩ := r2.tup rfl
    rw [o1.ints] at a1
    rw [o2.ints] at a2
    exact .inr ⟨p, p', ns, ms, rfl, rfl, a1.up, a2.up, Rst.bl q ok hk⟩
def gLe : AO2 := gI fun i j => .bool (decide (i ≤ j))
def gGt : AO2 := gI fun i j => .bool (decide (j < i))
def gGe : AO2 := gI fun i j => .bool (decide (j ≤ i))
theorem ro_gt : ROp K rGtI gGt := ro_i0 fun i j _ _ => .bl _
def isNon : PyData → Bool
  | .none => true
  | _ => false
def gIsN : AO2 := fun x y k => y = .d .none ∧ ∃ d, x.dat = some d ∧ k (.d (.bool (isNon d)))
def gNotN : AO2 := fun x y k => y = .d .none ∧ ∃ d, x.dat = some d ∧ k (.d (.bool (!isNon d)))
theorem non_iff {G : Ads} {H : Hp} {v : V} {d : PyData} (o : Od K G H v d) : decide (v = V.non) = isNon d := by
  cases o <;> rfl
theorem ro_isN : ROp K rIsN gIsN := by
  intro W Hs O S H x y ax ay k Q ok r1 r2 ⟨e, d, e1, hk⟩ q
  subst e
  obtain rfl := non_inv r2
  refine ⟨rfl, ?_⟩
  rw [non_iff (r1.od e1)]
  exact Rst.bl q ok hk
def gIn (neg : Bool) : AO2 := fun x y k => ∃ d ds, x.dat = some d ∧ (y.tup = some ds ∨ y.lst = some ds) ∧ SeqAt.shaped d = true ∧ SeqAt.shaped (.tuple ds) = true ∧ k (.d (.bool (if neg then !(ds.any fun z => PyData.eqv z d) else ds.any fun z => PyData.eqv z d)))
theorem shaped_tl {ds : List PyData} (h : SeqAt.shaped (.tuple ds) = true) : SeqAt.shaped (.list ds) = true := by
  have h' : ((PyData.tuple ds).canLay0 && decide ((PyData.tuple ds).depth ≤ 64)) = true := h
  show ((PyData.list ds).canLay0 && decide ((PyData.list ds).depth ≤ 64)) = true
  simp only [PyData.canLay0, PyData.depth] at h' ⊢
  exact h'
theorem Vrp.seq {W : Wel} {Hs : Hp} {O : Nat → Option Addr} {S : Ads} {H : Hp} {v : V} {av : Avl} {ds : List PyData} (r : Vrp K W Hs O S H v av) (e : av.tup = some ds ∨ av.lst = some ds) : ∃ p vs, v = .ref p ∧ Ods K S H vs ds ∧ (SqT K H p vs ∨ H p = some (.lst vs)) := by
  rcases e with e | e
  · obtain ⟨p, vs, e1, a, b⟩ := r.tup e
    exact ⟨p, vs, e1, b, .inl a⟩
  · obtain ⟨p, vs, e1, a, b⟩ := r.lst e
    exact ⟨p, vs, e1, b, .inr a⟩
theorem ro_in : ROp K (rInU K) (gIn false) := by
  intro W Hs O S H x y ax ay k Q ok r1 r2 ⟨d, ds, e1, e2, h1, h2, hk⟩ q
  obtain ⟨p, vs, rfl, o, a⟩ := r2.seq e2
  have c2 : PyData.canLayAll0 ds = true := by
    have := SeqAt.canLay_of_shaped h2
    simpa only [PyData.canLay0] using this
  have d1 := (r1.od e1).dp (SeqAt.canLay_of_shaped h1)
  rcases a with a | a
  · exact .inr (.inr ⟨d, ds, d1, .tup a.up (o.dp c2), h1, h2, Rst.bl q ok hk⟩)
  · exact .inr (.inl ⟨d, ds, d1, .lst (SqL.of a) (o.dp c2), h1, shaped_tl h2, Rst.bl q ok hk⟩)
theorem ro_ni : ROp K (rNiU K) (gIn true) := by
  intro W Hs O S H x y ax ay k Q ok r1 r2 ⟨d, ds, e1, e2, h1, h2, hk⟩ q
  obtain ⟨p, vs, rfl, o, a⟩ := r2.seq e2
  have c2 : PyData.canLayAll0 ds = true := by
    have := SeqAt.canLay_of_shaped h2
    simpa only [PyData.canLay0] using this
  have d1 := (r1.od e1).dp (SeqAt.canLay_of_shaped h1)
  rcases a with a | a
  · exact .inr (.inr ⟨d, ds, d1, .tup a.up (o.dp c2), h1, h2, Rst.bl q ok hk⟩)
  · exact .inr (.inl ⟨d, ds, d1, .lst (SqL.of a) (o.dp c2), h1, shaped_tl h2, Rst.bl q ok hk⟩)
def gNeg : AO1 := fun x k => ∃ i, x = .d (.int i) ∧ k (.d (.int (-i)))
def gIx : AO2 := fun x y k => ∃ i, y = .d (.int i) ∧ (∃ ds z, (x.tup = some ds ∨ x.lst = some ds) ∧ atI ds i = some z ∧ k (.d z))
theorem ro_ix : ROp K (rIx K) gIx := by
  intro W Hs O S H x y ax ay k Q ok r1 r2 ⟨i, e, h⟩ q
  subst e
  obtain rfl := int_inv r2
  obtain ⟨ds, z, e1, hz, hk⟩ := h
  obtain ⟨p, vs, rfl, o, a⟩ := r1.seq e1
  obtain ⟨v, hv, ov⟩ := o.at hz
  rcases a with a | a
  · exact o_ixT a hv (Rst.d q ok ov hk)
  · exact o_ixL (SqL.of a) hv (Rst.d q ok ov hk)
def gSl (lo hi : Option Int) : AO1 := fun x k => (∃ ds, x.tup = some ds ∧ k (.d (.tuple (cutD ds lo hi)))) ∨ ∃ ds, x.lst = some ds ∧ k (.l (cutD ds lo hi))
def aSl (e : AEx) (lo hi : AOp) : AEx := fun X α k => e X α fun x => lo X α fun l => hi X α fun u => gSl l u x k
def aRev (e : AEx) : AEx := fun X α k => e X α fun x => (∃ ds, x.tup = some ds ∧ k (.d (.tuple ds.reverse))) ∨ ∃ ds, x.lst = some ds ∧ k (.l ds.reverse)
theorem Ods.rev {G : Ads} {H : Hp} : ∀ {vs : List V} {ds : List PyData}, Ods K G H vs ds → Ods K G H vs.reverse ds.reverse
  | _, _, .nil => .nil
  | _, _, .cons a h => by
    rw [List.reverse_cons, List.reverse_cons]
    exact (Ods.rev h).append (.cons a .nil)
/-- a slot's list is kept as it is -/
def aFz (i : Nat) (a : ASt) : ASt := fun A α => ∃ ds, α[i]? = some (.own ds) ∧ a A (α.set i (.d (.list ds)))
theorem rs_fz {i : Nat} {t : TS} {a : ASt} (h1 : RSt K E t a) : RSt K E t (aFz i a) := by
  intro W H0 S0 O S α σ H A D f ⟨ds, e, h⟩ l
  obtain ⟨p, vs, a1, _⟩ := own_at f e
  obtain ⟨g, ke⟩ := f.frz e a1
  exact h1 g h (l.kee ke)
def aSwap (i j : Nat) (e e' ei ej : AEx) : ASt := fun A α => e A.er α fun x => ∃ x', x.cl = some x' ∧ e' A.er α fun y => ∃ y', y.cl = some y' ∧ ∃ ds, α[i]? = some (.own ds) ∧ ei A.er α fun a => ∃ (p : Int) (n : Nat), a = .d (.int p) ∧ ixN ds.length p = some n ∧
  ∃ es, (α.set i (.own (ds.set n x')))[j]? = some (.own es) ∧ ej A.er (α.set i (.own (ds.set n x'))) fun b => ∃ (q : Int) (m : Nat), b = .d (.int q) ∧ ixN es.length q = some m ∧ A.nx ((α.set i (.own (ds.set n x'))).set j (.own (es.set m y')))
theorem rs_swap {i j : Nat} {te te' ti tj : TE} {e e' ei ej : AEx} (h1 : REx K E te e) (h2 : REx K E te' e') (h3 : REx K E ti ei) (h4 : REx K E tj ej) :
    RSt K E (tAsg (tTup (tCons te (tCons te' tNil))) (gTup K 2 (gCons (gSub (tVar i) ti rSetL) (gCons (gSub (tVar j) tj rSetL) gNil)))) (aSwap i j e e' ei ej) := by
  intro W H0 S0 O S α σ H A D f h l
  refine h1 f h l.er fun v av S1 H1 m1 r1 ⟨x', hx, h'⟩ => ?_
  obtain ⟨S2, m2, _, od1⟩ := keepx f.k m1 r1 hx
  have f2 := f.mv m2
  refine h2 f2 h' (l.er.kee (m2.kee f.k)) fun u au S3 H3 m3 r3 ⟨y', hy, ds, h0, h'⟩ => ?_
  obtain ⟨S4, m4, _, od2⟩ := keepx f2.k m3 r3 hy
  have f4 := f2.mv m4
  have t2 : ∀ b, S2 b → ¬ W.has b := fun b z => (f2.k.t b z).2
  have t4 : ∀ b, S4 b → ¬ W.has b := fun b z => (f4.k.t b z).2
  refine ⟨by show 2 ≤ sizeLine; decide, fun p np => ?_⟩
  have m5 := m4.oks.same (Same.new (o := .tup [v, u]) np)
  have f5 := f4.mv m5
  have l5 := l.kee (((m2.trans m4).trans m5).kee f.k)
  have od1' := m5.od f4.k.w t4 (m4.od f2.k.w t2 od1)
  have od2' := m5.od f4.k.w t4 od2
  refine ⟨p, _, rfl, (SqT.of (K := K) upd_same).up, rfl, _, _, rfl, ?_⟩
  obtain ⟨a, vs, a1, a2, a3, a4, ai, nw, ln⟩ := own_at f5 h0
  refine ⟨_, a2, ?_⟩
  refine h3 f5 h' l5.er fun w aw S6 H6 m6 r6 ⟨pi, n, ew, hn, es, he, h'⟩ => ?_
  subst ew
  cases r6
  have f6 := f5.mv m6
  have t5 : ∀ b, S4 b → ¬ W.has b := t4
  have c6 := own_mv f5 m6 a1 a3
  obtain ⟨g, ke⟩ := f6.chg a1 a2 c6 ((m6.ods f5.k.w (fun b z => (f5.k.t b z).2) a4).setN (m6.od f5.k.w (fun b z => (f5.k.t b z).2) od1') n) ai
  have l7 := (l5.kee (m6.kee f5.k)).kee ke
  have od2'' := ke.od (m6.od f5.k.w (fun b z => (f5.k.t b z).2) od2')
  refine ⟨a, vs, pi, n, rfl, rfl, c6, by rw [ln]; exact hn, ?_⟩
  obtain ⟨b, us, b1, b2, b3, b4, bi, nw', ln'⟩ := own_at g he
  refine ⟨_, _, rfl, _, b2, ?_⟩
  refine h4 g h' l7.er fun w aw S8 H8 m8 r8 ⟨qi, m, ew, hm, k⟩ => ?_
  subst ew
  cases r8
  have f8 := g.mv m8
  have c8 := own_mv g m8 b1 b3
  obtain ⟨g', ke'⟩ := f8.chg b1 b2 c8 ((m8.ods g.k.w (fun b z => (g.k.t b z).2) b4).setN (m8.od g.k.w (fun b z => (g.k.t b z).2) od2'') m) bi
  exact ⟨b, us, qi, m, rfl, rfl, c8, by rw [ln']; exact hm, rfl, (l7.kee (m8.kee g.k)).nx O S8 _ σ _ ke' g' k⟩
theorem one_inv {W : Wel} {Hs : Hp} {O : Nat → Option Addr} {S : Ads} {H : Hp} {xs : List V} {a : Avl} (r : Paired (Vrp K W Hs O S H) xs [a]) : ∃ v, xs = [v] ∧ Vrp K W Hs O S H v a := by
  rcases r with _ | ⟨r1, r2⟩
  cases r2
  exact ⟨_, rfl, r1⟩
theorem two_inv {W : Wel} {Hs : Hp} {O : Nat → Option Addr} {S : Ads} {H : Hp} {xs : List V} {a b : Avl} (r : Paired (Vrp K W Hs O S H) xs [a, b]) : ∃ v u, xs = [v, u] ∧ Vrp K W Hs O S H v a ∧ Vrp K W Hs O S H u b := by
  rcases r with _ | ⟨r1, r2⟩
  rcases r2 with _ | ⟨r2, r3⟩
  cases r3
  exact ⟨_, _, rfl, r1, r2⟩
def gLen : AOn := fun as k => ∃ a ds, as = [a] ∧ (a.tup = some ds ∨ a.lst = some ds) ∧ k (.d (.int ds.length))
theorem rb_len : RCb K (rLenU K) gLen := by
  intro W Hs O S H xs as k Q ok r ⟨a, ds, e, h, hk⟩ q
  subst e
  obtain ⟨v, rfl, r1⟩ := one_inv r
  obtain ⟨p, vs, rfl, o, a⟩ := r1.seq h
  rw [← o.length] at hk
  rcases a with a | a
  · exact o_lenT a (Rst.int q ok hk)
  · exact o_lenL (SqL.of a) (Rst.int q ok hk)
def gAbs : AOn := fun as k => ∃ i, as = [.d (.int i)] ∧ k (.d (.int (if i < 0 then -i else i)))
def gInt : AOn := fun as k => (∃ i, as = [.d (.int i)] ∧ k (.d (.int i))) ∨ ∃ b, as = [.d (.bool b)] ∧ k (.d (.int (b2i b)))
theorem rb_int : RCb K rInt gInt := by
  intro W Hs O S H xs as k Q ok r h q
  rcases h with ⟨i, e, hk⟩ | ⟨b, e, hk⟩
  · subst e
    obtain ⟨v, rfl, r1⟩ := one_inv r
    obtain rfl := int_inv r1
    exact o_int (Rst.int q ok hk)
  · subst e
    obtain ⟨v, rfl, r1⟩ := one_inv r
    cases r1
    exact o_intB (Rst.int q ok hk)
def gMax2 : AOn := fun as k => ∃ i j, as = [.d (.int i), .d (.int j)] ∧ k (.d (.int (if j > i then j else i)))
def gMin2 : AOn := fun as k => ∃ i j, as = [.d (.int i), .d (.int j)] ∧ k (.d (.int (if j < i then j else i)))
theorem rb_max2 : RCb K rMax2 gMax2 := by
  intro W Hs O S H xs as k Q ok r ⟨i, j, e, hk⟩ q
  subst e
  obtain ⟨v, u, rfl, r1, r2⟩ := two_inv r
  obtain rfl := int_inv r1
  obtain rfl := int_inv r2
  exact o_max2 (Rst.int q ok hk)
theorem rb_min2 : RCb K rMin2 gMin2 := by
  intro W Hs O S H xs as k Q ok r ⟨i, j, e, hk⟩ q
  subst e
  obtain ⟨v, u, rfl, r1, r2⟩ := two_inv r
  obtain rfl := int_inv r1
  obtain rfl := int_inv r2
  exact o_min2 (Rst.int q ok hk)
/-- what repr may cost -/
structure Shw (d : PyData) : Prop where
  sh : d.showable = true
  dp : d.depth ≤ 60
  ln : d.shown.length ≤ 10000000
def gRepr : AOn := fun as k => ∃ a d, as = [a] ∧ a.dat = some d ∧ Shw d ∧ k (.d (.str d.shown))
theorem rb_repr : RCb K (rReprU K) gRepr := by
  intro W Hs O S H xs as k Q ok r ⟨a, d, e, h, hs, hk⟩ q
  subst e
  obtain ⟨v, rfl, r1⟩ := one_inv r
  exact .inr ⟨_, v, d, rfl, r1.od h, hs.sh, hs.dp, Nat.le_trans hs.ln (by decide), Rst.str q ok hk⟩
def gSortP : AOn := fun as k => ∃ (a : Avl) (rs : List (Int × Int)), as = [a] ∧ a.lst = some (rs.map dP) ∧ ∀ qs : List (Int × Int), qs.Perm rs → qs.Pairwise (fun p q => SrtO.lexB q p = false) → k (.l (qs.map dP))
theorem flat_dPs : ∀ rs : List (Int × Int), flatDs (rs.map dP) = true
  | [] => by simp [flatDs]
  | p :: rs => by simp [flatDs, flatD, dP, flat_dPs rs]
theorem rb_sortP : RCb K (rSortP K) gSortP := by
  intro W Hs O S H xs as k Q ok r ⟨a, rs, e, h, hk⟩ q
  subst e
  obtain ⟨v, rfl, r1⟩ := one_inv r
  obtain ⟨p, vs, rfl, a, o⟩ := r1.lst h
  exact ⟨p, vs, rs, rfl, SqL.of a, o.tps (flat_dPs rs), fun ys qs h1 h2 t => Rst.new q ok t.ods (hk qs h1 h2)⟩
def gTupOf : AOn := fun as k => ∃ a ds, as = [a] ∧ (a.tup = some ds ∨ a.lst = some ds) ∧ k (.d (.tuple ds))
theorem rb_tupOf : RCb K (rTupOf K) gTupOf := by
  intro W Hs O S H xs as k Q ok r ⟨a, ds, e, h, hk⟩ q
  subst e
  obtain ⟨v, rfl, r1⟩ := one_inv r
  obtain ⟨p, vs, rfl, o, a⟩ := r1.seq h
  rcases a with a | a
  · exact ⟨p, vs, rfl, .inr ⟨a.up, Rst.d q ok (.tup a o) hk⟩⟩
  · exact ⟨p, vs, rfl, .inl ⟨SqL.of a, Rst.newT q ok o hk⟩⟩
def gLstOf : AOn := fun as k => ∃ a ds, as = [a] ∧ (a.tup = some ds ∨ a.lst = some ds) ∧ k (.l ds)
theorem rb_lstOf : RCb K (rLstOf K) gLstOf := by
  intro W Hs O S H xs as k Q ok r ⟨a, ds, e, h, hk⟩ q
  subst e
  obtain ⟨v, rfl, r1⟩ := one_inv r
  obtain ⟨p, vs, rfl, o, a⟩ := r1.seq h
  rcases a with a | a
  · exact ⟨p, vs, rfl, .inr a.up, Rst.new q ok o hk⟩
  · exact ⟨p, vs, rfl, .inl (SqL.of a), Rst.new q ok o hk⟩
/-- list(range(n)) -/
def aLstRg (e : AEx) : AEx := fun X α k => e X α fun x => ∃ n : Int, x = .d (.int n) ∧ -1000000 ≤ n ∧ n ≤ 1000000 ∧ k (.l ((iota n.toNat).map .int))
theorem re_lstRg {te : TE} {e : AEx} (h1 : REx K E te e) : REx K E (tLstRg (tRg1 te)) (aLstRg e) := by
  intro W H0 S0 O S α σ H X k Q f h lk q
  refine h1 f h lk fun v av S1 H1 m r ⟨n, e, n0, n1, hk⟩ => ?_
  subst e
  obtain rfl := int_inv r
  refine ⟨n, rfl, ⟨by omega, by omega, by omega, by omega, by omega⟩, ?_⟩
  rw [rgV_iota]
  have q1 : Rst K W O S1 H1 k Q := fun v av S' H' m' r h => q v av S' H' (m.trans m') (r.hs fun b y => m.back y) h
  exact q1.new m.oks (Tps.ods (Tps.of_ints _)) hk
/-- {} -/
def aDict0 : AEx := fun _ _ k => k (.d (.dict []))
end
end UW
namespace UW
open PySem PySem.Spec PyProof.Rows L2
section
variable {K : Fg} {W : Wel} {Hs H H' : Hp} {O : Nat → Option Addr} {S S0 : Ads} {v : V} {av : Avl}
theorem rtn_wel (ok : Oks W S H) (on : W.is 0) (e : WK W.a W.l H H') (hs : ∀ b, S b → S0 b) (r : Vrp K W H (fun _ => none) S H' v av) : Rtn K W H S0 v av H' := by
  refine ⟨S, fun _ => by rw [on.2]; exact ⟨e.w, (ok.w.of on).2⟩, fun b o h z => e.k b o h (fun y => z ⟨on.1, .inl y⟩) (fun y => z ⟨on.1, .inr (.inl y)⟩), fun b hb => ⟨.inl (hs b hb), ?_, (ok.t b hb).2⟩, r⟩
  cases q : H b with
  | none => exact absurd q (ok.t b hb).1
  | some o =>
    rw [e.k b o q (fun y => (ok.t b hb).2 ⟨on.1, .inl y⟩) (fun y => (ok.t b hb).2 ⟨on.1, .inr (.inl y)⟩)]
    intro y
    cases y
theorem new_l (ok : Oks W S H) {p : Addr} {vs : List V} {ds : List PyData} (np : H p = none) (h : H' p = some (.lst vs)) (o : Ods K S H' vs ds) : Vrp K W H (fun _ => none) S H' (.ref p) (.l ds) :=
  ⟨p, vs, rfl, h, o, fun z => (ok.t p z).1 np, np, Wel.ne ok.w np⟩
theorem argS_S {as : List Avl} : ∀ b, S b → argS W Hs O S H as b := fun _ h => .inl h
mutual
theorem Tp.fl {H : Hp} : ∀ {v : V} {d : PyData}, Tp K H v d → flatD d = true
  | _, _, .non => by simp [flatD]
  | _, _, .bl b => by simp [flatD]
  | _, _, .int i => by simp [flatD]
  | _, _, .str x => by simp [flatD]
  | _, _, .tup h hs => by simp only [flatD]; exact Tps.fl hs
theorem Tps.fl {H : Hp} : ∀ {vs : List V} {ds : List PyData}, Tps K H vs ds → flatDs ds = true
  | _, _, .nil => by simp [flatDs]
  | _, _, .cons h hs => by simp only [flatDs, Bool.and_eq_true]; exact ⟨Tp.fl h, Tps.fl hs⟩
end
end
theorem four_inv {K : Fg} {W : Wel} {Hs : Hp} {O : Nat → Option Addr} {S : Ads} {H : Hp} {xs : List V} {a b c d : Avl} (r : Paired (Vrp K W Hs O S H) xs [a, b, c, d]) : ∃ v1 v2 v3 v4, xs = [v1, v2, v3, v4] ∧ Vrp K W Hs O S H v1 a ∧ Vrp K W Hs O S H v2 b ∧ Vrp K W Hs O S H v3 c ∧ Vrp K W Hs O S H v4 d := by
  rcases r with _ | ⟨r1, r⟩
  rcases r with _ | ⟨r2, r⟩
  rcases r with _ | ⟨r3, r⟩
  rcases r with _ | ⟨r4, r⟩
  cases r
  exact ⟨_, _, _, _, rfl, r1, r2, r3, r4⟩
section
variable {K : Fg}
def m__law_draw : AFn := fun as _ k => ∃ m : Int, as = [.w, .d (.int m)] ∧ 0 < m ∧ m < 1073741824 ∧ ∀ r : Int, 0 ≤ r → r < m → k (.d (.int r))
theorem br__law_draw : ∀ vs H Q E, SpA K 2 m__law_draw vs H Q E → sp__law_draw K vs H Q E := by
  rintro vs H Q E ⟨W, Hs, O, S, as, x, k, _, ok, _, pr, ⟨m, rfl, m0, m1, h⟩, hq, _⟩
  obtain ⟨v, u, rfl, r1, r2⟩ := two_inv pr
  obtain ⟨on, rfl⟩ := r1
  obtain rfl := int_inv r2
  exact ⟨W.a, W.l, m, rfl, (ok.w.of on).1, m0, m1, fun r H' r0 r1 w' k' => hq _ (.d (.int r)) _ (rtn_wel ok on ⟨w', k'⟩ argS_S (Od.int r)) (h r r0 r1)⟩
def m__law_mixed : AFn := fun as _ k => ∃ n : Nat, as = [.w, .d (.int n)] ∧ n ≤ 1000 ∧ ∀ ns : List Int, ns.Perm (iota n) → k (.l (ns.map .int))
theorem br__law_mixed : ∀ vs H Q E, SpA K 2 m__law_mixed vs H Q E → sp__law_mixed K vs H Q E := by
  rintro vs H Q E ⟨W, Hs, O, S, as, x, k, _, ok, _, pr, ⟨n, rfl, m0, h⟩, hq, _⟩
  obtain ⟨v, u, rfl, r1, r2⟩ := two_inv pr
  obtain ⟨on, rfl⟩ := r1
  obtain rfl := int_inv r2
  exact ⟨W.a, W.l, n, rfl, (ok.w.of on).1, m0, fun p H' ns np wk e pm => hq _ (.l (ns.map .int)) _ (rtn_wel ok on wk argS_S (new_l ok np e (Tps.of_ints ns).ods)) (h ns pm)⟩
def m__law_web : AFn := fun as _ k => ∃ size room load : Int, as = [.w, .d (.int size), .d (.int room), .d (.int load)] ∧ 3 ≤ size ∧ size ≤ 24 ∧ 1 ≤ room ∧ room ≤ 40 ∧ 1 ≤ load ∧ load ≤ 9 ∧
  ∀ (n : Int) (rs : List (Int × Int)) (ms : List Int), WebOk size room load n rs ms → k (.d (dWeb n rs ms))
theorem br__law_web : ∀ vs H Q E, SpA K 4 m__law_web vs H Q E → sp__law_web K vs H Q E := by
  rintro vs H Q E ⟨W, Hs, O, S, as, x, k, _, ok, _, pr, ⟨s, r, l, rfl, a1, a2, a3, a4, a5, a6, h⟩, hq, _⟩
  obtain ⟨v1, v2, v3, v4, rfl, r1, r2, r3, r4⟩ := four_inv pr
  obtain ⟨on, rfl⟩ := r1
  obtain rfl := int_inv r2
  obtain rfl := int_inv r3
  obtain rfl := int_inv r4
  exact ⟨W.a, W.l, s, r, l, rfl, (ok.w.of on).1, a1, a2, a3, a4, a5, a6, fun v H' n rs ms wk tv w => hq _ (.d (dWeb n rs ms)) _ (rtn_wel ok on wk argS_S (Tp.od tv)) (h n rs ms w)⟩
def m__law_pick : AFn := fun as _ k => ∃ (a : Avl) (ds : List PyData), as = [.w, a] ∧ (a.tup = some ds ∨ a.lst = some ds) ∧ ds ≠ [] ∧ ds.length ≤ 1000 ∧ ∀ d ∈ ds, k (.d d)
theorem seq_nw {W : Wel} {Hs : Hp} {O : Nat → Option Addr} {S : Ads} {H : Hp} {v : V} {av : Avl} {ds : List PyData} (ok : Oks W S H) (r : Vrp K W Hs O S H v av) (e : av.tup = some ds ∨ av.lst = some ds) : ∃ p vs, v = .ref p ∧ Ods K S H vs ds ∧ (SqT K H p vs ∨ (H p = some (.lst vs) ∧ ¬ W.has p)) := by
  cases av with
  | d x =>
    cases x with
    | tuple xs =>
      have e' : xs = ds := by rcases e with e | e <;> first | exact Option.some.inj e | cases e
      subst e'
      cases r with
      | tup a b => exact ⟨_, _, rfl, b, .inl a⟩
    | list xs =>
      have e' : xs = ds := by rcases e with e | e <;> first | exact Option.some.inj e | cases e
      subst e'
      cases r with
      | lst g a b => exact ⟨_, _, rfl, b, .inr ⟨a, (ok.t _ g).2⟩⟩
    | _ => rcases e with e | e <;> cases e
  | l xs =>
    have e' : xs = ds := by rcases e with e | e <;> first | exact Option.some.inj e | cases e
    subst e'
    obtain ⟨p, vs, rfl, h1, h2, h3, h4, h5⟩ := r
    exact ⟨p, vs, rfl, h2, .inr ⟨h1, h5⟩⟩
  | b j xs =>
    have e' : xs = ds := by rcases e with e | e <;> first | exact Option.some.inj e | cases e
    subst e'
    obtain ⟨p, vs, rfl, _, h1, h2, h5⟩ := r
    exact ⟨p, vs, rfl, h2, .inr ⟨h1, h5⟩⟩
  | wl u => rcases e with e | e <;> cases e
  | k c => rcases e with e | e <;> cases e
theorem br__law_pick : ∀ vs H Q E, SpA K 2 m__law_pick vs H Q E → sp__law_pick K vs H Q E := by
  rintro vs H Q E ⟨W, Hs, O, S, as, x, k, _, ok, _, pr, ⟨a, ds, rfl, ha, a1, a2, h⟩, hq, _⟩
  obtain ⟨v1, v2, rfl, r1, r2⟩ := two_inv pr
  obtain ⟨on, rfl⟩ := r1
  obtain ⟨p, us, rfl, o, c⟩ := seq_nw ok r2 ha
  have w := (ok.w.of on).1
  refine ⟨W.a, W.l, p, us, rfl, w, c.elim (fun c => .inr c.up) fun c => .inl (SqL.of c.1), fun H' e => ?_, by rw [o.length]; exact List.length_pos_iff.mpr a1, by rw [o.length]; exact a2, fun z H' hz e => ?_⟩
  · rcases c with c | c
    · exact .inr ((e.tm w).sq c).up
    · exact .inl (SqL.of (e.get c.1 (fun y => c.2 ⟨on.1, .inl y⟩) fun y => c.2 ⟨on.1, .inr (.inl y)⟩))
  · obtain ⟨i, hi, ei⟩ := List.mem_iff_getElem.mp hz
    obtain ⟨d, hd, od⟩ := o.get (i := i) (x := z) (by rw [List.getElem?_eq_getElem hi, ei])
    refine hq _ (.d d) _ (rtn_wel ok on e argS_S ?_) (h d (List.mem_of_getElem? hd))
    exact od.mv (e.tm w) fun b o' g q => ⟨g, e.get q (fun y => (ok.t b g).2 ⟨on.1, .inl y⟩) fun y => (ok.t b g).2 ⟨on.1, .inr (.inl y)⟩⟩
end
end UW
namespace UW
open PySem PySem.Spec PyProof.Rows L2
theorem iteT' {c : Bool} {A B : Prop} (h : c = true) (k : A) : if c = true then A else B := by rw [if_pos h]; exact k
theorem iteF' {c : Bool} {A B : Prop} (h : c = false) (k : B) : if c = true then A else B := by rw [if_neg (by rw [h]; decide)]; exact k
theorem iteNT {d : PyData} {A B : Prop} (h : isNon d = false) (k : A) : if (!isNon d) = true then A else B := by rw [h]; exact k
theorem iteNF {d : PyData} {A B : Prop} (h : isNon d = true) (k : B) : if (!isNon d) = true then A else B := by rw [h]; exact k
theorem iteIT {d : PyData} {A B : Prop} (h : isNon d = true) (k : A) : if isNon d = true then A else B := by rw [h]; exact k
theorem iteIF {d : PyData} {A B : Prop} (h : isNon d = false) (k : B) : if isNon d = true then A else B := by rw [h]; exact k
section
variable {X : AXr} {α : Afr} {k : Avl → Prop} {A : AEn} {a b : ASt} {e e' e2 ei : AEx} {i j n : Nat} {P : Avl → Prop} {d : PyData} {ds xs ys : List PyData} {t u : ATx} {R : Bool → Prop} {g g' : AO2} {x y z : Avl}
theorem a_seq (h : a { A with nx := b A } α) : aSeq a b A α := h
theorem a_cut (M : Afr → Prop) (h : a { A with nx := M } α) (h2 : ∀ α', M α' → b A α') : aCut a b A α := ⟨M, h, h2⟩
theorem a_next (h : A.nx α) : aNext A α := h
theorem a_brk (h : A.bk α) : aBrk A α := h
theorem a_cont (h : A.ct α) : aCont A α := h
theorem a_ret (h : e A.er α fun av => A.rt av.out) : aRet e A α := h
theorem a_retN (h : A.rt (.d .none)) : aRetN A α := h
theorem a_drop (h : e A.er α fun _ => A.nx α) : aDrop e A α := h
theorem a_ifs (h : t A.er α fun x => if x = true then a A α else b A α) : aIfS t a b A α := h
theorem a_set (h : e A.er α fun av => ∃ z, av.sot = some z ∧ A.nx (α.set i z)) : aSet i e A α := h
theorem a_set2 (h : e A.er α fun x => e' A.er α fun y => ∃ z w, x.sot = some z ∧ y.sot = some w ∧ A.nx ((α.set i z).set j w)) : aSet2 i j e e' A α := h
theorem a_set3 (h : e A.er α fun x => e' A.er α fun y => e2 A.er α fun x2 => ∃ z w z2, x.sot = some z ∧ y.sot = some w ∧ x2.sot = some z2 ∧ A.nx (((α.set i z).set j w).set n z2)) : aSet3 i j n e e' e2 A α := h
theorem a_parD {r : AAd} (h : r A.er α fun xs => ∃ x y, xs = [x, y] ∧ A.nx ((α.set i (.d x)).set j (.d y))) : aParD i j r A α := h
theorem a_p2 {Q : PyData → PyData → Prop} {x y : PyData} (h : Q x y) : ∃ x' y', [x, y] = [x', y'] ∧ Q x' y' := ⟨x, y, rfl, h⟩
theorem a_s1 {Q : Sot → Prop} {z : Sot} (h : x.sot = some z) (k : Q z) : ∃ z, x.sot = some z ∧ Q z := ⟨z, h, k⟩
theorem a_s2 {Q : Sot → Sot → Prop} {z w : Sot} (h : x.sot = some z) (h2 : y.sot = some w) (k : Q z w) : ∃ z w, x.sot = some z ∧ y.sot = some w ∧ Q z w := ⟨z, w, h, h2, k⟩
theorem a_s3 {Q : Sot → Sot → Sot → Prop} {s w v : Sot} (h : x.sot = some s) (h2 : y.sot = some w) (h3 : z.sot = some v) (k : Q s w v) : ∃ s w v, x.sot = some s ∧ y.sot = some w ∧ z.sot = some v ∧ Q s w v := ⟨s, w, v, h, h2, h3, k⟩
theorem a_var {z : Sot} {av : Avl} (h : α[i]? = some z) (h2 : z.av i = some av) (q : k av) : aVar i X α k := ⟨z, av, h, h2, q⟩
theorem a_c (q : k (.d d)) : aC d X α k := q
theorem a_tup {r : AAd} (h : r X α fun xs => k (.d (.tuple xs))) : aTup r X α k := h
theorem a_lst {r : AAd} (h : r X α fun xs => k (.l xs)) : aLst r X α k := h
theorem a_nil {R : List PyData → Prop} (h : R []) : aNil X α R := h
theorem a_cons {r : AAd} {R : List PyData → Prop} (h : e X α fun av => ∃ x, av.cl = some x ∧ r X α fun xs => R (x :: xs)) : aCons e r X α R := h
theorem a_cl {Q : PyData → Prop} {w : PyData} (h : x.cl = some w) (q : Q w) : ∃ x', x.cl = some x' ∧ Q x' := ⟨w, h, q⟩
theorem b_nil {R : List Avl → Prop} (h : R []) : bNil X α R := h
theorem b_cons {r : AAv} {R : List Avl → Prop} (h : e X α fun x => r X α fun xs => R (x :: xs)) : bCons e r X α R := h
theorem a_b (h : e X α fun av => ∃ b, av = .d (.bool b) ∧ R b) : aB e X α R := h
theorem a_bl {Q : Bool → Prop} {b : Bool} (h : Q b) : ∃ c, Avl.d (.bool b) = .d (.bool c) ∧ Q c := ⟨b, rfl, h⟩
theorem a_ii {Q : Int → Prop} {i : Int} (h : Q i) : ∃ j, Avl.d (.int i) = .d (.int j) ∧ Q j := ⟨i, rfl, h⟩
theorem a_yes (h : R true) : aYes X α R := h
theorem a_and (h : t X α fun c => if c = true then u X α R else R false) : aAnd t u X α R := h
theorem a_or (h : t X α fun c => if c = true then R true else u X α R) : aOr t u X α R := h
theorem a_not (h : t X α fun c => R (!c)) : aNot t X α R := h
theorem a_if (h : t X α fun c => if c = true then e X α k else e' X α k) : aIf t e e' X α k := h
theorem a_andV (h : e X α fun x => ∃ c, x = .d (.bool c) ∧ if c = true then e' X α k else k (.d (.bool false))) : aAndV e e' X α k := h
theorem a_orV (h : e X α fun x => ∃ c, x = .d (.bool c) ∧ if c = true then k (.d (.bool true)) else e' X α k) : aOrV e e' X α k := h
theorem a_notV (h : e X α fun x => ∃ c, x = .d (.bool c) ∧ k (.d (.bool (!c)))) : aNotV e X α k := h
theorem a_op (h : e X α fun x => e' X α fun y => g x y k) : aOp g e e' X α k := h
theorem a_chain (h : e X α fun x => e' X α fun y => g x y fun z => ∃ p, z = .d (.bool p) ∧ if p = true then e2 X α fun w => g' y w k else k (.d (.bool false))) : aChain g g' e e' e2 X α k := h
theorem a_un {g : AO1} (h : e X α fun x => g x k) : aUn g e X α k := h
theorem a_cb {g : AOn} {r : AAv} (h : r X α fun xs => g xs k) : aCB g r X α k := h
theorem a_sl {lo hi : AOp} (h : e X α fun x => lo X α fun l => hi X α fun u => gSl l u x k) : aSl e lo hi X α k := h
theorem a_rev (h : e X α fun x => (∃ ds, x.tup = some ds ∧ k (.d (.tuple ds.reverse))) ∨ ∃ ds, x.lst = some ds ∧ k (.l ds.reverse)) : aRev e X α k := h
theorem a_revT {Q R : List PyData → Prop} (e : x.tup = some ds) (h : Q ds) : (∃ ds, x.tup = some ds ∧ Q ds) ∨ ∃ ds, x.lst = some ds ∧ R ds := .inl ⟨ds, e, h⟩
theorem a_revL {Q R : List PyData → Prop} (e : x.lst = some ds) (h : R ds) : (∃ ds, x.tup = some ds ∧ Q ds) ∨ ∃ ds, x.lst = some ds ∧ R ds := .inr ⟨ds, e, h⟩
theorem a_part {Q : Option Int → Prop} (h : e X α fun av => ∃ i, av = .d (.int i) ∧ Q (some i)) : aPart e X α Q := h
theorem a_nopart {Q : Option Int → Prop} (h : Q none) : aNoPart X α Q := h
theorem a_call {m : AFn} {r : AAv} (h : r X α fun as => m as (fun C f => X α C f ∧ (anyB as = true → f = none)) fun av => k av ∧ (anyB as = true → av.flat = true)) : aCall m r X α k := h
theorem a_call0 {m : AFn} {r : AAv} (h : r X α fun as => m as (fun _ _ => False) fun av => k av ∧ (anyB as = true → av.flat = true)) : aCall0 m r X α k := h
theorem a_nb {P Q : Prop} {as : List Avl} (h : anyB as = false) (p : P) : P ∧ (anyB as = true → Q) := ⟨p, fun z => by rw [h] at z; cases z⟩
theorem a_kw {gg : List Avl → List Avl} {r : AAv} {R : List Avl → Prop} (h : r X α fun as => R (gg as)) : aKw n gg r X α R := h
theorem a_asg {gt : ATg} (h : e A.er α fun av => ∃ x, av.cl = some x ∧ gt x α A.nx) : aAsg e gt A α := h
theorem a_gtup {gs : ATgs} {Q : Afr → Prop} (e : d = .tuple ds) (h : ds.length = n) (q : gs ds α Q) : agTup n gs d α Q := ⟨ds, e, h, q⟩
theorem a_gcons {gt : ATg} {gs : ATgs} {Q : Afr → Prop} (h : gt d α fun α1 => gs ds α1 Q) : agCons gt gs (d :: ds) α Q := ⟨d, ds, rfl, h⟩
theorem a_gnil {Q : Afr → Prop} (h : Q α) : agNil [] α Q := ⟨rfl, h⟩
theorem a_isi {f : PyData → Bool} (h : e X α fun av => ∃ d, av.dat = some d ∧ k (.d (.bool (f d)))) : aIsi f e X α k := h
theorem a_dat {Q : PyData → Prop} {w : PyData} (h : x.dat = some w) (q : Q w) : ∃ d, x.dat = some d ∧ Q d := ⟨w, h, q⟩
theorem a_isX {a : Addr} (h : α[i]? = some (.err a)) (q : k (.d (.bool true))) : aIsX i a X α k := ⟨h, q⟩
theorem a_lstRg (h : e X α fun x => ∃ n : Int, x = .d (.int n) ∧ -1000000 ≤ n ∧ n ≤ 1000000 ∧ k (.l ((iota n.toNat).map .int))) : aLstRg e X α k := h
theorem a_dict0 (h : k (.d (.dict []))) : aDict0 X α k := h
theorem g_addI {i j : Int} (h : k (.d (.int (i + j)))) : gAdd (.d (.int i)) (.d (.int j)) k := .inl ⟨i, j, rfl, rfl, h⟩
theorem g_addL (e : x.lst = some xs) (e' : y.lst = some ys) (h : xs.length + ys.length ≤ 100000) (q : k (.l (xs ++ ys))) : gAdd x y k := .inr (.inr (.inr ⟨xs, ys, e, e', h, q⟩))
theorem g_sub {i j : Int} (h : k (.d (.int (i - j)))) : gSub' (.d (.int i)) (.d (.int j)) k := ⟨i, j, rfl, rfl, h⟩
theorem g_mulI {i j : Int} (s : Sml i j) (h : k (.d (.int (i * j)))) : gMul (.d (.int i)) (.d (.int j)) k := .inl ⟨i, j, rfl, rfl, s, h⟩
theorem g_div {i j : Int} (h1 : 0 < j) (h2 : j < 1073741824) (h : k (.d (.int (i / j)))) : gDiv (.d (.int i)) (.d (.int j)) k := ⟨i, j, rfl, rfl, h1, h2, h⟩
theorem g_mod {i j : Int} (h1 : 0 < j) (h : k (.d (.int (i % j)))) : gMod (.d (.int i)) (.d (.int j)) k := ⟨i, j, rfl, rfl, h1, h⟩
theorem g_eqI {i j : Int} (h : k (.d (.bool (decide (i = j))))) : gEq (.d (.int i)) (.d (.int j)) k := .inl ⟨i, j, rfl, rfl, h⟩
theorem g_neI {i j : Int} (h : k (.d (.bool (!decide (i = j))))) : gNe (.d (.int i)) (.d (.int j)) k := .inl ⟨i, j, rfl, rfl, h⟩
theorem g_eqS {i j : Str} (h : k (.d (.bool (decide (i = j))))) : gEq (.d (.str i)) (.d (.str j)) k := .inr (.inl ⟨i, j, rfl, rfl, h⟩)
theorem g_neS {i j : Str} (h : k (.d (.bool (!decide (i = j))))) : gNe (.d (.str i)) (.d (.str j)) k := .inr (.inl ⟨i, j, rfl, rfl, h⟩)
theorem g_eqD {d e : PyData} (e1 : x.dat = some d) (e2 : y.dat = some e) (h1 : SeqAt.shaped d = true) (h2 : SeqAt.shaped e = true) (h : k (.d (.bool (PyData.eqv d e)))) : gEq x y k := .inr (.inr ⟨d, e, e1, e2, h1, h2, h⟩)
theorem g_neD {d e : PyData} (e1 : x.dat = some d) (e2 : y.dat = some e) (h1 : SeqAt.shaped d = true) (h2 : SeqAt.shaped e = true) (h : k (.d (.bool (!PyData.eqv d e)))) : gNe x y k := .inr (.inr ⟨d, e, e1, e2, h1, h2, h⟩)
theorem g_ltI {i j : Int} (h : k (.d (.bool (decide (i < j))))) : gLt (.d (.int i)) (.d (.int j)) k := .inl ⟨i, j, rfl, rfl, h⟩
theorem g_le {i j : Int} (h : k (.d (.bool (decide (i ≤ j))))) : gLe (.d (.int i)) (.d (.int j)) k := ⟨i, j, rfl, rfl, h⟩
theorem g_gt {i j : Int} (h : k (.d (.bool (decide (j < i))))) : gGt (.d (.int i)) (.d (.int j)) k := ⟨i, j, rfl, rfl, h⟩
theorem g_ge {i j : Int} (h : k (.d (.bool (decide (j ≤ i))))) : gGe (.d (.int i)) (.d (.int j)) k := ⟨i, j, rfl, rfl, h⟩
theorem g_isN {d : PyData} (e : x.dat = some d) (h : k (.d (.bool (isNon d)))) : gIsN x (.d .none) k := ⟨rfl, d, e, h⟩
theorem g_notN {d : PyData} (e : x.dat = some d) (h : k (.d (.bool (!isNon d)))) : gNotN x (.d .none) k := ⟨rfl, d, e, h⟩
theorem g_neg {i : Int} (h : k (.d (.int (-i)))) : gNeg (.d (.int i)) k := ⟨i, rfl, h⟩
theorem g_ixT {i : Int} {w : PyData} (e : x.tup = some ds) (h : atI ds i = some w) (q : k (.d w)) : gIx x (.d (.int i)) k := ⟨i, rfl, ds, w, .inl e, h, q⟩
theorem g_ixL {i : Int} {w : PyData} (e : x.lst = some ds) (h : atI ds i = some w) (q : k (.d w)) : gIx x (.d (.int i)) k := ⟨i, rfl, ds, w, .inr e, h, q⟩
theorem g_slT {lo hi : Option Int} (e : x.tup = some ds) (q : k (.d (.tuple (cutD ds lo hi)))) : gSl lo hi x k := .inl ⟨ds, e, q⟩
theorem g_slL {lo hi : Option Int} (e : x.lst = some ds) (q : k (.l (cutD ds lo hi))) : gSl lo hi x k := .inr ⟨ds, e, q⟩
theorem g_lenT (e : x.tup = some ds) (q : k (.d (.int ds.length))) : gLen [x] k := ⟨x, ds, rfl, .inl e, q⟩
theorem g_lenL (e : x.lst = some ds) (q : k (.d (.int ds.length))) : gLen [x] k := ⟨x, ds, rfl, .inr e, q⟩
theorem g_abs {i : Int} (q : k (.d (.int (if i < 0 then -i else i)))) : gAbs [.d (.int i)] k := ⟨i, rfl, q⟩
theorem g_int {i : Int} (q : k (.d (.int i))) : gInt [.d (.int i)] k := .inl ⟨i, rfl, q⟩
theorem g_intB {b : Bool} (q : k (.d (.int (b2i b)))) : gInt [.d (.bool b)] k := .inr ⟨b, rfl, q⟩
theorem g_max2 {i j : Int} (q : k (.d (.int (if j > i then j else i)))) : gMax2 [.d (.int i), .d (.int j)] k := ⟨i, j, rfl, q⟩
theorem g_min2 {i j : Int} (q : k (.d (.int (if j < i then j else i)))) : gMin2 [.d (.int i), .d (.int j)] k := ⟨i, j, rfl, q⟩
theorem g_repr {d : PyData} (e : x.dat = some d) (h : Shw d) (q : k (.d (.str d.shown))) : gRepr [x] k := ⟨x, d, rfl, e, h, q⟩
theorem g_tupL (e : x.lst = some ds) (q : k (.d (.tuple ds))) : gTupOf [x] k := ⟨x, ds, rfl, .inr e, q⟩
theorem g_tupT (e : x.tup = some ds) (q : k (.d (.tuple ds))) : gTupOf [x] k := ⟨x, ds, rfl, .inl e, q⟩
theorem g_lstT (e : x.tup = some ds) (q : k (.l ds)) : gLstOf [x] k := ⟨x, ds, rfl, .inl e, q⟩
theorem g_lstL (e : x.lst = some ds) (q : k (.l ds)) : gLstOf [x] k := ⟨x, ds, rfl, .inr e, q⟩
theorem a_fz (h : α[i]? = some (.own ds)) (q : a A (α.set i (.d (.list ds)))) : aFz i a A α := ⟨ds, h, q⟩
theorem a_swap {ej : AEx} (h : e A.er α fun x => ∃ x', x.cl = some x' ∧ e' A.er α fun y => ∃ y', y.cl = some y' ∧ ∃ ds, α[i]? = some (.own ds) ∧ ei A.er α fun a => ∃ (p : Int) (n : Nat), a = .d (.int p) ∧ ixN ds.length p = some n ∧
  ∃ es, (α.set i (.own (ds.set n x')))[j]? = some (.own es) ∧ ej A.er (α.set i (.own (ds.set n x'))) fun b => ∃ (q : Int) (m : Nat), b = .d (.int q) ∧ ixN es.length q = some m ∧ A.nx ((α.set i (.own (ds.set n x'))).set j (.own (es.set m y')))) : aSwap i j e e' ei ej A α := h
theorem a_len {Q : Prop} (h : Nat.ble ds.length 1000 = true) (q : Q) : ds.length < 100000 ∧ Q := ⟨Nat.lt_of_le_of_lt (Nat.le_of_ble_eq_true h) (by decide), q⟩
theorem a_app (h : α[i]? = some (.own ds)) (q : e A.er α fun av => ∃ x, av.cl = some x ∧ ds.length < 100000 ∧ A.nx (α.set i (.own (ds ++ [x])))) : aApp i e A α := ⟨ds, h, q⟩
theorem a_ext (h : α[i]? = some (.own ds)) (q : e A.er α fun av => ∃ xs, av.lst = some xs ∧ ds.length + xs.length < 100000 ∧ A.nx (α.set i (.own (ds ++ xs)))) : aExt i e A α := ⟨ds, h, q⟩
theorem a_pop (h : α[i]? = some (.own ds)) (q : e A.er α fun av => ∃ (n : Nat) (x : PyData), av = .d (.int n) ∧ ds[n]? = some x ∧ n < 100000 ∧ A.nx ((α.set i (.own (ds.eraseIdx n))).set j (.d x))) : aPop i j e A α := ⟨ds, h, q⟩
theorem a_setI (q : e A.er α fun av => ∃ x, av.cl = some x ∧ ∃ ds, α[i]? = some (.own ds) ∧ ei A.er α fun ai => ∃ (j : Int) (n : Nat), ai = .d (.int j) ∧ ixN ds.length j = some n ∧ A.nx (α.set i (.own (ds.set n x)))) : aSetI i e ei A α := q
theorem a_owned {Q : List PyData → Prop} (h : α[i]? = some (.own ds)) (q : Q ds) : ∃ ds, α[i]? = some (.own ds) ∧ Q ds := ⟨ds, h, q⟩
theorem a_owned' {Q : List PyData → Prop} (q : Q ds) : ∃ es, some (Sot.own ds) = some (.own es) ∧ Q es := ⟨ds, rfl, q⟩
theorem a_for {w : AIt} {gt : ATg} (h : w A.er α fun xs fz => aLoop gt b A xs (aFrz α fz)) : aFor w gt b A α := h
theorem a_loop {gt : ATg} (Pv : Nat → Afr → Prop) (h0 : Pv 0 α) (hs : ∀ i x α, xs[i]? = some x → Pv i α → gt x α fun α1 => b { A with nx := Pv (i + 1), ct := Pv (i + 1), bk := A.nx } α1) (hd : ∀ α, Pv xs.length α → A.nx α) : aLoop gt b A xs α := ⟨Pv, h0, hs, hd⟩
theorem a_while {c : ATx} (I : Nat → Afr → Prop) (m : Nat) (h0 : I m α) (h : ∀ m α, I m α → c A.er α fun t => if t = true then b { A with nx := fun α' => ∃ m', m' < m ∧ I m' α', ct := fun α' => ∃ m', m' < m ∧ I m' α', bk := A.nx } α else A.nx α) : aWhile c b A α := ⟨I, ⟨m, h0⟩, h⟩
abbrev Kfz := List PyData → List Nat → Prop
variable {Kz : Kfz}
def WSeq (x : Avl) (α : Afr) (Kz : Kfz) : Prop := (∃ ds, x = .d (.tuple ds) ∧ Kz ds []) ∨ (∃ ds, x.cl = some (.list ds) ∧ Kz ds []) ∨ ∃ i ds, x = .b i ds ∧ α[i]? = some (.own ds) ∧ Kz ds [i]
theorem i_seq (h : e X α fun av => WSeq av α Kz) : aSeqI e X α Kz := h
theorem i_T (e : x = .d (.tuple ds)) (h : Kz ds []) : WSeq x α Kz := .inl ⟨ds, e, h⟩
theorem i_L (e : x.cl = some (.list ds)) (h : Kz ds []) : WSeq x α Kz := .inr (.inl ⟨ds, e, h⟩)
theorem i_B (e : α[i]? = some (.own ds)) (h : Kz ds [i]) : WSeq (.b i ds) α Kz := .inr (.inr ⟨i, ds, rfl, e, h⟩)
def WR1 (as : List Avl) (Kz : Kfz) : Prop := ∃ j : Int, as = [.d (.int j)] ∧ -1000000 ≤ j ∧ j ≤ 1000000 ∧ Kz ((iota j.toNat).map .int) []
def WR2 (as : List Avl) (Kz : Kfz) : Prop := ∃ i j : Int, as = [.d (.int i), .d (.int j)] ∧ -1000000 ≤ i ∧ i ≤ 1000000 ∧ -1000000 ≤ j ∧ j ≤ 1000000 ∧ Kz ((rgI i j).map .int) []
theorem i_rng1 {r : AAv} (h : r X α fun as => WR1 as Kz) : aRng1 r X α Kz := h
theorem i_rng2 {r : AAv} (h : r X α fun as => WR2 as Kz) : aRng2 r X α Kz := h
theorem i_r1 {j : Int} (h : -1000000 ≤ j ∧ j ≤ 1000000) (q : Kz ((iota j.toNat).map .int) []) : WR1 [.d (.int j)] Kz := ⟨j, rfl, h.1, h.2, q⟩
theorem i_r2 {i j : Int} (h : -1000000 ≤ i ∧ i ≤ 1000000 ∧ -1000000 ≤ j ∧ j ≤ 1000000) (q : Kz ((rgI i j).map .int) []) : WR2 [.d (.int i), .d (.int j)] Kz := ⟨i, j, rfl, h.1, h.2.1, h.2.2.1, h.2.2.2, q⟩
def WEn (as : List Avl) (α : Afr) (Kz : Kfz) : Prop := ∃ av, as = [av] ∧ ((∃ ds, av = .d (.tuple ds) ∧ Kz (enD ds) []) ∨ (∃ ds, av.cl = some (.list ds) ∧ Kz (enD ds) []) ∨ ∃ i ds, av = .b i ds ∧ α[i]? = some (.own ds) ∧ Kz (enD ds) [i])
theorem i_enum {r : AAv} (h : r X α fun as => WEn as α Kz) : aEnum r X α Kz := h
theorem i_one (h : WSeq x α fun ds fz => Kz (enD ds) fz) : WEn [x] α Kz := ⟨x, rfl, h⟩
def WZi (as : List Avl) (Kz : Kfz) : Prop := (∃ xs ys, as = [.d (.tuple xs), .d (.tuple ys)] ∧ Kz (ziD xs ys) []) ∨ (∃ x y xs ys, as = [x, y] ∧ x.cl = some (.list xs) ∧ y.cl = some (.list ys) ∧ Kz (ziD xs ys) [])
theorem i_zip {r : AAv} (h : r X α fun as => WZi as Kz) : aZip r X α Kz := h
theorem a_lc {w : AIt} {gt : ATg} {is : List Nat} (h : w X α fun xs _ => xs.length < 100000 ∧ aLcGo gt t e (awipe α is) k xs) : aLc w gt t e is X α k := h
theorem a_lcgo {gt : ATg} (Pv : Nat → List PyData → Prop) (h0 : Pv 0 []) (hs : ∀ i x acc, xs[i]? = some x → Pv i acc → gt x α fun α2 => t aX0 α2 fun b => if b = true then e aX0 α2 fun av => ∃ y, av.cl = some y ∧ Pv (i + 1) (acc ++ [y]) else Pv (i + 1) acc)
    (hd : ∀ acc, Pv xs.length acc → acc.length ≤ xs.length → k (.l acc)) : aLcGo gt t e α k xs := ⟨Pv, h0, hs, hd⟩
theorem a_raise {C : Addr} (h : A.er α C none) : aRaise C A α := h
theorem a_try {C : Addr} {s : Addr → ASt} (h : b { A with er := fun α' C' f => C' = C ∧ f = none ∧ ∀ a, s a { A with nx := fun α'' => A.nx (α''.set i .x), bk := fun α'' => A.bk (α''.set i .x), ct := fun α'' => A.ct (α''.set i .x) } (α'.set i (.err a)) } α) : aTry C i b s A α := h
/-- a conditional expression, either way -/
theorem a_ifj (M : Avl → Prop) (h : ∀ av, M av → k av) (q : ∀ k', (∀ av, M av → k' av) → aIf t e e' X α k') : aIf t e e' X α k := q k h
end
end UW
namespace UW
open PySem PySem.Spec PyProof.Rows L2
section
open AutoSeq1 (wpAny_loadPart')
end
section
variable {X : Cx}
end
section
variable {K : Fg} {E : WX}
def aM1 (p : Avl → Prop) (g : AO2) (a b : AEx) : AEx := fun X α k => a X α fun x => p x ∧ b X α fun y => g x y k
def isS (x : Avl) : Prop := ∃ a, x = .d (.str a)
end
section
variable {k : Avl → Prop} {X : AXr} {α : Afr} {a b : AEx}
theorem a_m1 {p : Avl → Prop} {g : AO2} (h : a X α fun x => p x ∧ b X α fun y => g x y k) : aM1 p g a b X α k := h
theorem a_isS {a : Str} {q : Prop} (h : q) : isS (.d (.str a)) ∧ q := ⟨⟨a, rfl⟩, h⟩
end
end UW
namespace UW
open PySem PySem.Spec PyProof.Rows L2
section
variable {κ : Type} [DecidableEq κ]
def findD (kvs : List (κ × PyData)) (k : κ) : Option PyData := (kvs.find? fun kv => decide (kv.1 = k)).map (·.2)
def putD (kvs : List (κ × PyData)) (k : κ) (x : PyData) : List (κ × PyData) :=
  if (kvs.any fun kv => decide (kv.1 = k)) = true then kvs.map (fun kv => if kv.1 = k then (kv.1, x) else kv) else kvs ++ [(k, x)]
def PrD (K : Fg) (S : Ads) (H : Hp) (a : κ × V) (b : κ × PyData) : Prop := a.1 = b.1 ∧ Od K S H a.2 b.2
variable {K : Fg} {S : Ads} {H : Hp}
theorem prs_find {k : κ} : ∀ {ls : List (κ × V)} {kvs : List (κ × PyData)}, Paired (PrD K S H) ls kvs → (findD kvs k = none → valV ls k = none) ∧ ∀ x, findD kvs k = some x → ∃ v, valV ls k = some v ∧ Od K S H v x
  | _, _, .nil => ⟨fun _ => rfl, fun x h => by cases h⟩
  | a :: ls, b :: kvs, .cons r t => by
    obtain ⟨h1, h2⟩ := prs_find (k := k) t
    by_cases e : b.1 = k
    · have eb : findD (b :: kvs) k = some b.2 := by simp [findD, List.find?_cons, e]
      have ea : valV (a :: ls) k = some a.2 := L2.valV_pos (r.1.trans e)
      rw [eb, ea]
      exact ⟨fun z => (by cases z), fun x z => (by cases z; exact ⟨_, rfl, r.2⟩)⟩
    · have eb : findD (b :: kvs) k = findD kvs k := by simp [findD, List.find?_cons, e]
      have ea : valV (a :: ls) k = valV ls k := L2.valV_neg (fun z => e (r.1.symm.trans z))
      rw [eb, ea]
      exact ⟨h1, h2⟩
theorem prs_any {k : κ} : ∀ {ls : List (κ × V)} {kvs : List (κ × PyData)}, Paired (PrD K S H) ls kvs → (ls.any fun kv => decide (kv.1 = k)) = (kvs.any fun kv => decide (kv.1 = k))
  | _, _, .nil => rfl
  | a :: ls, b :: kvs, .cons r t => by rw [List.any_cons, List.any_cons, prs_any t, r.1]
theorem prs_len : ∀ {ls : List (κ × V)} {kvs : List (κ × PyData)}, Paired (PrD K S H) ls kvs → ls.length = kvs.length
  | _, _, .nil => rfl
  | _ :: _, _ :: _, .cons _ t => by rw [List.length_cons, List.length_cons, prs_len t]
theorem prs_set {k : κ} {v : V} {x : PyData} (o : Od K S H v x) : ∀ {ls : List (κ × V)} {kvs : List (κ × PyData)}, Paired (PrD K S H) ls kvs → Paired (PrD K S H) (ls.map fun kv => if kv.1 = k then (kv.1, v) else kv) (kvs.map fun kv => if kv.1 = k then (kv.1, x) else kv)
  | _, _, .nil => .nil
  | a :: ls, b :: kvs, .cons r t => by
    refine .cons ?_ (prs_set o t)
    show PrD K S H (if a.1 = k then (a.1, v) else a) (if b.1 = k then (b.1, x) else b)
    by_cases e : b.1 = k
    · rw [if_pos e, if_pos (r.1.trans e)]
      exact ⟨r.1, o⟩
    · rw [if_neg e, if_neg (fun z => e (r.1.symm.trans z))]
      exact r
theorem prs_app : ∀ {ls ls' : List (κ × V)} {kvs kvs' : List (κ × PyData)}, Paired (PrD K S H) ls kvs → Paired (PrD K S H) ls' kvs' → Paired (PrD K S H) (ls ++ ls') (kvs ++ kvs')
  | _, _, _, _, .nil, h => h
  | _ :: _, _, _ :: _, _, .cons r t, h => .cons r (prs_app t h)
theorem prs_put {k : κ} {v : V} {x : PyData} (o : Od K S H v x) {ls : List (κ × V)} {kvs : List (κ × PyData)} (h : Paired (PrD K S H) ls kvs) : Paired (PrD K S H) (putK ls k v) (putD kvs k x) := by
  unfold putK putD
  rw [prs_any h]
  split
  · exact prs_set o h
  · exact prs_app h (.cons ⟨rfl, o⟩ .nil)
theorem prs_mp {S1 : Ads} {H1 : Hp} (f : ∀ {v d}, Od K S H v d → Od K S1 H1 v d) {ls : List (κ × V)} {kvs : List (κ × PyData)} (h : Paired (PrD K S H) ls kvs) : Paired (PrD K S1 H1) ls kvs := L2.Paired.mapP h fun _ _ z => ⟨z.1, f z.2⟩
end
/-- what stands under a key -/
def DGetA : Dic → Avl → Option PyData → Prop
  | .k kvs, x, r => ∃ k, x = .d (kD k) ∧ r = findD kvs k
  | .t kvs, x, r => ∃ ks : List L2.Key, x = .d (.tuple (ks.map kD)) ∧ r = findD kvs ks
def DPutA : Dic → Avl → PyData → Dic → Prop
  | .k kvs, x, y, c => ∃ k, x = .d (kD k) ∧ kvs.length < 100000 ∧ c = .k (putD kvs k y)
  | .t kvs, x, y, c => ∃ ks : List L2.Key, x = .d (.tuple (ks.map kD)) ∧ kvs.length < 100000 ∧ c = .t (putD kvs ks y)
section
variable {K : Fg} {W : Wel} {Hs : Hp} {O : Nat → Option Addr} {S : Ads} {H : Hp}
theorem key_inv {v : V} {k : L2.Key} (r : Od K S H v (kD k)) : v = kV k := by
  cases k with
  | inl i => cases r; rfl
  | inr s => cases r; rfl
theorem keys_inv : ∀ {ks : List L2.Key} {vs : List V}, Ods K S H vs (ks.map kD) → vs = ks.map kV
  | [], _, .nil => rfl
  | k :: ks, _, .cons a b => by rw [key_inv a, keys_inv b]; rfl
theorem dget_at {p : Addr} {c : Dic} {y : V} {ax : Avl} {r : Option PyData} (h : DcR K S H p c) (ry : Vrp K W Hs O S H y ax) (g : DGetA c ax r) : ∃ o, DGet H p y o ∧ (r = none → o = none) ∧ ∀ x, r = some x → ∃ v, o = some v ∧ Od K S H v x := by
  cases c with
  | k kvs =>
    obtain ⟨ls, a, b⟩ := h
    obtain ⟨k, rfl, rfl⟩ := g
    have ry' : Od K S H y (kD k) := ry
    rw [key_inv ry']
    exact ⟨_, L2.DGet.k a, prs_find (K := K) b⟩
  | t kvs =>
    obtain ⟨ls, a, b⟩ := h
    obtain ⟨ks, rfl, rfl⟩ := g
    obtain ⟨q, us, rfl, a1, o1⟩ := ry.tup (ds := ks.map kD) rfl
    rw [keys_inv o1] at a1
    exact ⟨_, L2.DGet.t a a1, prs_find (K := K) b⟩
theorem dput_at {p : Addr} {c c' : Dic} {y v : V} {ax : Avl} {x : PyData} (h : DcR K S H p c) (ry : Vrp K W Hs O S H y ax) (ov : Od K S H v x) (g : DPutA c ax x c') : ∃ o, DPut H p y v (upd H p o) ∧ ((∀ {v d}, Od K S H v d → Od K S (upd H p o) v d) → DcR K S (upd H p o) p c') := by
  cases c with
  | k kvs =>
    obtain ⟨ls, a, b⟩ := h
    obtain ⟨k, rfl, hl, rfl⟩ := g
    have ry' : Od K S H y (kD k) := ry
    rw [key_inv ry']
    have ll := prs_len (K := K) b
    exact ⟨_, L2.DPut.k a (Nat.lt_of_lt_of_le (by omega) (show 100000 ≤ sizeLine by decide)), fun f => ⟨_, upd_same, prs_mp f (prs_put ov b)⟩⟩
  | t kvs =>
    obtain ⟨ls, a, b⟩ := h
    obtain ⟨ks, rfl, hl, rfl⟩ := g
    obtain ⟨q, us, rfl, a1, o1⟩ := ry.tup (ds := ks.map kD) rfl
    rw [keys_inv o1] at a1
    have ll := prs_len (K := K) b
    exact ⟨_, L2.DPut.t a a1 (Nat.lt_of_lt_of_le (by omega) (show 100000 ≤ sizeLine by decide)), fun f => ⟨_, upd_same, prs_mp f (prs_put ov b)⟩⟩
end
section
variable {K : Fg} {E : WX} {te te2 : TE} {e e2 : AEx} {i : Nat}
theorem dic_at {W : Wel} {H0 : Hp} {S0 : Ads} {O : Nat → Option Addr} {S : Ads} {α : Afr} {σ : L2.St} {H : Hp} {c : Dic} (f : Frm K W H0 S0 O S α σ H) (h : α[i]? = some (.dic c)) : ∃ p, O i = some p ∧ σ[i]? = some (some (.ref p)) ∧ DcR K S H p c ∧ i < α.length ∧ ¬ W.has p := by
  obtain ⟨p, a, b, d⟩ := f.sl i _ h
  exact ⟨p, a, b, d, (List.getElem?_eq_some_iff.mp h).1, Wel.ne f.w0 (f.o i p a).1⟩
theorem dic_mv {W : Wel} {H0 : Hp} {S0 : Ads} {O : Nat → Option Addr} {S S1 : Ads} {α : Afr} {σ : L2.St} {H H1 : Hp} {c : Dic} {p : Addr} (f : Frm K W H0 S0 O S α σ H) (m : Mvh W S H S1 H1) (d : DcR K S H p c) (nw : ¬ W.has p) : DcR K S1 H1 p c :=
  d.mp (fun o q => m.k _ _ q nw) fun z => m.od f.k.w (fun b z => (f.k.t b z).2) z
/-- x[e], x a slot's dict -/
def aDGet (i : Nat) (e : AEx) : AEx := fun X α k => ∃ c, α[i]? = some (.dic c) ∧ e X α fun av => ∃ x, DGetA c av (some x) ∧ k (.d x)
theorem re_dget (h1 : REx K E te e) : REx K E (tDGet (tVar i) te) (aDGet i e) := by
  intro W H0 S0 O S α σ H X k Q f ⟨c, h0, h⟩ lk q
  obtain ⟨p, a, b, d, hi, nw⟩ := dic_at f h0
  refine ⟨_, b, ?_⟩
  refine h1 f h lk fun v av S1 H1 m r ⟨x, g, hk⟩ => ?_
  obtain ⟨o, g1, _, g3⟩ := dget_at (dic_mv f m d nw) r g
  obtain ⟨w, rfl, ow⟩ := g3 x rfl
  exact ⟨p, w, rfl, g1, q w (.d x) S1 H1 m ow hk⟩
/-- x.get(e, e2) -/
def aDGet2 (i : Nat) (e e2 : AEx) : AEx := fun X α k => ∃ c, α[i]? = some (.dic c) ∧ e X α fun av => e2 X α fun a2 => ∃ r z, DGetA c av r ∧ a2 = .d z ∧ k (.d (r.getD z))
/-- e in x -/
def aDIn (e : AEx) (i : Nat) : AEx := fun X α k => e X α fun av => ∃ c r, α[i]? = some (.dic c) ∧ DGetA c av r ∧ k (.d (.bool r.isSome))
def aDNi (e : AEx) (i : Nat) : AEx := fun X α k => e X α fun av => ∃ c r, α[i]? = some (.dic c) ∧ DGetA c av r ∧ k (.d (.bool (!r.isSome)))
theorem some_eq {K : Fg} {S : Ads} {H : Hp} {r : Option PyData} {o : Option V} (g2 : r = none → o = none) (g3 : ∀ x, r = some x → ∃ v, o = some v ∧ Od K S H v x) : o.isSome = r.isSome := by
  cases r with
  | none => rw [g2 rfl]; rfl
  | some x => obtain ⟨v, rfl, _⟩ := g3 x rfl; rfl
theorem re_din (h1 : REx K E te e) : REx K E (tDIn te (tVar i)) (aDIn e i) := by
  intro W H0 S0 O S α σ H X k Q f h lk q
  refine h1 f h lk fun v av S1 H1 m r ⟨c, o, h0, g, hk⟩ => ?_
  have f1 := f.mv m
  obtain ⟨p, a, b, d, hi, nw⟩ := dic_at f1 h0
  obtain ⟨o', g1, g2, g3⟩ := dget_at d r g
  refine ⟨_, b, p, o', rfl, g1, ?_⟩
  rw [some_eq g2 g3]
  exact q _ (.d (.bool o.isSome)) S1 H1 m (Od.bl _) hk
theorem re_dni (h1 : REx K E te e) : REx K E (tDNotIn te (tVar i)) (aDNi e i) := by
  intro W H0 S0 O S α σ H X k Q f h lk q
  refine h1 f h lk fun v av S1 H1 m r ⟨c, o, h0, g, hk⟩ => ?_
  have f1 := f.mv m
  obtain ⟨p, a, b, d, hi, nw⟩ := dic_at f1 h0
  obtain ⟨o', g1, g2, g3⟩ := dget_at d r g
  refine ⟨_, b, p, o', rfl, g1, ?_⟩
  rw [some_eq g2 g3]
  exact q _ (.d (.bool (!o.isSome))) S1 H1 m (Od.bl _) hk
/-- x[ek] = ev -/
def aDPut (i : Nat) (ek ev : AEx) : ASt := fun A α => ev A.er α fun av => ∃ x, av.cl = some x ∧ ∃ c, α[i]? = some (.dic c) ∧ ek A.er α fun ak => ∃ c', DPutA c ak x c' ∧ A.nx (α.set i (.dic c'))
theorem rs_dput (h1 : REx K E te e) (h2 : REx K E te2 e2) : RSt K E (sDPut (tVar i) te te2) (aDPut i e e2) := by
  intro W H0 S0 O S α σ H A D f h l
  refine h2 f h l.er fun v av S1 H1 m r ⟨x, hx, c, h0, h'⟩ => ?_
  obtain ⟨S2, m2, _, od⟩ := keepx f.k m r hx
  have f2 := f.mv m2
  obtain ⟨p, a, b, d, hi, nw⟩ := dic_at f2 h0
  refine ⟨_, b, ?_⟩
  refine h1 f2 h' (l.er.kee (m2.kee f.k)) fun u au S3 H3 m3 r3 ⟨c', g, hk⟩ => ?_
  have f3 := f2.mv m3
  have d3 := dic_mv f2 m3 d nw
  obtain ⟨o, g1, g2⟩ := dput_at d3 r3 (m3.od f2.k.w (fun b z => (f2.k.t b z).2) od) g
  obtain ⟨g4, ke⟩ := f3.chgD a b d3 g2 hi
  exact ⟨p, _, rfl, g1, l.nx O S3 _ σ _ (((m2.trans m3).kee f.k).trans ke) g4 hk⟩
def aDNewT : AEx := fun _ _ k => k (.k (.t []))
theorem re_dnewT : REx K E tDNewT aDNewT := by
  intro W H0 S0 O S α σ H X k Q f h lk q p np
  exact q _ (.k (.t [])) S _ (f.k.same (Same.new np)) ⟨p, rfl, ⟨[], upd_same, .nil⟩, fun z => (f.k.t p z).1 np, np, Wel.ne f.k.w np⟩ h
/-- a dict of one pair -/
def aDOne (e e2 : AEx) : AEx := fun X α k => e X α fun x => e2 X α fun y => ∃ n z, x = .d (kD n) ∧ y = .d z ∧ k (.k (.k [(n, z)]))
theorem re_done (h1 : REx K E te e) (h2 : REx K E te2 e2) : REx K E (tDisp [(te, te2)]) (aDOne e e2) := by
  intro W H0 S0 O S α σ H X k Q f h lk q p np
  have m0 := f.k.same (Same.new (o := .dK []) np)
  have f0 := f.mv m0
  refine h1 f0 h (lk.kee (m0.kee f.k)) fun v av S1 H1 m1 r1 h' => ?_
  have f1 := f0.mv m1
  have m01 := m0.trans m1
  refine h2 f1 h' (lk.kee (m01.kee f.k)) fun u au S2 H2 m2 r2 ⟨n, z, ex, ey, hk⟩ => ?_
  subst ex
  subst ey
  have m12 := m1.trans m2
  have m02 := m0.trans m12
  have nwp : ¬ W.has p := Wel.ne f.k.w np
  have hp : H2 p = some (.dK []) := m12.k _ _ upd_same nwp
  have nS : ¬ S2 p := fun y => by
    rcases m12.n p y with y | y
    · exact (f.k.t p y).1 np
    · rw [upd_same] at y; cases y
  have r1' : Od K S1 H1 v (kD n) := r1
  have r2' : Od K S2 H2 u z := r2
  have ev := key_inv r1'
  subst ev
  refine ⟨hp, [(n, u)], rfl, by show 1 ≤ 15; omega, ?_⟩
  have tm : Tm H2 (upd H2 p (.dK [(n, u)])) := fun a xs y => by
    by_cases e : a = p
    · rw [e, hp] at y; cases y
    · rw [upd_ne e]; exact y
  have fin : Mvh W S H S2 (upd H2 p (.dK [(n, u)])) := by
    refine ⟨fun b o y w => ?_, fun on => ?_, m02.s, m02.n, fun b y => ?_⟩
    · rw [upd_ne fun e => by rw [e, np] at y; cases y]
      exact m02.k b o y w
    · exact m02.w.put nwp on
    · rw [upd_ne fun e => nS (by rw [← e]; exact y)]
      exact m02.t b y
  have ou : Od K S2 (upd H2 p (.dK [(n, u)])) u z := r2'.mv tm fun a o ga y => ⟨ga, by rw [upd_ne fun e => nS (by rw [← e]; exact ga)]; exact y⟩
  exact q _ (.k (.k [(n, z)])) S2 _ fin ⟨p, rfl, ⟨[(n, u)], upd_same, .cons ⟨rfl, ou⟩ .nil⟩, nS, np, nwp⟩ hk
/-- a dict of one pair, as data -/
def aDOneD (e e2 : AEx) : AEx := fun X α k => aDOne e e2 X α fun av => ∃ (n : Int) (z : PyData), av = .k (.k [(.inl n, z)]) ∧ k (.d (.dict [(.int n, z)]))
/-- a dict of a slot leaves -/
def aRetC (i : Nat) : ASt := fun A α => ∃ c, α[i]? = some (.dic c) ∧ A.rt (.k c)
theorem rs_retC : RSt K E (tRet (tVar i)) (aRetC i) := by
  intro W H0 S0 O S α σ H A D f ⟨c, h0, h⟩ l
  obtain ⟨p, a, b, d, hi, nw⟩ := dic_at f h0
  obtain ⟨a1, a2, a3, a4⟩ := f.o i p a
  exact ⟨_, b, l.rt _ (.k c) H ⟨S, f.k.w, f.k0, fun b h => ⟨f.n0 b h, f.k.t b h⟩, p, rfl, d, a3, a1, nw⟩ h⟩
/-- a list is kept as it is from here on, if it is one's own still -/
def aFzq (i : Nat) (a : ASt) : ASt := fun A α => a A (frz1 α i)
end
section
variable {k : Avl → Prop} {X : AXr} {α : Afr} {e e2 : AEx} {A : AEn} {i : Nat} {c : Dic}
theorem a_dget (h : α[i]? = some (.dic c)) (q : e X α fun av => ∃ x, DGetA c av (some x) ∧ k (.d x)) : aDGet i e X α k := ⟨c, h, q⟩
theorem a_dget2 (h : α[i]? = some (.dic c)) (q : e X α fun av => e2 X α fun a2 => ∃ r z, DGetA c av r ∧ a2 = .d z ∧ k (.d (r.getD z))) : aDGet2 i e e2 X α k := ⟨c, h, q⟩
theorem a_dput (q : e2 A.er α fun av => ∃ x, av.cl = some x ∧ ∃ c, α[i]? = some (.dic c) ∧ e A.er α fun ak => ∃ c', DPutA c ak x c' ∧ A.nx (α.set i (.dic c'))) : aDPut i e e2 A α := q
theorem a_dnewT (h : k (.k (.t []))) : aDNewT X α k := h
theorem a_done (h : e X α fun x => e2 X α fun y => ∃ n z, x = .d (kD n) ∧ y = .d z ∧ k (.k (.k [(n, z)]))) : aDOne e e2 X α k := h
theorem a_doned (h : aDOne e e2 X α fun av => ∃ (n : Int) (z : PyData), av = .k (.k [(.inl n, z)]) ∧ k (.d (.dict [(.int n, z)]))) : aDOneD e e2 X α k := h
theorem a_onedI {j : Int} {y : PyData} {q : Int → PyData → Prop} (h : q j y) : ∃ (n : Int) (z : PyData), Avl.k (.k [(.inl j, y)]) = .k (.k [(.inl n, z)]) ∧ q n z := ⟨j, y, rfl, h⟩
theorem a_oneI {j : Int} {y : PyData} {q : L2.Key → PyData → Prop} (h : q (.inl j) y) : ∃ n z, Avl.d (.int j) = .d (kD n) ∧ Avl.d y = .d z ∧ q n z := ⟨.inl j, y, rfl, rfl, h⟩
theorem a_retC (h : α[i]? = some (.dic c)) (q : A.rt (.k c)) : aRetC i A α := ⟨c, h, q⟩
theorem a_dcx {R : Dic → Prop} (q : R c) : ∃ d, some (Sot.dic c) = some (.dic d) ∧ R d := ⟨c, rfl, q⟩
theorem a_dcy {R : Dic → Prop} (h : α[i]? = some (.dic c)) (q : R c) : ∃ d, α[i]? = some (.dic d) ∧ R d := ⟨c, h, q⟩
theorem a_fzq {a : ASt} {β : Afr} (h : frz1 α i = β) (q : a A β) : aFzq i a A α := by show a A (frz1 α i); rw [h]; exact q
theorem a_din0 (h : e X α fun av => ∃ c r, α[i]? = some (.dic c) ∧ DGetA c av r ∧ k (.d (.bool r.isSome))) : aDIn e i X α k := h
theorem a_dni0 (h : e X α fun av => ∃ c r, α[i]? = some (.dic c) ∧ DGetA c av r ∧ k (.d (.bool (!r.isSome)))) : aDNi e i X α k := h
theorem a_dinI {kvs : List (L2.Key × PyData)} {j : Int} {R : Option PyData → Prop} (h : R (findD kvs (.inl j))) : ∃ c r, some (Sot.dic (.k kvs)) = some (.dic c) ∧ DGetA c (.d (.int j)) r ∧ R r := ⟨_, _, rfl, ⟨.inl j, rfl, rfl⟩, h⟩
theorem a_dgI {kvs : List (L2.Key × PyData)} {j : Int} {x : PyData} {R : PyData → Prop} (e : findD kvs (.inl j) = some x) (h : R x) : ∃ x, DGetA (.k kvs) (.d (.int j)) (some x) ∧ R x := ⟨x, ⟨.inl j, rfl, e.symm⟩, h⟩
theorem a_dpI {kvs : List (L2.Key × PyData)} {j : Int} {x : PyData} {R : Dic → Prop} (hl : kvs.length < 100000) (h : R (.k (putD kvs (.inl j) x))) : ∃ c', DPutA (.k kvs) (.d (.int j)) x c' ∧ R c' := ⟨_, ⟨.inl j, rfl, hl, rfl⟩, h⟩
end
end UW
namespace UW
open PySem PySem.Spec PyProof.Rows L2
section
variable {K : Fg} {E : WX} {i n : Nat} {g : TG} {gs : TGs} {ag : ATg} {ags : ATgs} {is js : List Nat}
end
/-- a list that no slot knows changes -/
theorem Frm.but {K : Fg} {W : Wel} {H0 H H' : Hp} {S0 S : Ads} {O : Nat → Option Addr} {α : Afr} {σ : L2.St} {D : Addr} {us ws : List V} (f : Frm K W H0 S0 O S α σ H) (hD : H D = some (.lst us)) (nS : ¬ S D) (nO : ∀ i, O i ≠ some D) (nW : ¬ W.has D) (n0 : H0 D = none) (a : At D (.lst ws) H H') : Frm K W H0 S0 O S α σ H' := by
  have tm := a.tm hD
  have kk : ∀ b o, S b → H b = some o → H' b = some o := fun b o hb e => a.ne e fun y => nS (y ▸ hb)
  have od : ∀ {v : V} {d : PyData}, Od K S H v d → Od K S H' v d := fun h => h.mv tm fun b o hb e => ⟨hb, kk b o hb e⟩
  have ods : ∀ {v : List V} {d : List PyData}, Ods K S H v d → Ods K S H' v d := fun h => h.mv tm fun b o hb e => ⟨hb, kk b o hb e⟩
  refine ⟨⟨fun on => ?_, fun b hb => ⟨?_, (f.k.t b hb).2⟩⟩, fun b o h z => a.ne (f.k0 b o h z) (fun y => by rw [y, n0] at h; cases h), f.n0, f.w0, fun i p e => ?_, f.len, fun i z e => ?_⟩
  · exact (f.k.w.keep fun b o z e => a.ne e fun y => nW (y ▸ z)) on
  · rw [a.2 b fun y => nS (y ▸ hb)]
    exact (f.k.t b hb).1
  · obtain ⟨h1, h2, h3, h4⟩ := f.o i p e
    exact ⟨h1, by rw [a.2 p fun y => nO i (y ▸ e)]; exact h2, h3, h4⟩
  · have q := f.sl i z e
    cases z with
    | x => trivial
    | d x =>
      obtain ⟨v, h1, h2⟩ := q
      exact ⟨v, h1, od h2⟩
    | own ds =>
      obtain ⟨p, vs, h1, h2, h3, h4⟩ := q
      exact ⟨p, vs, h1, h2, a.ne h3 (fun y => nO i (y ▸ h1)), ods h4⟩
    | wl u => exact q
    | err b => exact q
    | erx b dx fs => exact ⟨q.1, q.2.mv' (fun _ h => h) kk od⟩
    | dic c =>
      obtain ⟨p, h1, h2, h3⟩ := q
      exact ⟨p, h1, h2, h3.mp (fun o e => a.ne e (fun y => nO i (y ▸ h1))) od⟩
def aLc2In (g : ATg) (t : ATx) (e : AEx) (α : Afr) (P : List PyData → Prop) (acc ys : List PyData) : Prop := ∃ Pw : Nat → List PyData → Prop, Pw 0 acc ∧
  (∀ j y bcc, ys[j]? = some y → Pw j bcc → g y α fun α3 => t aX0 α3 fun b => if b = true then e aX0 α3 fun av => ∃ z, av.cl = some z ∧ Pw (j + 1) (bcc ++ [z]) else Pw (j + 1) bcc) ∧ ∀ bcc, Pw ys.length bcc → P bcc
def aLc2Go (g : ATg) (t : ATx) (w1 : AIt) (g1 : ATg) (t1 : ATx) (e : AEx) (vs1 : List Nat) (α : Afr) (k : Avl → Prop) (xs : List PyData) : Prop := ∃ Pv : Nat → List PyData → Prop, Pv 0 [] ∧
  (∀ i x acc, xs[i]? = some x → Pv i acc → g x α fun α2 => t aX0 α2 fun b => if b = true then w1 aX0 α2 fun ys fz => fz = [] ∧ ys.length ≤ 300 ∧ aLc2In g1 t1 e (awipe α2 vs1) (Pv (i + 1)) acc ys else Pv (i + 1) acc) ∧ ∀ acc, Pv xs.length acc → k (.l acc)
def aLc2 (w : AIt) (g : ATg) (t : ATx) (w1 : AIt) (g1 : ATg) (t1 : ATx) (e : AEx) (vs vs1 : List Nat) : AEx := fun X α k => w X α fun xs _ => xs.length ≤ 300 ∧ aLc2Go g t w1 g1 t1 e vs1 (awipe α vs) k xs
section
variable {K : Fg} {E : WX} {g g1 : TG} {ag ag1 : ATg} {is is1 : List Nat}
end
section
variable {k : Avl → Prop} {X : AXr} {α : Afr} {w w1 : AIt} {g g1 : ATg} {t t1 : ATx} {e : AEx} {vs vs1 : List Nat} {P : List PyData → Prop} {acc ys xs : List PyData}
theorem a_lc2 (h : w X α fun xs _ => xs.length ≤ 300 ∧ aLc2Go g t w1 g1 t1 e vs1 (awipe α vs) k xs) : aLc2 w g t w1 g1 t1 e vs vs1 X α k := h
end
section
variable {X : Cx} {k : Nat} {f : Addr} {fd : FuncData} {ps : List Str} {sp : Sp} {x : Str} {p pos : Pos}
end
end UW
namespace UW
open PySem PySem.Spec PyProof.Rows L2
/-- a goal's step -/
class Wk (g : Prop) (h : outParam Prop) : Prop where imp : h → g
theorem wk {g h : Prop} [w : Wk g h] (q : h) : g := w.imp q
/-- a goal of a group of steps -/
class Rs (g : Prop) (t : Nat) : Prop where ok : True
theorem rs_go (t : Nat) {g : Prop} [w : Rs g t] (q : g) : g := q
class CAt (α : Afr) (i : Nat) (z : outParam Sot) : Prop where e : α[i]? = some z
class CSet (α : Afr) (i : Nat) (z : Sot) (β : outParam Afr) : Prop where e : α.set i z = β
class CAv (z : Sot) (i : Nat) (av : outParam Avl) : Prop where e : z.av i = some av
class CCl (x : Avl) (w : outParam PyData) : Prop where e : x.cl = some w
class CDat (x : Avl) (w : outParam PyData) : Prop where e : x.dat = some w
class CSot (x : Avl) (w : outParam Sot) : Prop where e : x.sot = some w
class CNb (as : List Avl) : Prop where e : anyB as = false
class CLen (ds : List PyData) (n : Nat) : Prop where e : ds.length = n
section
variable {α β : Afr} {i n : Nat} {z s : Sot} {ds : List PyData} {d : PyData} {u : Nat} {c : Dic} {x : Avl} {xs : List Avl}
instance : CAt (z :: α) 0 z := ⟨rfl⟩
instance [w : CAt α i z] : CAt (s :: α) (i + 1) z := ⟨w.e⟩
instance : CSet (s :: α) 0 z (z :: α) := ⟨rfl⟩
instance [w : CSet α i z β] : CSet (s :: α) (i + 1) z (s :: β) := ⟨by rw [← w.e]; rfl⟩
instance {j : Nat} {y : Sot} [w : CSet α i z β] [v : CAt β j y] : CAt (α.set i z) j y := ⟨by rw [w.e]; exact v.e⟩
instance {j : Nat} {y : Sot} {γ : Afr} [w : CSet α i z β] [v : CSet β j y γ] : CSet (α.set i z) j y γ := ⟨by rw [w.e]; exact v.e⟩
instance : CAv (.d d) i (.d d) := ⟨rfl⟩
instance : CAv (.own ds) i (.b i ds) := ⟨rfl⟩
instance : CAv (.wl u) i (.wl u) := ⟨rfl⟩
instance : CCl (.d d) d := ⟨rfl⟩
instance : CCl (.l ds) (.list ds) := ⟨rfl⟩
instance : CDat (.d d) d := ⟨rfl⟩
instance : CDat (.l ds) (.list ds) := ⟨rfl⟩
instance : CDat (.b i ds) (.list ds) := ⟨rfl⟩
instance : CSot (.d d) (.d d) := ⟨rfl⟩
instance : CSot (.l ds) (.own ds) := ⟨rfl⟩
instance : CSot (.wl u) (.wl u) := ⟨rfl⟩
instance : CSot (.k c) (.dic c) := ⟨rfl⟩
instance : CNb [] := ⟨rfl⟩
instance [w : CNb xs] : CNb (.d d :: xs) := ⟨by have := w.e; unfold anyB at this ⊢; simpa [Avl.isB] using this⟩
instance [w : CNb xs] : CNb (.l ds :: xs) := ⟨by have := w.e; unfold anyB at this ⊢; simpa [Avl.isB] using this⟩
instance [w : CNb xs] : CNb (.wl u :: xs) := ⟨by have := w.e; unfold anyB at this ⊢; simpa [Avl.isB] using this⟩
instance [w : CNb xs] : CNb (.k c :: xs) := ⟨by have := w.e; unfold anyB at this ⊢; simpa [Avl.isB] using this⟩
instance : CLen [] 0 := ⟨rfl⟩
instance [w : CLen ds n] : CLen (d :: ds) (n + 1) := ⟨by rw [List.length_cons, w.e]⟩
end
section
variable {X : AXr} {α : Afr} {k : Avl → Prop} {A : AEn} {a b : ASt} {e e' e2 ei : AEx} {i j n : Nat} {P : Avl → Prop} {d : PyData} {ds xs ys : List PyData} {t u : ATx} {R : Bool → Prop} {g g' : AO2} {x y z : Avl}
variable {Kz : Kfz} {c : Dic}
instance  : Wk (aSeq a b A α) (a { A with nx := b A } α) := ⟨fun h => a_seq h⟩
instance  : Wk (aNext A α) (A.nx α) := ⟨fun h => a_next h⟩
instance  : Wk (aBrk A α) (A.bk α) := ⟨fun h => a_brk h⟩
instance  : Wk (aCont A α) (A.ct α) := ⟨fun h => a_cont h⟩
instance  : Wk (aRet e A α) (e A.er α fun av => A.rt av.out) := ⟨fun h => a_ret h⟩
instance  : Wk (aRetN A α) (A.rt (.d .none)) := ⟨fun h => a_retN h⟩
instance  : Wk (aDrop e A α) (e A.er α fun _ => A.nx α) := ⟨fun h => a_drop h⟩
instance  : Wk (aIfS t a b A α) (t A.er α fun x => if x = true then a A α else b A α) := ⟨fun h => a_ifs h⟩
instance  : Wk (aSet i e A α) (e A.er α fun av => ∃ z, av.sot = some z ∧ A.nx (α.set i z)) := ⟨fun h => a_set h⟩
instance  : Wk (aSet2 i j e e' A α) (e A.er α fun x => e' A.er α fun y => ∃ z w, x.sot = some z ∧ y.sot = some w ∧ A.nx ((α.set i z).set j w)) := ⟨fun h => a_set2 h⟩
instance  : Wk (aSet3 i j n e e' e2 A α) (e A.er α fun x => e' A.er α fun y => e2 A.er α fun x2 => ∃ z w z2, x.sot = some z ∧ y.sot = some w ∧ x2.sot = some z2 ∧ A.nx (((α.set i z).set j w).set n z2)) := ⟨fun h => a_set3 h⟩
instance {r : AAd} : Wk (aParD i j r A α) (r A.er α fun xs => ∃ x y, xs = [x, y] ∧ A.nx ((α.set i (.d x)).set j (.d y))) := ⟨fun h => a_parD h⟩
instance {Q : PyData → PyData → Prop} {x y : PyData} : Wk (∃ x' y', [x, y] = [x', y'] ∧ Q x' y') (Q x y) := ⟨fun h => a_p2 h⟩
instance  : Wk (aC d X α k) (k (.d d)) := ⟨fun h => a_c h⟩
instance {r : AAd} : Wk (aTup r X α k) (r X α fun xs => k (.d (.tuple xs))) := ⟨fun h => a_tup h⟩
instance {r : AAd} : Wk (aLst r X α k) (r X α fun xs => k (.l xs)) := ⟨fun h => a_lst h⟩
instance {R : List PyData → Prop} : Wk (aNil X α R) (R []) := ⟨fun h => a_nil h⟩
instance {r : AAd} {R : List PyData → Prop} : Wk (aCons e r X α R) (e X α fun av => ∃ x, av.cl = some x ∧ r X α fun xs => R (x :: xs)) := ⟨fun h => a_cons h⟩
instance {R : List Avl → Prop} : Wk (bNil X α R) (R []) := ⟨fun h => b_nil h⟩
instance {r : AAv} {R : List Avl → Prop} : Wk (bCons e r X α R) (e X α fun x => r X α fun xs => R (x :: xs)) := ⟨fun h => b_cons h⟩
instance  : Wk (aB e X α R) (e X α fun av => ∃ b, av = .d (.bool b) ∧ R b) := ⟨fun h => a_b h⟩
instance {Q : Bool → Prop} {b : Bool} : Wk (∃ c, Avl.d (.bool b) = .d (.bool c) ∧ Q c) (Q b) := ⟨fun h => a_bl h⟩
instance {Q : Int → Prop} {i : Int} : Wk (∃ j, Avl.d (.int i) = .d (.int j) ∧ Q j) (Q i) := ⟨fun h => a_ii h⟩
instance  : Wk (aYes X α R) (R true) := ⟨fun h => a_yes h⟩
instance  : Wk (aAnd t u X α R) (t X α fun c => if c = true then u X α R else R false) := ⟨fun h => a_and h⟩
instance  : Wk (aOr t u X α R) (t X α fun c => if c = true then R true else u X α R) := ⟨fun h => a_or h⟩
instance  : Wk (aNot t X α R) (t X α fun c => R (!c)) := ⟨fun h => a_not h⟩
instance  : Wk (aAndV e e' X α k) (e X α fun x => ∃ c, x = .d (.bool c) ∧ if c = true then e' X α k else k (.d (.bool false))) := ⟨fun h => a_andV h⟩
instance  : Wk (aOrV e e' X α k) (e X α fun x => ∃ c, x = .d (.bool c) ∧ if c = true then k (.d (.bool true)) else e' X α k) := ⟨fun h => a_orV h⟩
instance  : Wk (aNotV e X α k) (e X α fun x => ∃ c, x = .d (.bool c) ∧ k (.d (.bool (!c)))) := ⟨fun h => a_notV h⟩
instance  : Wk (aOp g e e' X α k) (e X α fun x => e' X α fun y => g x y k) := ⟨fun h => a_op h⟩
instance  : Wk (aChain g g' e e' e2 X α k) (e X α fun x => e' X α fun y => g x y fun z => ∃ p, z = .d (.bool p) ∧ if p = true then e2 X α fun w => g' y w k else k (.d (.bool false))) := ⟨fun h => a_chain h⟩
instance {g : AO1} : Wk (aUn g e X α k) (e X α fun x => g x k) := ⟨fun h => a_un h⟩
instance {g : AOn} {r : AAv} : Wk (aCB g r X α k) (r X α fun xs => g xs k) := ⟨fun h => a_cb h⟩
instance {lo hi : AOp} : Wk (aSl e lo hi X α k) (e X α fun x => lo X α fun l => hi X α fun u => gSl l u x k) := ⟨fun h => a_sl h⟩
instance  : Wk (aRev e X α k) (e X α fun x => (∃ ds, x.tup = some ds ∧ k (.d (.tuple ds.reverse))) ∨ ∃ ds, x.lst = some ds ∧ k (.l ds.reverse)) := ⟨fun h => a_rev h⟩
instance {Q : Option Int → Prop} : Wk (aPart e X α Q) (e X α fun av => ∃ i, av = .d (.int i) ∧ Q (some i)) := ⟨fun h => a_part h⟩
instance {Q : Option Int → Prop} : Wk (aNoPart X α Q) (Q none) := ⟨fun h => a_nopart h⟩
instance {m : AFn} {r : AAv} : Wk (aCall m r X α k) (r X α fun as => m as (fun C f => X α C f ∧ (anyB as = true → f = none)) fun av => k av ∧ (anyB as = true → av.flat = true)) := ⟨fun h => a_call h⟩
instance {m : AFn} {r : AAv} : Wk (aCall0 m r X α k) (r X α fun as => m as (fun _ _ => False) fun av => k av ∧ (anyB as = true → av.flat = true)) := ⟨fun h => a_call0 h⟩
instance {gg : List Avl → List Avl} {r : AAv} {R : List Avl → Prop} : Wk (aKw n gg r X α R) (r X α fun as => R (gg as)) := ⟨fun h => a_kw h⟩
instance {gt : ATg} : Wk (aAsg e gt A α) (e A.er α fun av => ∃ x, av.cl = some x ∧ gt x α A.nx) := ⟨fun h => a_asg h⟩
instance {gt : ATg} {gs : ATgs} {Q : Afr → Prop} : Wk (agCons gt gs (d :: ds) α Q) (gt d α fun α1 => gs ds α1 Q) := ⟨fun h => a_gcons h⟩
instance {Q : Afr → Prop} : Wk (agNil [] α Q) (Q α) := ⟨fun h => a_gnil h⟩
instance {f : PyData → Bool} : Wk (aIsi f e X α k) (e X α fun av => ∃ d, av.dat = some d ∧ k (.d (.bool (f d)))) := ⟨fun h => a_isi h⟩
instance  : Wk (aLstRg e X α k) (e X α fun x => ∃ n : Int, x = .d (.int n) ∧ -1000000 ≤ n ∧ n ≤ 1000000 ∧ k (.l ((iota n.toNat).map .int))) := ⟨fun h => a_lstRg h⟩
instance  : Wk (aDict0 X α k) (k (.d (.dict []))) := ⟨fun h => a_dict0 h⟩
instance {i j : Int} : Wk (gAdd (.d (.int i)) (.d (.int j)) k) (k (.d (.int (i + j)))) := ⟨fun h => g_addI h⟩
instance {i j : Int} : Wk (gSub' (.d (.int i)) (.d (.int j)) k) (k (.d (.int (i - j)))) := ⟨fun h => g_sub h⟩
instance {i j : Int} : Wk (gEq (.d (.int i)) (.d (.int j)) k) (k (.d (.bool (decide (i = j))))) := ⟨fun h => g_eqI h⟩
instance {i j : Int} : Wk (gNe (.d (.int i)) (.d (.int j)) k) (k (.d (.bool (!decide (i = j))))) := ⟨fun h => g_neI h⟩
instance {i j : Str} : Wk (gEq (.d (.str i)) (.d (.str j)) k) (k (.d (.bool (decide (i = j))))) := ⟨fun h => g_eqS h⟩
instance {i j : Str} : Wk (gNe (.d (.str i)) (.d (.str j)) k) (k (.d (.bool (!decide (i = j))))) := ⟨fun h => g_neS h⟩
instance {i j : Int} : Wk (gLt (.d (.int i)) (.d (.int j)) k) (k (.d (.bool (decide (i < j))))) := ⟨fun h => g_ltI h⟩
instance {i j : Int} : Wk (gLe (.d (.int i)) (.d (.int j)) k) (k (.d (.bool (decide (i ≤ j))))) := ⟨fun h => g_le h⟩
instance {i j : Int} : Wk (gGt (.d (.int i)) (.d (.int j)) k) (k (.d (.bool (decide (j < i))))) := ⟨fun h => g_gt h⟩
instance {i j : Int} : Wk (gGe (.d (.int i)) (.d (.int j)) k) (k (.d (.bool (decide (j ≤ i))))) := ⟨fun h => g_ge h⟩
instance {i : Int} : Wk (gNeg (.d (.int i)) k) (k (.d (.int (-i)))) := ⟨fun h => g_neg h⟩
instance {i : Int} : Wk (gAbs [.d (.int i)] k) (k (.d (.int (if i < 0 then -i else i)))) := ⟨fun h => g_abs h⟩
instance {i : Int} : Wk (gInt [.d (.int i)] k) (k (.d (.int i))) := ⟨fun h => g_int h⟩
instance {b : Bool} : Wk (gInt [.d (.bool b)] k) (k (.d (.int (b2i b)))) := ⟨fun h => g_intB h⟩
instance {i j : Int} : Wk (gMax2 [.d (.int i), .d (.int j)] k) (k (.d (.int (if j > i then j else i)))) := ⟨fun h => g_max2 h⟩
instance {i j : Int} : Wk (gMin2 [.d (.int i), .d (.int j)] k) (k (.d (.int (if j < i then j else i)))) := ⟨fun h => g_min2 h⟩
instance {ej : AEx} : Wk (aSwap i j e e' ei ej A α) (e A.er α fun x => ∃ x', x.cl = some x' ∧ e' A.er α fun y => ∃ y', y.cl = some y' ∧ ∃ ds, α[i]? = some (.own ds) ∧ ei A.er α fun a => ∃ (p : Int) (n : Nat), a = .d (.int p) ∧ ixN ds.length p = some n ∧ ∃ es, (α.set i (.own (ds.set n x')))[j]? = some (.own es) ∧ ej A.er (α.set i (.own (ds.set n x'))) fun b => ∃ (q : Int) (m : Nat), b = .d (.int q) ∧ ixN es.length q = some m ∧ A.nx ((α.set i (.own (ds.set n x'))).set j (.own (es.set m y')))) := ⟨fun h => a_swap h⟩
instance  : Wk (aSetI i e ei A α) (e A.er α fun av => ∃ x, av.cl = some x ∧ ∃ ds, α[i]? = some (.own ds) ∧ ei A.er α fun ai => ∃ (j : Int) (n : Nat), ai = .d (.int j) ∧ ixN ds.length j = some n ∧ A.nx (α.set i (.own (ds.set n x)))) := ⟨fun h => a_setI h⟩
instance {Q : List PyData → Prop} : Wk (∃ es, some (Sot.own ds) = some (.own es) ∧ Q es) (Q ds) := ⟨fun h => a_owned' h⟩
instance {w : AIt} {gt : ATg} : Wk (aFor w gt b A α) (w A.er α fun xs fz => aLoop gt b A xs (aFrz α fz)) := ⟨fun h => a_for h⟩
instance  : Wk (aSeqI e X α Kz) (e X α fun av => WSeq av α Kz) := ⟨fun h => i_seq h⟩
instance {r : AAv} : Wk (aRng1 r X α Kz) (r X α fun as => WR1 as Kz) := ⟨fun h => i_rng1 h⟩
instance {r : AAv} : Wk (aRng2 r X α Kz) (r X α fun as => WR2 as Kz) := ⟨fun h => i_rng2 h⟩
instance {r : AAv} : Wk (aEnum r X α Kz) (r X α fun as => WEn as α Kz) := ⟨fun h => i_enum h⟩
instance  : Wk (WEn [x] α Kz) (WSeq x α fun ds fz => Kz (enD ds) fz) := ⟨fun h => i_one h⟩
instance {r : AAv} : Wk (aZip r X α Kz) (r X α fun as => WZi as Kz) := ⟨fun h => i_zip h⟩
instance {w : AIt} {gt : ATg} {is : List Nat} : Wk (aLc w gt t e is X α k) (w X α fun xs _ => xs.length < 100000 ∧ aLcGo gt t e (awipe α is) k xs) := ⟨fun h => a_lc h⟩
instance {C : Addr} : Wk (aRaise C A α) (A.er α C none) := ⟨fun h => a_raise h⟩
instance {C : Addr} {s : Addr → ASt} : Wk (aTry C i b s A α) (b { A with er := fun α' C' f => C' = C ∧ f = none ∧ ∀ a, s a { A with nx := fun α'' => A.nx (α''.set i .x), bk := fun α'' => A.bk (α''.set i .x), ct := fun α'' => A.ct (α''.set i .x) } (α'.set i (.err a)) } α) := ⟨fun h => a_try h⟩
instance  : Wk (aDPut i e e2 A α) (e2 A.er α fun av => ∃ x, av.cl = some x ∧ ∃ c, α[i]? = some (.dic c) ∧ e A.er α fun ak => ∃ c', DPutA c ak x c' ∧ A.nx (α.set i (.dic c'))) := ⟨fun h => a_dput h⟩
instance  : Wk (aDOne e e2 X α k) (e X α fun x => e2 X α fun y => ∃ n z, x = .d (kD n) ∧ y = .d z ∧ k (.k (.k [(n, z)]))) := ⟨fun h => a_done h⟩
instance  : Wk (aDOneD e e2 X α k) (aDOne e e2 X α fun av => ∃ (n : Int) (z : PyData), av = .k (.k [(.inl n, z)]) ∧ k (.d (.dict [(.int n, z)]))) := ⟨fun h => a_doned h⟩
instance {j : Int} {y : PyData} {q : Int → PyData → Prop} : Wk (∃ (n : Int) (z : PyData), Avl.k (.k [(.inl j, y)]) = .k (.k [(.inl n, z)]) ∧ q n z) (q j y) := ⟨fun h => a_onedI h⟩
instance {j : Int} {y : PyData} {q : L2.Key → PyData → Prop} : Wk (∃ n z, Avl.d (.int j) = .d (kD n) ∧ Avl.d y = .d z ∧ q n z) (q (.inl j) y) := ⟨fun h => a_oneI h⟩
instance {R : Dic → Prop} : Wk (∃ d, some (Sot.dic c) = some (.dic d) ∧ R d) (R c) := ⟨fun h => a_dcx h⟩
instance  : Wk (aDIn e i X α k) (e X α fun av => ∃ c r, α[i]? = some (.dic c) ∧ DGetA c av r ∧ k (.d (.bool r.isSome))) := ⟨fun h => a_din0 h⟩
instance  : Wk (aDNi e i X α k) (e X α fun av => ∃ c r, α[i]? = some (.dic c) ∧ DGetA c av r ∧ k (.d (.bool (!r.isSome)))) := ⟨fun h => a_dni0 h⟩
instance (priority := low) {Q : Afr → Prop} : Wk (agName i d α Q) (Q (α.set i (.d d))) := ⟨fun h => h⟩
instance {Q : Afr → Prop} {β : Afr} [w : CSet α i (.d d) β] : Wk (agName i d α Q) (Q β) := ⟨fun h => by show Q (α.set i (.d d)); rw [w.e]; exact h⟩
instance {zz : Sot} {av : Avl} [v : CAt α i zz] [w : CAv zz i av] : Wk (aVar i X α k) (k av) := ⟨fun h => a_var v.e w.e h⟩
instance {Q : PyData → Prop} {w : PyData} [v : CCl x w] : Wk (∃ x', x.cl = some x' ∧ Q x') (Q w) := ⟨fun h => a_cl v.e h⟩
instance {Q : PyData → Prop} {w : PyData} [v : CDat x w] : Wk (∃ x', x.dat = some x' ∧ Q x') (Q w) := ⟨fun h => a_dat v.e h⟩
instance {Q : Sot → Prop} {w : Sot} [v : CSot x w] : Wk (∃ x', x.sot = some x' ∧ Q x') (Q w) := ⟨fun h => a_s1 v.e h⟩
instance {P Q : Prop} {as : List Avl} [v : CNb as] : Wk (P ∧ (anyB as = true → Q)) P := ⟨fun h => a_nb v.e h⟩
instance {gs : ATgs} {Q : Afr → Prop} [v : CLen ds n] : Wk (agTup n gs (.tuple ds) α Q) (gs ds α Q) := ⟨fun h => a_gtup rfl v.e h⟩
instance {A B : Prop} : Wk (if true = true then A else B) A := ⟨fun h => by rw [if_pos rfl]; exact h⟩
instance {A B : Prop} : Wk (if false = true then A else B) B := ⟨fun h => by rw [if_neg (by decide)]; exact h⟩
instance [v : CDat x d] : Wk (gIsN x (.d .none) k) (k (.d (.bool (isNon d)))) := ⟨fun h => g_isN v.e h⟩
instance [v : CDat x d] : Wk (gNotN x (.d .none) k) (k (.d (.bool (!isNon d)))) := ⟨fun h => g_notN v.e h⟩
variable {gs : ATgs} {gt : ATg} {Q : Afr → Prop} {as : List Avl} {lo hi : Option Int} {σ : Type} {S : σ → Prop} {B C : Prop} {c2 : Bool} {aa : Addr}
instance : Rs (aVar i X α k) 1 := ⟨trivial⟩
instance : Rs (agTup n gs d α Q) 1 := ⟨trivial⟩
instance : Rs (agCons gt gs ds α Q) 1 := ⟨trivial⟩
instance : Rs (agNil ds α Q) 1 := ⟨trivial⟩
instance : Rs (gIx x y k) 2 := ⟨trivial⟩
instance : Rs (gLen as k) 3 := ⟨trivial⟩
instance : Rs (gTupOf as k) 3 := ⟨trivial⟩
instance : Rs (gLstOf as k) 3 := ⟨trivial⟩
instance : Rs (gSl lo hi x k) 4 := ⟨trivial⟩
instance : Rs (gAdd x y k) 4 := ⟨trivial⟩
instance : Rs (gMul x y k) 4 := ⟨trivial⟩
instance : Rs (gMod x y k) 4 := ⟨trivial⟩
instance : Rs (gDiv x y k) 4 := ⟨trivial⟩
instance : Rs (gIsN x y k) 4 := ⟨trivial⟩
instance : Rs (gNotN x y k) 4 := ⟨trivial⟩
instance : Rs (aDGet i e X α k) 5 := ⟨trivial⟩
instance : Rs (aDGet2 i e e' X α k) 5 := ⟨trivial⟩
instance : Rs (aFzq i a A α) 5 := ⟨trivial⟩
instance : Rs (aRetC i A α) 5 := ⟨trivial⟩
instance : Rs (aFz i a A α) 5 := ⟨trivial⟩
instance : Rs (aApp i e A α) 5 := ⟨trivial⟩
instance : Rs (aExt i e A α) 5 := ⟨trivial⟩
instance : Rs (aPop i j e A α) 5 := ⟨trivial⟩
instance : Rs (aIsX i aa X α k) 5 := ⟨trivial⟩
instance : Rs (∃ q : σ, S q) 6 := ⟨trivial⟩
instance : Rs (WSeq x α Kz) 7 := ⟨trivial⟩
instance : Rs (WEn as α Kz) 7 := ⟨trivial⟩
instance : Rs (B ∧ C) 8 := ⟨trivial⟩
instance : Rs (B ∨ C) 8 := ⟨trivial⟩
instance : Rs (if (!c2) = true then B else C) 9 := ⟨trivial⟩
instance : Rs (if isNon d = true then B else C) 9 := ⟨trivial⟩
end
section
variable {k : Avl → Prop} {X : AXr} {α : Afr} {a b : AEx}
instance {p : Avl → Prop} {g : AO2} : Wk (aM1 p g a b X α k) (a X α fun x => p x ∧ b X α fun y => g x y k) := ⟨fun h => a_m1 h⟩
instance {a : Str} {q : Prop} : Wk (isS (.d (.str a)) ∧ q) (q) := ⟨fun h => a_isS h⟩
end
section
variable {k : Avl → Prop} {X : AXr} {α : Afr} {w w1 : AIt} {g g1 : ATg} {t t1 : ATx} {e : AEx} {vs vs1 : List Nat} {P : List PyData → Prop} {acc ys xs : List PyData}
instance  : Wk (aLc2 w g t w1 g1 t1 e vs vs1 X α k) (w X α fun xs _ => xs.length ≤ 300 ∧ aLc2Go g t w1 g1 t1 e vs1 (awipe α vs) k xs) := ⟨fun h => a_lc2 h⟩
end
end UW
namespace UW.Zl
open PySem PySem.Spec PyProof.Rows L2
theorem zip_no_len : typeLookup (.type "zip") "__len__" = pure none := by rw [typeLookup_type, builtinLookup_eq_fast]; kernel_rfl
theorem zip_no_hint : typeLookup (.type "zip") "__length_hint__" = pure none := by rw [typeLookup_type, builtinLookup_eq_fast]; kernel_rfl
section
variable {prog : Program} {w : World} {A : Around} {E : Value → Shared → Prop} {s : Shared}
variable {z TI TO i1 i2 l1 l2 : Addr} {xs ys : Array Value}
theorem item_held {T : Addr} {f : Bool} {oT : Obj} {k1 k2 : Nat} {x y : Value} {Q : Value → Shared → Prop} (D : ZipApart z TI TO i1 i2 l1 l2)
    (hz : IsZipHeld s.heap z TI TO T f) (hT : s.heap.get? T = some oT) (hTI : IsPair s.heap TI (.ref i1) (.ref i2))
    (h1 : s.heap.IsTupleIter i1 l1 k1) (h2 : s.heap.IsTupleIter i2 l2 k2) (hl1 : s.heap.IsTuple l1 xs) (hl2 : s.heap.IsTuple l2 ys) (hx : xs[k1]? = some x) (hy : ys[k2]? = some y)
    (hQ : ∀ h', IsZipHeld h' z TI TO T true → h'.IsTupleIter i1 l1 (k1 + 1) → h'.IsTupleIter i2 l2 (k2 + 1) → IsPair h' s.heap.objs.size x y → h'.objs.size = s.heap.objs.size + 1 →
      (∀ c o, c ≠ z → c ≠ i1 → c ≠ i2 → s.heap.get? c = some o → h'.get? c = some o) → Q (.ref s.heap.objs.size) { s with heap := h' }) :
    wpAny (model prog w) A (Builtin.«zip.__next__» ⟨[.ref z], []⟩) (fun fin s' => ∃ v, fin = .done (.ret v) ∧ Q v s') E s := by
  show wpAny _ _ (field (.ref z) 2 >>= _) _ _ _
  refine wpAny_bind (wpAny_field hz rfl (x := .bool false) rfl ?_)
  show wpAny _ _ (field (.ref z) 3 >>= _) _ _ _
  refine wpAny_bind (wpAny_field hz rfl (x := .ref TI) rfl ?_)
  refine wpAny_bind (wpAny_seqItems hTI rfl ?_)
  show wpAny _ _ (Builtin.SmallTypes.ownedTupleIsFree (.ref z) >>= _) _ _ _
  refine wpAny_bind (wpAny_tupleHeld_zip hz hT fun g1 z1 b1 => ?_)
  simp only [Bool.false_eq_true, if_false]
  refine wpAny_bind ?_
  rw [← Array.forIn_toList]
  simp only [List.forIn_cons, List.forIn_nil]
  refine wpAny_bind (wpAny_bind (wpAny_holding ?_))
  show wpAny _ _ (Builtin.SmallTypes.nextOf (.ref i1) >>= _) _ _ _
  refine wpAny_bind (RZ.nextOf_tuple_item (s := { s with heap := g1 }) (h1.extBut b1.extBut D.i1z) (hl1.extBut b1.extBut D.l1z) hx fun g2 t2 b2 => wpAny_pure ?_)
  refine wpAny_pure ?_
  refine wpAny_bind (wpAny_bind (wpAny_holding ?_))
  show wpAny _ _ (Builtin.SmallTypes.nextOf (.ref i2) >>= _) _ _ _
  refine wpAny_bind (RZ.nextOf_tuple_item (s := { s with heap := g2 }) ((h2.extBut b1.extBut D.i2z).extBut b2.extBut D.i12.symm) ((hl2.extBut b1.extBut D.l2z).extBut b2.extBut D.l2i1) hy fun g3 t3 b3 => wpAny_pure ?_)
  refine wpAny_pure (wpAny_pure ?_)
  show wpAny _ _ (newTuple [x, y] >>= _) _ _ _
  refine wpAny_bind (wpAny_newTuple ?_)
  have sz : g3.objs.size = s.heap.objs.size := by rw [b3.1, b2.1, b1.1]
  have z3 : IsZipHeld g3 z TI TO T true := b3.extBut _ _ D.i2z.symm (b2.extBut _ _ D.i1z.symm z1)
  have kp : ∀ c o, c ≠ z → c ≠ i1 → c ≠ i2 → s.heap.get? c = some o → g3.get? c = some o := fun c o c1 c2 c3 e => b3.extBut _ _ c3 (b2.extBut _ _ c2 (b1.extBut _ _ c1 e))
  have t1 : g3.IsTupleIter i1 l1 (k1 + 1) := t2.extBut b3.extBut D.i12
  refine wpAny_pure ⟨_, rfl, ?_⟩
  show Q (.ref g3.objs.size) _
  have np : IsPair (g3.push { cls := .type "tuple", data := .seq #[x, y] }) g3.objs.size x y := Heap.get?_push_size _ rfl
  have ns : (g3.push { cls := .type "tuple", data := .seq #[x, y] }).objs.size = g3.objs.size + 1 := Heap.size_push ..
  rw [sz] at np ns ⊢
  exact hQ _ (Heap.get?_push_of_some _ z3) (t1.at fun o e => Heap.get?_push_of_some _ e) (t3.at fun o e => Heap.get?_push_of_some _ e) np ns fun c o c1 c2 c3 e => Heap.get?_push_of_some _ (kp c o c1 c2 c3 e)
theorem end_held {T : Addr} {f : Bool} {oT : Obj} {k1 : Nat} {Q : Fin → Shared → Prop} (hh : A.handled = none) (D : ZipApart z TI TO i1 i2 l1 l2)
    (hz : IsZipHeld s.heap z TI TO T f) (hT : s.heap.get? T = some oT) (hTI : IsPair s.heap TI (.ref i1) (.ref i2))
    (h1 : s.heap.IsTupleIter i1 l1 k1) (hl1 : s.heap.IsTuple l1 xs) (hx : xs[k1]? = none)
    (hE : ∀ h' e, (∀ c o, c ≠ z → c ≠ i1 → c ≠ i2 → s.heap.get? c = some o → h'.get? c = some o) → (∃ o, h'.get? e = some o ∧ o.cls = .type "StopIteration") → E (.ref e) { s with heap := h' }) :
    wpAny (model prog w) A (Builtin.«zip.__next__» ⟨[.ref z], []⟩) Q E s := by
  show wpAny _ _ (field (.ref z) 2 >>= _) _ _ _
  refine wpAny_bind (wpAny_field hz rfl (x := .bool false) rfl ?_)
  show wpAny _ _ (field (.ref z) 3 >>= _) _ _ _
  refine wpAny_bind (wpAny_field hz rfl (x := .ref TI) rfl ?_)
  refine wpAny_bind (wpAny_seqItems hTI rfl ?_)
  show wpAny _ _ (Builtin.SmallTypes.ownedTupleIsFree (.ref z) >>= _) _ _ _
  refine wpAny_bind (wpAny_tupleHeld_zip hz hT fun g1 z1 b1 => ?_)
  simp only [Bool.false_eq_true, if_false]
  refine wpAny_bind ?_
  rw [← Array.forIn_toList]
  simp only [List.forIn_cons, List.forIn_nil]
  refine wpAny_bind (wpAny_bind (wpAny_holding ?_))
  show wpAny _ _ (Builtin.SmallTypes.nextOf (.ref i1) >>= _) _ _ _
  refine wpAny_bind (RZ.nextOf_tuple_end (s := { s with heap := g1 }) hh (h1.extBut b1.extBut D.i1z) (hl1.extBut b1.extBut D.l1z) hx fun g2 e b2 he => ?_)
  exact hE g2 e (fun c o c1 c2 _ q => b2 _ _ c2 (b1.extBut _ _ c1 q)) he
/-- a zip that stands at i -/
structure Zs (h : Heap) (z TI TO i1 i2 l1 l2 : Addr) (xs ys : Array Value) (i : Nat) : Prop where
  z : (IsZip h z TI TO .none ∧ ∃ a b, IsPair h TO a b) ∨ ∃ T f x y, IsZipHeld h z TI TO T f ∧ IsPair h T x y
  p : IsPair h TI (.ref i1) (.ref i2)
  a : h.IsTupleIter i1 l1 i
  b : h.IsTupleIter i2 l2 i
  l : h.IsTuple l1 xs
  m : h.IsTuple l2 ys
theorem Zs.mv {h h' : Heap} {i : Nat} (Z : Zs h z TI TO i1 i2 l1 l2 xs ys i) (k : ∀ b o, (∀ d, o.cls = .type d → d ≠ "list") → h.get? b = some o → h'.get? b = some o) : Zs h' z TI TO i1 i2 l1 l2 xs ys i := by
  have tup : ∀ {a : Addr} {x y : Value}, IsPair h a x y → IsPair h' a x y := fun e => k _ _ (fun d e => by cases e; decide) e
  refine ⟨?_, tup Z.p, ?_, ?_, ?_, ?_⟩
  · rcases Z.z with ⟨e, a, b, q⟩ | ⟨T, f, x, y, e, q⟩
    · exact .inl ⟨k _ _ (fun d e => by cases e; decide) e, a, b, tup q⟩
    · exact .inr ⟨T, f, x, y, k _ _ (fun d e => by cases e; decide) e, tup q⟩
  · obtain ⟨o, e, c, d⟩ := Z.a
    exact ⟨o, k _ _ (fun d q => by rw [c] at q; cases q; decide) e, c, d⟩
  · obtain ⟨o, e, c, d⟩ := Z.b
    exact ⟨o, k _ _ (fun d q => by rw [c] at q; cases q; decide) e, c, d⟩
  · obtain ⟨o, e, c, d⟩ := Z.l
    exact ⟨o, k _ _ (fun d q => by rw [c] at q; cases q; decide) e, c, d⟩
  · obtain ⟨o, e, c, d⟩ := Z.m
    exact ⟨o, k _ _ (fun d q => by rw [c] at q; cases q; decide) e, c, d⟩
theorem next_item {i : Nat} {x y : Value} {Q : Option Value → Shared → Prop} (D : ZipApart z TI TO i1 i2 l1 l2) (Z : Zs s.heap z TI TO i1 i2 l1 l2 xs ys i) (hx : xs[i]? = some x) (hy : ys[i]? = some y)
    (hQ : ∀ h', Zs h' z TI TO i1 i2 l1 l2 xs ys (i + 1) → IsPair h' s.heap.objs.size x y → h'.objs.size = s.heap.objs.size + 1 →
      (∀ c o, c ≠ z → c ≠ TO → c ≠ i1 → c ≠ i2 → s.heap.get? c = some o → h'.get? c = some o) → Q (some (.ref s.heap.objs.size)) { s with heap := h' }) : wpAny (model prog w) A (pyNext (.ref z)) Q E s := by
  obtain ⟨hz, hp, ha, hb, hl, hm⟩ := Z
  rcases hz with ⟨hz, a, b, hTO⟩ | ⟨T, f, u, v, hz, hT⟩
  · refine RZ.pyNext_zipT_item D hz hp hTO ha hb hl hm hx hy fun h' e1 e2 e3 e4 e5 e6 k => ?_
    exact hQ h' ⟨.inr ⟨_, false, x, y, e1, e5⟩, k _ _ D.TIz D.TITO D.TIi1 D.TIi2 hp, e3, e4, hl.at fun o e => k _ o D.l1z D.l1TO D.l1i1 D.l1i2 e, hm.at fun o e => k _ o D.l2z D.l2TO D.l2i1 D.l2i2 e⟩ e5 e6 k
  · have ty : s.TypeIs (.ref z) "zip" := ⟨_, hz, rfl⟩
    have nz : T ≠ z := fun e => by rw [e] at hT; rw [IsPair, hz] at hT; simp at hT
    have n1 : T ≠ i1 := fun e => by obtain ⟨o, q, c, _⟩ := ha; rw [e] at hT; rw [IsPair, q] at hT; have := congrArg Obj.cls (Option.some.inj hT); rw [c] at this; simp at this
    have n2 : T ≠ i2 := fun e => by obtain ⟨o, q, c, _⟩ := hb; rw [e] at hT; rw [IsPair, q] at hT; have := congrArg Obj.cls (Option.some.inj hT); rw [c] at this; simp at this
    unfold pyNext
    refine wpAny_bind (wpAny_attempt (wpAny_callSpecial?_slot (name := Str.ofString "__next__") ty F.slot_zip_next
      (wpAny_call_entry F.slot_zip_next ty F.entry_zip_next
        (item_held D hz hT hp ha hb hl hm hx hy fun h' e1 e3 e4 e5 e6 k => wpAny_pure (hQ h' ⟨.inr ⟨T, true, u, v, e1, k _ _ nz n1 n2 hT⟩, k _ _ D.TIz D.TIi1 D.TIi2 hp, e3, e4, hl.at fun o e => k _ o D.l1z D.l1i1 D.l1i2 e,
          hm.at fun o e => k _ o D.l2z D.l2i1 D.l2i2 e⟩ e5 e6 fun c o c1 _ c3 c4 => k c o c1 c3 c4)) (F.args_zip_next_1 _))))
theorem next_end {i : Nat} {Q : Option Value → Shared → Prop} (hh : A.handled = none) (D : ZipApart z TI TO i1 i2 l1 l2) (Z : Zs s.heap z TI TO i1 i2 l1 l2 xs ys i) (hx : xs[i]? = none)
    (hQ : ∀ h', (∀ c o, c ≠ z → c ≠ TO → c ≠ i1 → c ≠ i2 → s.heap.get? c = some o → h'.get? c = some o) → Q none { s with heap := h' }) : wpAny (model prog w) A (pyNext (.ref z)) Q E s := by
  obtain ⟨hz, hp, ha, hb, hl, hm⟩ := Z
  rcases hz with ⟨hz, a, b, hTO⟩ | ⟨T, f, u, v, hz, hT⟩
  · exact RZ.pyNext_zipT_end hh D hz hp hTO ha hb hl hm (.inl hx) hQ
  · have ty : s.TypeIs (.ref z) "zip" := ⟨_, hz, rfl⟩
    unfold pyNext
    refine wpAny_bind (wpAny_attempt (wpAny_callSpecial?_slot (name := Str.ofString "__next__") ty F.slot_zip_next
      (wpAny_call_entry F.slot_zip_next ty F.entry_zip_next (end_held hh D hz hT hp ha hl hx fun h' e k he => ?_) (F.args_zip_next_1 _))))
    obtain ⟨o, ho, hc⟩ := he
    refine wpAny_bind (wpAny_isInstance (T := "StopIteration") (b := true) ⟨o, ho, hc⟩ isSubtype_stop ?_)
    exact wpAny_pure (hQ _ fun c o c1 _ c3 c4 => k c o c1 c3 c4)
end
/-- the pairs that were given out, laid from B on -/
structure Gv (h : Heap) (B : Nat) (xs ys acc : Array Value) (i : Nat) : Prop where
  n : acc.size = i
  r : ∀ j, j < i → acc[j]? = some (.ref (B + j))
  p : ∀ j x y, j < i → xs[j]? = some x → ys[j]? = some y → IsPair h (B + j) x y
section
variable {prog : Program} {w : World} {A : Around} {R : Result → Shared → Prop}
variable {z TI TO i1 i2 l1 l2 S : Addr} {xs ys : Array Value} {B : Nat}
theorem loop (hh : A.handled = none) (D : ZipApart z TI TO i1 i2 l1 l2) (zB : z < B) (oB : TO < B) (aB : i1 < B) (bB : i2 < B) (sB : S < B) (sz : S ≠ z) (so : S ≠ TO) (sa : S ≠ i1) (sb : S ≠ i2) (hl : xs.size = ys.size) (hn : xs.size ≤ 2 ^ 24) (res : Value) :
    ∀ (k i : Nat) (s : Shared) (acc : Array Value) (c : Nat), xs.size - i = k → i ≤ xs.size → Zs s.heap z TI TO i1 i2 l1 l2 xs ys i → s.heap.get? S = some { cls := .type "list", dict := none, data := .seq acc c, slots := #[] } →
    Gv s.heap B xs ys acc i → s.heap.objs.size = B + i →
    (∀ h' acc' c', (∀ b o, b ≠ S → b ≠ z → b ≠ TO → b ≠ i1 → b ≠ i2 → s.heap.get? b = some o → h'.get? b = some o) → h'.get? S = some { cls := .type "list", dict := none, data := .seq acc' c', slots := #[] } → Gv h' B xs ys acc' xs.size → R (.ok (.ret res)) { s with heap := h' }) →
    codeAny (model prog w) A (.builtin "list.extend.loop" ⟨[.ref S, .ref z, res], []⟩) R s := by
  have far : ∀ {c : Addr}, c < B → ∀ j : Nat, B + j ≠ c := fun h j => Nat.ne_of_gt (Nat.lt_of_lt_of_le h (Nat.le_add_right ..))
  intro k
  induction k with
  | zero =>
    intro i s acc c hk hi Z hS G hB hR
    have hin : i = xs.size := by omega
    refine codeAny_builtin F.entry_extend_loop ?_
    rw [Around.under_plainId F.plain_extend_loop _]
    show wpAny _ A.in1 (pyNext (.ref z) >>= _) _ _ s
    refine wpAny_bind (next_end hh D Z (Array.getElem?_eq_none (by omega)) fun h' k => ?_)
    refine wpAny_pure (hR h' acc c (fun b o _ c1 c2 c3 c4 e => k b o c1 c2 c3 c4 e) (k _ _ sz so sa sb hS) ⟨by rw [← hin]; exact G.n, fun j hj => G.r j (by omega), fun j x y hj hx hy => ?_⟩)
    exact k _ _ (far zB j) (far oB j) (far aB j) (far bB j) (G.p j x y (by omega) hx hy)
  | succ k ih =>
    intro i s acc c hk hi Z hS G hB hR
    have hlt : i < xs.size := by omega
    have hx := Array.getElem?_eq_getElem hlt
    have hy := Array.getElem?_eq_getElem (show i < ys.size by omega)
    generalize xs[i] = x at hx
    generalize ys[i] = y at hy
    refine codeAny_builtin F.entry_extend_loop ?_
    rw [Around.under_plainId F.plain_extend_loop _]
    show wpAny _ A.in1 (pyNext (.ref z) >>= _) _ _ s
    refine wpAny_bind (next_item D Z hx hy fun h' Z' hp hz k => ?_)
    have hS' := k _ _ sz so sa sb hS
    show wpAny _ A.in1 (updateSeq S (·.push (.ref s.heap.objs.size)) >>= _) _ _ _
    refine wpAny_bind ?_
    have oth : ∀ b o, b ≠ S → h'.get? b = some o → (h'.update S (Obj.mapSeq (·.push (Value.ref s.heap.objs.size)))).get? b = some o := fun b o hb e => (Heap.get?_update_other _ _ (Ne.symm hb)).trans e
    refine wpAny_updateSeq hS' rfl (wpAny_pure ⟨plainId_quiet F.plain_extend_loop _, ih (i + 1) _ (acc.push (.ref s.heap.objs.size)) _ (by omega) hlt ?_ (Heap.get?_update_self _ hS' rfl) ⟨?_, fun j hj => ?_, fun j u v hj hu hv => ?_⟩ ?_ fun h2 acc' c' k2 e2 g2 => ?_⟩)
      (by rw [G.n, sizeLine_eq]; omega) (by show (acc.push _).size ≤ sizeLine + 1; rw [Array.size_push, G.n, sizeLine_eq]; omega)
    · refine Z'.mv fun b o ho e => oth b o (fun q => ?_) e
      rw [q, hS'] at e
      cases e
      exact ho "list" rfl rfl
    · rw [Array.size_push, G.n]
    · rw [Array.getElem?_push]
      split
      · rename_i e
        rw [G.n] at e
        rw [e, hB]
      · rename_i e
        rw [G.n] at e
        exact G.r j (by omega)
    · refine oth _ _ (far sB j) ?_
      by_cases e : j = i
      · subst e
        rw [hx] at hu
        rw [hy] at hv
        cases hu
        cases hv
        rw [← hB]
        exact hp
      · exact k _ _ (far zB j) (far oB j) (far aB j) (far bB j) (G.p j u v (by omega) hu hv)
    · show (h'.update S _).objs.size = _
      rw [Heap.size_update, hz]
      omega
    · refine hR h2 acc' c' (fun b o c0 c1 c2 c3 c4 e => k2 b o c0 c1 c2 c3 c4 (oth b o c0 (k b o c1 c2 c3 c4 e))) e2 g2
theorem extend {s : Shared} (hh : A.handled = none) (D : ZipApart z TI TO i1 i2 l1 l2) (zB : z < B) (oB : TO < B) (aB : i1 < B) (bB : i2 < B) (sB : S < B) (sz : S ≠ z) (so : S ≠ TO) (sa : S ≠ i1) (sb : S ≠ i2) (hl : xs.size = ys.size) (hn : xs.size ≤ 2 ^ 24) (res : Value) (c₀ : Nat)
    (Z : Zs s.heap z TI TO i1 i2 l1 l2 xs ys 0) (hS : s.heap.get? S = some { cls := .type "list", data := .seq #[] c₀ }) (hB : s.heap.objs.size = B) (hz : IsZip s.heap z TI TO .none)
    (hR : ∀ h' acc' c', (∀ b o, b ≠ S → b ≠ z → b ≠ TO → b ≠ i1 → b ≠ i2 → s.heap.get? b = some o → h'.get? b = some o) → h'.get? S = some { cls := .type "list", dict := none, data := .seq acc' c', slots := #[] } → Gv h' B xs ys acc' xs.size → R (.ok (.ret res)) { s with heap := h' }) :
    wpAny (model prog w) A.in1 (Builtin.List.listExtendWith (.ref S) (.ref z) res)
      (fun fin s' => match fin with | .done f => R (.ok f) s' | .again c' => c'.quiet = true ∧ codeAny (model prog w) A c' R s') (fun e s' => R (.error e) s') s := by
  have hT : s.TypeIs (.ref z) "zip" := ⟨_, hz, rfl⟩
  unfold Builtin.List.listExtendWith
  refine wpAny_bind (wpAny_typeOf hT ?_)
  have h1 : Builtin.List.listSameRef (.ref S) (.ref z) = false := by simp [Builtin.List.listSameRef, sz]
  have h2 : (Value.type "zip" == Value.type "list") = false := by decide
  have h3 : (Value.type "zip" == Value.type "tuple") = false := by decide
  simp only [h1, h2, h3, Bool.or_false, Bool.false_eq_true, if_false]
  refine wpAny_bind (wpAny_pyIter_zip hz ?_)
  refine wpAny_bind (wpAny_holding ?_)
  unfold Builtin.List.listLengthHint
  refine wpAny_bind (wpAny_specialOf hT zip_no_len ?_)
  show wpAny _ A.in1 (specialOf (Value.ref z) (Str.ofString "__length_hint__") >>= _) _ _ _
  refine wpAny_bind (wpAny_specialOf hT zip_no_hint ?_)
  refine wpAny_pure ?_
  show wpAny _ A.in1 (rule "list.extend.makes-room" >>= fun _ => Builtin.List.listTouch (.ref S) >>= fun _ =>
    again (.builtin "list.extend.loop" ⟨[.ref S, .ref z, res], []⟩)) _ _ _
  refine wpAny_bind (wpAny_rule ?_)
  refine wpAny_bind ?_
  show wpAny _ A.in1 (updateSeq S (·.push .none) >>= fun _ => updateSeq S (·.pop)) _ _ _
  refine wpAny_bind (wpAny_updateSeq hS rfl ?_)
  have e2 := Heap.get?_update_self (Obj.mapSeq (·.push Value.none)) hS rfl
  refine wpAny_updateSeq (hz := by seq_fits) e2 rfl ?_
  have e3 := Heap.get?_update_self (Obj.mapSeq (·.pop)) e2 rfl
  have oth : ∀ b o, b ≠ S → s.heap.get? b = some o → ((s.heap.update S (Obj.mapSeq (·.push Value.none))).update S (Obj.mapSeq (·.pop))).get? b = some o :=
    fun b o hb e => (Heap.get?_update_other _ _ (Ne.symm hb)).trans ((Heap.get?_update_other _ _ (Ne.symm hb)).trans e)
  refine wpAny_pure ⟨plainId_quiet F.plain_extend_loop _, loop hh D zB oB aB bB sB sz so sa sb hl hn res xs.size 0 _ _ _ rfl (Nat.zero_le _) (Z.mv fun b o ho e => oth b o (fun q => ?_) e) e3 ⟨rfl, fun j hj => by omega, fun j _ _ hj => by omega⟩ ?_ fun h' acc' c' k e g => ?_⟩
  · rw [q, hS] at e
    cases e
    exact ho "list" rfl rfl
  · show ((s.heap.update S _).update S _).objs.size = _
    rw [Heap.size_update, Heap.size_update, hB]
    rfl
  · exact hR h' acc' c' (fun b o c0 c1 c2 c3 c4 q => k b o c0 c1 c2 c3 c4 (oth b o c0 q)) e g
end
section
variable {prog : Program} {w : World} {A : Around} {E : Value → Shared → Prop} {s : Shared}
variable {z TI TO i1 i2 l1 l2 : Addr} {xs ys : Array Value}
theorem call_list_zip {Q : Value → Shared → Prop} (hh : A.handled = none) (D : ZipApart z TI TO i1 i2 l1 l2) (zB : z < s.heap.objs.size) (oB : TO < s.heap.objs.size) (aB : i1 < s.heap.objs.size) (bB : i2 < s.heap.objs.size) (hl : xs.size = ys.size) (hn : xs.size ≤ 2 ^ 24)
    (Z : Zs s.heap z TI TO i1 i2 l1 l2 xs ys 0) (hz : IsZip s.heap z TI TO .none)
    (hQ : ∀ h' acc' c', (∀ b o, b ≠ z → b ≠ TO → b ≠ i1 → b ≠ i2 → s.heap.get? b = some o → h'.get? b = some o) → h'.get? s.heap.objs.size = some { cls := .type "list", dict := none, data := .seq acc' c', slots := #[] } →
      Gv h' (s.heap.objs.size + 1) xs ys acc' xs.size → Q (.ref s.heap.objs.size) { s with heap := h' }) :
    wpAny (model prog w) A (call (.type "list") [.ref z]) Q E s := by
  refine callType_codes (Q₁ := fun obj s₁ => obj = .ref s.heap.objs.size ∧ s₁ = { s with heap := s.heap.push { cls := .type "list", data := .seq #[] } }) F.called_list (F.typeCall_list_1 _) F.entry_list_init
    (code_list_new _ ⟨rfl, rfl⟩) fun obj s₁ h₁ => ?_
  obtain ⟨rfl, rfl⟩ := h₁
  have hS : (s.heap.push { cls := .type "list", data := .seq #[] }).get? s.heap.objs.size = some { cls := .type "list", data := .seq #[] } := Heap.get?_push_size _ rfl
  refine ⟨⟨_, hS, rfl⟩, F.args_list_init_2 _ _, ?_⟩
  show wpAny _ _ (do let old ← Builtin.List.listItems (.ref s.heap.objs.size); Builtin.List.listUpdate (.ref s.heap.objs.size) (fun _ => #[]); letGo old.toList.reverse; Builtin.List.listExtendWith (.ref s.heap.objs.size) (.ref z) .none) _ _ _
  refine wpAny_bind ?_
  unfold Builtin.List.listItems
  refine wpAny_bind (wpAny_seqItems hS rfl (wpAny_pure ?_))
  show wpAny _ _ (updateSeq s.heap.objs.size (fun _ => #[]) >>= fun _ => letGo (#[] : Array Value).toList.reverse >>= fun _ => Builtin.List.listExtendWith (.ref s.heap.objs.size) (.ref z) .none) _ _ _
  refine wpAny_bind (wpAny_updateSeq hS rfl ?_)
  have e2 := Heap.get?_update_self (Obj.mapSeq (fun _ => (#[] : Array Value))) hS rfl
  have oth : ∀ b o, s.heap.get? b = some o → ((s.heap.push { cls := .type "list", data := .seq #[] }).update s.heap.objs.size (Obj.mapSeq (fun _ => (#[] : Array Value)))).get? b = some o :=
    fun b o e => (Heap.get?_update_other _ _ (Nat.ne_of_gt (Heap.lt_size e))).trans (Heap.get?_push_of_some _ e)
  refine wpAny_bind (wpAny_letGo ?_)
  have up : ∀ {c : Addr}, c < s.heap.objs.size → c < s.heap.objs.size + 1 := fun h => Nat.lt_succ_of_lt h
  refine extend (A := A.in1) (B := s.heap.objs.size + 1) (S := s.heap.objs.size) hh D (up zB) (up oB) (up aB) (up bB) (Nat.lt_succ_self _) (Nat.ne_of_gt zB) (Nat.ne_of_gt oB) (Nat.ne_of_gt aB) (Nat.ne_of_gt bB) hl hn .none _ (Z.mv fun b o _ e => oth b o e) e2 ?_ (oth _ _ hz) fun h' acc' c' k e g => ?_
  · show ((s.heap.push _).update _ _).objs.size = _
    rw [Heap.size_update, Heap.size_push]
  · exact ⟨rfl, hQ h' acc' c' (fun b o c1 c2 c3 c4 q => k b o (Nat.ne_of_lt (Heap.lt_size q)) c1 c2 c3 c4 (oth b o q)) e g⟩
end
/-- new pairs, one behind another -/
def NewPs : List V → List V → List V → Hp → (List V → Hp → Prop) → Prop
  | x :: xs, y :: ys, acc, H, k => ∀ p, H p = none → NewPs xs ys (acc ++ [.ref p]) (upd H p (.tup [x, y])) k
  | _, _, acc, H, k => k acc H
def tLstZip (K : PySem.W.Frag) (ta : TA) : TE := fun σ H Q => ta σ H fun vs H1 => ∃ a b xs ys, vs = [.ref a, .ref b] ∧ L2.SqT K H1 a xs ∧ L2.SqT K H1 b ys ∧ xs.length = ys.length ∧ xs.length ≤ 1000 ∧
  NewPs xs ys [] H1 fun ps H2 => ∀ q, H2 q = none → Q (.ref q) (upd H2 q (.lst ps))
/-- the objects of h, of which those from N on are to be laid yet, from m on -/
structure Sg (P : Program) (w : World) (H1 H : Hp) (h : Heap) (N B m : Nat) : Prop where
  ok : HOk P w H h
  lo : ∀ b, b < N → H b = H1 b
  mid : ∀ b, N ≤ b → b < B → H b = none
  hi : ∀ b, B + m ≤ b → H b = none
theorem lay {P : Program} {w : World} {H1 : Hp} {h : Heap} {N B : Nat} (nb : N ≤ B) {K : List V → Hp → Prop} : ∀ {xs ys : List V} {us vs : List Value} {m : Nat} {acc : List V} {H : Hp}, Vals xs us → Vals ys vs → xs.length = ys.length → Sg P w H1 H h N B m →
    (∀ j x y, us[j]? = some x → vs[j]? = some y → IsPair h (B + (m + j)) x y) → NewPs xs ys acc H K → ∃ Hf, Sg P w H1 Hf h N B (m + xs.length) ∧ K (acc ++ (List.range xs.length).map fun j => V.ref (B + (m + j))) Hf
  | [], [], _, _, m, acc, H, _, _, _, g, _, k => ⟨H, g, by rw [show acc ++ (List.range ([] : List V).length).map (fun j => V.ref (B + (m + j))) = acc from List.append_nil acc]; unfold NewPs at k; exact k⟩
  | x :: xs, y :: ys, _, _, m, acc, H, .cons (b := u) rx rxs, .cons (b := v) ry rys, hl, g, hp, k => by
    have np : H (B + m) = none := g.hi _ (Nat.le_refl _)
    have pr := hp 0 u v rfl rfl
    have g' : Sg P w H1 (upd H (B + m) (.tup [x, y])) h N B (m + 1) := by
      refine ⟨L2.HOk.laidN g.ok (fun _ _ e => e) np ⟨by show 2 ≤ sizeLine; decide, [u, v], .cons rx (.cons ry .nil), ⟨_, pr, rfl, _, rfl⟩⟩, fun b hb => ?_, fun b h1 h2 => ?_, fun b hb => ?_⟩
      · have : b ≠ B + m := by omega
        rw [upd_ne this]; exact g.lo b hb
      · have : b ≠ B + m := by omega
        rw [upd_ne this]; exact g.mid b h1 h2
      · have : b ≠ B + m := by omega
        rw [upd_ne this]; exact g.hi b (by omega)
    obtain ⟨Hf, gf, kf⟩ := lay nb rxs rys (by simpa using hl) g' (fun j x' y' h1 h2 => by
      have := hp (j + 1) x' y' (by simpa using h1) (by simpa using h2)
      rw [show m + 1 + j = m + (j + 1) by omega]; exact this) (k _ np)
    refine ⟨Hf, by rw [List.length_cons, show m + (xs.length + 1) = m + 1 + xs.length by omega]; exact gf, ?_⟩
    rw [List.length_cons, List.range_succ_eq_map, List.map_cons, List.map_map]
    rw [List.append_assoc] at kf
    have e : ((fun j => V.ref (B + (m + j))) ∘ Nat.succ) = fun j => V.ref (B + (m + 1 + j)) := by
      funext j
      show V.ref (B + (m + (j + 1))) = _
      rw [show m + (j + 1) = m + 1 + j by omega]
    rw [e]
    exact kf
section
variable {X : Cx} {e e2 : Expr} {ta : TA}
/-- what stands behind zip(s, t) -/
def ZOut (X : Cx) (pins : List (Addr × Obj)) (σ : L2.St) (Q : VK) (x : Value) (s' : Shared) : Prop := ∃ (s1 : Shared) (h' : Heap) (H1 : Hp) (a b : Addr) (xs ys : List V) (us vs : List Value), x = .ref (s1.heap.objs.size + 4) ∧ s' = { s1 with heap := h' } ∧ Inv X pins σ H1 s1 ∧ Vals xs us ∧ Vals ys vs ∧
    s1.heap.IsTuple a us.toArray ∧ s1.heap.IsTuple b vs.toArray ∧ IsZip h' (s1.heap.objs.size + 4) (s1.heap.objs.size + 2) (s1.heap.objs.size + 3) .none ∧ Zs h' (s1.heap.objs.size + 4) (s1.heap.objs.size + 2) (s1.heap.objs.size + 3) s1.heap.objs.size (s1.heap.objs.size + 1) a b us.toArray vs.toArray 0 ∧
    h'.objs.size = s1.heap.objs.size + 5 ∧ (∀ c o, s1.heap.get? c = some o → h'.get? c = some o) ∧ xs.length = ys.length ∧ xs.length ≤ 1000 ∧ NewPs xs ys [] H1 fun ps H2 => ∀ q, H2 q = none → Q (.ref q) (upd H2 q (.lst ps))
theorem zip_run {p2 pos2 : Pos} (hg2 : Gl X "zip") (hm2 : X.mg "zip" = none) (ha : PA X [e, e2] ta) {pins : List (Addr × Obj)} {s : Shared} {σ : L2.St} {H : Hp} {Q : VK} (I : Inv X pins σ H s) (h : tLstZip X.K ta σ H Q)
    (hs : starEach [e, e2] X.env = (false, eval e X.env) :: starEach [e2] X.env) (hpl : (backTo pos2 (starEach [e2] X.env)).any (·.1) = false) :
    wpAny (model X.prog X.w) X.A (eval (.Call (.Name "zip" p2) [e, e2] [] pos2) X.env) (ZOut X pins σ Q) X.xe s := by
  refine Call_ (ld_blt I hg2 hm2 PyProof.Rows.boot_zip (PyProof.Rows.callWith_type1 (thn (ha.run pos2 pins s σ H _ I h) fun us s1 ⟨vs, H1, I1, r1, q1⟩ => ?_) hs hpl))
  obtain ⟨a, b, xs, ys, ex, hx, hy, hl, hn, q⟩ := q1
  subst ex
  cases r1 with
  | cons r rr =>
    cases rr with
    | cons r' rr =>
      cases rr
      cases r
      cases r'
      obtain ⟨its, rv, p1, _⟩ := I1.tuple hx
      obtain ⟨its2, rv2, p2, _⟩ := I1.tuple hy
      obtain ⟨o1, ho1, _⟩ := id p1
      obtain ⟨o2, ho2, _⟩ := id p2
      refine RZ.call_zipT (show s1.heap.IsTuple a its.toArray from p1) (show s1.heap.IsTuple b its2.toArray from p2) fun h' hz hTI hTO h1 h2 hsz hk => ?_
      exact ⟨s1, h', H1, a, b, xs, ys, its, its2, rfl, rfl, I1, rv, rv2, p1, p2, hz, ⟨.inl ⟨hz, _, _, hTO⟩, hTI, h1, h2, Heap.IsTuple.at p1 fun o e => hk _ o e, Heap.IsTuple.at p2 fun o e => hk _ o e⟩, hsz, hk, hl, hn, q⟩
theorem pe_lstZip {p p2 pos pos2 : Pos} (hc : X.calm = true) (hg : Gl X "list") (hm : X.mg "list" = none) (hg2 : Gl X "zip") (hm2 : X.mg "zip" = none) (ha : PA X [e, e2] ta)
    (hs : starEach [e, e2] X.env = (false, eval e X.env) :: starEach [e2] X.env := by rfl) (hpl : (backTo pos2 (starEach [e2] X.env)).any (·.1) = false := by rfl)
    (na : starEach [.Call (.Name "zip" p2) [e, e2] [] pos2] X.env = (false, eval (.Call (.Name "zip" p2) [e, e2] [] pos2) X.env) :: starEach [] X.env := by rfl) :
    PE X (.Call (.Name "list" p) [.Call (.Name "zip" p2) [e, e2] [] pos2] [] pos) (tLstZip X.K ta) := by
  refine ⟨fun pins s σ H Q I h => ?_⟩
  refine Call_ (ld_blt I hg hm boot_list (PyProof.Rows.callWith_type1 (args_cons (thn (zip_run (Q := Q) hg2 hm2 ha I h hs hpl) fun x s' ⟨s1, h', H1, a, b, xs, ys, us, vs, ex, es, I1, rx, ry, ta, tb, hz, Z, hsz, hk, hl, hn, q⟩ => args_nil ?_) na) na))
  subst ex es
  have lx := rx.length
  have ly := ry.length
  have la : a < s1.heap.objs.size := by obtain ⟨o, q, _⟩ := ta; exact Heap.lt_size q
  have lb : b < s1.heap.objs.size := by obtain ⟨o, q, _⟩ := tb; exact Heap.lt_size q
  have I2 : Inv X pins σ H1 { s1 with heap := h' } := I1.kept (t' := s1.toks) hk
  have lt : ∀ {i : Nat}, i < 5 → s1.heap.objs.size + i < h'.objs.size := fun hi => by rw [hsz]; omega
  refine call_list_zip (s := { s1 with heap := h' }) (I2.ok.hd hc) (PySem.W.ktu_apart s1.heap.objs.size a b la lb) (lt (by decide)) (lt (by decide)) (lt (i := 0) (by decide)) (lt (by decide)) (by simp; omega) (by simp; omega) Z hz fun g acc c k eS G => ?_
  have kg : ∀ c o, s1.heap.get? c = some o → g.get? c = some o := fun c o e => by
    have := Heap.lt_size e
    have ne : ∀ i : Nat, c ≠ s1.heap.objs.size + i := fun i => Nat.ne_of_lt (Nat.lt_of_lt_of_le this (Nat.le_add_right _ _))
    exact k c o (ne 4) (ne 3) (ne 0) (ne 1) (hk c o e)
  have fr : ∀ b, s1.heap.objs.size ≤ b → H1 b = none := fun b hb => I1.hok.fresh hb
  have g0 : Sg X.prog X.w H1 H1 g s1.heap.objs.size (h'.objs.size + 1) 0 := ⟨I1.hok.kept kg, fun _ _ => rfl, fun b hb _ => fr b hb, fun b hb => fr b (by rw [hsz] at hb; omega)⟩
  have un : us.toArray.size = us.length := by simp
  obtain ⟨Hf, gf, kf⟩ := lay (by rw [hsz]; omega) rx ry hl g0 (fun j x y h1 h2 => by
    rw [Nat.zero_add]
    exact G.p j x y (by rw [un]; exact (List.getElem?_eq_some_iff.mp h1).1) (by simpa using h1) (by simpa using h2)) q
  have nS : Hf h'.objs.size = none := gf.mid _ (by rw [hsz]; omega) (Nat.lt_succ_self _)
  refine ⟨.ref h'.objs.size, upd Hf h'.objs.size (.lst ([] ++ (List.range xs.length).map fun j => V.ref (h'.objs.size + 1 + (0 + j)))), I1.un (h' := g) (t' := s1.toks) ?_ (L2.HOk.laidN gf.ok (fun _ _ e => e) nS ⟨?_, acc.toList, c, ?_, ?_⟩), rfl, kf _ nS⟩
  · have lo : ∀ (b : Addr) (o : HO), b < s1.heap.objs.size → upd Hf h'.objs.size o b = H1 b := fun b o hb => by
      rw [upd_ne (by rw [hsz]; exact Nat.ne_of_lt (Nat.lt_of_lt_of_le hb (Nat.le_add_right _ _)))]
      exact gf.lo b hb
    have lt : ∀ b o, H1 b = some o → b < s1.heap.objs.size := fun b o e => (I1.hok b o e).lt
    exact ⟨fun b o e _ _ _ => kg b o e, fun b o e _ _ _ => ⟨o.slots, kg b o e⟩, fun b o e n _ => by rw [lo _ _ (Heap.lt_size e)]; exact n, fun b o e _ => ⟨o, kg b o e⟩, fun b xs e => by rw [lo _ _ (lt _ _ e)]; exact e,
      fun b o u e => by rw [lo _ _ (lt _ _ e)]; exact e, fun b ps e => ⟨#[], by rw [lo _ _ (lt _ _ e), e]; simp⟩⟩
  · rw [List.nil_append, List.length_map, List.length_range, sizeLine_eq]; omega
  · refine vals_of_at (by rw [List.nil_append, List.length_map, List.length_range, Array.length_toList (xs := acc), G.n, un]; exact lx) fun j x u h1 h2 => ?_
    rw [List.nil_append, List.getElem?_map] at h1
    have hj : j < xs.length := by
      cases e : (List.range xs.length)[j]? with
      | none => rw [e] at h1; cases h1
      | some w => have := (List.getElem?_eq_some_iff.mp e).1; simpa using this
    rw [List.getElem?_range hj] at h1
    cases h1
    rw [Array.getElem?_toList, G.r j (by rw [un]; omega)] at h2
    cases h2
    show L2.RelV (V.ref (h'.objs.size + 1 + (0 + j))) (Value.ref (h'.objs.size + 1 + j))
    rw [Nat.zero_add]
    rfl
  · rw [Array.toArray_toList]; exact eS
end
end UW.Zl
namespace UW
open PySem PySem.Spec PyProof.Rows L2 UW.Zl
section
variable {K : Fg} {E : WX}
def aLstZip (a : AAv) : AEx := fun X α k => a X α fun as => ∃ x y ds es, as = [x, y] ∧ x.tup = some ds ∧ y.tup = some es ∧ ds.length = es.length ∧ ds.length ≤ 1000 ∧ k (.l (List.zipWith (fun d e => .tuple [d, e]) ds es))
theorem newPs_to {W : Wel} {S0 S1 : Ads} {H0 : Hp} {k3 : List V → Hp → Prop} : ∀ {xs ys acc : List V} {ds es ad : List PyData} {H : Hp}, Mvh W S0 H0 S1 H → Ods K S1 H xs ds → Ods K S1 H ys es → Ods K S1 H acc ad →
    (∀ ps H3, Mvh W S0 H0 S1 H3 → Ods K S1 H3 ps (ad ++ List.zipWith (fun d e => .tuple [d, e]) ds es) → k3 ps H3) → NewPs xs ys acc H k3
  | [], [], acc, _, _, ad, H, m, .nil, .nil, oa, h => by
    unfold NewPs
    exact h _ _ m (by rw [List.zipWith_nil_left, List.append_nil]; exact oa)
  | [], y :: ys, acc, _, _, ad, H, m, .nil, _, oa, h => by
    unfold NewPs
    exact h _ _ m (by rw [List.zipWith_nil_left, List.append_nil]; exact oa)
  | x :: xs, [], acc, _, _, ad, H, m, _, .nil, oa, h => by
    unfold NewPs
    exact h _ _ m (by rw [List.zipWith_nil_right, List.append_nil]; exact oa)
  | x :: xs, y :: ys, acc, _, _, ad, H, m, .cons (d := d) ox oxs, .cons (d := e) oy oys, oa, h => by
    unfold NewPs
    intro p np
    have sm : Same H (upd H p (.tup [x, y])) := Same.new np
    refine newPs_to (m.trans (m.oks.same sm)) (oxs.same sm) (oys.same sm) ((oa.same sm).append (.cons (.tup (SqT.of upd_same) (.cons (ox.same sm) (.cons (oy.same sm) .nil))) .nil)) fun ps H3 m3 o3 => h ps H3 m3 ?_
    rw [List.append_assoc] at o3
    exact o3
theorem re_lstZip {ta : TA} {a : AAv} (h1 : RAv K E ta a 2) : REx K E (tLstZip K ta) (aLstZip a) := by
  intro W H0 S0 O S α σ H X k Q f h lk q
  refine h1 f h lk fun vs avs S1 H1 m r hl ⟨x, y, ds, es, e, ex, ey, el, en, hk⟩ => ?_
  subst e
  obtain ⟨u, v, rfl, r1, r2⟩ := two_inv r
  obtain ⟨p, xs, rfl, hx, ox⟩ := r1.tup ex
  obtain ⟨p', ys, rfl, hy, oy⟩ := r2.tup ey
  refine ⟨p, p', xs, ys, rfl, hx.up, hy.up, by rw [ox.length, oy.length, el], by rw [ox.length]; exact en, newPs_to m ox oy .nil fun ps H3 m3 o3 => ?_⟩
  have q1 : Rst K W O S1 H3 k Q := fun v av S' H' m' r h => q v av S' H' (m3.trans m') (r.hs fun b y => m3.back y) h
  exact q1.new m3.oks o3 hk
instance {a : AAv} {X : AXr} {α : Afr} {k : Avl → Prop} : Wk (aLstZip a X α k) (a X α fun as => ∃ x y ds es, as = [x, y] ∧ x.tup = some ds ∧ y.tup = some es ∧ ds.length = es.length ∧ ds.length ≤ 1000 ∧ k (.l (List.zipWith (fun d e => .tuple [d, e]) ds es))) := ⟨fun h => h⟩
end
end UW
namespace UW.Un
open PySem PySem.Spec PyProof.Rows L2 UW
/-- one step -/
local macro_rules | `(tactic| walk_at "s1") => `(tactic| first
  | with_reducible refine s_seq ?_
  | with_reducible refine s_for ?_
  | with_reducible refine s_lc ?_
  | with_reducible refine w_seq ?_
  | with_reducible refine w_rng1 ?_
  | with_reducible refine w_rng2 ?_
  | with_reducible refine w_zip ?_
  | with_reducible refine s_asg ?_
  | with_reducible refine s_gname ?_
  | with_reducible refine s_ret ?_
  | with_reducible refine s_drop ?_
  | with_reducible refine s_next ?_
  | with_reducible refine s_ifs ?_
  | with_reducible refine s_var (by with_unfolding_all rfl) ?_
  | with_reducible refine s_c ?_
  | with_reducible refine s_op ?_
  | with_reducible refine s_un ?_
  | with_reducible refine s_neg ?_
  | with_reducible refine s_test ?_
  | with_reducible refine s_yes ?_
  | with_reducible refine s_tB ?_
  | with_reducible refine s_bl ?_
  | with_reducible refine s_not ?_
  | with_reducible refine s_and ?_
  | with_reducible refine s_or ?_
  | with_reducible refine s_andV ?_
  | with_reducible refine s_orV ?_
  | with_reducible refine s_notV ?_
  | with_reducible refine s_chain ?_
  | with_reducible refine s_nil ?_
  | with_reducible refine s_cons ?_
  | with_reducible refine s_tup ?_
  | with_reducible refine s_lst ?_
  | with_reducible refine s_call ?_
  | with_reducible refine s_cb ?_
  | with_reducible refine s_part ?_
  | with_reducible refine s_nopart ?_
  | with_reducible refine s_ii ?_
  | with_reducible refine s_sl ?_
  | with_reducible refine s_par ?_
  | with_reducible refine s_par2 ?_
  | with_reducible refine s_bm ?_
  | with_reducible refine s_gsub ?_
  | with_reducible refine s_gcons ?_
  | with_reducible refine s_gnil ?_
  | with_reducible refine o_addI ?_
  | with_reducible refine o_sub ?_
  | with_reducible refine o_eqI ?_
  | with_reducible refine o_neI ?_
  | with_reducible refine o_ltI ?_
  | with_reducible refine o_le ?_
  | with_reducible refine o_gt ?_
  | with_reducible refine o_ge ?_
  | with_reducible refine o_int ?_
  | with_reducible refine o_intB ?_
  | with_reducible refine o_abs ?_
  | with_reducible refine o_max2 ?_
  | with_reducible refine o_min2 ?_
  | with_reducible refine o_isN ?_
  | with_reducible refine o_notN ?_
  | with_reducible refine o_mulI (by first | exact Or.inl ⟨by decide, by decide⟩ | exact Or.inr ⟨by decide, by decide⟩ | (first | (refine Or.inl ⟨?_, ?_⟩ <;> omega) | (refine Or.inr ⟨?_, ?_⟩ <;> omega))) ?_
  | with_reducible refine o_mod (by first | decide | omega) ?_
  | with_reducible refine o_div (by first | decide | omega) (by first | decide | omega) ?_
  | with_reducible refine s_blx ?_
  | with_reducible refine o_ixL (SqL.of (by assumption)) (by first | with_unfolding_all rfl | with_unfolding_all exact at_zero _ _) ?_
  | with_reducible refine o_ixT (by assumption) (by first | with_unfolding_all rfl | with_unfolding_all exact at_zero _ _) ?_
  | with_reducible refine o_tyL (by assumption) ?_
  | with_reducible refine iteT ?_
  | with_reducible refine iteF ?_)
local macro_rules | `(tactic| walk_at "sx") => `(tactic| repeat (walk_at "s1"))
theorem s_par3 {i j n : Nat} {ta : TA} {D : Ends} {σ : L2.St} {H : Hp} (k : ta σ H fun vs H1 => ∃ a b c, vs = [a, b, c] ∧ D.nx (((σ.set i (some a)).set j (some b)).set n (some c)) H1) : tPar3 i j n ta D σ H := k
theorem s_bm0 {K : PySem.W.Frag} {T : String} {r : V → List V → Hp → VK → Prop} {to : TE} {σ : L2.St} {H : Hp} {Q : VK} (k : to σ H fun x H1 => tyV K T x H1 ∧ r x [] H1 Q) : tBM0 K T r to σ H Q := k
def sp__law_draw (K : Fg) : Sp := fun vs H Q _ => ∃ (a l : Addr) (m : Int), vs = [.ref a, .int m] ∧ Urn H a l ∧ 0 < m ∧ m < 1073741824 ∧ ∀ (r : Int) (H' : Hp), 0 ≤ r → r < m → Urn H' a l → Kp a l H H' → Q (.int r) H'
theorem l__law_draw {K : Fg} : ∀ vs H Q E, sp__law_draw K vs H Q E → vs.length = 2 := by
  rintro vs H Q E ⟨a, l, m, rfl, _⟩
  rfl
theorem _root_.UW.Urn.ne {H : Hp} {a l : Addr} (w : Urn H a l) : a ≠ l := by
  obtain ⟨cs, s, t, c, h1, h2, _⟩ := w
  refine ne_of h1 h2 fun z => ?_
  have e : ([.ref l, .int s, .int t, .int c] : List V) = cs.map V.int := by
    injection z
  cases cs with
  | nil => cases e
  | cons x r => cases e
/-- _law_draw, slots urn, size, cell, much -/
def t__law_draw (K : Fg) : TS :=
  (tSeq (tIfS (tTest (tOp (rNeU K) (tOp (rIx K) (tVar 0) (tC (.int 0))) (tLst tNil))) (tSeq (tAsg (tBM0 K "list" rPop (tOp (rIx K) (tVar 0) (tC (.int
    0)))) (gName 2)) (Evl.tCut (tIfS (tTest (tOp rGeI (tVar 2) (tVar 1))) (tDrop (tBM K "list" rAppend (tOp (rIx K) (tVar 0) (tC (.int 0))) (tCons (tOp rDivI (tVar 2) (tVar 1)) tNil))) tNext) (tRet (tOp rModI (tCB rInt (tCons (tVar
    2) tNil)) (tVar 1))))) tNext) (tSeq (tAsg (tOp (rAddU K) (tOp (rIx K) (tVar 0) (tC (.int 3))) (tC (.int 1))) (gSub (tVar 0) (tC (.int 3)) rSetL)) (tSeq (tAsg (tOp rModI (tCB rInt (tCons (tOp (rAddU K) (tOp (rIx K) (tVar 0) (tC
    (.int 1))) (tOp (rMulU K) (tOp (rIx K) (tVar 0) (tC (.int 3))) (tC (.int 2246822519)))) tNil)) (tC (.int 4294967291))) (gName 3)) (tSeq (tAsg (tOp rModI (tCB rInt (tCons (tOp (rAddU K) (tOp (rAddU K) (tOp (rMulU K) (tVar 3)
    (tVar 3)) (tOp (rMulU K) (tOp (rIx K) (tVar 0) (tC (.int 2))) (tOp (rIx K) (tVar 0) (tC (.int 3))))) (tC (.int 17))) tNil)) (tC (.int 4294967279))) (gName 3)) (tSeq (tAsg (tOp rModI (tCB rInt (tCons (tOp (rAddU K) (tOp (rAddU
    K) (tOp (rMulU K) (tVar 3) (tVar 3)) (tOp (rIx K) (tVar 0) (tC (.int 1)))) (tC (.int 5))) tNil)) (tC (.int 4294967231))) (gName 3)) (tRet (tOp rModI (tCB rInt (tCons (tOp rDivI (tVar 3) (tC (.int 64))) tNil)) (tVar 1))))))))
theorem p__law_draw {K : Fg} {vs : List V} {H : Hp} {Q : VK} {E : XK} (h : sp__law_draw K vs H Q E) : t__law_draw K { nx := fun _ H' => Q .non H', rt := Q } (start ["urn", "size", "cell", "much"] vs) H := by
  obtain ⟨a, l, m, rfl, w, m0, m1, k⟩ := h
  have al := w.ne
  obtain ⟨cs, s, t, c, ha, hl, hc, t0, t1⟩ := w
  show t__law_draw K _ [some (.ref a), some (.int m), none, none] H
  unfold t__law_draw
  walk_at "sx"
  refine n_of rfl fun p H1 np e1 hp _ => ?_
  have ha1 := e1 _ _ ha
  have hl1 := e1 _ _ hl
  refine o_neD (.lst (SqL.of hl1) (Tps.of_ints cs).dp) (.lst (SqL.of hp) .nil) (shaped_ints cs) rfl ?_
  walk_at "sx"
  refine s_i1 _ (fun hc1 => ?_) (fun hc1 => ?_)
  · have hne : cs ≠ [] := by rintro rfl; cases hc1
    obtain ⟨ds, x, rfl⟩ : ∃ ds x, cs = ds ++ [x] := ⟨cs.dropLast, cs.getLast hne, (List.dropLast_concat_getLast hne).symm⟩
    have hlast : ((ds ++ [x]).map V.int)[((ds ++ [x]).map V.int).length - 1]? = some (V.int x) := by simp
    walk_at "sx"
    refine s_bm0 ?_
    walk_at "sx"
    refine ⟨l, _, .int x, rfl, rfl, hl1, hlast, ?_⟩
    have l2 : At l (.lst ((ds ++ [x]).map V.int).dropLast) H1 (upd H1 l (.lst ((ds ++ [x]).map V.int).dropLast)) := At.upd _ _ _
    rw [← List.map_dropLast, List.dropLast_concat] at l2 ⊢
    generalize upd H1 l (.lst (ds.map V.int)) = H2 at l2 ⊢
    have ha2 := l2.ne ha1 al
    have hl2 := l2.1
    have hd : ds.length < 64 := by simp at hc; omega
    have kp : Kp a l H1 H2 := fun b o h n1 n2 => l2.ne h n2
    refine s_gname ?_
    refine s_cut (fun σ' H' => σ' = [some (.ref a), some (.int m), some (.int x), none] ∧ Urn H' a l ∧ Kp a l H1 H') ?_ ?_
    · walk_at "sx"
      refine s_dec (fun _ => ?_) (fun _ => ?_)
      · walk_at "sx"
        refine o_append hl2 (by rw [List.length_map]; omega) fun H3 l3 => ?_
        exact ⟨rfl, ⟨ds ++ [x / m], s, t, c, l3.ne ha2 al, by rw [List.map_append]; exact l3.1, by rw [List.length_append, List.length_singleton]; omega, t0, t1⟩, fun b o h n1 n2 => l3.ne (kp b o h n1 n2) n2⟩
      · walk_at "sx"
        exact ⟨rfl, ⟨ds, s, t, c, ha2, hl2, by omega, t0, t1⟩, kp⟩
    · rintro σ' H' ⟨rfl, w', kp⟩
      walk_at "sx"
      exact k _ _ (Int.emod_nonneg _ (by omega)) (Int.emod_lt_of_pos _ m0) w' ((Kp.same e1).trans kp)
  · walk_at "sx"
    refine o_setL ha1 rfl fun H2 a2 => ?_
    have ha2 : H2 a = some (.lst [.ref l, .int s, .int t, .int (c + 1)]) := a2.1
    have hl2 := a2.ne hl1 (Ne.symm al)
    walk_at "sx"
    have r1 := Int.emod_nonneg (s + (c + 1) * 2246822519) (b := 4294967291) (by decide)
    have r2 := Int.emod_lt_of_pos (s + (c + 1) * 2246822519) (b := 4294967291) (by decide)
    generalize (s + (c + 1) * 2246822519) % 4294967291 = f1 at r1 r2 ⊢
    walk_at "sx"
    have r3 := Int.emod_nonneg (f1 * f1 + t * (c + 1) + 17) (b := 4294967279) (by decide)
    have r4 := Int.emod_lt_of_pos (f1 * f1 + t * (c + 1) + 17) (b := 4294967279) (by decide)
    generalize (f1 * f1 + t * (c + 1) + 17) % 4294967279 = f2 at r3 r4 ⊢
    walk_at "sx"
    refine k _ _ (Int.emod_nonneg _ (by omega)) (Int.emod_lt_of_pos _ m0) ⟨cs, s, t, c + 1, ha2, hl2, hc, t0, t1⟩ ?_
    exact fun b o h n1 n2 => a2.ne (e1 _ _ h) n1
def sp__law_urn (K : Fg) : Sp := fun vs H Q _ => ∃ (a : Addr) (ns : List Int), vs = [.ref a] ∧ SqL K H a (ns.map V.int) ∧ ns.length ≤ 63 ∧ ∀ (p l : Addr) (H' : Hp), H p = none → H l = none → Same H H' → Urn H' p l → Q (.ref p) H'
theorem l__law_urn {K : Fg} : ∀ vs H Q E, sp__law_urn K vs H Q E → vs.length = 1 := by
  rintro vs H Q E ⟨a, ns, rfl, _⟩
  rfl
def cutJ (ns : List Int) : List Int := (ns.drop (HT.sIx ns.length 0 none)).take (HT.sIx ns.length ns.length (some 64) - HT.sIx ns.length 0 none)
theorem cut_intsJ (ns : List Int) : cutV (ns.map V.int) none (some 64) = (cutJ ns).map V.int := by
  unfold cutV cutJ
  rw [List.length_map, List.map_take, List.map_drop]
theorem cut_lenJ (ns : List Int) : (cutJ ns).length ≤ 64 := by
  unfold cutJ
  rw [List.length_take]
  have : HT.sIx ns.length ns.length (some 64) ≤ 64 := by
    have e := HT.sIx_nat ns.length ns.length 64
    have e2 : HT.sIx ns.length ns.length (some 64) = min 64 ns.length := e
    rw [e2]
    exact Nat.min_le_left _ _
  omega
/-- _law_urn, slots script, one, two, cell, cells -/
def t__law_urn (K : Fg) : TS :=
  (tSeq (tPar3 4 1 2 (tCons (tLc (iSeq K (tSl (rSlU K) (tVar 0) tNoPart (tPart (tC (.int 64))))) (gName 3) tYes (tIf (tTest (tOp rGeI (tVar 3) (tC
    (.int 0)))) (tOp (rMulU K) (tC (.int 2)) (tVar 3)) (tOp rSubI (tUn (rU fun i => .int (-i)) (tC (.int 1))) (tOp (rMulU K) (tC (.int 2)) (tVar 3)))) [3]) (tCons (tC (.int 8191)) (tCons (tOp (rAddU K) (tC (.int 131)) (tCB (rLenU
    K) (tCons (tVar 0) tNil))) tNil)))) (tSeq (tFor (iSeq K (tVar 4)) (gName 3) (tPar 1 2 (tCons (tOp rModI (tCB rInt (tCons (tOp (rAddU K) (tOp (rMulU K) (tVar 1) (tC (.int 48271))) (tVar 3)) tNil)) (tC (.int 4294967291))) (tCons
    (tOp rModI (tCB rInt (tCons (tOp (rAddU K) (tOp (rAddU K) (tOp (rMulU K) (tVar 2) (tC (.int 69621))) (tOp (rMulU K) (tC (.int 3)) (tVar 3))) (tC (.int 1))) tNil)) (tC (.int 4294967279))) tNil)))) (tRet (tLst (tCons (tLc (iSeq K
    (tVar 4)) (gName 3) (tTest (tOp rGtI (tVar 3) (tOp rPowI (tC (.int 10)) (tC (.int 16))))) (tVar 3) [3]) (tCons (tVar 1) (tCons (tVar 2) (tCons (tC (.int 0)) tNil))))))))
theorem p__law_urn {K : Fg} {vs : List V} {H : Hp} {Q : VK} {E : XK} (h : sp__law_urn K vs H Q E) : t__law_urn K { nx := fun _ H' => Q .non H', rt := Q } (start ["script", "one", "two", "cell", "cells"] vs) H := by
  obtain ⟨a, ns, rfl, hs, hn, k⟩ := h
  show t__law_urn K _ [some (.ref a), none, none, none, none] H
  unfold t__law_urn
  walk_at "sx"
  refine s_par3 ?_
  walk_at "sx"
  refine o_slL hs ?_
  refine n_new fun c H1 nc e1 hc _ => ?_
  rw [cut_intsJ ns] at hc
  refine w_seqL (SqL.of hc) ?_
  refine lc_inv walk_list (fun D i ys H' => Same H1 H' ∧ ∃ zs : List Int, ys = zs.map V.int ∧ zs.length ≤ i) (by rw [List.length_map]; have := cut_lenJ ns; omega) (fun D H' hD e _ => ⟨e, [], rfl, Nat.le_refl _⟩) (fun D i ys H' _ p => SqL.of (p.1 _ _ hc)) ?_ ?_
  · rintro D i ys x H2 H3 hD hi ⟨e2, zs, rfl, hz⟩ hy ⟨rfl, hx⟩ Yes No hyes hno
    obtain ⟨z, rfl⟩ := map_at hx
    walk_at "sx"
    refine ⟨rfl, ?_⟩
    walk_at "sx"
    refine s_ifj (fun v H' => H' = H3 ∧ ∃ q : Int, v = .int q) ?_ ?_
    · rintro v H' ⟨rfl, q, rfl⟩
      exact hyes _ _ hy fun H6 a6 => ⟨a6.same e2 hD, zs ++ [_], by rw [List.map_append]; rfl, by rw [List.length_append, List.length_singleton]; omega⟩
    · intro hk
      walk_at "sx"
      refine s_dec (fun _ => ?_) (fun _ => ?_)
      · walk_at "sx"
        exact hk _ _ ⟨rfl, _, rfl⟩
      · walk_at "sx"
        exact hk _ _ ⟨rfl, _, rfl⟩
  · rintro cl ys H2 nl ⟨e2, zs, rfl, hz⟩ hy -
    rw [List.length_map] at hz
    have hz2 := Nat.le_trans hz (cut_lenJ ns)
    walk_at "sx"
    refine o_lenL ((Same.trans e1 e2).seq hs) ?_
    walk_at "sx"
    refine ⟨_, _, _, rfl, ?_⟩
    walk_at "sx"
    refine w_seqL (SqL.of hy) ?_
    refine f_go walk_list (fun i σ H' => H' = H2 ∧ ∃ (s t : Int) (z : Option V), σ = [some (.ref a), some (.int s), some (.int t), z, some (.ref cl)] ∧ 0 ≤ t ∧ t < 4294967296) ⟨rfl, _, _, _, rfl, by omega, by rw [List.length_map]; omega⟩ (fun i σ H' _ p => by rw [p.1]; exact SqL.of hy) ?_ ?_
    · rintro i x σ H3 H4 hi ⟨rfl, s, t, z, rfl, t0, t1⟩ ⟨rfl, hx⟩
      obtain ⟨n, rfl⟩ := map_at hx
      walk_at "sx"
      have r1 := Int.emod_nonneg (t * 69621 + 3 * n + 1) (b := 4294967279) (by decide)
      have r2 := Int.emod_lt_of_pos (t * 69621 + 3 * n + 1) (b := 4294967279) (by decide)
      exact ⟨rfl, _, _, _, rfl, r1, by omega⟩
    · rintro σ H3 ⟨rfl, s, t, z, rfl, t0, t1⟩
      walk_at "sx"
      refine w_seqL (SqL.of hy) ?_
      refine lc_inv walk_list (fun D i ys H' => Same H3 H' ∧ ∃ zs : List Int, ys = zs.map V.int ∧ zs.length ≤ i) (by rw [List.length_map]; omega) (fun D H' hD e _ => ⟨e, [], rfl, Nat.le_refl _⟩) (fun D i ys H' _ p => SqL.of (p.1 _ _ hy)) ?_ ?_
      · rintro D i ys x H4 H5 hD hi ⟨e4, ws, rfl, hw⟩ hy4 ⟨rfl, hx⟩ Yes No hyes hno
        obtain ⟨n, rfl⟩ := map_at hx
        walk_at "sx"
        refine ⟨rfl, ?_⟩
        walk_at "sx"
        refine ⟨_, _, rfl, rfl, ⟨by decide, by decide, by decide⟩, ?_⟩
        walk_at "sx"
        refine s_dec (fun _ => ?_) (fun _ => ?_)
        · walk_at "sx"
          exact hyes _ _ hy4 fun H6 a6 => ⟨a6.same e4 hD, ws ++ [_], by rw [List.map_append]; rfl, by rw [List.length_append, List.length_singleton]; omega⟩
        · exact hno _ hy4 ⟨e4, ws, rfl, by omega⟩
      · rintro l ws H4 nl2 ⟨e4, us, rfl, hu⟩ hl4 -
        rw [List.length_map] at hu
        walk_at "sx"
        refine n_of rfl fun p H5 np e5 hp _ => ?_
        have e14 := Same.trans (Same.trans e1 e2) e4
        exact k p l H5 (e14.free np) ((Same.trans e1 e2).free nl2) (Same.trans e14 e5) ⟨us, s, t, 0, hp, e5 _ _ hl4, by omega, t0, t1⟩
end UW.Un
namespace UW
open PySem PySem.Spec PyProof.Rows L2
section
variable {K : Fg} {E : WX} {te ti te2 : TE} {e ei e2 : AEx} {i j : Nat}
def aAppPop (i j : Nat) (e : AEx) : ASt := fun A α => ∃ ds rest, α[i]? = some (.own ds) ∧ α[j]? = some (.own rest) ∧ i ≠ j ∧ e A.er α fun av => ∃ (n : Nat) (x : PyData), av = .d (.int n) ∧ rest[n]? = some x ∧ n < 100000 ∧ ds.length < 100000 ∧
  A.nx ((α.set j (.own (rest.eraseIdx n))).set i (.own (ds ++ [x])))
theorem rs_appPop (h1 : REx K E te e) : RSt K E (tDrop (tBM K "list" rAppend (tVar i) (tCons (tBM K "list" rPopAt (tVar j) (tCons te tNil)) tNil))) (aAppPop i j e) := by
  intro W H0 S0 O S α σ H A D f ⟨ds, rest, h0, h0', hij, h⟩ l
  obtain ⟨p, vs, a, b, c, d, hi, nw, ln⟩ := own_at f h0
  obtain ⟨p2, vs2, a2, b2, c2, d2, hi2, nw2, ln2⟩ := own_at f h0'
  have ne : p ≠ p2 := fun z => hij ((f.o j p2 a2).2.2.2 i (by rw [a, z]))
  refine ⟨_, b, o_tyL c ?_⟩
  refine ⟨_, b2, o_tyL c2 ?_⟩
  refine h1 f h l.er fun v av S1 H1 m r ⟨n, x, ev, hx, hl, hd, k⟩ => ?_
  subst ev
  cases r
  have c' := own_mv f m a c
  have c2' := own_mv f m a2 c2
  have f2 := f.mv m
  have od1 := m.ods f.k.w (fun b z => (f.k.t b z).2) d
  have od2 := m.ods f.k.w (fun b z => (f.k.t b z).2) d2
  obtain ⟨y, hy, oy⟩ := od2.nth hx
  obtain ⟨g, ke⟩ := f2.chg a2 b2 c2' (od2.erase n) hi2
  refine o_popAt c2' rfl hy hl fun H2 aa => ?_
  have e2 : H2 = upd H1 p2 (.lst (vs2.eraseIdx n)) := by
    funext q
    by_cases z : q = p2
    · rw [z, upd_same]; exact aa.1
    · rw [upd_ne z]; exact aa.2 q z
  rw [e2]
  have c'' : upd H1 p2 (.lst (vs2.eraseIdx n)) p = some (.lst vs) := by rw [upd_ne ne]; exact c'
  obtain ⟨g2, ke2⟩ := g.chg (i := i) a b c'' ((ke.ods od1).append (.cons (ke.od oy) .nil)) (by rw [List.length_set]; exact hi)
  exact ⟨p, vs, y, rfl, rfl, c'', Nat.lt_of_lt_of_le (by omega) (show 100000 ≤ sizeLine by decide), l.nx O S1 _ σ _ (((m.kee f.k).trans ke).trans ke2) g2 k⟩
def aSetIN (i j : Nat) (e e2 ei : AEx) : ASt := fun A α => e A.er α fun av => ∃ x, av.cl = some x ∧ e2 A.er α fun bv => ∃ y, bv.cl = some y ∧ ∃ ds, α[i]? = some (.own ds) ∧ ei A.er α fun ai => ∃ (z : Int) (n : Nat), ai = .d (.int z) ∧ ixN ds.length z = some n ∧
  A.nx ((α.set i (.own (ds.set n x))).set j (.d y))
end
def aTryM (C : Addr) (b s : ASt) : ASt := fun A α => b { A with er := fun α' C' f => C' = C ∧ f = none ∧ s A α' } α
section
variable {K : Fg} {E : WX} {C : Addr}
theorem a_tryM {b s : ASt} {A : AEn} {α : Afr} (h : b { A with er := fun α' C' f => C' = C ∧ f = none ∧ s A α' } α) : aTryM C b s A α := h
theorem a_appPop {i j : Nat} {e : AEx} {A : AEn} {α : Afr} (h : ∃ ds rest, α[i]? = some (.own ds) ∧ α[j]? = some (.own rest) ∧ i ≠ j ∧ e A.er α fun av => ∃ (n : Nat) (x : PyData), av = .d (.int n) ∧ rest[n]? = some x ∧ n < 100000 ∧ ds.length < 100000 ∧
  A.nx ((α.set j (.own (rest.eraseIdx n))).set i (.own (ds ++ [x])))) : aAppPop i j e A α := h
theorem a_setIN {i j : Nat} {e e2 ei : AEx} {A : AEn} {α : Afr} (h : e A.er α fun av => ∃ x, av.cl = some x ∧ e2 A.er α fun bv => ∃ y, bv.cl = some y ∧ ∃ ds, α[i]? = some (.own ds) ∧ ei A.er α fun ai => ∃ (z : Int) (n : Nat), ai = .d (.int z) ∧ ixN ds.length z = some n ∧
  A.nx ((α.set i (.own (ds.set n x))).set j (.d y))) : aSetIN i j e e2 ei A α := h
end
instance {b s : ASt} {A : AEn} {α : Afr} : Wk (aTryM C b s A α) (b { A with er := fun α' C' f => C' = C ∧ f = none ∧ s A α' } α) := ⟨fun h => a_tryM h⟩
instance {i j : Nat} {e e2 ei : AEx} {A : AEn} {α : Afr} : Wk (aSetIN i j e e2 ei A α) (e A.er α fun av => ∃ x, av.cl = some x ∧ e2 A.er α fun bv => ∃ y, bv.cl = some y ∧ ∃ ds, α[i]? = some (.own ds) ∧ ei A.er α fun ai => ∃ (z : Int) (n : Nat), ai = .d (.int z) ∧ ixN ds.length z = some n ∧ A.nx ((α.set i (.own (ds.set n x))).set j (.d y))) := ⟨fun h => a_setIN h⟩
end UW
namespace UW.Un
open PySem PySem.Spec PyProof.Rows L2 UW
section
variable {K : Fg} {W : Wel} {Hs H H' : Hp} {O : Nat → Option Addr} {S S0 : Ads} {v : V} {av : Avl}
theorem rtn_urn (ok : Oks W S H) (on : W.is 1) (w : Urn H' W.a W.l) (e : Kp W.a W.l H H') (hs : ∀ b, S b → S0 b) (r : Vrp K W H (fun _ => none) S H' v av) : Rtn K W H S0 v av H' := by
  refine ⟨S, fun _ => by rw [on.2]; exact ⟨w, (ok.w.of on).2⟩, fun b o h z => e b o h (fun y => z ⟨on.1, .inl y⟩) (fun y => z ⟨on.1, .inr (.inl y)⟩), fun b hb => ⟨.inl (hs b hb), ?_, (ok.t b hb).2⟩, r⟩
  cases q : H b with
  | none => exact absurd q (ok.t b hb).1
  | some o =>
    rw [e b o q (fun y => (ok.t b hb).2 ⟨on.1, .inl y⟩) (fun y => (ok.t b hb).2 ⟨on.1, .inr (.inl y)⟩)]
    intro y
    cases y
def m__law_draw : AFn := fun as _ k => ∃ m : Int, as = [.wl 1, .d (.int m)] ∧ 0 < m ∧ m < 1073741824 ∧ ∀ r : Int, 0 ≤ r → r < m → k (.d (.int r))
theorem br__law_draw : ∀ vs H Q E, SpA K 2 m__law_draw vs H Q E → sp__law_draw K vs H Q E := by
  rintro vs H Q E ⟨W, Hs, O, S, as, x, k, _, ok, _, pr, ⟨m, rfl, m0, m1, h⟩, hq, _⟩
  obtain ⟨v, u, rfl, r1, r2⟩ := two_inv pr
  obtain ⟨on, rfl⟩ := r1
  obtain rfl := int_inv r2
  exact ⟨W.a, W.l, m, rfl, (ok.w.of on).1, m0, m1, fun r H' r0 r1 w' k' => hq _ (.d (.int r)) _ (rtn_urn ok on w' k' argS_S (Od.int r)) (h r r0 r1)⟩
end
section
variable {K : Fg}
theorem p_lawU {t : TS} {a : ASt} {N : List Str} {x : Nat} {vs : List V} {H : Hp} {Q : VK} {E : XK} (hr : RSt K (fun c d _ H => E c d H) t a) (hN : N.length = x + 2)
    (hm : a { nx := fun _ => False, rt := fun av => av = .d (.bool true) } (.x :: .wl 1 :: List.replicate x .x)) (h : sp_law K vs H Q E) : (tSeq (tAsg (tG (sp__law_urn K) E00 (tCons (tVar 0) tNil)) (gName 1)) t) { nx := fun _ H' => Q .non H', rt := Q } (L2.start N vs) H := by
  obtain ⟨p, ns, rfl, hs, hl, k⟩ := h
  match N, hN with
  | n0 :: n1 :: N, hN =>
    have lN : N.length = x := by simpa using hN
    have es : L2.start (n0 :: n1 :: N) [.ref p] = some (.ref p) :: none :: List.replicate x none := by
      unfold L2.start
      simp only [List.map_cons, List.map_nil, List.length_cons, List.length_nil]
      rw [show N.length + 1 + 1 - (0 + 1) = N.length + 1 from by omega, List.replicate_succ, lN]
      rfl
    rw [es]
    refine s_seq (s_asg (s_call (s_cons (s_var rfl (s_nil ⟨p, ns, rfl, hs, hl, fun w l H1 nw nl e1 wl => ?_⟩)))))
    refine s_gname ?_
    show t { nx := fun _ H' => Q .non H', rt := Q } (some (.ref p) :: some (.ref w) :: List.replicate x none) H1
    have f0 : Frm K ⟨w, l, l, 1, true⟩ H1 (fun _ => False) (fun _ => none) (fun _ => False) (.x :: .wl 1 :: List.replicate x .x) (some (.ref p) :: some (.ref w) :: List.replicate x none) H1 := by
      refine ⟨⟨fun _ => ⟨wl, rfl⟩, fun b z => z.elim⟩, fun b o h _ => h, fun b h => .inl h, fun _ => ⟨wl, rfl⟩, (fun i p z => by cases z), by simp, fun i z ez => ?_⟩
      match i, ez with
      | 0, ez => cases ez; trivial
      | 1, ez => cases ez; exact ⟨⟨rfl, rfl⟩, rfl⟩
      | i + 2, ez =>
        have ez' : (List.replicate x Sot.x)[i]? = some z := ez
        rw [List.getElem?_replicate] at ez'
        split at ez'
        · cases ez'; trivial
        · cases ez'
    refine hr (D := { nx := fun _ H' => Q .non H', rt := Q }) f0 hm ⟨fun O' S' α' σ' H' ke f' z => z.elim, fun O' S' α' σ' H' ke f' z => z.elim, fun O' S' α' σ' H' ke f' z => z.elim, fun v av H' rt e => ?_, fun O' S' α' σ' H' C d fs ke f' xr z => z.elim⟩
    subst e
    obtain ⟨S', _, _, _, r⟩ := rt
    cases r
    exact k H'
end
end UW.Un
namespace UW
open PySem PySem.Spec PyProof.Rows L2
/-- one step -/
local macro_rules | `(tactic| walk_at "a1") => `(tactic| first
  | with_reducible refine wk ?_
  | (with_reducible refine rs_go 1 ?_
     first
     | with_reducible refine a_var (by with_unfolding_all rfl) (by with_unfolding_all rfl) ?_
     | with_reducible refine a_gtup (by with_unfolding_all rfl) (by with_unfolding_all rfl) ?_
     | with_reducible refine a_glst (by with_unfolding_all rfl) (by with_unfolding_all rfl) ?_)
  | (with_reducible refine rs_go 2 ?_
     first
     | with_reducible refine g_ixT (by with_unfolding_all rfl) (by first | with_unfolding_all rfl | with_unfolding_all exact at_zero _ _) ?_
     | with_reducible refine g_ixL (by with_unfolding_all rfl) (by first | with_unfolding_all rfl | with_unfolding_all exact at_zero _ _) ?_)
  | (with_reducible refine rs_go 3 ?_
     first
     | with_reducible refine g_lenT (by with_unfolding_all rfl) ?_
     | with_reducible refine g_lenL (by with_unfolding_all rfl) ?_
     | with_reducible refine g_tupL (by with_unfolding_all rfl) ?_
     | with_reducible refine g_tupT (by with_unfolding_all rfl) ?_
     | with_reducible refine g_lstT (by with_unfolding_all rfl) ?_
     | with_reducible refine g_lstL (by with_unfolding_all rfl) ?_)
  | (with_reducible refine rs_go 4 ?_
     first
     | with_reducible refine g_addL (by with_unfolding_all rfl) (by with_unfolding_all rfl) (Nat.le_of_ble_eq_true (by with_unfolding_all rfl)) ?_
     | with_reducible refine g_mulI (by first | exact Or.inl ⟨by decide, by decide⟩ | exact Or.inr ⟨by decide, by decide⟩ | (first | (refine Or.inl ⟨?_, ?_⟩ <;> omega) | (refine Or.inr ⟨?_, ?_⟩ <;> omega))) ?_
     | with_reducible refine g_mod (by first | decide | omega) ?_
     | with_reducible refine g_div (by first | decide | omega) (by first | decide | omega) ?_
     | with_reducible refine g_slT (by with_unfolding_all rfl) ?_
     | with_reducible refine g_slL (by with_unfolding_all rfl) ?_
     | with_reducible refine g_isN (by with_unfolding_all rfl) ?_
     | with_reducible refine g_notN (by with_unfolding_all rfl) ?_)
  | (with_reducible refine rs_go 5 ?_
     first
     | with_reducible refine a_dget (by with_unfolding_all rfl) ?_
     | with_reducible refine a_dget2 (by with_unfolding_all rfl) ?_
     | with_reducible refine a_fzq (by with_unfolding_all rfl) ?_
     | with_reducible refine a_retC (by with_unfolding_all rfl) ?_
     | with_reducible refine a_isX (by with_unfolding_all rfl) ?_
     | with_reducible refine a_app (by with_unfolding_all rfl) ?_
     | with_reducible refine a_ext (by with_unfolding_all rfl) ?_
     | with_reducible refine a_pop (by with_unfolding_all rfl) ?_
     | with_reducible refine a_fz (by with_unfolding_all rfl) ?_
     | with_reducible refine a_lenDV (by with_unfolding_all rfl) ?_)
  | (with_reducible refine rs_go 6 ?_
     first
     | with_reducible refine a_cl (by with_unfolding_all rfl) ?_
     | with_reducible refine a_dat (by with_unfolding_all rfl) ?_
     | with_reducible refine a_s1 (by with_unfolding_all rfl) ?_
     | with_reducible refine a_dcy (by with_unfolding_all rfl) ?_
     | with_reducible refine a_s2 (by with_unfolding_all rfl) (by with_unfolding_all rfl) ?_
     | with_reducible refine a_s3 (by with_unfolding_all rfl) (by with_unfolding_all rfl) (by with_unfolding_all rfl) ?_
     | with_reducible refine a_owned (by with_unfolding_all rfl) ?_)
  | (with_reducible refine rs_go 7 ?_
     first
     | with_reducible refine i_B (by with_unfolding_all rfl) ?_
     | with_reducible refine i_T (by with_unfolding_all rfl) ?_
     | with_reducible refine i_L (by with_unfolding_all rfl) ?_)
  | (with_reducible refine rs_go 8 ?_
     first
     | with_reducible refine a_nb (by with_unfolding_all rfl) ?_
     | with_reducible refine a_len (by with_unfolding_all rfl) ?_
     | with_reducible refine a_revT (by with_unfolding_all rfl) ?_
     | with_reducible refine a_revL (by with_unfolding_all rfl) ?_)
  | (with_reducible refine rs_go 9 ?_
     first
     | with_reducible refine iteNT (by with_unfolding_all rfl) ?_
     | with_reducible refine iteNF (by with_unfolding_all rfl) ?_
     | with_reducible refine iteIT (by with_unfolding_all rfl) ?_
     | with_reducible refine iteIF (by with_unfolding_all rfl) ?_))
local macro_rules | `(tactic| walk_at "ax") => `(tactic| (repeat (first | walk_at "a1" | with_reducible refine a_if ?_); try dsimp only [List.set_cons_zero, List.set_cons_succ, awipe, aFrz, List.getElem?_cons_zero, List.getElem?_cons_succ]))
local macro_rules | `(tactic| walk_at "ay") => `(tactic| (repeat (walk_at "a1"); try dsimp only [List.set_cons_zero, List.set_cons_succ, awipe, aFrz, List.getElem?_cons_zero, List.getElem?_cons_succ]))
theorem Laid.to {n : Int} {rs : List (Int × Int)} {ms ls ls' : List Int} (L : Laid n rs ms ls) (h : ls'.length = ls.length) : Laid n rs ms ls' := ⟨L.ok, L.lm, by rw [h]; exact L.ll, L.n0, L.n1, L.r1⟩
theorem enD_at {ds : List PyData} {i : Nat} {x : PyData} (h : (enD ds)[i]? = some x) : ∃ d, ds[i]? = some d ∧ x = .tuple [.int (i : Int), d] := by
  have hi := (List.getElem?_eq_some_iff.mp h).1
  rw [enD_len] at hi
  have e := List.getElem?_eq_getElem hi
  rw [enD_get e] at h
  exact ⟨_, e, (Option.some.inj h).symm⟩
section
variable {n : Int} {rs : List (Int × Int)} {ms ls : List Int} {x : AXc} {k : Avl → Prop} {C : Cl}
end
end UW
namespace UW
open PySem PySem.Spec PyProof.Rows L2
section
variable {k : Avl → Prop}
theorem shw {d : PyData} {k n : Nat} (h : Okx d k n) (hk : k ≤ 60 := by decide) (hn : n ≤ 10000000 := by decide) : Shw d := ⟨h.sh, Nat.le_trans h.dp hk, Nat.le_trans h.ln hn⟩
def Itm (d : PyData) : Prop := Okx d 3 2000
def Its' (ds : List PyData) : Prop := ∀ d ∈ ds, Itm d
theorem Its'.one {d : PyData} (h : Itm d) : Its' [d] := fun e he => by rw [List.mem_singleton.mp he]; exact h
theorem Its'.sub {ds es : List PyData} (h : Its' ds) (s : ∀ d ∈ es, d ∈ ds) : Its' es := fun d hd => h d (s d hd)
theorem small120 {i : Int} (h : i.natAbs < 100) : i.natAbs < 2 ^ 120 := Nat.lt_of_lt_of_le h (by decide)
theorem okx_int {i : Int} (h : i.natAbs < 100) : Okx (.int i) 0 121 := (Okd.int (small120 h)).x
theorem okx_t2 {d e : PyData} {k n k' n' : Nat} (h : Okx d k n) (g : Okx e k' n') : Okx (.tuple [d, e]) (max k k' + 1) (2 * (max n n' + 2) + 2) := by
  refine Okx.tup (fun x hx => ?_) (Nat.le_refl _)
  rcases List.mem_cons.mp hx with rfl | hx
  · exact h.mono (Nat.le_max_left _ _) (Nat.le_max_left _ _)
  rcases List.mem_cons.mp hx with rfl | hx
  · exact g.mono (Nat.le_max_right _ _) (Nat.le_max_right _ _)
  · cases hx
end
end UW
namespace UW
open PySem PySem.Spec PyProof.Rows L2
section
theorem i2 {d e : PyData} {n m : Nat} (h : Okx d 0 n) (g : Okx e 0 m) (hn : Nat.ble n 300 = true) (hm : Nat.ble m 300 = true) : Itm (.tuple [d, e]) :=
  ((okx_t2 (h.mono (Nat.le_refl _) (Nat.le_of_ble_eq_true hn)) (g.mono (Nat.le_refl _) (Nat.le_of_ble_eq_true hm))).mono (by decide) (by decide))
end
end UW
namespace UW
open PySem PySem.Spec PyProof.Rows L2
def Adj (rs : List (Int × Int)) (x y : Int) : Prop := (x, y) ∈ rs ∨ (y, x) ∈ rs
theorem Adj.symm {rs : List (Int × Int)} {x y : Int} (h : Adj rs x y) : Adj rs y x := h.elim .inr .inl
/-- y may be come to from x in k steps -/
inductive Rch (rs : List (Int × Int)) : Int → Nat → Int → Prop
  | z (p : Int) : Rch rs p 0 p
  | s {p : Int} {k : Nat} {x y : Int} : Rch rs p k x → Adj rs x y → Rch rs p (k + 1) y
section
variable {rs : List (Int × Int)} {p x y : Int} {j k : Nat}
theorem Rch.trans (a : Rch rs p j x) (b : Rch rs x k y) : Rch rs p (j + k) y := by
  induction b with
  | z => exact a
  | s _ h ih => exact .s ih h
theorem Rch.rev (a : Rch rs p k x) : Rch rs x k p := by
  induction a with
  | z => exact .z _
  | @s k x y _ h ih =>
    have := Rch.trans (.s (.z y) h.symm) ih
    rwa [show 0 + 1 + k = k + 1 from by omega] at this
/-- the fewest steps -/
def Dst (rs : List (Int × Int)) (p x : Int) (k : Nat) : Prop := Rch rs p k x ∧ ∀ e, e < k → ¬ Rch rs p e x
theorem Dst.uniq (a : Dst rs p x k) (b : Dst rs p x j) : k = j := by
  rcases Nat.lt_trichotomy k j with h | h | h
  · exact absurd a.1 (b.2 k h)
  · exact h
  · exact absurd b.1 (a.2 j h)
theorem Dst.ex (h : Rch rs p k x) : ∃ j, j ≤ k ∧ Dst rs p x j := by
  induction k using Nat.strongRecOn with
  | ind k ih =>
    by_cases q : ∃ e, e < k ∧ Rch rs p e x
    · obtain ⟨e, he, r⟩ := q
      obtain ⟨j, hj, d⟩ := ih e he r
      exact ⟨j, by omega, d⟩
    · exact ⟨k, Nat.le_refl _, h, fun e he r => q ⟨e, he, r⟩⟩
theorem Dst.zero : Dst rs p p 0 := ⟨.z p, fun e h => absurd h (by omega)⟩
theorem Dst.nil (h : Dst rs p x 0) : x = p := by cases h.1; rfl
theorem Dst.pred (h : Dst rs p y (k + 1)) : ∃ x, Dst rs p x k ∧ Adj rs x y := by
  obtain ⟨r, m⟩ := h
  cases r with
  | s r a => exact ⟨_, ⟨r, fun e he q => m (e + 1) (by omega) (.s q a)⟩, a⟩
theorem Dst.next (h : Dst rs p x k) (a : Adj rs x y) : ∃ j, j ≤ k + 1 ∧ Dst rs p y j := Dst.ex (.s h.1 a)
theorem conn_rch {n : Int} (sh : Shape n rs) (h0 : 0 ≤ p) (h1 : p < n) (h2 : 0 ≤ x) (h3 : x < n) : ∃ k, Rch rs p k x := by
  have go : ∀ i, 0 ≤ i → i < n → ∃ k, Rch rs 0 k i := sh.cn (fun i => ∃ k, Rch rs 0 k i) ⟨0, .z 0⟩ fun q hq => ⟨fun ⟨k, r⟩ => ⟨k + 1, .s r (.inl hq)⟩, fun ⟨k, r⟩ => ⟨k + 1, .s r (.inr hq)⟩⟩
  obtain ⟨j, a⟩ := go p h0 h1
  obtain ⟨k, b⟩ := go x h2 h3
  exact ⟨j + k, a.rev.trans b⟩
theorem nodup_len : ∀ {l r : List Int}, l.Nodup → (∀ x ∈ l, x ∈ r) → l.length ≤ r.length
  | [], _, _, _ => Nat.zero_le _
  | x :: l, r, nd, h => by
    obtain ⟨n1, n2⟩ := List.nodup_cons.mp nd
    have hx := h x List.mem_cons_self
    have := nodup_len (l := l) (r := r.erase x) n2 fun y hy => by
      have : y ≠ x := fun e => n1 (e ▸ hy)
      exact (List.mem_erase_of_ne this).mpr (h y (List.mem_cons_of_mem _ hy))
    rw [List.length_erase_of_mem hx] at this
    have := List.length_pos_of_mem hx
    rw [List.length_cons]
    omega
def dI (m : List (Int × Nat)) : List (L2.Key × PyData) := m.map fun q => (.inl q.1, .int (q.2 : Int))
def lk (m : List (Int × Nat)) (x : Int) : Option Nat := (m.find? fun q => decide (q.1 = x)).map (·.2)
theorem find_dI (m : List (Int × Nat)) (x : Int) : findD (dI m) (.inl x) = (lk m x).map fun (k : Nat) => PyData.int (k : Int) := by
  induction m with
  | nil => rfl
  | cons q m ih =>
    by_cases e : q.1 = x
    · have a : findD (dI (q :: m)) (.inl x) = some (.int (q.2 : Int)) := by simp [findD, dI, List.find?_cons, e]
      have b : lk (q :: m) x = some q.2 := by simp [lk, List.find?_cons, e]
      rw [a, b]; rfl
    · have a : findD (dI (q :: m)) (.inl x) = findD (dI m) (.inl x) := by simp [findD, dI, List.find?_cons, e]
      have b : lk (q :: m) x = lk m x := by simp [lk, List.find?_cons, e]
      rw [a, b]; exact ih
theorem lk_none {m : List (Int × Nat)} {x : Int} (h : lk m x = none) : ∀ q ∈ m, q.1 ≠ x := by
  intro q hq e
  unfold lk at h
  rw [Option.map_eq_none_iff, List.find?_eq_none] at h
  exact h q hq (decide_eq_true e)
theorem lk_mem {m : List (Int × Nat)} {x : Int} {k : Nat} (h : lk m x = some k) : (x, k) ∈ m := by
  unfold lk at h
  cases q : m.find? fun q => decide (q.1 = x) with
  | none => rw [q] at h; cases h
  | some z =>
    rw [q] at h
    have h2 := List.find?_some q
    have h3 := List.mem_of_find?_eq_some q
    have e1 : z.1 = x := of_decide_eq_true h2
    have e2 : z.2 = k := Option.some.inj h
    rw [← e1, ← e2]
    exact h3
theorem put_dI {m : List (Int × Nat)} {x : Int} {k : Nat} (h : lk m x = none) : putD (dI m) (.inl x) (.int (k : Int)) = dI (m ++ [(x, k)]) := by
  unfold putD
  rw [if_neg]
  · unfold dI
    rw [List.map_append]
    rfl
  · intro z
    obtain ⟨a, ha, e⟩ := List.any_eq_true.mp z
    obtain ⟨q, hq, rfl⟩ := List.mem_map.mp ha
    have e' : (Sum.inl q.1 : L2.Key) = .inl x := of_decide_eq_true e
    exact lk_none h q hq (by injection e')
theorem lk_snoc {m : List (Int × Nat)} {x : Int} {k : Nat} (h : lk m x = none) (y : Int) : lk (m ++ [(x, k)]) y = if y = x then some k else lk m y := by
  unfold lk at h ⊢
  rw [List.find?_append]
  by_cases e : y = x
  · subst e
    rw [if_pos rfl]
    have : (m.find? fun q => decide (q.1 = y)) = none := by simpa using h
    rw [this]
    simp
  · rw [if_neg e]
    cases q : m.find? fun q => decide (q.1 = y) with
    | some z => rfl
    | none => simp [Ne.symm e]
/-- keys are apart, and places -/
def Kys (n : Int) (m : List (Int × Nat)) : Prop := (m.map (·.1)).Nodup ∧ ∀ q ∈ m, 0 ≤ q.1 ∧ q.1 < n
theorem Kys.len {n : Int} {m : List (Int × Nat)} (h : Kys n m) : m.length ≤ n.toNat := by
  have := nodup_len (l := m.map (·.1)) (r := iota n.toNat) h.1 fun x hx => by
    obtain ⟨q, hq, rfl⟩ := List.mem_map.mp hx
    have := h.2 q hq
    unfold iota
    exact List.mem_map.mpr ⟨q.1.toNat, List.mem_range.mpr (by omega), by omega⟩
  rwa [List.length_map, iota_len] at this
theorem Kys.snoc {n : Int} {m : List (Int × Nat)} (h : Kys n m) (h1 : lk m x = none) (h0 : 0 ≤ x) (h2 : x < n) : Kys n (m ++ [(x, k)]) := by
  refine ⟨?_, fun q hq => ?_⟩
  · rw [List.map_append, List.nodup_append]
    refine ⟨h.1, by simp, fun a ha b hb => ?_⟩
    obtain ⟨q, hq, rfl⟩ := List.mem_map.mp ha
    simp at hb
    rw [hb]
    exact lk_none h1 q hq
  · rcases List.mem_append.mp hq with hq | hq
    · exact h.2 q hq
    · rw [List.mem_singleton.mp hq]
      exact ⟨h0, h2⟩
theorem Kys.one {n : Int} (h0 : 0 ≤ p) (h1 : p < n) : Kys n [(p, 0)] := ⟨by simp, fun q hq => by rw [List.mem_singleton.mp hq]; exact ⟨h0, h1⟩⟩
structure Bf (rs : List (Int × Int)) (p : Int) (d : Nat) (A B : List Int) (m : List (Int × Nat)) (U : Int → Prop) : Prop where
  i1 : ∀ x k, lk m x = some k → Dst rs p x k
  ia : ∀ a ∈ A, lk m a = some d
  ib : ∀ b ∈ B, lk m b = some (d + 1)
  i4 : ∀ x, lk m x ≠ none → x ∉ A → x ∉ B → ¬ U x → ∀ y, Adj rs x y → lk m y ≠ none
  i5 : ∀ y e, Dst rs p y e → e ≤ d → lk m y ≠ none
theorem some_of {o : Option Nat} (h : o ≠ none) : ∃ k, o = some k := by cases o with | none => exact absurd rfl h | some k => exact ⟨k, rfl⟩
variable {d : Nat} {A B : List Int} {m : List (Int × Nat)} {U : Int → Prop} {u : Int}
theorem Bf.start : Bf rs p 0 [p] [] [(p, 0)] fun _ => False := by
  have l1 : lk [(p, 0)] p = some 0 := by simp [lk]
  have l2 : ∀ x k, lk [(p, 0)] x = some k → x = p ∧ k = 0 := fun x k h => by
    have := lk_mem h
    simp at this
    exact this
  refine ⟨fun x k h => ?_, fun a ha => ?_, fun b hb => (by cases hb), fun x hx ha => ?_, fun y e h he => ?_⟩
  · obtain ⟨rfl, rfl⟩ := l2 x k h
    exact .zero
  · rw [List.mem_singleton.mp ha]; exact l1
  · obtain ⟨k, e⟩ := some_of hx
    obtain ⟨rfl, rfl⟩ := l2 x k e
    exact absurd List.mem_cons_self ha
  · obtain rfl : e = 0 := by omega
    rw [h.nil, l1]
    intro z
    cases z
theorem Bf.pop (h : Bf rs p d (u :: A) B m fun _ => False) : Bf rs p d A B m fun x => x = u :=
  ⟨h.i1, fun a ha => h.ia a (List.mem_cons_of_mem _ ha), h.ib, fun x hx ha hb hu => h.i4 x hx (fun z => (List.mem_cons.mp z).elim hu ha) hb id, h.i5⟩
theorem Bf.add (h : Bf rs p d A B m fun x => x = u) (hu : lk m u = some d) (ha : Adj rs u y) (hy : lk m y = none) : Bf rs p d A (B ++ [y]) (m ++ [(y, d + 1)]) fun x => x = u := by
  have ls := lk_snoc (k := d + 1) hy
  have ne : ∀ x, lk m x ≠ none → x ≠ y := fun x hx e => hx (e ▸ hy)
  have mono : ∀ x, lk m x ≠ none → lk (m ++ [(y, d + 1)]) x ≠ none := fun x hx => by rw [ls, if_neg (ne x hx)]; exact hx
  refine ⟨fun x k e => ?_, fun a q => ?_, fun b q => ?_, fun x hx h1 h2 h3 z hz => ?_, fun z e q he => mono z (h.i5 z e q he)⟩
  · rw [ls] at e
    by_cases q : x = y
    · rw [if_pos q] at e
      cases e
      rw [q]
      obtain ⟨j, hj, dj⟩ := (h.i1 u d hu).next ha
      by_cases z : j ≤ d
      · exact absurd hy (h.i5 y j dj z)
      · obtain rfl : j = d + 1 := by omega
        exact dj
    · rw [if_neg q] at e
      exact h.i1 x k e
  · have := h.ia a q
    rw [ls, if_neg (ne a (by rw [this]; intro z; cases z))]
    exact this
  · rcases List.mem_append.mp q with q | q
    · have := h.ib b q
      rw [ls, if_neg (ne b (by rw [this]; intro z; cases z))]
      exact this
    · rw [ls, if_pos (List.mem_singleton.mp q)]
  · rw [ls] at hx
    have nx : x ≠ y := fun q => h2 (List.mem_append.mpr (.inr (List.mem_singleton.mpr q)))
    rw [if_neg nx] at hx
    exact mono z (h.i4 x hx h1 (fun q => h2 (List.mem_append.mpr (.inl q))) h3 z hz)
theorem Bf.close (h : Bf rs p d A B m fun x => x = u) (hn : ∀ y, Adj rs u y → lk m y ≠ none) : Bf rs p d A B m fun _ => False :=
  ⟨h.i1, h.ia, h.ib, fun x hx ha hb _ => by
    by_cases q : x = u
    · rw [q]; exact hn
    · exact h.i4 x hx ha hb q, h.i5⟩
theorem Bf.shift (h : Bf rs p d [] B m fun _ => False) : Bf rs p (d + 1) B [] m fun _ => False := by
  refine ⟨h.i1, h.ib, fun b hb => (by cases hb), fun x hx ha _ _ => h.i4 x hx (fun z => by cases z) ha id, fun y e q he => ?_⟩
  by_cases z : e ≤ d
  · exact h.i5 y e q z
  · obtain rfl : e = d + 1 := by omega
    obtain ⟨x, dx, a⟩ := q.pred
    have vx := h.i5 x d dx (Nat.le_refl _)
    refine h.i4 x vx (fun z => by cases z) (fun z => ?_) id y a
    have e1 := h.i1 _ _ (h.ib x z)
    have := e1.uniq dx
    omega
theorem Bf.done (h : Bf rs p d [] [] m fun _ => False) : ∀ x k, Dst rs p x k → lk m x = some k := by
  have vis : ∀ k x, Rch rs p k x → lk m x ≠ none := by
    intro k x r
    induction r with
    | z => exact h.i5 _ 0 .zero (Nat.zero_le _)
    | s _ a ih => exact h.i4 _ ih (fun z => by cases z) (fun z => by cases z) id _ a
  intro x k q
  obtain ⟨j, e⟩ := some_of (vis k x q.1)
  rw [e, (h.i1 x j e).uniq q]
end
/-- the roads at a place, as they stand -/
def rdsN : List (Int × Int) → Int → Nat → List (Int × Int)
  | [], _, _ => []
  | q :: rs, p, i => if q.1 = p ∨ q.2 = p then (q.1 + q.2 - p, (i : Int)) :: rdsN rs p (i + 1) else rdsN rs p (i + 1)
theorem rdsN_snoc : ∀ (as : List (Int × Int)) (q : Int × Int) (p : Int) (k : Nat), rdsN (as ++ [q]) p k = rdsN as p k ++ (if q.1 = p ∨ q.2 = p then [(q.1 + q.2 - p, ((k + as.length : Nat) : Int))] else [])
  | [], q, p, k => by
    show (if q.1 = p ∨ q.2 = p then (q.1 + q.2 - p, (k : Int)) :: [] else []) = _
    rfl
  | a :: as, q, p, k => by
    have ih := rdsN_snoc as q p (k + 1)
    have e : k + 1 + as.length = k + (a :: as).length := by rw [List.length_cons]; omega
    rw [e] at ih
    show (if a.1 = p ∨ a.2 = p then _ :: rdsN (as ++ [q]) p (k + 1) else rdsN (as ++ [q]) p (k + 1)) = (if a.1 = p ∨ a.2 = p then _ :: rdsN as p (k + 1) else rdsN as p (k + 1)) ++ _
    rw [ih]
    split <;> rfl
theorem rdsN_len : ∀ (as : List (Int × Int)) (p : Int) (k : Nat), (rdsN as p k).length ≤ as.length
  | [], _, _ => Nat.le_refl _
  | a :: as, p, k => by
    have ih := rdsN_len as p (k + 1)
    show (if a.1 = p ∨ a.2 = p then _ :: rdsN as p (k + 1) else rdsN as p (k + 1)).length ≤ _
    split
    · rw [List.length_cons, List.length_cons]; omega
    · rw [List.length_cons]; omega
theorem rdsN_mem {y r p : Int} : ∀ (as : List (Int × Int)) (k : Nat), (y, r) ∈ rdsN as p k → Adj as p y
  | a :: as, k, h => by
    have h' : (y, r) ∈ (if a.1 = p ∨ a.2 = p then (a.1 + a.2 - p, (k : Int)) :: rdsN as p (k + 1) else rdsN as p (k + 1)) := h
    have more : (y, r) ∈ rdsN as p (k + 1) → Adj (a :: as) p y := fun z => (rdsN_mem as (k + 1) z).elim (fun z => .inl (List.mem_cons_of_mem _ z)) fun z => .inr (List.mem_cons_of_mem _ z)
    split at h'
    · rename_i c
      rcases List.mem_cons.mp h' with e | z
      · have e1 : y = a.1 + a.2 - p := congrArg Prod.fst e
        rcases c with c | c
        · refine .inl (List.mem_cons.mpr (.inl ?_))
          exact Prod.ext c.symm (by show y = a.2; omega)
        · refine .inr (List.mem_cons.mpr (.inl ?_))
          exact Prod.ext (by show y = a.1; omega) c.symm
      · exact more z
    · exact more h'
theorem rdsN_adj {y p : Int} : ∀ (as : List (Int × Int)) (k : Nat), Adj as p y → ∃ r, (y, r) ∈ rdsN as p k
  | [], _, h => by rcases h with h | h <;> cases h
  | a :: as, k, h => by
    have more : Adj as p y → ∃ r, (y, r) ∈ rdsN (a :: as) p k := fun z => by
      obtain ⟨r, hr⟩ := rdsN_adj as (k + 1) z
      refine ⟨r, ?_⟩
      show (y, r) ∈ (if a.1 = p ∨ a.2 = p then _ :: rdsN as p (k + 1) else rdsN as p (k + 1))
      split
      · exact List.mem_cons_of_mem _ hr
      · exact hr
    have here : (a.1 = p ∨ a.2 = p) → a.1 + a.2 - p = y → ∃ r, (y, r) ∈ rdsN (a :: as) p k := fun c e => by
      refine ⟨(k : Int), ?_⟩
      show (y, (k : Int)) ∈ (if a.1 = p ∨ a.2 = p then (a.1 + a.2 - p, (k : Int)) :: rdsN as p (k + 1) else rdsN as p (k + 1))
      rw [if_pos c, e]
      exact List.mem_cons_self
    rcases h with h | h
    · rcases List.mem_cons.mp h with e | z
      · subst e
        exact here (.inl rfl) (by show p + y - p = y; omega)
      · exact more (.inl z)
    · rcases List.mem_cons.mp h with e | z
      · subst e
        exact here (.inr rfl) (by show y + p - p = y; omega)
      · exact more (.inr z)
theorem dp_at {rs : List (Int × Int)} {i : Nat} {d : PyData} (h : (rs.map dP)[i]? = some d) : ∃ q, rs[i]? = some q ∧ d = dP q := by
  rw [List.getElem?_map] at h
  cases e : rs[i]? with
  | none => rw [e] at h; cases h
  | some l => rw [e] at h; exact ⟨l, rfl, (Option.some.inj h).symm⟩
theorem eqv_ii (a b : Int) : PyData.eqv (.int a) (.int b) = decide (a = b) := by simp only [PyData.eqv]; first | rfl | exact beq_eq_decide a b
theorem g_in2 {a b p : Int} {k : Avl → Prop} (h : k (.d (.bool (decide (a = p ∨ b = p))))) : gIn false (.d (.int p)) (.d (.tuple [.int a, .int b])) k := by
  refine ⟨_, _, rfl, .inl rfl, rfl, rfl, ?_⟩
  have e : (([.int a, .int b] : List PyData).any fun z => PyData.eqv z (.int p)) = decide (a = p ∨ b = p) := by
    rw [List.any_cons, List.any_cons, List.any_nil, Bool.or_false, eqv_ii, eqv_ii, Bool.decide_or]
  show k (.d (.bool (([.int a, .int b] : List PyData).any fun z => PyData.eqv z (.int p))))
  rw [e]
  exact h
theorem eqv_ints_nil (ws : List Int) : PyData.eqv (.list (ws.map .int)) (.list []) = decide (ws = []) := by cases ws <;> rfl
def Inr (n : Int) (rs : List (Int × Int)) : Prop := ∀ p ∈ rs, 0 ≤ p.1 ∧ p.1 < p.2 ∧ p.2 < n
theorem adj_rng {n : Int} {rs : List (Int × Int)} {x y : Int} (sh : Inr n rs) (h : Adj rs x y) : 0 ≤ y ∧ y < n := by
  rcases h with h | h
  · have := sh _ h; constructor <;> simp at this <;> omega
  · have := sh _ h; constructor <;> simp at this <;> omega
theorem any_ints (ws : List Int) (a : Int) : ((ws.map PyData.int).any fun z => PyData.eqv z (.int a)) = decide (a ∈ ws) := by
  induction ws with
  | nil => rfl
  | cons w ws ih =>
    rw [List.map_cons, List.any_cons, ih, eqv_ii]
    by_cases h : w = a
    · rw [decide_eq_true h, Bool.true_or, decide_eq_true (List.mem_cons.mpr (.inl h.symm))]
    · rw [decide_eq_false h, Bool.false_or]
      by_cases g : a ∈ ws
      · rw [decide_eq_true g, decide_eq_true (List.mem_cons_of_mem _ g)]
      · rw [decide_eq_false g, decide_eq_false (fun z => (List.mem_cons.mp z).elim (fun e => h e.symm) g)]
theorem shaped_ti (ws : List Int) : SeqAt.shaped (.tuple (ws.map .int)) = true := by
  refine shaped_of ?_ ?_
  · simp only [PyData.canLay0]
    exact canLay_ints ws
  · simp only [PyData.depth, depth_ints]
    omega
theorem g_niI {y : Avl} {ws : List Int} {a : Int} {k : Avl → Prop} (e : y.lst = some (ws.map .int)) (h : k (.d (.bool (!decide (a ∈ ws))))) : gIn true (.d (.int a)) y k := by
  refine ⟨_, _, rfl, .inr e, rfl, shaped_ti ws, ?_⟩
  show k (.d (.bool (!((ws.map PyData.int).any fun z => PyData.eqv z (.int a)))))
  rw [any_ints]
  exact h
structure Lv (rs : List (Int × Int)) (p : Int) (c : Nat) (m : List (Int × Nat)) (near : List Int) : Prop where
  v1 : ∀ x k, lk m x = some k → Dst rs p x k ∧ k ≤ c
  v2 : ∀ x k, Dst rs p x k → k ≤ c → lk m x = some k
  v3 : ∀ x, x ∈ near ↔ Dst rs p x c
section
variable {rs : List (Int × Int)} {p : Int} {c : Nat} {m m' : List (Int × Nat)} {near F : List Int}
theorem Lv.start : Lv rs p 0 [(p, 0)] [p] := by
  have l1 : lk [(p, 0)] p = some 0 := by simp [lk]
  refine ⟨fun x k h => ?_, fun x k h hk => ?_, fun x => ?_⟩
  · have := lk_mem h
    simp at this
    obtain ⟨rfl, rfl⟩ := this
    exact ⟨.zero, Nat.le_refl _⟩
  · obtain rfl : k = 0 := by omega
    rw [h.nil]; exact l1
  · rw [List.mem_singleton]
    exact ⟨fun e => e ▸ .zero, fun h => h.nil⟩
/-- what an edge from a near place to one not found tells -/
theorem Lv.new {x y : Int} (h : Lv rs p c m near) (hx : x ∈ near) (hy : lk m y = none) (a : Adj rs x y) : Dst rs p y (c + 1) := by
  obtain ⟨j, hj, d⟩ := ((h.v3 x).mp hx).next a
  by_cases z : j ≤ c
  · rw [h.v2 y j d z] at hy; cases hy
  · obtain rfl : j = c + 1 := by omega
    exact d
theorem Lv.next (h : Lv rs p c m near) (hF : ∀ y ∈ F, Dst rs p y (c + 1)) (hG : ∀ x y, x ∈ near → Adj rs x y → lk m y = none → y ∈ F) (hm : ∀ y, lk m' y = if y ∈ F then some (c + 1) else lk m y) : Lv rs p (c + 1) m' F := by
  have no : ∀ y, Dst rs p y (c + 1) → lk m y = none := fun y d => by
    cases q : lk m y with
    | none => rfl
    | some k =>
      obtain ⟨d2, hk⟩ := h.v1 y k q
      have := d.uniq d2
      omega
  have full : ∀ y, Dst rs p y (c + 1) → y ∈ F := fun y d => by
    obtain ⟨x, dx, a⟩ := d.pred
    exact hG x y ((h.v3 x).mpr dx) a (no y d)
  refine ⟨fun x k e => ?_, fun x k d hk => ?_, fun x => ⟨hF x, full x⟩⟩
  · rw [hm] at e
    split at e
    · rename_i c1
      cases e
      exact ⟨hF x c1, Nat.le_refl _⟩
    · obtain ⟨d, hk⟩ := h.v1 x k e
      exact ⟨d, by omega⟩
  · rw [hm]
    by_cases z : k ≤ c
    · have e := h.v2 x k d z
      rw [if_neg (fun q => by rw [no x (hF x q)] at e; cases e)]
      exact e
    · obtain rfl : k = c + 1 := by omega
      rw [if_pos (full x d)]
theorem dst_down {x : Int} : ∀ {k : Nat}, Dst rs p x k → c ≤ k → ∃ y, Dst rs p y c := by
  intro k
  induction k generalizing x with
  | zero => intro d h; obtain rfl : c = 0 := (by omega); exact ⟨x, d⟩
  | succ k ih =>
    intro d h
    by_cases z : c = k + 1
    · subst z; exact ⟨x, d⟩
    · obtain ⟨w, dw, _⟩ := d.pred
      exact ih dw (by omega)
theorem Lv.done (h : Lv rs p c m []) : ∀ x k, Dst rs p x k → lk m x = some k := fun x k d => by
  by_cases z : c ≤ k
  · obtain ⟨y, dy⟩ := dst_down d z
    exact absurd ((h.v3 y).mpr dy) (by simp)
  · exact h.v2 x k d (by omega)
/-- all steps from a place -/
def DsL (n : Int) (rs : List (Int × Int)) (p : Int) (ds : List Int) : Prop := ds.length = n.toNat ∧ ∀ i : Nat, i < n.toNat → ∃ d : Nat, ds[i]? = some (d : Int) ∧ Dst rs p (i : Int) d
theorem DsL.uniq {n : Int} {ds es : List Int} (h : DsL n rs p ds) (g : DsL n rs p es) : ds = es := by
  refine List.ext_getElem? fun i => ?_
  by_cases hi : i < n.toNat
  · obtain ⟨d, e1, d1⟩ := h.2 i hi
    obtain ⟨e, e2, d2⟩ := g.2 i hi
    rw [e1, e2, d1.uniq d2]
  · rw [List.getElem?_eq_none (by rw [h.1]; omega), List.getElem?_eq_none (by rw [g.1]; omega)]
end
theorem intd_at {ls : List Int} {i : Nat} {y : PyData} (h : (ls.map PyData.int)[i]? = some y) : ∃ l, ls[i]? = some l ∧ y = .int l := by
  rw [List.getElem?_map] at h
  cases e : ls[i]? with
  | none => rw [e] at h; cases h
  | some l => rw [e] at h; exact ⟨l, rfl, (Option.some.inj h).symm⟩
theorem dst_row {n : Int} {rs : List (Int × Int)} {p : Int} (sh : Inr n rs) (p0 : 0 ≤ p) (p1 : p < n) : ∀ {k : Nat} {x : Int}, Dst rs p x k → ∃ l : List Int, l.length = k + 1 ∧ l.Nodup ∧ ∀ y ∈ l, (0 ≤ y ∧ y < n) ∧ ∃ c, c ≤ k ∧ Dst rs p y c := by
  intro k
  induction k with
  | zero =>
    intro x d
    have e := d.nil
    subst e
    exact ⟨[x], rfl, by simp, fun y hy => by rw [List.mem_singleton.mp hy]; exact ⟨⟨p0, p1⟩, 0, Nat.le_refl _, d⟩⟩
  | succ k ih =>
    intro x d
    obtain ⟨w, dw, a⟩ := d.pred
    obtain ⟨l, l1, l2, l3⟩ := ih dw
    refine ⟨x :: l, by rw [List.length_cons, l1], List.nodup_cons.mpr ⟨fun h => ?_, l2⟩, fun y hy => ?_⟩
    · obtain ⟨_, c, hc, dc⟩ := l3 x h
      have := d.uniq dc
      omega
    · rcases List.mem_cons.mp hy with e | h
      · rw [e]; exact ⟨adj_rng sh a, k + 1, Nat.le_refl _, d⟩
      · obtain ⟨r, c, hc, dc⟩ := l3 y h
        exact ⟨r, c, by omega, dc⟩
theorem dst_le {n : Int} {rs : List (Int × Int)} {p x : Int} {k : Nat} (sh : Inr n rs) (p0 : 0 ≤ p) (p1 : p < n) (d : Dst rs p x k) : (k : Int) < n := by
  obtain ⟨l, l1, l2, l3⟩ := dst_row sh p0 p1 d
  have := nodup_len (r := iota n.toNat) l2 fun y hy => by
    obtain ⟨r, _⟩ := l3 y hy
    unfold iota
    exact List.mem_map.mpr ⟨y.toNat, List.mem_range.mpr (by omega), by omega⟩
  rw [l1, iota_len] at this
  omega
theorem DsL.at {n : Int} {rs : List (Int × Int)} {p q : Int} {ds : List Int} (h : DsL n rs p ds) (h0 : 0 ≤ q) (h1 : q < n) : ∃ d : Nat, atI (ds.map PyData.int) q = some (.int (d : Int)) ∧ Dst rs p q d := by
  obtain ⟨d, e, dd⟩ := h.2 q.toNat (by omega)
  rw [show ((q.toNat : Nat) : Int) = q from by omega] at dd
  refine ⟨d, ?_, dd⟩
  have := atI_nat (xs := ds.map PyData.int) (j := q.toNat) (v := .int (d : Int)) (by rw [List.getElem?_map, e]; rfl)
  rwa [show ((q.toNat : Nat) : Int) = q from by omega] at this
end UW
namespace UW
open PySem PySem.Spec PyProof.Rows L2
/-- one step -/
local macro_rules | `(tactic| walk_at "a1") => `(tactic| first
  | with_reducible refine wk ?_
  | (with_reducible refine rs_go 1 ?_
     first
     | with_reducible refine a_var (by with_unfolding_all rfl) (by with_unfolding_all rfl) ?_
     | with_reducible refine a_gtup (by with_unfolding_all rfl) (by with_unfolding_all rfl) ?_
     | with_reducible refine a_glst (by with_unfolding_all rfl) (by with_unfolding_all rfl) ?_)
  | (with_reducible refine rs_go 2 ?_
     first
     | with_reducible refine g_ixT (by with_unfolding_all rfl) (by first | with_unfolding_all rfl | with_unfolding_all exact at_zero _ _) ?_
     | with_reducible refine g_ixL (by with_unfolding_all rfl) (by first | with_unfolding_all rfl | with_unfolding_all exact at_zero _ _) ?_)
  | (with_reducible refine rs_go 3 ?_
     first
     | with_reducible refine g_lenT (by with_unfolding_all rfl) ?_
     | with_reducible refine g_lenL (by with_unfolding_all rfl) ?_
     | with_reducible refine g_tupL (by with_unfolding_all rfl) ?_
     | with_reducible refine g_tupT (by with_unfolding_all rfl) ?_
     | with_reducible refine g_lstT (by with_unfolding_all rfl) ?_
     | with_reducible refine g_lstL (by with_unfolding_all rfl) ?_)
  | (with_reducible refine rs_go 4 ?_
     first
     | with_reducible refine g_addL (by with_unfolding_all rfl) (by with_unfolding_all rfl) (Nat.le_of_ble_eq_true (by with_unfolding_all rfl)) ?_
     | with_reducible refine g_mulI (by first | exact Or.inl ⟨by decide, by decide⟩ | exact Or.inr ⟨by decide, by decide⟩ | (first | (refine Or.inl ⟨?_, ?_⟩ <;> omega) | (refine Or.inr ⟨?_, ?_⟩ <;> omega))) ?_
     | with_reducible refine g_mod (by first | decide | omega) ?_
     | with_reducible refine g_div (by first | decide | omega) (by first | decide | omega) ?_
     | with_reducible refine g_slT (by with_unfolding_all rfl) ?_
     | with_reducible refine g_slL (by with_unfolding_all rfl) ?_
     | with_reducible refine g_isN (by with_unfolding_all rfl) ?_
     | with_reducible refine g_notN (by with_unfolding_all rfl) ?_)
  | (with_reducible refine rs_go 5 ?_
     first
     | with_reducible refine a_dget (by with_unfolding_all rfl) ?_
     | with_reducible refine a_dget2 (by with_unfolding_all rfl) ?_
     | with_reducible refine a_fzq (by with_unfolding_all rfl) ?_
     | with_reducible refine a_retC (by with_unfolding_all rfl) ?_
     | with_reducible refine a_isX (by with_unfolding_all rfl) ?_
     | with_reducible refine a_app (by with_unfolding_all rfl) ?_
     | with_reducible refine a_ext (by with_unfolding_all rfl) ?_
     | with_reducible refine a_pop (by with_unfolding_all rfl) ?_
     | with_reducible refine a_fz (by with_unfolding_all rfl) ?_
     | with_reducible refine a_lenDV (by with_unfolding_all rfl) ?_)
  | (with_reducible refine rs_go 6 ?_
     first
     | with_reducible refine a_cl (by with_unfolding_all rfl) ?_
     | with_reducible refine a_dat (by with_unfolding_all rfl) ?_
     | with_reducible refine a_s1 (by with_unfolding_all rfl) ?_
     | with_reducible refine a_dcy (by with_unfolding_all rfl) ?_
     | with_reducible refine a_s2 (by with_unfolding_all rfl) (by with_unfolding_all rfl) ?_
     | with_reducible refine a_s3 (by with_unfolding_all rfl) (by with_unfolding_all rfl) (by with_unfolding_all rfl) ?_
     | with_reducible refine a_owned (by with_unfolding_all rfl) ?_)
  | (with_reducible refine rs_go 7 ?_
     first
     | with_reducible refine i_B (by with_unfolding_all rfl) ?_
     | with_reducible refine i_T (by with_unfolding_all rfl) ?_
     | with_reducible refine i_L (by with_unfolding_all rfl) ?_)
  | (with_reducible refine rs_go 8 ?_
     first
     | with_reducible refine a_nb (by with_unfolding_all rfl) ?_
     | with_reducible refine a_len (by with_unfolding_all rfl) ?_
     | with_reducible refine a_revT (by with_unfolding_all rfl) ?_
     | with_reducible refine a_revL (by with_unfolding_all rfl) ?_)
  | (with_reducible refine rs_go 9 ?_
     first
     | with_reducible refine iteNT (by with_unfolding_all rfl) ?_
     | with_reducible refine iteNF (by with_unfolding_all rfl) ?_
     | with_reducible refine iteIT (by with_unfolding_all rfl) ?_
     | with_reducible refine iteIF (by with_unfolding_all rfl) ?_))
local macro_rules | `(tactic| walk_at "ax") => `(tactic| (repeat (first | walk_at "a1" | with_reducible refine a_if ?_); try dsimp only [List.set_cons_zero, List.set_cons_succ, awipe, aFrz, List.getElem?_cons_zero, List.getElem?_cons_succ]))
local macro_rules | `(tactic| walk_at "ay") => `(tactic| (repeat (walk_at "a1"); try dsimp only [List.set_cons_zero, List.set_cons_succ, awipe, aFrz, List.getElem?_cons_zero, List.getElem?_cons_succ]))
/-- roads_at, slots web, place, found, road, one, other -/
def t_roads_at (K : Fg) : TS :=
  (tSeq (tAsg (tLst tNil) (gName 2)) (tSeq (tFor (iEnumV K (tCons (tOp (rIx K) (tVar 0) (tC (.int 1))) tNil)) (gTup K 2 (gCons (gName 3)
    (gCons (gTup K 2 (gCons (gName 4) (gCons (gName 5) gNil))) gNil))) (tIfS (tTest (tOp (rInU K) (tVar 1) (tTup (tCons (tVar 4) (tCons (tVar 5) tNil))))) (tDrop (tBM K "list" rAppend (tVar 2) (tCons (tTup (tCons (tOp rSubI (tOp
    (rAddU K) (tVar 4) (tVar 5)) (tVar 1)) (tCons (tVar 3) tNil))) tNil))) tNext)) (tRet (tCB (rTupOf K) (tCons (tCB (rSortP K) (tCons (tVar 2) tNil)) tNil)))))
abbrev a_roads_at_0 : ASt :=
  (aRet (aCB gTupOf (bCons (aCB gSortP (bCons (aVar 2) bNil)) bNil)))
abbrev a_roads_at_1 : ASt :=
  (aSeq (aFor (aEnum (bCons (aOp gIx (aVar 0) (aC (.int 1))) bNil)) (agTup 2 (agCons (agName 3) (agCons (agTup 2 (agCons (agName 4) (agCons (agName 5) agNil))) agNil))) (aIfS (aB (aOp (gIn false) (aVar
    1) (aTup (aCons (aVar 4) (aCons (aVar 5) aNil))))) (aApp 2 (aTup (aCons (aOp gSub' (aOp gAdd (aVar 4) (aVar 5)) (aVar 1)) (aCons (aVar 3) aNil)))) aNext)) a_roads_at_0)
abbrev a_roads_at : ASt :=
  (aSeq (aSet 2 (aLst aNil)) a_roads_at_1)
theorem f_roads_at {K : Fg} {E : WX} : RSt K E (t_roads_at K) a_roads_at :=
  (rs_seq (rs_set (re_lst ra_nil)) (rs_seq (rs_for (ri_enum (rv_cons (re_op ro_ix re_var re_int) rv_nil)) (rg_tup (rgs_cons rg_name (rgs_cons (rg_tup
    (rgs_cons rg_name (rgs_cons rg_name rgs_nil))) rgs_nil))) (rs_ifs (rt_test (re_op ro_in re_var (re_tup (ra_cons re_var (ra_cons re_var ra_nil))))) (rs_app (re_tup (ra_cons (re_op ro_sub (re_op ro_add re_var re_var) re_var)
    (ra_cons re_var ra_nil)))) rs_next)) (rs_ret (re_cb rb_tupOf (rv_cons (re_cb rb_sortP (rv_cons re_var rv_nil)) rv_nil)))))
def m_roads_at : AFn := mOf 4 a_roads_at
def sp_roads_at (K : Fg) : Sp := SpA K 2 m_roads_at
theorem br_roads_at {K : Fg} : ∀ vs H Q E, SpA K 2 m_roads_at vs H Q E → sp_roads_at K vs H Q E := fun _ _ _ _ h => h
theorem l_roads_at {K : Fg} : ∀ vs H Q E, sp_roads_at K vs H Q E → vs.length = 2 := l_spa
theorem p_roads_at {K : Fg} {vs : List V} {H : Hp} {Q : VK} {E : XK} (h : sp_roads_at K vs H Q E) : t_roads_at K { nx := fun _ H' => Q .non H', rt := Q } (L2.start ["web", "place", "found", "road", "one", "other"] vs) H :=
  p_spa (f_roads_at) h rfl
/-- steps_known, slots web, place, waiting, here, mate, road, steps -/
def t_steps_known (K : Fg) : TS :=
  (tSeq (tPar 6 2 (tCons (tDisp [((tVar 1), (tC (.int 0)))]) (tCons (tLst (tCons (tVar 1) tNil)) tNil))) (tSeq (tWhile (tTest
    (tOp (rNeU K) (tVar 2) (tLst tNil))) (tSeq (tAsg (tBM K "list" rPopAt (tVar 2) (tCons (tC (.int 0)) tNil)) (gName 3)) (tFor (iSeq K (tG (sp_roads_at K) E00 (tCons (tVar 0) (tCons (tVar 3) tNil)))) (gTup K 2 (gCons (gName 4)
    (gCons (gName 5) gNil))) (tIfS (tB (tDNotIn (tVar 4) (tVar 6))) (tSeq (sDPut (tVar 6) (tVar 4) (tOp (rAddU K) (tDGet (tVar 6) (tVar 3)) (tC (.int 1)))) (tDrop (tBM K "list" rAppend (tVar 2) (tCons (tVar 4) tNil)))) tNext))))
    (tRet (tVar 6))))
abbrev a_steps_known_0 : ASt :=
  (aFor (aSeqI (aCall0 m_roads_at (bCons (aVar 0) (bCons (aVar 3) bNil)))) (agTup 2 (agCons (agName 4) (agCons (agName 5) agNil))) (aIfS (aB (aDNi (aVar 4) 6)) (aSeq (aDPut 6 (aVar 4) (aOp gAdd
    (aDGet 6 (aVar 3)) (aC (.int 1)))) (aApp 2 (aVar 4))) aNext))
abbrev a_steps_known_1 : ASt :=
  (aSeq (aWhile (aB (aOp gNe (aVar 2) (aLst aNil))) (aSeq (aPop 2 3 (aC (.int 0))) a_steps_known_0)) (aRetC 6))
abbrev a_steps_known : ASt :=
  (aSeq (aSet2 6 2 (aDOne (aVar 1) (aC (.int 0))) (aLst (aCons (aVar 1) aNil))) a_steps_known_1)
theorem f_steps_known {K : Fg} {E : WX} : RSt K E (t_steps_known K) a_steps_known :=
  (rs_seq (rs_set2 (re_done re_var re_int) (re_lst (ra_cons re_var ra_nil))) (rs_seq (rs_while (rt_test (re_op ro_ne re_var (re_lst ra_nil)))
    (rs_seq (rs_pop re_int) (rs_for (ri_seq (re_call0 br_roads_at (rv_cons re_var (rv_cons re_var rv_nil)))) (rg_tup (rgs_cons rg_name (rgs_cons rg_name rgs_nil))) (rs_ifs (rt_b (re_dni re_var)) (rs_seq (rs_dput re_var (re_op
    ro_add (re_dget re_var) re_int)) (rs_app re_var)) rs_next)))) rs_retC))
def m_steps_known : AFn := mOf 5 a_steps_known
def sp_steps_known (K : Fg) : Sp := SpA K 2 m_steps_known
theorem br_steps_known {K : Fg} : ∀ vs H Q E, SpA K 2 m_steps_known vs H Q E → sp_steps_known K vs H Q E := fun _ _ _ _ h => h
theorem l_steps_known {K : Fg} : ∀ vs H Q E, sp_steps_known K vs H Q E → vs.length = 2 := l_spa
theorem p_steps_known {K : Fg} {vs : List V} {H : Hp} {Q : VK} {E : XK} (h : sp_steps_known K vs H Q E) : t_steps_known K { nx := fun _ H' => Q .non H', rt := Q } (L2.start ["web", "place", "waiting", "here", "mate", "road", "steps"] vs) H :=
  p_spa (f_steps_known) h rfl
section
variable {n : Int} {rs : List (Int × Int)} {ms ls : List Int} {x : AXc} {k : Avl → Prop} {C : Cl}
theorem s_roads_at {p : Int} (hl : rs.length ≤ 1000) (h : ∀ qs : List (Int × Int), qs.Perm (rdsN rs p 0) → qs.Pairwise (fun p q => SrtO.lexB q p = false) → k (.d (dPs qs))) : m_roads_at [.d (dWeb n rs ms), .d (.int p)] x k := by
  show a_roads_at _ [.d (dWeb n rs ms), .d (.int p), .x, .x, .x, .x]
  walk_at "ax"
  refine a_loop (fun i α => ∃ x3 x4 x5, α = [.d (dWeb n rs ms), .d (.int p), .own ((rdsN (rs.take i) p 0).map dP), x3, x4, x5]) ?_ ?_ ?_
  · exact ⟨_, _, _, rfl⟩
  · rintro i y α hy ⟨x3, x4, x5, rfl⟩
    obtain ⟨d, hd, rfl⟩ := enD_at hy
    obtain ⟨q, hq, rfl⟩ := dp_at hd
    have hi := (List.getElem?_eq_some_iff.mp hq).1
    have et : rs.take (i + 1) = rs.take i ++ [q] := by rw [List.take_add_one, hq]; rfl
    have es := rdsN_snoc (rs.take i) q p 0
    rw [← et, List.length_take, Nat.min_eq_left (by omega), Nat.zero_add] at es
    have ln := rdsN_len (rs.take i) p 0
    rw [List.length_take] at ln
    walk_at "ax"
    refine g_in2 ?_
    walk_at "ax"
    refine s_dec (fun c => ?_) (fun c => ?_)
    · walk_at "ax"
      rw [if_pos c] at es
      rw [es, List.map_append]
      exact ⟨by rw [List.length_map]; omega, _, _, _, rfl⟩
    · walk_at "ax"
      rw [if_neg c, List.append_nil] at es
      rw [es]
      exact ⟨_, _, _, rfl⟩
  · rintro α ⟨x3, x4, x5, rfl⟩
    rw [enD_len, List.length_map, List.take_length]
    walk_at "ax"
    refine ⟨_, rdsN rs p 0, rfl, rfl, fun qs pm sr => ?_⟩
    walk_at "ax"
    exact h qs pm sr
theorem s_steps_known {p : Int} (sh : Inr n rs) (hl : rs.length ≤ 1000) (hn : n ≤ 1000) (p0 : 0 ≤ p) (p1 : p < n) (h : ∀ m : List (Int × Nat), Kys n m → (∀ x k, Dst rs p x k → lk m x = some k) → (∀ x k, lk m x = some k → Dst rs p x k) → k (.k (.k (dI m)))) : m_steps_known [.d (dWeb n rs ms), .d (.int p)] x k := by
  show a_steps_known _ [.d (dWeb n rs ms), .d (.int p), .x, .x, .x, .x, .x]
  walk_at "ax"
  refine a_while (fun c α => ∃ m d A B x3 x4 x5, α = [.d (dWeb n rs ms), .d (.int p), .own ((A ++ B).map .int), x3, x4, x5, .dic (.k (dI m))] ∧ Bf rs p d A B m (fun _ => False) ∧ Kys n m ∧ (A = [] → B = []) ∧ c = 2 * (n.toNat - m.length) + (A ++ B).length ∧ c ≤ 2001) (2 * (n.toNat - 1) + 1) ?_ ?_
  · exact ⟨[(p, 0)], 0, [p], [], _, _, _, rfl, Bf.start, Kys.one p0 p1, fun z => (by cases z), rfl, by omega⟩
  · rintro c α ⟨m, d, A, B, x3, x4, x5, rfl, bf, ky, ab, hc, hcc⟩
    walk_at "ax"
    refine g_neD rfl rfl (shaped_ints (A ++ B)) rfl ?_
    rw [eqv_ints_nil]
    walk_at "ax"
    refine s_ndec (fun z => ?_) (fun z => ?_)
    · obtain ⟨u, A, rfl⟩ : ∃ u A', A = u :: A' := by
        cases A with
        | nil => exact absurd (by rw [ab rfl]; rfl) z
        | cons u A => exact ⟨u, A, rfl⟩
      have hu := bf.ia u List.mem_cons_self
      have ur := ky.2 _ (lk_mem hu)
      walk_at "ax"
      refine ⟨0, .int u, rfl, rfl, by decide, ?_⟩
      walk_at "ax"
      refine s_roads_at hl fun qs pm sr => ⟨?_, fun z => by cases z⟩
      walk_at "ax"
      refine a_loop (fun i α => ∃ m B x4 x5, α = [.d (dWeb n rs ms), .d (.int p), .own ((A ++ B).map .int), .d (.int u), x4, x5, .dic (.k (dI m))] ∧ Bf rs p d A B m (fun x => x = u) ∧ Kys n m ∧ lk m u = some d ∧ (∀ q ∈ qs.take i, lk m q.1 ≠ none) ∧ 2 * (n.toNat - m.length) + (A ++ B).length + 1 ≤ c) ?_ ?_ ?_
      · refine ⟨m, B, _, _, rfl, bf.pop, ky, hu, fun q hq => (by cases hq), ?_⟩
        rw [hc]
        simp only [List.length_append, List.length_cons]
        omega
      · rintro i y α hy ⟨m, B, x4, x5, rfl, bf, ky, hu, hv, hm⟩
        obtain ⟨q, hq, rfl⟩ := dp_at hy
        have et : qs.take (i + 1) = qs.take i ++ [q] := by rw [List.take_add_one, hq]; rfl
        have ha : Adj rs u q.1 := rdsN_mem (r := q.2) rs 0 (pm.mem_iff.mp (List.mem_of_getElem? hq))
        have qr := adj_rng sh ha
        have kl := ky.len
        walk_at "ax"
        refine a_dinI ?_
        rw [find_dI]
        cases q1 : lk m q.1 with
        | some j =>
          walk_at "ax"
          refine iteF ?_
          walk_at "ax"
          refine ⟨m, B, _, _, rfl, bf, ky, hu, fun r hr => ?_, hm⟩
          rw [et] at hr
          rcases List.mem_append.mp hr with hr | hr
          · exact hv r hr
          · rw [List.mem_singleton.mp hr, q1]
            intro z
            cases z
        | none =>
          have ne : q.1 ≠ u := fun e => by rw [e, hu] at q1; cases q1
          have l2 := lk_snoc (k := d + 1) q1
          have k2 := ky.snoc (k := d + 1) q1 qr.1 qr.2
          have kl2 := k2.len
          rw [List.length_append, List.length_singleton] at kl2
          walk_at "ax"
          refine iteT ?_
          walk_at "ax"
          refine a_dgI (x := .int (d : Int)) (by rw [find_dI, hu]; rfl) ?_
          walk_at "ax"
          refine a_dpI (kvs := dI m) (by unfold dI; rw [List.length_map]; omega) ?_
          rw [show ((d : Int) + 1) = ((d + 1 : Nat) : Int) from by omega, put_dI q1]
          walk_at "ax"
          refine ⟨?_, m ++ [(q.1, d + 1)], B ++ [q.1], _, _, by rw [← List.append_assoc, List.map_append (f := PyData.int) (l₂ := [q.1])]; rfl, bf.add hu ha q1, k2, ?_, fun r hr => ?_, ?_⟩
          · rw [List.length_map]; omega
          · rw [l2, if_neg (fun e => ne e.symm)]
            exact hu
          · rw [l2]
            split
            · intro z; cases z
            · rename_i c2
              rw [et] at hr
              rcases List.mem_append.mp hr with hr | hr
              · exact hv r hr
              · exact absurd (congrArg Prod.fst (List.mem_singleton.mp hr)) c2
          · simp only [List.length_append, List.length_cons, List.length_nil] at hm ⊢
            omega
      · rintro α ⟨m, B, x4, x5, rfl, bf, ky, hu, hv, hm⟩
        rw [List.length_map, List.take_length] at hv
        have bf2 := bf.close fun y hy => by
          obtain ⟨r, hr⟩ := rdsN_adj rs 0 hy
          exact hv (y, r) (pm.mem_iff.mpr hr)
        cases A with
        | nil =>
          refine ⟨2 * (n.toNat - m.length) + ([] ++ B : List Int).length, by omega, m, d + 1, B, [], _, _, _, by rw [List.append_nil]; rfl, bf2.shift, ky, fun _ => rfl, by rw [List.append_nil]; rfl, by omega⟩
        | cons a A =>
          exact ⟨2 * (n.toNat - m.length) + (a :: A ++ B).length, by omega, m, d, a :: A, B, _, _, _, rfl, bf2, ky, fun z => (by cases z), rfl, by omega⟩
    · obtain ⟨rfl, rfl⟩ := List.append_eq_nil_iff.mp z
      walk_at "ax"
      exact h m ky bf.done bf.i1
end
end UW
namespace UW.Un
open PySem PySem.Spec PyProof.Rows L2 UW
/-- one step -/
local macro_rules | `(tactic| walk_at "s1") => `(tactic| first
  | with_reducible refine s_seq ?_
  | with_reducible refine s_for ?_
  | with_reducible refine s_lc ?_
  | with_reducible refine w_seq ?_
  | with_reducible refine w_rng1 ?_
  | with_reducible refine w_rng2 ?_
  | with_reducible refine w_zip ?_
  | with_reducible refine s_asg ?_
  | with_reducible refine s_gname ?_
  | with_reducible refine s_ret ?_
  | with_reducible refine s_drop ?_
  | with_reducible refine s_next ?_
  | with_reducible refine s_ifs ?_
  | with_reducible refine s_var (by with_unfolding_all rfl) ?_
  | with_reducible refine s_c ?_
  | with_reducible refine s_op ?_
  | with_reducible refine s_un ?_
  | with_reducible refine s_neg ?_
  | with_reducible refine s_test ?_
  | with_reducible refine s_yes ?_
  | with_reducible refine s_tB ?_
  | with_reducible refine s_bl ?_
  | with_reducible refine s_not ?_
  | with_reducible refine s_and ?_
  | with_reducible refine s_or ?_
  | with_reducible refine s_andV ?_
  | with_reducible refine s_orV ?_
  | with_reducible refine s_notV ?_
  | with_reducible refine s_chain ?_
  | with_reducible refine s_nil ?_
  | with_reducible refine s_cons ?_
  | with_reducible refine s_tup ?_
  | with_reducible refine s_lst ?_
  | with_reducible refine s_call ?_
  | with_reducible refine s_cb ?_
  | with_reducible refine s_part ?_
  | with_reducible refine s_nopart ?_
  | with_reducible refine s_ii ?_
  | with_reducible refine s_sl ?_
  | with_reducible refine s_par ?_
  | with_reducible refine s_par2 ?_
  | with_reducible refine s_bm ?_
  | with_reducible refine s_gsub ?_
  | with_reducible refine s_gcons ?_
  | with_reducible refine s_gnil ?_
  | with_reducible refine o_addI ?_
  | with_reducible refine o_sub ?_
  | with_reducible refine o_eqI ?_
  | with_reducible refine o_neI ?_
  | with_reducible refine o_ltI ?_
  | with_reducible refine o_le ?_
  | with_reducible refine o_gt ?_
  | with_reducible refine o_ge ?_
  | with_reducible refine o_int ?_
  | with_reducible refine o_intB ?_
  | with_reducible refine o_abs ?_
  | with_reducible refine o_max2 ?_
  | with_reducible refine o_min2 ?_
  | with_reducible refine o_isN ?_
  | with_reducible refine o_notN ?_
  | with_reducible refine o_mulI (by first | exact Or.inl ⟨by decide, by decide⟩ | exact Or.inr ⟨by decide, by decide⟩ | (first | (refine Or.inl ⟨?_, ?_⟩ <;> omega) | (refine Or.inr ⟨?_, ?_⟩ <;> omega))) ?_
  | with_reducible refine o_mod (by first | decide | omega) ?_
  | with_reducible refine o_div (by first | decide | omega) (by first | decide | omega) ?_
  | with_reducible refine s_blx ?_
  | with_reducible refine o_ixL (SqL.of (by assumption)) (by first | with_unfolding_all rfl | with_unfolding_all exact at_zero _ _) ?_
  | with_reducible refine o_ixT (by assumption) (by first | with_unfolding_all rfl | with_unfolding_all exact at_zero _ _) ?_
  | with_reducible refine o_tyL (by assumption) ?_
  | with_reducible refine iteT ?_
  | with_reducible refine iteF ?_)
local macro_rules | `(tactic| walk_at "sx") => `(tactic| repeat (walk_at "s1"))
/-- the neighbours along the first i roads, in the order of the roads -/
def nbTo (rs : List (Int × Int)) (i j : Nat) : List Int := (rdsN (rs.take i) (j : Int) 0).map (·.1)
def nb (rs : List (Int × Int)) (j : Nat) : List Int := nbTo rs rs.length j
theorem nbTo_succ {rs : List (Int × Int)} {i : Nat} {p : Int × Int} (h : rs[i]? = some p) (j : Nat) : nbTo rs (i + 1) j = nbTo rs i j ++ (if p.1 = (j : Int) ∨ p.2 = (j : Int) then [p.1 + p.2 - (j : Int)] else []) := by
  have et : rs.take (i + 1) = rs.take i ++ [p] := by rw [List.take_add_one, h]; rfl
  unfold nbTo
  rw [et, rdsN_snoc, List.map_append]
  congr 1
  split <;> rfl
/-- the lists at qs, under p -/
structure Nsi (K : Fg) (H H' : Hp) (p : Addr) (qs : List Addr) (F : Nat → List Int) : Prop where
  s : Same H H'
  np : H p = none
  p' : H' p = some (.lst (qs.map V.ref))
  nd : qs.Nodup
  pq : p ∉ qs
  nq : ∀ q ∈ qs, H q = none
  at' : ∀ j q, qs[j]? = some q → H' q = some (.lst ((F j).map V.int))
section
variable {K : Fg} {H H1 H2 H3 : Hp} {p q : Addr} {qs : List Addr} {F G : Nat → List Int} {j : Nat}
theorem Nsi.same (N : Nsi K H H1 p qs F) (e : Same H1 H2) : Nsi K H H2 p qs F :=
  ⟨N.s.trans e, N.np, e _ _ N.p', N.nd, N.pq, N.nq, fun j q h => e _ _ (N.at' j q h)⟩
end
theorem ods_of {K : Fg} {G : Ads} {H : Hp} : ∀ {vs : List V} {ds : List PyData}, vs.length = ds.length → (∀ (i : Nat) (v : V) (d : PyData), vs[i]? = some v → ds[i]? = some d → Od K G H v d) → Ods K G H vs ds
  | [], [], _, _ => .nil
  | v :: vs, d :: ds, h, k => .cons (k 0 v d rfl rfl) (ods_of (by simpa using h) fun i v d a b => k (i + 1) v d a b)
  | [], _ :: _, h, _ => by cases h
  | _ :: _, [], h, _ => by cases h
end UW.Un
namespace UW.Un
open PySem PySem.Spec PyProof.Rows L2 UW
/-- who is beside whom -/
structure Grf (n : Int) (N : Int → List Int) : Prop where
  two : 2 ≤ n
  r : ∀ x y, 0 ≤ x → x < n → y ∈ N x → 0 ≤ y ∧ y < n ∧ y ≠ x ∧ x ∈ N y
  nd : ∀ x, 0 ≤ x → x < n → (N x).Nodup
  cn : ∀ S : Int → Prop, (∀ x y, 0 ≤ x → x < n → y ∈ N x → S x → S y) → ∀ x y, 0 ≤ x → x < n → 0 ≤ y → y < n → S x → S y
theorem three {l : List Int} {a b c : Int} (h : l.length ≤ 2) (nd : l.Nodup) (ha : a ∈ l) (hb : b ∈ l) (hc : c ∈ l) (ab : a ≠ b) : c = a ∨ c = b := by
  match l, h, nd with
  | [], _, _ => cases ha
  | [x], _, _ =>
    rw [List.mem_singleton] at ha hb
    exact absurd (ha.trans hb.symm) ab
  | [x, y], _, _ =>
    simp only [List.mem_cons, List.not_mem_nil, or_false] at ha hb hc
    rcases ha with rfl | rfl <;> rcases hb with rfl | rfl <;> rcases hc with rfl | rfl <;> simp_all
  | _ :: _ :: _ :: _, h, _ => simp at h
theorem another {l : List Int} {a : Int} (nd : l.Nodup) (ha : a ∈ l) (h : l.length ≠ 1) : ∃ b ∈ l, b ≠ a := by
  match l, nd, h with
  | [], _, _ => cases ha
  | [x], _, h => exact absurd rfl h
  | x :: y :: l, nd, _ =>
    by_cases c : x = a
    · refine ⟨y, by simp, fun e => ?_⟩
      rw [List.nodup_cons] at nd
      exact nd.1 (by rw [c, ← e]; exact List.mem_cons_self ..)
    · exact ⟨x, List.mem_cons_self .., c⟩
structure Row (n : Int) (N : Int → List Int) (st : Int) (row : List Int) : Prop where
  nd : row.Nodup
  hd : row[0]? = some st
  r : ∀ x ∈ row, 0 ≤ x ∧ x < n
  ad : ∀ (i : Nat) x y, row[i]? = some x → row[i + 1]? = some y → y ∈ N x
  cl : ∀ (i : Nat) x, row[i]? = some x → i + 1 < row.length → (i ≠ 0 ∨ (N st).length = 1) → ∀ y ∈ N x, y ∈ row
section
variable {n : Int} {N : Int → List Int} {st x a : Int} {row : List Int}
theorem Row.one (h0 : 0 ≤ st) (h1 : st < n) : Row n N st [st] := by
  refine ⟨by simp, rfl, fun x hx => by rw [List.mem_singleton.mp hx]; exact ⟨h0, h1⟩, fun i x y _ h => ?_, fun i x _ h => ?_⟩
  · rw [List.getElem?_eq_none (by simp)] at h; cases h
  · simp at h
theorem Row.pos (h : Row n N st row) : 0 < row.length := (List.getElem?_eq_some_iff.mp h.hd).1
theorem Row.add (g : Grf n N) (deg : ∀ x, 0 ≤ x → x < n → (N x).length ≤ 2) (h : Row n N st row) (hx : row[row.length - 1]? = some x) (ha : a ∈ N x) (na : a ∉ row) : Row n N st (row ++ [a]) := by
  have rx := h.r x (List.mem_of_getElem? hx)
  have ga := g.r x a rx.1 rx.2 ha
  have pos := h.pos
  have at1 : ∀ {i : Nat} {y : Int}, i < row.length → (row ++ [a])[i]? = some y → row[i]? = some y := fun hi e => by rwa [List.getElem?_append_left hi] at e
  refine ⟨?_, ?_, ?_, ?_, ?_⟩
  · rw [List.nodup_append]
    exact ⟨h.nd, by simp, fun c hc b hb e => na (by rw [List.mem_singleton.mp hb] at e; rw [← e]; exact hc)⟩
  · rw [List.getElem?_append_left pos]; exact h.hd
  · intro z hz
    rcases List.mem_append.mp hz with hz | hz
    · exact h.r z hz
    · rw [List.mem_singleton.mp hz]; exact ⟨ga.1, ga.2.1⟩
  · intro i u v hu hv
    have hi := (List.getElem?_eq_some_iff.mp hv).1
    rw [List.length_append, List.length_singleton] at hi
    by_cases c : i + 1 < row.length
    · exact h.ad i u v (at1 (by omega) hu) (at1 c hv)
    · have e : i + 1 = row.length := by omega
      rw [e, List.getElem?_concat_length] at hv
      cases hv
      have := at1 (by omega) hu
      rw [show i = row.length - 1 by omega, hx] at this
      cases this
      exact ha
  · intro i u hu hi ho y hy
    rw [List.length_append, List.length_singleton] at hi
    have hu := at1 (by omega) hu
    by_cases c : i + 1 < row.length
    · exact List.mem_append.mpr (.inl (h.cl i u hu c ho y hy))
    · have e : i = row.length - 1 := by omega
      rw [e, hx] at hu
      cases hu
      by_cases c0 : i = 0
      · have e1 : x = st := by
          have := h.hd
          rw [← c0, e, hx] at this
          exact Option.some.inj this
        have l1 := ho.resolve_left fun z => z c0
        rw [← e1] at l1
        obtain ⟨z, hz⟩ := List.length_eq_one_iff.mp l1
        rw [hz] at ha hy
        rw [List.mem_singleton.mp hy, List.mem_singleton.mp ha]
        simp
      · obtain ⟨p, hp⟩ : ∃ p, row[row.length - 2]? = some p := ⟨_, List.getElem?_eq_getElem (by omega)⟩
        have mp := List.mem_of_getElem? hp
        have rp := h.r p mp
        have hxp : x ∈ N p := h.ad (row.length - 2) p x hp (by rw [show row.length - 2 + 1 = row.length - 1 by omega]; exact hx)
        have hpx := (g.r p x rp.1 rp.2 hxp).2.2.2
        have pa : p ≠ a := fun z => na (z ▸ mp)
        rcases three (deg x rx.1 rx.2) (g.nd x rx.1 rx.2) hpx ha hy pa with rfl | rfl
        · exact List.mem_append.mpr (.inl mp)
        · simp
/-- the last one has no other neighbour than the one before it and, perhaps, the first -/
theorem Row.back (g : Grf n N) (deg : ∀ x, 0 ≤ x → x < n → (N x).length ≤ 2) (h : Row n N st row) (hl : 2 ≤ row.length) (hx : row[row.length - 1]? = some x) {o p : Int} (hp : row[row.length - 2]? = some p) (ho : o ∈ N x) (mo : o ∈ row) (op : o ≠ p) : o = st := by
  have rx := h.r x (List.mem_of_getElem? hx)
  have go := g.r x o rx.1 rx.2 ho
  obtain ⟨j, hj⟩ := List.mem_iff_getElem?.mp mo
  have hjl := (List.getElem?_eq_some_iff.mp hj).1
  have inj : ∀ {i j : Nat} {z : Int}, row[i]? = some z → row[j]? = some z → i = j := fun a b => (List.getElem?_inj (List.getElem?_eq_some_iff.mp a).1 h.nd).mp (a.trans b.symm)
  by_cases j0 : j = 0
  · rw [j0, h.hd] at hj
    exact (Option.some.inj hj).symm
  exfalso
  have jl : j ≠ row.length - 1 := fun z => by
    rw [z, hx] at hj
    exact go.2.2.1 (Option.some.inj hj).symm
  obtain ⟨u, hu⟩ : ∃ u, row[j - 1]? = some u := ⟨_, List.getElem?_eq_getElem (by omega)⟩
  obtain ⟨v, hv⟩ : ∃ v, row[j + 1]? = some v := ⟨_, List.getElem?_eq_getElem (by omega)⟩
  have ru := h.r u (List.mem_of_getElem? hu)
  have hou : o ∈ N u := h.ad (j - 1) u o hu (by rw [show j - 1 + 1 = j by omega]; exact hj)
  have huo := (g.r u o ru.1 ru.2 hou).2.2.2
  have hvo : v ∈ N o := h.ad j o v hj hv
  have uv : u ≠ v := fun z => by
    rw [z] at hu
    have := inj hu hv
    omega
  rcases three (deg o go.1 go.2.1) (g.nd o go.1 go.2.1) huo hvo go.2.2.2 uv with z | z
  · rw [← z] at hu
    have := inj hu hx
    omega
  · rw [← z] at hv
    have := inj hv hx
    rw [show j = row.length - 2 by omega, hp] at hj
    exact op (Option.some.inj hj).symm
theorem Row.full (g : Grf n N) (deg : ∀ x, 0 ≤ x → x < n → (N x).length ≤ 2) (h : Row n N st row) (hx : row[row.length - 1]? = some x) (stop : ∀ y ∈ N x, y ∈ row) (he : (N st).length = 1 ∨ ∀ z, 0 ≤ z → z < n → (N z).length ≠ 1) : ∀ z, 0 ≤ z → z < n → z ∈ row := by
  have pos := h.pos
  have rst := h.r st (List.mem_of_getElem? h.hd)
  have closed : ∀ z y, 0 ≤ z → z < n → y ∈ N z → z ∈ row → y ∈ row := by
    intro z y z0 z1 hy mz
    obtain ⟨i, hi⟩ := List.mem_iff_getElem?.mp mz
    have hil := (List.getElem?_eq_some_iff.mp hi).1
    by_cases c : i + 1 < row.length
    · by_cases c0 : i ≠ 0 ∨ (N st).length = 1
      · exact h.cl i z hi c c0 y hy
      · have i0 : i = 0 := by omega
        have no := he.resolve_left fun q => c0 (.inr q)
        subst i0
        have ez : z = st := by
          have := h.hd
          rw [hi] at this
          exact Option.some.inj this
        subst ez
        refine Classical.byContradiction fun ny => ?_
        obtain ⟨p, hp⟩ : ∃ p, row[row.length - 2]? = some p := ⟨_, List.getElem?_eq_getElem (by omega)⟩
        obtain ⟨w, hw⟩ : ∃ w, row[1]? = some w := ⟨_, List.getElem?_eq_getElem (by omega)⟩
        have rx := h.r x (List.mem_of_getElem? hx)
        have rp := h.r p (List.mem_of_getElem? hp)
        have hxp : x ∈ N p := h.ad (row.length - 2) p x hp (by rw [show row.length - 2 + 1 = row.length - 1 by omega]; exact hx)
        have hpx := (g.r p x rp.1 rp.2 hxp).2.2.2
        obtain ⟨o, ho, op⟩ := another (g.nd x rx.1 rx.2) hpx (no x rx.1 rx.2)
        have eo := h.back g deg (by omega) hx hp ho (stop o ho) op
        subst eo
        have hxo := (g.r x o rx.1 rx.2 ho).2.2.2
        have hwo : w ∈ N o := h.ad 0 o w h.hd hw
        have wy : w ≠ y := fun q => ny (q ▸ List.mem_of_getElem? hw)
        rcases three (deg o rst.1 rst.2) (g.nd o rst.1 rst.2) hwo hy hxo wy with q | q
        · rw [← q] at hw
          have := (List.getElem?_inj (by omega) h.nd).mp (hw.trans hx.symm)
          rw [show row.length - 2 = 0 by omega, h.hd] at hp
          exact op (Option.some.inj hp)
        · exact ny (q ▸ List.mem_of_getElem? hx)
    · rw [show i = row.length - 1 by omega, hx] at hi
      cases hi
      exact stop y hy
  intro z z0 z1
  exact g.cn (fun z => z ∈ row) (fun a b a0 a1 hb ha => closed a b a0 a1 hb ha) st z rst.1 rst.2 z0 z1 (List.mem_of_getElem? h.hd)
theorem Row.len_le (h : Row n N st row) : row.length ≤ n.toNat := by
  have := nodup_len (r := iota n.toNat) h.nd fun x hx => by
    have := h.r x hx
    exact mem_iota.mpr (by omega)
  rwa [iota_len] at this
theorem Row.len_eq (h : Row n N st row) (full : ∀ z, 0 ≤ z → z < n → z ∈ row) : row.length = n.toNat := by
  have := nodup_len (l := iota n.toNat) (r := row) (nodup_iota _) fun x hx => by
    have := mem_iota.mp hx
    exact full x this.1 (by omega)
  rw [iota_len] at this
  exact Nat.le_antisymm h.len_le this
/-- the places with one neighbour -/
def endL (n : Int) (N : Int → List Int) : List Int := (iota n.toNat).filter fun p => decide ((N p).length = 1)
def stt (n : Int) (N : Int → List Int) : Int := if endL n N = [] then 0 else (endL n N).headD 0
theorem mem_endL {z : Int} : z ∈ endL n N ↔ (0 ≤ z ∧ z < n) ∧ (N z).length = 1 := by
  unfold endL
  rw [List.mem_filter, mem_iota, decide_eq_true_iff]
  constructor
  · rintro ⟨h, e⟩; exact ⟨by omega, e⟩
  · rintro ⟨h, e⟩; exact ⟨by omega, e⟩
theorem stt_is (h2 : 2 ≤ n) : 0 ≤ stt n N ∧ stt n N < n ∧ ((N (stt n N)).length = 1 ∨ ∀ z, 0 ≤ z → z < n → (N z).length ≠ 1) := by
  unfold stt
  cases e : endL n N with
  | nil =>
    rw [if_pos rfl]
    exact ⟨by omega, by omega, .inr fun z z0 z1 q => by have := mem_endL.mpr ⟨⟨z0, z1⟩, q⟩; rw [e] at this; cases this⟩
  | cons a l =>
    rw [if_neg (by simp)]
    have := mem_endL.mp (show a ∈ endL n N by rw [e]; exact List.mem_cons_self ..)
    exact ⟨this.1.1, this.1.2, .inl this.2⟩
/-- the places ahead of the last one -/
def ahd (N : Int → List Int) (row : List Int) : List Int := match row[row.length - 1]? with
  | some x => (N x).filter fun y => decide (y ∉ row)
  | none => []
def rowK (N : Int → List Int) (st : Int) : Nat → List Int
  | 0 => [st]
  | k + 1 => match ahd N (rowK N st k) with
    | [] => rowK N st k
    | a :: _ => rowK N st k ++ [a]
theorem rowK_cons {k : Nat} {l : List Int} (h : ahd N (rowK N st k) = a :: l) : rowK N st (k + 1) = rowK N st k ++ [a] := by
  rw [rowK, h]
theorem ahd_mem {l : List Int} (hx : row[row.length - 1]? = some x) (h : ahd N row = a :: l) : a ∈ N x ∧ a ∉ row := by
  unfold ahd at h
  rw [hx] at h
  dsimp only at h
  have := List.mem_filter.mp (show a ∈ (N x).filter fun y => decide (y ∉ row) by rw [h]; exact List.mem_cons_self ..)
  exact ⟨this.1, of_decide_eq_true this.2⟩
theorem ahd_nil (hx : row[row.length - 1]? = some x) (h : ahd N row = []) : ∀ y ∈ N x, y ∈ row := by
  intro y hy
  refine Classical.byContradiction fun ny => ?_
  unfold ahd at h
  rw [hx] at h
  have : y ∈ (N x).filter fun y => decide (y ∉ row) := List.mem_filter.mpr ⟨hy, decide_eq_true ny⟩
  dsimp only at h
  rw [h] at this
  cases this
/-- the row, as far as k more places -/
structure Far (n : Int) (N : Int → List Int) (k : Nat) : Prop where
  w : Row n N (stt n N) (rowK N (stt n N) k)
  l : (rowK N (stt n N) k).length = k + 1
theorem Far.zero (g : Grf n N) : Far n N 0 := by
  obtain ⟨s0, s1, _⟩ := stt_is (N := N) g.two
  exact ⟨Row.one s0 s1, rfl⟩
theorem Far.last {k : Nat} (h : Far n N k) : ∃ x, (rowK N (stt n N) k)[(rowK N (stt n N) k).length - 1]? = some x ∧ 0 ≤ x ∧ x < n := by
  have pos := h.w.pos
  have e : (rowK N (stt n N) k)[(rowK N (stt n N) k).length - 1]? = some ((rowK N (stt n N) k)[(rowK N (stt n N) k).length - 1]'(by omega)) := List.getElem?_eq_getElem (by omega)
  exact ⟨_, e, h.w.r _ (List.mem_of_getElem? e)⟩
theorem Far.next {k : Nat} {l : List Int} (g : Grf n N) (deg : ∀ x, 0 ≤ x → x < n → (N x).length ≤ 2) (h : Far n N k) (e : ahd N (rowK N (stt n N) k) = a :: l) : Far n N (k + 1) := by
  obtain ⟨x, hx, _⟩ := h.last
  obtain ⟨m1, m2⟩ := ahd_mem hx e
  refine ⟨?_, ?_⟩
  · rw [rowK_cons e]; exact h.w.add g deg hx m1 m2
  · rw [rowK_cons e, List.length_append, h.l]; rfl
theorem Far.stop {k : Nat} (g : Grf n N) (deg : ∀ x, 0 ≤ x → x < n → (N x).length ≤ 2) (h : Far n N k) (e : ahd N (rowK N (stt n N) k) = []) : (k : Int) + 1 = n ∧ ∀ z, 0 ≤ z → z < n → z ∈ rowK N (stt n N) k := by
  obtain ⟨x, hx, _⟩ := h.last
  obtain ⟨_, _, he⟩ := stt_is (N := N) g.two
  have full := h.w.full g deg hx (ahd_nil hx e) he
  have := h.w.len_eq full
  have := h.l
  have := g.two
  exact ⟨by omega, full⟩
theorem Far.le {k : Nat} (h : Far n N k) : k + 1 ≤ n.toNat := by
  have := h.w.len_le
  rw [h.l] at this
  exact this
end
end UW.Un
namespace UW
open PySem PySem.Spec PyProof.Rows L2
section
variable {X : Cx} {a b c d : Expr} {ta tb tc td : TE} {pos : Pos}
end
section
variable {K : Fg} {E : WX}
def aChain3 (g g' g'' : AO2) (a b c d : AEx) : ATx := fun X α k => a X α fun x => b X α fun y => g x y fun z => ∃ p, z = .d (.bool p) ∧ if p = true then c X α fun w => g' y w fun z2 => ∃ p2, z2 = .d (.bool p2) ∧ if p2 = true then d X α fun u => g'' w u fun z3 => ∃ p3, z3 = .d (.bool p3) ∧ k p3 else k false else k false
theorem a_chain3 {g g' g'' : AO2} {a b c d : AEx} {X : AXr} {α : Afr} {k : Bool → Prop} (h : a X α fun x => b X α fun y => g x y fun z => ∃ p, z = .d (.bool p) ∧ if p = true then c X α fun w => g' y w fun z2 => ∃ p2, z2 = .d (.bool p2) ∧ if p2 = true then d X α fun u => g'' w u fun z3 => ∃ p3, z3 = .d (.bool p3) ∧ k p3 else k false else k false) : aChain3 g g' g'' a b c d X α k := h
end
section
variable {prog : Program} {w : World} {A : Around} {E : Value → Shared → Prop} {s : Shared}
end
section
variable {X : Cx}
end
/-- x[a], x[b] = v, w -/
def aDPut2 (i : Nat) (e e' ek ek' : AEx) : ASt := fun A α => e A.er α fun x => ∃ x', x.cl = some x' ∧ e' A.er α fun y => ∃ y', y.cl = some y' ∧ ∃ c, α[i]? = some (.dic c) ∧ ek A.er α fun ak => ∃ c', DPutA c ak x' c' ∧ ek' A.er (α.set i (.dic c')) fun ak' => ∃ c2, DPutA c' ak' y' c2 ∧ A.nx ((α.set i (.dic c')).set i (.dic c2))
section
variable {K : Fg} {E : WX} {i : Nat}
theorem a_dput2 {e e' ek ek' : AEx} {A : AEn} {α : Afr} (h : e A.er α fun x => ∃ x', x.cl = some x' ∧ e' A.er α fun y => ∃ y', y.cl = some y' ∧ ∃ c, α[i]? = some (.dic c) ∧ ek A.er α fun ak => ∃ c', DPutA c ak x' c' ∧ ek' A.er (α.set i (.dic c')) fun ak' => ∃ c2, DPutA c' ak' y' c2 ∧ A.nx ((α.set i (.dic c')).set i (.dic c2))) : aDPut2 i e e' ek ek' A α := h
end
/-- len of a slot's dict -/
def aLenDV (i : Nat) : AEx := fun _ α k => ∃ kvs, α[i]? = some (.dic (.k kvs)) ∧ k (.d (.int kvs.length))
theorem a_lenDV {i : Nat} {kvs : List (L2.Key × PyData)} {X : AXr} {α : Afr} {k : Avl → Prop} (e : α[i]? = some (.dic (.k kvs))) (h : k (.d (.int kvs.length))) : aLenDV i X α k := ⟨kvs, e, h⟩
instance {g g' g'' : AO2} {a b c d : AEx} {X : AXr} {α : Afr} {k : Bool → Prop} : Wk (aChain3 g g' g'' a b c d X α k) (a X α fun x => b X α fun y => g x y fun z => ∃ p, z = .d (.bool p) ∧ if p = true then c X α fun w => g' y w fun z2 => ∃ p2, z2 = .d (.bool p2) ∧ if p2 = true then d X α fun u => g'' w u fun z3 => ∃ p3, z3 = .d (.bool p3) ∧ k p3 else k false else k false) := ⟨fun h => a_chain3 h⟩
instance {e e' ek ek' : AEx} {A : AEn} {α : Afr} : Wk (aDPut2 i e e' ek ek' A α) (e A.er α fun x => ∃ x', x.cl = some x' ∧ e' A.er α fun y => ∃ y', y.cl = some y' ∧ ∃ c, α[i]? = some (.dic c) ∧ ek A.er α fun ak => ∃ c', DPutA c ak x' c' ∧ ek' A.er (α.set i (.dic c')) fun ak' => ∃ c2, DPutA c' ak' y' c2 ∧ A.nx ((α.set i (.dic c')).set i (.dic c2))) := ⟨fun h => a_dput2 h⟩
instance {i : Nat} {X : AXr} {α : Afr} {k : Avl → Prop} : Rs (aLenDV i X α k) 5 := ⟨trivial⟩
end UW
namespace UW
open PySem PySem.Spec PyProof.Rows L2
def pk (p : Int × Int) : List L2.Key := [.inl p.1, .inl p.2]
def rSortDT (K : Fg) : List V → Hp → VK → Prop := fun vs H Q => ∃ (a : Addr) (kvs : List (List L2.Key × V)) (rs : List (Int × Int)), vs = [V.ref a] ∧ H a = some (.dT kvs) ∧ kvs.map (·.1) = rs.map pk ∧
  ∀ (ys : List V) (qs : List (Int × Int)), qs.Perm rs → qs.Pairwise (fun p q => SrtO.lexB q p = false) → Tps K H ys (qs.map dP) → New Q H (.lst ys)
theorem keys_tps {K : Fg} {H : Hp} : ∀ {kvs : List (List L2.Key × V)} {xs : List (List L2.Key × Addr × Value)} {rs : List (Int × Int)}, Paired (fun (p : List L2.Key × V) (q : List L2.Key × Addr × Value) => p.1 = q.1 ∧ H q.2.1 = some (.tup (p.1.map kV)) ∧ RelV p.2 q.2.2) kvs xs →
    kvs.map (·.1) = rs.map pk → Tps K H (xs.map fun x => V.ref x.2.1) (rs.map dP)
  | _, _, [], .nil, _ => .nil
  | _, _, r :: rs, .nil, h => by cases h
  | _, _, [], .cons _ _, h => by cases h
  | _, _, r :: rs, .cons p t, h => by
    obtain ⟨h1, h2⟩ := List.cons.inj h
    refine .cons ?_ (keys_tps t h2)
    have e := p.2.1
    dsimp only at h1
    rw [h1] at e
    exact Tp.mkpair (SqT.of e)
section
variable {X : Cx}
open SrtO in
theorem cr_sortDT (hcalm : X.calm = true) : CallR X (.builtin "sorted") (rSortDT X.K) := by
  intro pins s σ H vs us Q I r h
  obtain ⟨a, kvs, rs, rfl, hd, hk, q⟩ := h
  obtain ⟨u, rfl, ru⟩ := vals1 r
  obtain rfl : u = Value.ref a := ru
  obtain ⟨hz, lo, xs, pr, o, es, ep, ho, hx, hdat, hes, nd⟩ := (show ObjOk X.prog X.w H s.heap a (.dT kvs) from I.hok a _ hd)
  have tx : Tps X.K H (xs.map fun x => V.ref x.2.1) (rs.map dP) := keys_tps pr hk
  have lx : xs.length = kvs.length := pr.length.symm
  have les : es.size = xs.length := by rw [← Array.length_toList, hes, List.length_map]
  refine Calls.call_function_entry kind_sorted plain_sorted entry_sorted (args_sorted1 _) ?_
  unfold Builtin.«sorted»
  refine wpAny_bind (m := checkCount "sorted" 1 1 _) (wpAny_pure ?_)
  refine wpAny_bind (PySem.W.kdu_collect (A := X.A.in1) (PySem.KdlSrc.rawDict (es := es) (ep := ep) lo) (I.ok.hd hcalm) ⟨o, ho, hx, hdat⟩ (by omega) fun h' tk acc hkp hacc => ?_)
  have eacc : acc.toList = xs.map fun x => Value.ref x.2.1 := by
    refine List.ext_getElem? fun j => ?_
    by_cases hj : j < xs.length
    · have ha : j < acc.size := by rw [hacc.1]; omega
      rw [List.getElem?_map, List.getElem?_eq_getElem hj, Array.getElem?_toList, Array.getElem?_eq_getElem ha]
      obtain ⟨hi, e⟩ := hacc.2 j acc[j] (Array.getElem?_eq_getElem ha)
      rw [e]
      have e2 : es.toList[j]? = some (entryOfKey (tupleKind (mixKind X.prog X.w)) xs[j]) := by rw [hes, List.getElem?_map, List.getElem?_eq_getElem hj]; rfl
      rw [Array.getElem?_toList, Array.getElem?_eq_getElem hi] at e2
      rw [Option.some.inj e2]
      rfl
    · rw [List.getElem?_eq_none (by rw [Array.length_toList, hacc.1]; omega), List.getElem?_eq_none (by rw [List.length_map]; omega)]
  rw [eacc]
  generalize hvs : (xs.map fun x => Value.ref x.2.1) = vs
  have e1 : (xs.map fun x => V.ref x.2.1) = vs.map backV := by rw [← hvs, List.map_map]; rfl
  have e2 : ∀ v ∈ vs, ∃ a, v = Value.ref a := fun v hv => by
    rw [← hvs] at hv
    obtain ⟨y, _, rfl⟩ := List.mem_map.mp hv
    exact ⟨_, rfl⟩
  have lvs : vs.length = xs.length := by rw [← hvs, List.length_map]
  have hzv : vs.length ≤ sizeLine := by omega
  rw [e1] at tx
  have I1 : Inv X pins σ H { s with heap := h', toks := tk } := I.kept hkp
  refine wpAny_bind (wpAny_newList ?_ hzv)
  have hoL : (h'.push (seqObj "list" vs.toArray 0)).get? h'.objs.size = some (seqObj "list" vs.toArray 0) := Heap.get?_push_size _ rfl
  show wpAny _ _ _ _ _ { s with heap := h'.push (seqObj "list" vs.toArray 0), toks := tk }
  have hp : ∀ v ∈ vs, Srt.IsPair h' v (pairAt X.K H (backV v)).1 (pairAt X.K H (backV v)).2 := by
    intro v hv
    obtain ⟨t, rfl⟩ := e2 v hv
    have hm : V.ref t ∈ vs.map backV := List.mem_map.mpr ⟨_, hv, rfl⟩
    obtain ⟨p, hp⟩ := tps_mem tx hm
    have ek : pairAt X.K H (backV (.ref t)) = p := pair_one I hp
    obtain ⟨t', e, ht⟩ := hp.pair
    cases e
    obtain ⟨its2, r2, ⟨o, ho, hc, n, hd⟩, _⟩ := I1.tuple ht.up
    obtain ⟨u1, u2, rfl, ri, rj⟩ := vals2 r2
    obtain ⟨t1, rfl⟩ := ri
    obtain ⟨t2, rfl⟩ := rj
    rw [ek]
    exact ⟨t, o, t1, t2, n, rfl, ho, hc, hd⟩
  have keep : ∀ b o, h'.get? b = some o → b ≠ h'.objs.size ∧ (h'.push (seqObj "list" vs.toArray 0)).get? b = some o := fun b o q => ⟨Nat.ne_of_lt (Heap.lt_size q), Heap.get?_push_of_some _ q⟩
  refine wpAny_bind (wpAny_holding (wpAny_call_entry slot_list_sort ⟨_, hoL, rfl⟩ entry_list_sort (list_sort_ord (s := { s with heap := h'.push (seqObj "list" vs.toArray 0), toks := tk }) (swo_lex fun u => pairAt X.K H (backV u)) hoL hzv (fun h2 => ?_) fun out h1 hb => ⟨_, rfl, ?_⟩) (args_list_sort _)))
  · refine pairs_sortableO (by omega) (fun v hm => (hp v hm).keeps fun b o e _ => (keep b o e).2) fun o e => ?_
    have e' : some o = some (seqObj "list" vs.toArray 0) := e.symm.trans hoL
    cases e'
    intro c
    exact absurd (Value.type.inj c) (by decide)
  · obtain ⟨e', he'⟩ := sortedHeap_at (vs := vs) (out := out.toArray) hoL
    have h3 : ∀ u ∈ out, ∃ a, u = Value.ref a := fun u hu => e2 u (hb.perm.mem_iff.mp hu)
    have pm : (out.map backV).Perm (vs.map backV) := hb.perm.map _
    have qp : ((out.map backV).map (pairAt X.K H)).Perm rs := by
      have := pm.map (pairAt X.K H)
      rw [pairs_map I tx] at this
      exact this
    have ty : Tps X.K H (out.map backV) (((out.map backV).map (pairAt X.K H)).map dP) := by
      refine tps_of_map _ fun y hy => ?_
      obtain ⟨p, hp⟩ := tps_mem tx (pm.mem_iff.mp hy)
      rw [pair_one I hp]
      exact hp
    have srt : ((out.map backV).map (pairAt X.K H)).Pairwise (fun p q => SrtO.lexB q p = false) := by
      rw [List.pairwise_map, List.pairwise_map]
      exact h1
    refine wpAny_pure ⟨_, rfl, .ref h'.objs.size, upd H h'.objs.size (.lst (out.map backV)), I1.laid (t' := tk) (fun b u e => ?_) (Nat.le_refl _) ⟨?_, out, e', vals_back h3, he'⟩, rfl, q _ _ qp srt ty h'.objs.size (I1.hok.fresh (Nat.le_refl _))⟩
    · have hb : b < h'.objs.size := Heap.lt_size e
      rw [sortedHeap_old (Nat.ne_of_lt hb) (by rw [size_push']; exact Nat.lt_succ_of_lt hb)]
      exact Heap.get?_push_of_some _ e
    · rw [pm.length_eq, List.length_map]
      exact hzv
end
/-- sorted(x), x a slot's dict -/
def aSrtKeys (i : Nat) : AEx := fun _ α k => ∃ (kvs : List (List L2.Key × PyData)) (rs : List (Int × Int)), α[i]? = some (.dic (.t kvs)) ∧ kvs.map (·.1) = rs.map pk ∧ ∀ qs : List (Int × Int), qs.Perm rs → qs.Pairwise (fun p q => SrtO.lexB q p = false) → k (.l (qs.map dP))
theorem prs_keys {κ : Type} [DecidableEq κ] {K : Fg} {S : Ads} {H : Hp} : ∀ {ls : List (κ × V)} {kvs : List (κ × PyData)}, Paired (PrD K S H) ls kvs → ls.map (·.1) = kvs.map (·.1)
  | _, _, .nil => rfl
  | _, _, .cons p t => by rw [List.map_cons, List.map_cons, p.1, prs_keys t]
theorem re_srtKeys {K : Fg} {E : WX} {i : Nat} : REx K E (tCB (rSortDT K) (tCons (tVar i) tNil)) (aSrtKeys i) := by
  intro W H0 S0 O S α σ H X k Q f h lk q
  obtain ⟨kvs, rs, h0, hk, h⟩ := h
  obtain ⟨p, a, b, d, hi, nw⟩ := dic_at f h0
  obtain ⟨ls, hp, pr⟩ := d
  refine ⟨_, b, p, ls, rs, rfl, hp, (prs_keys pr).trans hk, fun ys qs h1 h2 t => ?_⟩
  exact Rst.new q f.k t.ods (h qs h1 h2)
end UW
namespace UW
open PySem PySem.Spec PyProof.Rows L2
/-- one step -/
local macro_rules | `(tactic| walk_at "a1") => `(tactic| first
  | with_reducible refine wk ?_
  | (with_reducible refine rs_go 1 ?_
     first
     | with_reducible refine a_var (by with_unfolding_all rfl) (by with_unfolding_all rfl) ?_
     | with_reducible refine a_gtup (by with_unfolding_all rfl) (by with_unfolding_all rfl) ?_
     | with_reducible refine a_glst (by with_unfolding_all rfl) (by with_unfolding_all rfl) ?_)
  | (with_reducible refine rs_go 2 ?_
     first
     | with_reducible refine g_ixT (by with_unfolding_all rfl) (by first | with_unfolding_all rfl | with_unfolding_all exact at_zero _ _) ?_
     | with_reducible refine g_ixL (by with_unfolding_all rfl) (by first | with_unfolding_all rfl | with_unfolding_all exact at_zero _ _) ?_)
  | (with_reducible refine rs_go 3 ?_
     first
     | with_reducible refine g_lenT (by with_unfolding_all rfl) ?_
     | with_reducible refine g_lenL (by with_unfolding_all rfl) ?_
     | with_reducible refine g_tupL (by with_unfolding_all rfl) ?_
     | with_reducible refine g_tupT (by with_unfolding_all rfl) ?_
     | with_reducible refine g_lstT (by with_unfolding_all rfl) ?_
     | with_reducible refine g_lstL (by with_unfolding_all rfl) ?_)
  | (with_reducible refine rs_go 4 ?_
     first
     | with_reducible refine g_addL (by with_unfolding_all rfl) (by with_unfolding_all rfl) (Nat.le_of_ble_eq_true (by with_unfolding_all rfl)) ?_
     | with_reducible refine g_mulI (by first | exact Or.inl ⟨by decide, by decide⟩ | exact Or.inr ⟨by decide, by decide⟩ | (first | (refine Or.inl ⟨?_, ?_⟩ <;> omega) | (refine Or.inr ⟨?_, ?_⟩ <;> omega))) ?_
     | with_reducible refine g_mod (by first | decide | omega) ?_
     | with_reducible refine g_div (by first | decide | omega) (by first | decide | omega) ?_
     | with_reducible refine g_slT (by with_unfolding_all rfl) ?_
     | with_reducible refine g_slL (by with_unfolding_all rfl) ?_
     | with_reducible refine g_isN (by with_unfolding_all rfl) ?_
     | with_reducible refine g_notN (by with_unfolding_all rfl) ?_)
  | (with_reducible refine rs_go 5 ?_
     first
     | with_reducible refine a_dget (by with_unfolding_all rfl) ?_
     | with_reducible refine a_dget2 (by with_unfolding_all rfl) ?_
     | with_reducible refine a_fzq (by with_unfolding_all rfl) ?_
     | with_reducible refine a_retC (by with_unfolding_all rfl) ?_
     | with_reducible refine a_isX (by with_unfolding_all rfl) ?_
     | with_reducible refine a_app (by with_unfolding_all rfl) ?_
     | with_reducible refine a_ext (by with_unfolding_all rfl) ?_
     | with_reducible refine a_pop (by with_unfolding_all rfl) ?_
     | with_reducible refine a_fz (by with_unfolding_all rfl) ?_
     | with_reducible refine a_lenDV (by with_unfolding_all rfl) ?_)
  | (with_reducible refine rs_go 6 ?_
     first
     | with_reducible refine a_cl (by with_unfolding_all rfl) ?_
     | with_reducible refine a_dat (by with_unfolding_all rfl) ?_
     | with_reducible refine a_s1 (by with_unfolding_all rfl) ?_
     | with_reducible refine a_dcy (by with_unfolding_all rfl) ?_
     | with_reducible refine a_s2 (by with_unfolding_all rfl) (by with_unfolding_all rfl) ?_
     | with_reducible refine a_s3 (by with_unfolding_all rfl) (by with_unfolding_all rfl) (by with_unfolding_all rfl) ?_
     | with_reducible refine a_owned (by with_unfolding_all rfl) ?_)
  | (with_reducible refine rs_go 7 ?_
     first
     | with_reducible refine i_B (by with_unfolding_all rfl) ?_
     | with_reducible refine i_T (by with_unfolding_all rfl) ?_
     | with_reducible refine i_L (by with_unfolding_all rfl) ?_)
  | (with_reducible refine rs_go 8 ?_
     first
     | with_reducible refine a_nb (by with_unfolding_all rfl) ?_
     | with_reducible refine a_len (by with_unfolding_all rfl) ?_
     | with_reducible refine a_revT (by with_unfolding_all rfl) ?_
     | with_reducible refine a_revL (by with_unfolding_all rfl) ?_)
  | (with_reducible refine rs_go 9 ?_
     first
     | with_reducible refine iteNT (by with_unfolding_all rfl) ?_
     | with_reducible refine iteNF (by with_unfolding_all rfl) ?_
     | with_reducible refine iteIT (by with_unfolding_all rfl) ?_
     | with_reducible refine iteIF (by with_unfolding_all rfl) ?_))
local macro_rules | `(tactic| walk_at "ax") => `(tactic| (repeat (first | walk_at "a1" | with_reducible refine a_if ?_); try dsimp only [List.set_cons_zero, List.set_cons_succ, awipe, aFrz, List.getElem?_cons_zero, List.getElem?_cons_succ]))
local macro_rules | `(tactic| walk_at "ay") => `(tactic| (repeat (walk_at "a1"); try dsimp only [List.set_cons_zero, List.set_cons_succ, awipe, aFrz, List.getElem?_cons_zero, List.getElem?_cons_succ]))
section
variable {n : Int} {rs : List (Int × Int)} {ms ls : List Int} {x : AXc} {k : Avl → Prop} {C : Cl}
theorem rgI_len {i j : Int} : (rgI i j).length = (j - i).toNat := by unfold rgI; rw [List.length_map, List.length_range]
theorem rgI_at {a b : Int} {i : Nat} {y : PyData} (h : ((rgI a b).map PyData.int)[i]? = some y) : i < (b - a).toNat ∧ y = .int (a + (i : Int)) := by
  have hi := (List.getElem?_eq_some_iff.mp h).1
  rw [List.length_map, rgI_len] at hi
  refine ⟨hi, ?_⟩
  rw [List.getElem?_map] at h
  unfold rgI at h
  rw [List.getElem?_map, List.getElem?_range hi] at h
  exact (Option.some.inj h).symm
/-- how many places are come to from the place 0 -/
def Joined (n : Int) (rs : List (Int × Int)) : Prop := ∀ i, 0 ≤ i → i < n → ∃ k, Rch rs 0 k i
end
end UW
namespace UW
open PySem PySem.Spec PyProof.Rows L2
/-- one step -/
local macro_rules | `(tactic| walk_at "a1") => `(tactic| first
  | with_reducible refine wk ?_
  | (with_reducible refine rs_go 1 ?_
     first
     | with_reducible refine a_var (by with_unfolding_all rfl) (by with_unfolding_all rfl) ?_
     | with_reducible refine a_gtup (by with_unfolding_all rfl) (by with_unfolding_all rfl) ?_
     | with_reducible refine a_glst (by with_unfolding_all rfl) (by with_unfolding_all rfl) ?_)
  | (with_reducible refine rs_go 2 ?_
     first
     | with_reducible refine g_ixT (by with_unfolding_all rfl) (by first | with_unfolding_all rfl | with_unfolding_all exact at_zero _ _) ?_
     | with_reducible refine g_ixL (by with_unfolding_all rfl) (by first | with_unfolding_all rfl | with_unfolding_all exact at_zero _ _) ?_)
  | (with_reducible refine rs_go 3 ?_
     first
     | with_reducible refine g_lenT (by with_unfolding_all rfl) ?_
     | with_reducible refine g_lenL (by with_unfolding_all rfl) ?_
     | with_reducible refine g_tupL (by with_unfolding_all rfl) ?_
     | with_reducible refine g_tupT (by with_unfolding_all rfl) ?_
     | with_reducible refine g_lstT (by with_unfolding_all rfl) ?_
     | with_reducible refine g_lstL (by with_unfolding_all rfl) ?_)
  | (with_reducible refine rs_go 4 ?_
     first
     | with_reducible refine g_addL (by with_unfolding_all rfl) (by with_unfolding_all rfl) (Nat.le_of_ble_eq_true (by with_unfolding_all rfl)) ?_
     | with_reducible refine g_mulI (by first | exact Or.inl ⟨by decide, by decide⟩ | exact Or.inr ⟨by decide, by decide⟩ | (first | (refine Or.inl ⟨?_, ?_⟩ <;> omega) | (refine Or.inr ⟨?_, ?_⟩ <;> omega))) ?_
     | with_reducible refine g_mod (by first | decide | omega) ?_
     | with_reducible refine g_div (by first | decide | omega) (by first | decide | omega) ?_
     | with_reducible refine g_slT (by with_unfolding_all rfl) ?_
     | with_reducible refine g_slL (by with_unfolding_all rfl) ?_
     | with_reducible refine g_isN (by with_unfolding_all rfl) ?_
     | with_reducible refine g_notN (by with_unfolding_all rfl) ?_)
  | (with_reducible refine rs_go 5 ?_
     first
     | with_reducible refine a_dget (by with_unfolding_all rfl) ?_
     | with_reducible refine a_dget2 (by with_unfolding_all rfl) ?_
     | with_reducible refine a_fzq (by with_unfolding_all rfl) ?_
     | with_reducible refine a_retC (by with_unfolding_all rfl) ?_
     | with_reducible refine a_isX (by with_unfolding_all rfl) ?_
     | with_reducible refine a_app (by with_unfolding_all rfl) ?_
     | with_reducible refine a_ext (by with_unfolding_all rfl) ?_
     | with_reducible refine a_pop (by with_unfolding_all rfl) ?_
     | with_reducible refine a_fz (by with_unfolding_all rfl) ?_
     | with_reducible refine a_lenDV (by with_unfolding_all rfl) ?_)
  | (with_reducible refine rs_go 6 ?_
     first
     | with_reducible refine a_cl (by with_unfolding_all rfl) ?_
     | with_reducible refine a_dat (by with_unfolding_all rfl) ?_
     | with_reducible refine a_s1 (by with_unfolding_all rfl) ?_
     | with_reducible refine a_dcy (by with_unfolding_all rfl) ?_
     | with_reducible refine a_s2 (by with_unfolding_all rfl) (by with_unfolding_all rfl) ?_
     | with_reducible refine a_s3 (by with_unfolding_all rfl) (by with_unfolding_all rfl) (by with_unfolding_all rfl) ?_
     | with_reducible refine a_owned (by with_unfolding_all rfl) ?_)
  | (with_reducible refine rs_go 7 ?_
     first
     | with_reducible refine i_B (by with_unfolding_all rfl) ?_
     | with_reducible refine i_T (by with_unfolding_all rfl) ?_
     | with_reducible refine i_L (by with_unfolding_all rfl) ?_)
  | (with_reducible refine rs_go 8 ?_
     first
     | with_reducible refine a_nb (by with_unfolding_all rfl) ?_
     | with_reducible refine a_len (by with_unfolding_all rfl) ?_
     | with_reducible refine a_revT (by with_unfolding_all rfl) ?_
     | with_reducible refine a_revL (by with_unfolding_all rfl) ?_)
  | (with_reducible refine rs_go 9 ?_
     first
     | with_reducible refine iteNT (by with_unfolding_all rfl) ?_
     | with_reducible refine iteNF (by with_unfolding_all rfl) ?_
     | with_reducible refine iteIT (by with_unfolding_all rfl) ?_
     | with_reducible refine iteIF (by with_unfolding_all rfl) ?_))
local macro_rules | `(tactic| walk_at "ax") => `(tactic| (repeat (first | walk_at "a1" | with_reducible refine a_if ?_); try dsimp only [List.set_cons_zero, List.set_cons_succ, awipe, aFrz, List.getElem?_cons_zero, List.getElem?_cons_succ]))
local macro_rules | `(tactic| walk_at "ay") => `(tactic| (repeat (walk_at "a1"); try dsimp only [List.set_cons_zero, List.set_cons_succ, awipe, aFrz, List.getElem?_cons_zero, List.getElem?_cons_succ]))
section
variable {n : Int} {rs : List (Int × Int)} {ms ls : List Int} {x : AXc} {k : Avl → Prop} {C : Cl}
structure Mk (n : Int) (rs : List (Int × Int)) (M : List Int) : Prop where
  nd : M.Nodup
  r : ∀ x ∈ M, (∃ k, Rch rs 0 k x) ∧ 0 ≤ x ∧ x < n
theorem Mk.len {M : List Int} (h : Mk n rs M) : M.length ≤ n.toNat := by
  have := nodup_len (r := iota n.toNat) h.nd fun x hx => by
    have := (h.r x hx).2
    unfold iota
    exact List.mem_map.mpr ⟨x.toNat, List.mem_range.mpr (by omega), by omega⟩
  rwa [iota_len] at this
theorem Mk.all {M : List Int} (h : Mk n rs M) (n0 : 0 ≤ n) (full : ∀ x k, Rch rs 0 k x → 0 ≤ x → x < n → x ∈ M) : ((M.length : Int) < n) ↔ ¬ Joined n rs := by
  have hl := h.len
  constructor
  · intro lt j
    have := nodup_len (l := iota n.toNat) (r := M) (nodup_iota _) fun x hx => by
      unfold iota at hx
      obtain ⟨t, ht, rfl⟩ := List.mem_map.mp hx
      have := List.mem_range.mp ht
      obtain ⟨k, r⟩ := j (t : Int) (by omega) (by omega)
      exact full _ k r (by omega) (by omega)
    rw [iota_len] at this
    omega
  · intro nj
    refine Classical.byContradiction fun ge => nj fun i i0 i1 => ?_
    refine Classical.byContradiction fun z => ?_
    have ni : i ∉ M := fun m => z (h.r i m).1
    have := nodup_len (l := i :: M) (r := iota n.toNat) (List.nodup_cons.mpr ⟨ni, h.nd⟩) fun x hx => by
      have hx' : 0 ≤ x ∧ x < n := by
        rcases List.mem_cons.mp hx with e | e
        · rw [e]; exact ⟨i0, i1⟩
        · exact (h.r x e).2
      unfold iota
      exact List.mem_map.mpr ⟨x.toNat, List.mem_range.mpr (by omega), by omega⟩
    rw [List.length_cons, iota_len] at this
    omega
theorem Mk.add {M : List Int} {x y : Int} (h : Mk n rs M) (hx : x ∈ M) (hy : y ∉ M) (a : Adj rs x y) (hr : Inr n rs) : Mk n rs (M ++ [y]) := by
  refine ⟨?_, fun z hz => ?_⟩
  · rw [List.nodup_append]
    exact ⟨h.nd, by simp, fun c hc b hb e => hy (by rw [List.mem_singleton.mp hb] at e; rw [← e]; exact hc)⟩
  · rcases List.mem_append.mp hz with hz | hz
    · exact h.r z hz
    · rw [List.mem_singleton.mp hz]
      obtain ⟨⟨k, r⟩, _⟩ := h.r x hx
      exact ⟨⟨k + 1, .s r a⟩, adj_rng hr a⟩
end
end UW
namespace UW.Un
open PySem PySem.Spec PyProof.Rows L2 UW
/-- one step -/
local macro_rules | `(tactic| walk_at "a1") => `(tactic| first
  | with_reducible refine wk ?_
  | (with_reducible refine rs_go 1 ?_
     first
     | with_reducible refine a_var (by with_unfolding_all rfl) (by with_unfolding_all rfl) ?_
     | with_reducible refine a_gtup (by with_unfolding_all rfl) (by with_unfolding_all rfl) ?_
     | with_reducible refine a_glst (by with_unfolding_all rfl) (by with_unfolding_all rfl) ?_)
  | (with_reducible refine rs_go 2 ?_
     first
     | with_reducible refine g_ixT (by with_unfolding_all rfl) (by first | with_unfolding_all rfl | with_unfolding_all exact at_zero _ _) ?_
     | with_reducible refine g_ixL (by with_unfolding_all rfl) (by first | with_unfolding_all rfl | with_unfolding_all exact at_zero _ _) ?_)
  | (with_reducible refine rs_go 3 ?_
     first
     | with_reducible refine g_lenT (by with_unfolding_all rfl) ?_
     | with_reducible refine g_lenL (by with_unfolding_all rfl) ?_
     | with_reducible refine g_tupL (by with_unfolding_all rfl) ?_
     | with_reducible refine g_tupT (by with_unfolding_all rfl) ?_
     | with_reducible refine g_lstT (by with_unfolding_all rfl) ?_
     | with_reducible refine g_lstL (by with_unfolding_all rfl) ?_)
  | (with_reducible refine rs_go 4 ?_
     first
     | with_reducible refine g_addL (by with_unfolding_all rfl) (by with_unfolding_all rfl) (Nat.le_of_ble_eq_true (by with_unfolding_all rfl)) ?_
     | with_reducible refine g_mulI (by first | exact Or.inl ⟨by decide, by decide⟩ | exact Or.inr ⟨by decide, by decide⟩ | (first | (refine Or.inl ⟨?_, ?_⟩ <;> omega) | (refine Or.inr ⟨?_, ?_⟩ <;> omega))) ?_
     | with_reducible refine g_mod (by first | decide | omega) ?_
     | with_reducible refine g_div (by first | decide | omega) (by first | decide | omega) ?_
     | with_reducible refine g_slT (by with_unfolding_all rfl) ?_
     | with_reducible refine g_slL (by with_unfolding_all rfl) ?_
     | with_reducible refine g_isN (by with_unfolding_all rfl) ?_
     | with_reducible refine g_notN (by with_unfolding_all rfl) ?_)
  | (with_reducible refine rs_go 5 ?_
     first
     | with_reducible refine a_dget (by with_unfolding_all rfl) ?_
     | with_reducible refine a_dget2 (by with_unfolding_all rfl) ?_
     | with_reducible refine a_fzq (by with_unfolding_all rfl) ?_
     | with_reducible refine a_retC (by with_unfolding_all rfl) ?_
     | with_reducible refine a_isX (by with_unfolding_all rfl) ?_
     | with_reducible refine a_app (by with_unfolding_all rfl) ?_
     | with_reducible refine a_ext (by with_unfolding_all rfl) ?_
     | with_reducible refine a_pop (by with_unfolding_all rfl) ?_
     | with_reducible refine a_fz (by with_unfolding_all rfl) ?_
     | with_reducible refine a_lenDV (by with_unfolding_all rfl) ?_)
  | (with_reducible refine rs_go 6 ?_
     first
     | with_reducible refine a_cl (by with_unfolding_all rfl) ?_
     | with_reducible refine a_dat (by with_unfolding_all rfl) ?_
     | with_reducible refine a_s1 (by with_unfolding_all rfl) ?_
     | with_reducible refine a_dcy (by with_unfolding_all rfl) ?_
     | with_reducible refine a_s2 (by with_unfolding_all rfl) (by with_unfolding_all rfl) ?_
     | with_reducible refine a_s3 (by with_unfolding_all rfl) (by with_unfolding_all rfl) (by with_unfolding_all rfl) ?_
     | with_reducible refine a_owned (by with_unfolding_all rfl) ?_)
  | (with_reducible refine rs_go 7 ?_
     first
     | with_reducible refine i_B (by with_unfolding_all rfl) ?_
     | with_reducible refine i_T (by with_unfolding_all rfl) ?_
     | with_reducible refine i_L (by with_unfolding_all rfl) ?_)
  | (with_reducible refine rs_go 8 ?_
     first
     | with_reducible refine a_nb (by with_unfolding_all rfl) ?_
     | with_reducible refine a_len (by with_unfolding_all rfl) ?_
     | with_reducible refine a_revT (by with_unfolding_all rfl) ?_
     | with_reducible refine a_revL (by with_unfolding_all rfl) ?_)
  | (with_reducible refine rs_go 9 ?_
     first
     | with_reducible refine iteNT (by with_unfolding_all rfl) ?_
     | with_reducible refine iteNF (by with_unfolding_all rfl) ?_
     | with_reducible refine iteIT (by with_unfolding_all rfl) ?_
     | with_reducible refine iteIF (by with_unfolding_all rfl) ?_))
local macro_rules | `(tactic| walk_at "ax") => `(tactic| (repeat (first | walk_at "a1" | with_reducible refine a_if ?_); try dsimp only [List.set_cons_zero, List.set_cons_succ, awipe, aFrz, List.getElem?_cons_zero, List.getElem?_cons_succ]))
local macro_rules | `(tactic| walk_at "ay") => `(tactic| (repeat (walk_at "a1"); try dsimp only [List.set_cons_zero, List.set_cons_succ, awipe, aFrz, List.getElem?_cons_zero, List.getElem?_cons_succ]))
/-- _law_pick, slots urn, items -/
def t__law_pick (K : Fg) : TS :=
  (tRet (tOp (rIx K) (tVar 1) (tG (sp__law_draw K) E00 (tCons (tVar 0) (tCons (tCB (rLenU K) (tCons (tVar 1) tNil)) tNil)))))
abbrev a__law_pick : ASt :=
  (aRet (aOp gIx (aVar 1) (aCall0 m__law_draw (bCons (aVar 0) (bCons (aCB gLen (bCons (aVar 1) bNil)) bNil)))))
theorem f__law_pick {K : Fg} {E : WX} : RSt K E (t__law_pick K) a__law_pick :=
  (rs_ret (re_op ro_ix re_var (re_call0 br__law_draw (rv_cons re_var (rv_cons (re_cb rb_len (rv_cons re_var rv_nil)) rv_nil)))))
def m__law_pick : AFn := mOf 0 a__law_pick
def sp__law_pick (K : Fg) : Sp := SpA K 2 m__law_pick
theorem br__law_pick {K : Fg} : ∀ vs H Q E, SpA K 2 m__law_pick vs H Q E → sp__law_pick K vs H Q E := fun _ _ _ _ h => h
theorem l__law_pick {K : Fg} : ∀ vs H Q E, sp__law_pick K vs H Q E → vs.length = 2 := l_spa
theorem p__law_pick {K : Fg} {vs : List V} {H : Hp} {Q : VK} {E : XK} (h : sp__law_pick K vs H Q E) : t__law_pick K { nx := fun _ H' => Q .non H', rt := Q } (L2.start ["urn", "items"] vs) H :=
  p_spa (f__law_pick) h rfl
/-- _law_mixed, slots urn, items, left, found -/
def t__law_mixed (K : Fg) : TS :=
  (tSeq (tPar 2 3 (tCons (tCB (rLstOf K) (tCons (tVar 1) tNil)) (tCons (tLst tNil) tNil))) (tSeq (tWhile (tTest (tOp (rNeU K) (tVar 2) (tLst tNil)))
    (tDrop (tBM K "list" rAppend (tVar 3) (tCons (tBM K "list" rPopAt (tVar 2) (tCons (tG (sp__law_draw K) E00 (tCons (tVar 0) (tCons (tCB (rLenU K) (tCons (tVar 2) tNil)) tNil))) tNil)) tNil)))) (tRet (tVar 3))))
abbrev a__law_mixed_0 : ASt :=
  (aSeq (aWhile (aB (aOp gNe (aVar 2) (aLst aNil))) (aAppPop 3 2 (aCall0 m__law_draw (bCons (aVar 0) (bCons (aCB gLen (bCons (aVar 2) bNil)) bNil))))) (aRet (aVar 3)))
abbrev a__law_mixed : ASt :=
  (aSeq (aSet2 2 3 (aCB gLstOf (bCons (aVar 1) bNil)) (aLst aNil)) a__law_mixed_0)
theorem f__law_mixed {K : Fg} {E : WX} : RSt K E (t__law_mixed K) a__law_mixed :=
  (rs_seq (rs_set2 (re_cb rb_lstOf (rv_cons re_var rv_nil)) (re_lst ra_nil)) (rs_seq (rs_while (rt_test (re_op ro_ne re_var (re_lst ra_nil)))
    (rs_appPop (re_call0 br__law_draw (rv_cons re_var (rv_cons (re_cb rb_len (rv_cons re_var rv_nil)) rv_nil))))) (rs_ret re_var)))
def m__law_mixed : AFn := mOf 2 a__law_mixed
def sp__law_mixed (K : Fg) : Sp := SpA K 2 m__law_mixed
theorem br__law_mixed {K : Fg} : ∀ vs H Q E, SpA K 2 m__law_mixed vs H Q E → sp__law_mixed K vs H Q E := fun _ _ _ _ h => h
theorem l__law_mixed {K : Fg} : ∀ vs H Q E, sp__law_mixed K vs H Q E → vs.length = 2 := l_spa
theorem p__law_mixed {K : Fg} {vs : List V} {H : Hp} {Q : VK} {E : XK} (h : sp__law_mixed K vs H Q E) : t__law_mixed K { nx := fun _ H' => Q .non H', rt := Q } (L2.start ["urn", "items", "left", "found"] vs) H :=
  p_spa (f__law_mixed) h rfl
section
variable {x : AXc} {k : Avl → Prop} {s : Int} {rs : List (Int × Int)} {C : Cl}
theorem atI_toNat {α : Type} {xs : List α} {r : Int} {y : α} (h0 : 0 ≤ r) (h : xs[r.toNat]? = some y) : atI xs r = some y := by
  obtain ⟨n, rfl⟩ : ∃ n : Nat, r = n := ⟨r.toNat, by omega⟩
  exact atI_nat h
theorem erase_perm {α : Type} : ∀ {l : List α} {i : Nat} (h : i < l.length), (l[i] :: l.eraseIdx i).Perm l
  | x :: l, 0, _ => .refl _
  | x :: l, i + 1, h => by
    rw [List.getElem_cons_succ, List.eraseIdx_cons_succ]
    exact (List.Perm.swap ..).trans ((erase_perm (by simpa using h)).cons x)
theorem s__law_pick {ds : List PyData} (hd : ds ≠ []) (hl : ds.length ≤ 1000) (h : ∀ d ∈ ds, k (.d d)) : m__law_pick [.wl 1, .l ds] x k := by
  show a__law_pick _ [.wl 1, .d (.list ds)]
  have := List.length_pos_iff.mpr hd
  walk_at "ax"
  refine ⟨_, rfl, by omega, by omega, fun r r0 r1 => ?_⟩
  walk_at "ax"
  have hr : r.toNat < ds.length := by omega
  refine g_ixL rfl (atI_toNat r0 (List.getElem?_eq_getElem hr)) ?_
  exact h _ (List.getElem_mem _)
theorem eqv_list_nil (ds : List PyData) : PyData.eqv (.list ds) (.list []) = decide (ds = []) := by
  cases ds with
  | nil => simp [PyData.eqv, PyData.eqvAll]
  | cons d ds => simp [PyData.eqv, PyData.eqvAll]
/-- plain enough to be compared -/
def Pln (d : PyData) : Prop := d.canLay0 = true ∧ d.depth ≤ 5
theorem shaped_list : ∀ {ds : List PyData}, (∀ d ∈ ds, Pln d) → SeqAt.shaped (.list ds) = true := by
  intro ds h
  have a : PyData.canLayAll0 ds = true ∧ PyData.depthAll ds ≤ 5 := by
    induction ds with
    | nil => exact ⟨by simp [PyData.canLayAll0], by simp [PyData.depthAll]⟩
    | cons d ds ih =>
      obtain ⟨h1, h2⟩ := ih fun e he => h e (List.mem_cons_of_mem _ he)
      obtain ⟨h3, h4⟩ := h d (List.mem_cons_self ..)
      refine ⟨by simp [PyData.canLayAll0, h1, h3], ?_⟩
      simp only [PyData.depthAll]
      omega
  exact shaped_of (by simp only [PyData.canLay0]; exact a.1) (by simp only [PyData.depth]; omega)
theorem s__law_mixed {a : Avl} {ds : List PyData} (ha : a.inn = .d (.list ds)) (hl : ds.length ≤ 60000) (hp : ∀ d ∈ ds, Pln d) (h : ∀ es : List PyData, es.Perm ds → k (.l es)) : m__law_mixed [.wl 1, a] x k := by
  show a__law_mixed _ [.wl 1, a.inn, .x, .x]
  rw [ha]
  walk_at "ax"
  refine a_while (fun m α => ∃ rest found : List PyData, α = [.wl 1, .d (.list ds), .own rest, .own found] ∧ (found ++ rest).Perm ds ∧ rest.length = m) ds.length ⟨ds, [], rfl, .refl _, rfl⟩ ?_
  rintro m α ⟨rest, found, rfl, pm, rfl⟩
  have pl := pm.length_eq
  rw [List.length_append] at pl
  walk_at "ax"
  refine g_neD rfl rfl (shaped_list fun d hd => hp d (pm.mem_iff.mp (List.mem_append.mpr (.inr hd)))) rfl ?_
  rw [eqv_list_nil]
  walk_at "ax"
  refine s_ndec (fun hne => ?_) (fun hne => ?_)
  · have := List.length_pos_iff.mpr hne
    refine a_appPop ⟨found, rest, rfl, rfl, by decide, ?_⟩
    walk_at "ax"
    refine ⟨_, rfl, by omega, by omega, fun r r0 r1 => ?_⟩
    walk_at "ax"
    have hr : r.toNat < rest.length := by omega
    refine ⟨r.toNat, rest[r.toNat], by rw [show ((r.toNat : Nat) : Int) = r by omega], List.getElem?_eq_getElem hr, by omega, by omega, ?_⟩
    refine ⟨_, ?_, _, _, rfl, ?_, rfl⟩
    · rw [List.length_eraseIdx, if_pos hr]
      omega
    · refine List.Perm.trans ?_ pm
      rw [List.append_assoc]
      refine List.Perm.append_left _ ?_
      exact erase_perm hr
  · subst hne
    walk_at "ax"
    rw [List.append_nil] at pm
    exact h _ pm
theorem iota_at' {n i : Nat} {d : PyData} (h : ((iota n).map PyData.int)[i]? = some d) : d = .int i ∧ i < n := by
  unfold iota at h
  rw [List.map_map, List.getElem?_map] at h
  cases e : (List.range n)[i]? with
  | none => rw [e] at h; cases h
  | some j =>
    rw [e] at h
    have hi := (List.getElem?_eq_some_iff.mp e).1
    rw [List.length_range] at hi
    rw [List.getElem?_range hi] at e
    cases e
    exact ⟨(Option.some.inj h).symm, hi⟩
theorem pln_int (i : Int) : Pln (.int i) := ⟨by simp [PyData.canLay0], by simp [PyData.depth]⟩
theorem pln_map {κ : Type} {f : κ → PyData} (h : ∀ c, Pln (f c)) {l : List κ} : ∀ d ∈ l.map f, Pln d := fun d hd => by
  obtain ⟨c, _, rfl⟩ := List.mem_map.mp hd
  exact h c
theorem perm_unmap {κ β : Type} {f : κ → β} {es ds : List β} (pm : es.Perm ds) : ∀ {l : List κ}, ds = l.map f → ∃ ns : List κ, ns.Perm l ∧ es = ns.map f := by
  induction pm with
  | nil =>
    intro l e
    cases l with
    | nil => exact ⟨[], .refl _, rfl⟩
    | cons p l => cases e
  | cons x _ ih =>
    intro l e
    cases l with
    | nil => cases e
    | cons p l =>
      obtain ⟨rfl, e2⟩ := List.cons.inj e
      obtain ⟨ns, a, rfl⟩ := ih e2
      exact ⟨p :: ns, a.cons p, rfl⟩
  | swap x y r =>
    intro l e
    cases l with
    | nil => cases e
    | cons p l =>
      cases l with
      | nil => cases (List.cons.inj e).2
      | cons q l =>
        obtain ⟨rfl, e2⟩ := List.cons.inj e
        obtain ⟨rfl, rfl⟩ := List.cons.inj e2
        exact ⟨q :: p :: l, .swap .., rfl⟩
  | trans _ _ ih1 ih2 =>
    intro l e
    obtain ⟨ns, a, rfl⟩ := ih2 e
    obtain ⟨ts, b, rfl⟩ := ih1 rfl
    exact ⟨ts, b.trans a, rfl⟩
end
end UW.Un
namespace UW.Un
open PySem PySem.Spec PyProof.Rows L2 UW
/-- one step -/
local macro_rules | `(tactic| walk_at "a1") => `(tactic| first
  | with_reducible refine wk ?_
  | (with_reducible refine rs_go 1 ?_
     first
     | with_reducible refine a_var (by with_unfolding_all rfl) (by with_unfolding_all rfl) ?_
     | with_reducible refine a_gtup (by with_unfolding_all rfl) (by with_unfolding_all rfl) ?_
     | with_reducible refine a_glst (by with_unfolding_all rfl) (by with_unfolding_all rfl) ?_)
  | (with_reducible refine rs_go 2 ?_
     first
     | with_reducible refine g_ixT (by with_unfolding_all rfl) (by first | with_unfolding_all rfl | with_unfolding_all exact at_zero _ _) ?_
     | with_reducible refine g_ixL (by with_unfolding_all rfl) (by first | with_unfolding_all rfl | with_unfolding_all exact at_zero _ _) ?_)
  | (with_reducible refine rs_go 3 ?_
     first
     | with_reducible refine g_lenT (by with_unfolding_all rfl) ?_
     | with_reducible refine g_lenL (by with_unfolding_all rfl) ?_
     | with_reducible refine g_tupL (by with_unfolding_all rfl) ?_
     | with_reducible refine g_tupT (by with_unfolding_all rfl) ?_
     | with_reducible refine g_lstT (by with_unfolding_all rfl) ?_
     | with_reducible refine g_lstL (by with_unfolding_all rfl) ?_)
  | (with_reducible refine rs_go 4 ?_
     first
     | with_reducible refine g_addL (by with_unfolding_all rfl) (by with_unfolding_all rfl) (Nat.le_of_ble_eq_true (by with_unfolding_all rfl)) ?_
     | with_reducible refine g_mulI (by first | exact Or.inl ⟨by decide, by decide⟩ | exact Or.inr ⟨by decide, by decide⟩ | (first | (refine Or.inl ⟨?_, ?_⟩ <;> omega) | (refine Or.inr ⟨?_, ?_⟩ <;> omega))) ?_
     | with_reducible refine g_mod (by first | decide | omega) ?_
     | with_reducible refine g_div (by first | decide | omega) (by first | decide | omega) ?_
     | with_reducible refine g_slT (by with_unfolding_all rfl) ?_
     | with_reducible refine g_slL (by with_unfolding_all rfl) ?_
     | with_reducible refine g_isN (by with_unfolding_all rfl) ?_
     | with_reducible refine g_notN (by with_unfolding_all rfl) ?_)
  | (with_reducible refine rs_go 5 ?_
     first
     | with_reducible refine a_dget (by with_unfolding_all rfl) ?_
     | with_reducible refine a_dget2 (by with_unfolding_all rfl) ?_
     | with_reducible refine a_fzq (by with_unfolding_all rfl) ?_
     | with_reducible refine a_retC (by with_unfolding_all rfl) ?_
     | with_reducible refine a_isX (by with_unfolding_all rfl) ?_
     | with_reducible refine a_app (by with_unfolding_all rfl) ?_
     | with_reducible refine a_ext (by with_unfolding_all rfl) ?_
     | with_reducible refine a_pop (by with_unfolding_all rfl) ?_
     | with_reducible refine a_fz (by with_unfolding_all rfl) ?_
     | with_reducible refine a_lenDV (by with_unfolding_all rfl) ?_)
  | (with_reducible refine rs_go 6 ?_
     first
     | with_reducible refine a_cl (by with_unfolding_all rfl) ?_
     | with_reducible refine a_dat (by with_unfolding_all rfl) ?_
     | with_reducible refine a_s1 (by with_unfolding_all rfl) ?_
     | with_reducible refine a_dcy (by with_unfolding_all rfl) ?_
     | with_reducible refine a_s2 (by with_unfolding_all rfl) (by with_unfolding_all rfl) ?_
     | with_reducible refine a_s3 (by with_unfolding_all rfl) (by with_unfolding_all rfl) (by with_unfolding_all rfl) ?_
     | with_reducible refine a_owned (by with_unfolding_all rfl) ?_)
  | (with_reducible refine rs_go 7 ?_
     first
     | with_reducible refine i_B (by with_unfolding_all rfl) ?_
     | with_reducible refine i_T (by with_unfolding_all rfl) ?_
     | with_reducible refine i_L (by with_unfolding_all rfl) ?_)
  | (with_reducible refine rs_go 8 ?_
     first
     | with_reducible refine a_nb (by with_unfolding_all rfl) ?_
     | with_reducible refine a_len (by with_unfolding_all rfl) ?_
     | with_reducible refine a_revT (by with_unfolding_all rfl) ?_
     | with_reducible refine a_revL (by with_unfolding_all rfl) ?_)
  | (with_reducible refine rs_go 9 ?_
     first
     | with_reducible refine iteNT (by with_unfolding_all rfl) ?_
     | with_reducible refine iteNF (by with_unfolding_all rfl) ?_
     | with_reducible refine iteIT (by with_unfolding_all rfl) ?_
     | with_reducible refine iteIF (by with_unfolding_all rfl) ?_))
local macro_rules | `(tactic| walk_at "ax") => `(tactic| (repeat (first | walk_at "a1" | with_reducible refine a_if ?_); try dsimp only [List.set_cons_zero, List.set_cons_succ, awipe, aFrz, List.getElem?_cons_zero, List.getElem?_cons_succ]))
local macro_rules | `(tactic| walk_at "ay") => `(tactic| (repeat (walk_at "a1"); try dsimp only [List.set_cons_zero, List.set_cons_succ, awipe, aFrz, List.getElem?_cons_zero, List.getElem?_cons_succ]))
/-- _law_shape, slots urn, kind, size, line, spots, spot, middle, rows, row, pairs, turn, one, place, k, column -/
def t__law_shape (K : Fg) : TS :=
  (tSeq (tAsg (tLc (iRng1 (tCons (tOp rSubI (tVar 2) (tC (.int 1))) tNil)) (gName
    12) tYes (tTup (tCons (tVar 12) (tCons (tOp (rAddU K) (tVar 12) (tC (.int 1))) tNil))) [12]) (gName 3)) (tSeq (tIfS (tTest (tOp (rEqU K) (tVar 1) (tC (.str "path")))) (tRet (tTup (tCons (tVar 2) (tCons (tVar 3) tNil)))) tNext)
    (tSeq (tIfS (tTest (tOp (rEqU K) (tVar 1) (tC (.str "ring")))) (tRet (tTup (tCons (tVar 2) (tCons (tOp (rAddU K) (tVar 3) (tLst (tCons (tTup (tCons (tC (.int 0)) (tCons (tOp rSubI (tVar 2) (tC (.int 1))) tNil))) tNil)))
    tNil)))) tNext) (tSeq (tIfS (tTest (tOp (rEqU K) (tVar 1) (tC (.str "parted")))) (tSeq (tPar 4 9 (tCons (tCB rMax2 (tCons (tC (.int 3)) (tCons (tOp rDivI (tCB rInt (tCons (tOp (rAddU K) (tVar 2) (tC (.int 1))) tNil)) (tC (.int
    2))) tNil))) (tCons (tLst tNil) tNil))) (tSeq (tFor (iRng2 (tCons (tC (.int 1)) (tCons (tVar 4) tNil))) (gName 5) (tSeq (tAsg (tOp rSubI (tOp (rAddU K) (tVar 4) (tVar 5)) (tC (.int 1))) (gName 6)) (tAsg (tOp (rAddU K) (tVar 9)
    (tLst (tCons (tTup (tCons (tG (sp__law_draw K) E00 (tCons (tVar 0) (tCons (tVar 5) tNil))) (tCons (tVar 6) tNil))) (tCons (tTup (tCons (tVar 5) (tCons (tVar 6) tNil))) tNil)))) (gName 9)))) (tRet (tTup (tCons (tOp rSubI (tOp
    (rMulU K) (tC (.int 2)) (tVar 4)) (tC (.int 1))) (tCons (tVar 9) tNil)))))) tNext) (tSeq (tIfS (tTest (tOp (rEqU K) (tVar 1) (tC (.str "full")))) (tSeq (tAsg (tCB rMin2 (tCons (tVar 2) (tCons (tC (.int 9)) tNil))) (gName 2))
    (tRet (tTup (tCons (tVar 2) (tCons (tLc (iRng1 (tCons (tOp (rMulU K) (tVar 2) (tVar 2)) tNil)) (gName 13) (tTest (tOp (rLtU K) (tCB rInt (tCons (tOp rDivI (tVar 13) (tVar 2)) tNil)) (tOp rModI (tCB rInt (tCons (tVar 13) tNil))
    (tVar 2)))) (tTup (tCons (tCB rInt (tCons (tOp rDivI (tVar 13) (tVar 2)) tNil)) (tCons (tOp rModI (tCB rInt (tCons (tVar 13) tNil)) (tVar 2)) tNil))) [13]) tNil))))) tNext) (tSeq (tIfS (tTest (tOp (rEqU K) (tVar 1) (tC (.str
    "board")))) (tSeq (tPar 7 9 (tCons (tOp (rAddU K) (tC (.int 1)) (tG (sp__law_draw K) E00 (tCons (tVar 0) (tCons (tCB rMin2 (tCons (tC (.int 4)) (tCons (tOp rSubI (tVar 2) (tC (.int 1))) tNil))) tNil)))) (tCons (tLst tNil)
    tNil))) (tSeq (tWhile (tTest (tOp rGtI (tOp (rMulU K) (tVar 7) (tOp rSubI (tVar 2) (tVar 7))) (tC (.int 40)))) (tAsg (tOp rSubI (tVar 7) (tC (.int 1))) (gName 7))) (tSeq (tFor (iRng1 (tCons (tVar 7) tNil)) (gName 8) (tAsg (tOp
    (rAddU K) (tVar 9) (tLc (iRng2 (tCons (tVar 7) (tCons (tVar 2) tNil))) (gName 14) tYes (tTup (tCons (tVar 8) (tCons (tVar 14) tNil))) [14])) (gName 9))) (tRet (tTup (tCons (tVar 2) (tCons (tVar 9) tNil))))))) tNext) (tSeq (tAsg
    (tLc (iRng2 (tCons (tC (.int 1)) (tCons (tVar 2) tNil))) (gName 12) tYes (tTup (tCons (tG (sp__law_draw K) E00 (tCons (tVar 0) (tCons (tVar 12) tNil))) (tCons (tVar 12) tNil))) [12]) (gName 9)) (tSeq (tFor (iRng1 (tCons (tIf
    (tTest (tOp (rEqU K) (tVar 1) (tC (.str "tree")))) (tC (.int 0)) (tOp (rAddU K) (tC (.int 1)) (tG (sp__law_draw K) E00 (tCons (tVar 0) (tCons (tC (.int 4)) tNil))))) tNil)) (gName 10) (tSeq (tAsg (tG (sp__law_draw K) E00 (tCons
    (tVar 0) (tCons (tVar 2) tNil))) (gName 11)) (tDrop (tBM K "list" rAppend (tVar 9) (tCons (tTup (tCons (tVar 11) (tCons (tOp rModI (tCB rInt (tCons (tOp (rAddU K) (tOp (rAddU K) (tVar 11) (tC (.int 1))) (tG (sp__law_draw K) E00
    (tCons (tVar 0) (tCons (tOp rSubI (tVar 2) (tC (.int 1))) tNil)))) tNil)) (tVar 2)) tNil))) tNil))))) (tRet (tTup (tCons (tVar 2) (tCons (tVar 9) tNil))))))))))))
abbrev a__law_shape_0 : ASt :=
  (aApp 9 (aTup (aCons (aVar 11) (aCons (aOp gMod (aCB gInt (bCons (aOp gAdd (aOp gAdd (aVar 11) (aC (.int 1))) (aCall0 m__law_draw (bCons (aVar 0) (bCons (aOp gSub' (aVar 2) (aC (.int 1))) bNil))))
    bNil)) (aVar 2)) aNil))))
abbrev a__law_shape_1 : ASt :=
  (aFz 9 (aRet (aTup (aCons (aVar 2) (aCons (aVar 9) aNil)))))
abbrev a__law_shape_2 : ASt :=
  (aSeq (aFor (aRng1 (bCons (aIf (aB (aOp gEq (aVar 1) (aC (.str "tree")))) (aC (.int 0)) (aOp gAdd (aC (.int 1)) (aCall0 m__law_draw (bCons (aVar 0) (bCons (aC (.int 4)) bNil))))) bNil)) (agName 10)
    (aSeq (aAsg (aCall0 m__law_draw (bCons (aVar 0) (bCons (aVar 2) bNil))) (agName 11)) a__law_shape_0)) a__law_shape_1)
abbrev a__law_shape_3 : ASt :=
  (aFz 9 (aRet (aTup (aCons (aVar 2) (aCons (aVar 9) aNil)))))
abbrev a__law_shape_4 : ASt :=
  (aSeq (aFor (aRng1 (bCons (aVar 7) bNil)) (agName 8) (aSet 9 (aOp gAdd (aVar 9) (aLc (aRng2 (bCons (aVar 7) (bCons (aVar 2) bNil))) (agName 14) aYes (aTup (aCons (aVar 8) (aCons (aVar 14) aNil)))
    [14])))) a__law_shape_3)
abbrev a__law_shape_5 : ASt :=
  (aSeq (aWhile (aB (aOp gGt (aOp gMul (aVar 7) (aOp gSub' (aVar 2) (aVar 7))) (aC (.int 40)))) (aAsg (aOp gSub' (aVar 7) (aC (.int 1))) (agName 7))) a__law_shape_4)
abbrev a__law_shape_6 : ASt :=
  (aSeq (aSet 9 (aLc (aRng2 (bCons (aC (.int 1)) (bCons (aVar 2) bNil))) (agName 12) aYes (aTup (aCons (aCall0 m__law_draw (bCons (aVar 0) (bCons (aVar 12) bNil))) (aCons (aVar 12) aNil))) [12]))
    a__law_shape_2)
abbrev a__law_shape_7 : ASt :=
  (aRet (aTup (aCons (aVar 2) (aCons (aLc (aRng1 (bCons (aOp gMul (aVar 2) (aVar 2)) bNil)) (agName 13) (aB (aOp gLt (aCB gInt (bCons (aOp gDiv (aVar 13) (aVar 2)) bNil)) (aOp gMod (aCB gInt (bCons
    (aVar 13) bNil)) (aVar 2)))) (aTup (aCons (aCB gInt (bCons (aOp gDiv (aVar 13) (aVar 2)) bNil)) (aCons (aOp gMod (aCB gInt (bCons (aVar 13) bNil)) (aVar 2)) aNil))) [13]) aNil))))
abbrev a__law_shape_8 : ASt :=
  (aSeq (aIfS (aB (aOp gEq (aVar 1) (aC (.str "board")))) (aSeq (aSet2 7 9 (aOp gAdd (aC (.int 1)) (aCall0 m__law_draw (bCons (aVar 0) (bCons (aCB gMin2 (bCons (aC (.int 4)) (bCons (aOp gSub' (aVar 2)
    (aC (.int 1))) bNil))) bNil)))) (aLst aNil)) a__law_shape_5) aNext) a__law_shape_6)
abbrev a__law_shape_9 : ASt :=
  (aSet 9 (aOp gAdd (aVar 9) (aLst (aCons (aTup (aCons (aCall0 m__law_draw (bCons (aVar 0) (bCons (aVar 5) bNil))) (aCons (aVar 6) aNil))) (aCons (aTup (aCons (aVar 5) (aCons (aVar 6) aNil)))
    aNil)))))
abbrev a__law_shape_10 : ASt :=
  (aFz 9 (aRet (aTup (aCons (aOp gSub' (aOp gMul (aC (.int 2)) (aVar 4)) (aC (.int 1))) (aCons (aVar 9) aNil)))))
abbrev a__law_shape_11 : ASt :=
  (aSeq (aFor (aRng2 (bCons (aC (.int 1)) (bCons (aVar 4) bNil))) (agName 5) (aSeq (aAsg (aOp gSub' (aOp gAdd (aVar 4) (aVar 5)) (aC (.int 1))) (agName 6)) a__law_shape_9)) a__law_shape_10)
abbrev a__law_shape_12 : ASt :=
  (aSeq (aIfS (aB (aOp gEq (aVar 1) (aC (.str "full")))) (aSeq (aAsg (aCB gMin2 (bCons (aVar 2) (bCons (aC (.int 9)) bNil))) (agName 2)) a__law_shape_7) aNext) a__law_shape_8)
abbrev a__law_shape_13 : ASt :=
  (aSeq (aIfS (aB (aOp gEq (aVar 1) (aC (.str "parted")))) (aSeq (aSet2 4 9 (aCB gMax2 (bCons (aC (.int 3)) (bCons (aOp gDiv (aCB gInt (bCons (aOp gAdd (aVar 2) (aC (.int 1))) bNil)) (aC (.int 2)))
    bNil))) (aLst aNil)) a__law_shape_11) aNext) a__law_shape_12)
abbrev a__law_shape_14 : ASt :=
  (aSeq (aIfS (aB (aOp gEq (aVar 1) (aC (.str "ring")))) (aRet (aTup (aCons (aVar 2) (aCons (aOp gAdd (aVar 3) (aLst (aCons (aTup (aCons (aC (.int 0)) (aCons (aOp gSub' (aVar 2) (aC (.int 1)))
    aNil))) aNil))) aNil)))) aNext) a__law_shape_13)
abbrev a__law_shape_15 : ASt :=
  (aSeq (aIfS (aB (aOp gEq (aVar 1) (aC (.str "path")))) (aRet (aTup (aCons (aVar 2) (aCons (aVar 3) aNil)))) aNext) a__law_shape_14)
abbrev a__law_shape : ASt :=
  (aSeq (aAsg (aLc (aRng1 (bCons (aOp gSub' (aVar 2) (aC (.int 1))) bNil)) (agName 12) aYes (aTup (aCons (aVar 12) (aCons (aOp gAdd (aVar 12) (aC (.int 1))) aNil))) [12]) (agName 3)) a__law_shape_15)
theorem f__law_shape {K : Fg} {E : WX} : RSt K E (t__law_shape K) a__law_shape :=
  (rs_seq (rs_asg (re_lc (ri_rng1 (rv_cons (re_op ro_sub re_var re_int) rv_nil)) rg_name rt_yes (re_tup (ra_cons re_var (ra_cons (re_op ro_add re_var
    re_int) ra_nil))) (by rfl)) rg_name) (rs_seq (rs_ifs (rt_test (re_op ro_eq re_var re_str)) (rs_ret (re_tup (ra_cons re_var (ra_cons re_var ra_nil)))) rs_next) (rs_seq (rs_ifs (rt_test (re_op ro_eq re_var re_str)) (rs_ret
    (re_tup (ra_cons re_var (ra_cons (re_op ro_add re_var (re_lst (ra_cons (re_tup (ra_cons re_int (ra_cons (re_op ro_sub re_var re_int) ra_nil))) ra_nil))) ra_nil)))) rs_next) (rs_seq (rs_ifs (rt_test (re_op ro_eq re_var re_str))
    (rs_seq (rs_set2 (re_cb rb_max2 (rv_cons re_int (rv_cons (re_op ro_div (re_cb rb_int (rv_cons (re_op ro_add re_var re_int) rv_nil)) re_int) rv_nil))) (re_lst ra_nil)) (rs_seq (rs_for (ri_rng2 (rv_cons re_int (rv_cons re_var
    rv_nil))) rg_name (rs_seq (rs_asg (re_op ro_sub (re_op ro_add re_var re_var) re_int) rg_name) (rs_set (re_op ro_add re_var (re_lst (ra_cons (re_tup (ra_cons (re_call0 br__law_draw (rv_cons re_var (rv_cons re_var rv_nil)))
    (ra_cons re_var ra_nil))) (ra_cons (re_tup (ra_cons re_var (ra_cons re_var ra_nil))) ra_nil))))))) (rs_fz (rs_ret (re_tup (ra_cons (re_op ro_sub (re_op ro_mul re_int re_var) re_int) (ra_cons re_var ra_nil))))))) rs_next)
    (rs_seq (rs_ifs (rt_test (re_op ro_eq re_var re_str)) (rs_seq (rs_asg (re_cb rb_min2 (rv_cons re_var (rv_cons re_int rv_nil))) rg_name) (rs_ret (re_tup (ra_cons re_var (ra_cons (re_lc (ri_rng1 (rv_cons (re_op ro_mul re_var
    re_var) rv_nil)) rg_name (rt_test (re_op ro_lt (re_cb rb_int (rv_cons (re_op ro_div re_var re_var) rv_nil)) (re_op ro_mod (re_cb rb_int (rv_cons re_var rv_nil)) re_var))) (re_tup (ra_cons (re_cb rb_int (rv_cons (re_op ro_div
    re_var re_var) rv_nil)) (ra_cons (re_op ro_mod (re_cb rb_int (rv_cons re_var rv_nil)) re_var) ra_nil))) (by rfl)) ra_nil))))) rs_next) (rs_seq (rs_ifs (rt_test (re_op ro_eq re_var re_str)) (rs_seq (rs_set2 (re_op ro_add re_int
    (re_call0 br__law_draw (rv_cons re_var (rv_cons (re_cb rb_min2 (rv_cons re_int (rv_cons (re_op ro_sub re_var re_int) rv_nil))) rv_nil)))) (re_lst ra_nil)) (rs_seq (rs_while (rt_test (re_op ro_gt (re_op ro_mul re_var (re_op
    ro_sub re_var re_var)) re_int)) (rs_asg (re_op ro_sub re_var re_int) rg_name)) (rs_seq (rs_for (ri_rng1 (rv_cons re_var rv_nil)) rg_name (rs_set (re_op ro_add re_var (re_lc (ri_rng2 (rv_cons re_var (rv_cons re_var rv_nil)))
    rg_name rt_yes (re_tup (ra_cons re_var (ra_cons re_var ra_nil))) (by rfl))))) (rs_fz (rs_ret (re_tup (ra_cons re_var (ra_cons re_var ra_nil)))))))) rs_next) (rs_seq (rs_set (re_lc (ri_rng2 (rv_cons re_int (rv_cons re_var
    rv_nil))) rg_name rt_yes (re_tup (ra_cons (re_call0 br__law_draw (rv_cons re_var (rv_cons re_var rv_nil))) (ra_cons re_var ra_nil))) (by rfl))) (rs_seq (rs_for (ri_rng1 (rv_cons (re_if (rt_test (re_op ro_eq re_var re_str))
    re_int (re_op ro_add re_int (re_call0 br__law_draw (rv_cons re_var (rv_cons re_int rv_nil))))) rv_nil)) rg_name (rs_seq (rs_asg (re_call0 br__law_draw (rv_cons re_var (rv_cons re_var rv_nil))) rg_name) (rs_app (re_tup (ra_cons
    re_var (ra_cons (re_op ro_mod (re_cb rb_int (rv_cons (re_op ro_add (re_op ro_add re_var re_int) (re_call0 br__law_draw (rv_cons re_var (rv_cons (re_op ro_sub re_var re_int) rv_nil)))) rv_nil)) re_var) ra_nil)))))) (rs_fz
    (rs_ret (re_tup (ra_cons re_var (ra_cons re_var ra_nil)))))))))))))
def m__law_shape : AFn := mOf 12 a__law_shape
def sp__law_shape (K : Fg) : Sp := SpA K 3 m__law_shape
theorem br__law_shape {K : Fg} : ∀ vs H Q E, SpA K 3 m__law_shape vs H Q E → sp__law_shape K vs H Q E := fun _ _ _ _ h => h
theorem l__law_shape {K : Fg} : ∀ vs H Q E, sp__law_shape K vs H Q E → vs.length = 3 := l_spa
theorem p__law_shape {K : Fg} {vs : List V} {H : Hp} {Q : VK} {E : XK} (h : sp__law_shape K vs H Q E) : t__law_shape K { nx := fun _ H' => Q .non H', rt := Q } (L2.start ["urn", "kind", "size", "line", "spots", "spot", "middle", "rows", "row", "pairs", "turn", "one", "place", "k", "column"] vs) H :=
  p_spa (f__law_shape) h rfl
/-- _law_web, slots urn, kind, size, most, n, names, known, a, b, pairs, road, roads -/
def t__law_web (K : Fg) : TS :=
  (tSeq (tAsg (tG (sp__law_shape K) E00 (tCons (tVar 0) (tCons (tVar 1) (tCons (tVar 2) tNil)))) (gTup K 2
    (gCons (gName 4) (gCons (gName 9) gNil)))) (tSeq (tAsg (tTup (tCons (tG (sp__law_mixed K) E00 (tCons (tVar 0) (tCons (tLstRg (tRg1 (tVar 4))) tNil))) (tCons tDNewT tNil))) (gTup K 2 (gCons (gName 5) (gCons (gName 6) gNil))))
    (tSeq (tFor (iSeq K (tVar 9)) (gTup K 2 (gCons (gName 7) (gCons (gName 8) gNil))) (tSeq (tAsg (tTup (tCons (tCB rMin2 (tCons (tOp (rIx K) (tVar 5) (tVar 7)) (tCons (tOp (rIx K) (tVar 5) (tVar 8)) tNil))) (tCons (tCB rMax2
    (tCons (tOp (rIx K) (tVar 5) (tVar 7)) (tCons (tOp (rIx K) (tVar 5) (tVar 8)) tNil))) tNil))) (gName 10)) (sDPut (tVar 6) (tVar 10) (tIf (tOr (tTest (tOp (rEqU K) (tVar 3) (tC (.int 1)))) (tTest (tOp rGtI (tG (sp__law_draw K)
    E00 (tCons (tVar 0) (tCons (tC (.int 3)) tNil))) (tC (.int 0))))) (tC (.int 1)) (tOp (rAddU K) (tC (.int 1)) (tG (sp__law_draw K) E00 (tCons (tVar 0) (tCons (tVar 3) tNil)))))))) (tSeq (tAsg (tCB (rTupOf K) (tCons (tCB (rSortDT
    K) (tCons (tVar 6) tNil)) tNil)) (gName 11)) (tRet (tTup (tCons (tVar 4) (tCons (tVar 11) (tCons (tCB (rTupOf K) (tCons (tLc (iSeq K (tVar 11)) (gName 10) tYes (tDGet (tVar 6) (tVar 10)) [10]) tNil)) tNil)))))))))
abbrev a__law_web_0 : ASt :=
  (aRet (aTup (aCons (aVar 4) (aCons (aVar 11) (aCons (aCB gTupOf (bCons (aLc (aSeqI (aVar 11)) (agName 10) aYes (aDGet 6 (aVar 10)) [10]) bNil)) aNil)))))
abbrev a__law_web_1 : ASt :=
  (aDPut 6 (aVar 10) (aIf (aOr (aB (aOp gEq (aVar 3) (aC (.int 1)))) (aB (aOp gGt (aCall0 m__law_draw (bCons (aVar 0) (bCons (aC (.int 3)) bNil))) (aC (.int 0))))) (aC (.int 1)) (aOp gAdd (aC (.int 1))
    (aCall0 m__law_draw (bCons (aVar 0) (bCons (aVar 3) bNil))))))
abbrev a__law_web_2 : ASt :=
  (aSeq (aAsg (aCB gTupOf (bCons (aSrtKeys 6) bNil)) (agName 11)) a__law_web_0)
abbrev a__law_web_3 : ASt :=
  (aSeq (aFor (aSeqI (aVar 9)) (agTup 2 (agCons (agName 7) (agCons (agName 8) agNil))) (aSeq (aAsg (aTup (aCons (aCB gMin2 (bCons (aOp gIx (aVar 5) (aVar 7)) (bCons (aOp gIx (aVar 5) (aVar 8)) bNil)))
    (aCons (aCB gMax2 (bCons (aOp gIx (aVar 5) (aVar 7)) (bCons (aOp gIx (aVar 5) (aVar 8)) bNil))) aNil))) (agName 10)) a__law_web_1)) a__law_web_2)
abbrev a__law_web_4 : ASt :=
  (aSeq (aSet2 5 6 (aCall0 m__law_mixed (bCons (aVar 0) (bCons (aLstRg (aVar 4)) bNil))) aDNewT) a__law_web_3)
abbrev a__law_web : ASt :=
  (aSeq (aAsg (aCall0 m__law_shape (bCons (aVar 0) (bCons (aVar 1) (bCons (aVar 2) bNil)))) (agTup 2 (agCons (agName 4) (agCons (agName 9) agNil)))) a__law_web_4)
theorem f__law_web {K : Fg} {E : WX} : RSt K E (t__law_web K) a__law_web :=
  (rs_seq (rs_asg (re_call0 br__law_shape (rv_cons re_var (rv_cons re_var (rv_cons re_var rv_nil)))) (rg_tup (rgs_cons rg_name (rgs_cons rg_name
    rgs_nil)))) (rs_seq (rs_setT2 (re_call0 br__law_mixed (rv_cons re_var (rv_cons (re_lstRg re_var) rv_nil))) re_dnewT) (rs_seq (rs_for (ri_seq re_var) (rg_tup (rgs_cons rg_name (rgs_cons rg_name rgs_nil))) (rs_seq (rs_asg (re_tup
    (ra_cons (re_cb rb_min2 (rv_cons (re_op ro_ix re_var re_var) (rv_cons (re_op ro_ix re_var re_var) rv_nil))) (ra_cons (re_cb rb_max2 (rv_cons (re_op ro_ix re_var re_var) (rv_cons (re_op ro_ix re_var re_var) rv_nil))) ra_nil)))
    rg_name) (rs_dput re_var (re_if (rt_or (rt_test (re_op ro_eq re_var re_int)) (rt_test (re_op ro_gt (re_call0 br__law_draw (rv_cons re_var (rv_cons re_int rv_nil))) re_int))) re_int (re_op ro_add re_int (re_call0 br__law_draw
    (rv_cons re_var (rv_cons re_var rv_nil)))))))) (rs_seq (rs_asg (re_cb rb_tupOf (rv_cons re_srtKeys rv_nil)) rg_name) (rs_ret (re_tup (ra_cons re_var (ra_cons re_var (ra_cons (re_cb rb_tupOf (rv_cons (re_lc (ri_seq re_var)
    rg_name rt_yes (re_dget re_var) (by rfl)) rv_nil)) ra_nil)))))))))
def m__law_web : AFn := mOf 8 a__law_web
def sp__law_web (K : Fg) : Sp := SpA K 4 m__law_web
theorem br__law_web {K : Fg} : ∀ vs H Q E, SpA K 4 m__law_web vs H Q E → sp__law_web K vs H Q E := fun _ _ _ _ h => h
theorem l__law_web {K : Fg} : ∀ vs H Q E, sp__law_web K vs H Q E → vs.length = 4 := l_spa
theorem p__law_web {K : Fg} {vs : List V} {H : Hp} {Q : VK} {E : XK} (h : sp__law_web K vs H Q E) : t__law_web K { nx := fun _ H' => Q .non H', rt := Q } (L2.start ["urn", "kind", "size", "most", "n", "names", "known", "a", "b", "pairs", "road", "roads"] vs) H :=
  p_spa (f__law_web) h rfl
section
variable {x : AXc} {k : Avl → Prop}
/-- pairs of places that hang together -/
structure Pairs (n : Int) (ps : List (Int × Int)) : Prop where
  two : 2 ≤ n
  n24 : n ≤ 24
  ok : ∀ p ∈ ps, 0 ≤ p.1 ∧ p.1 < n ∧ 0 ≤ p.2 ∧ p.2 < n ∧ p.1 ≠ p.2
  cn : Conn n ps
  l : ps.length ≤ 40
theorem Pairs.of {n : Int} {ps : List (Int × Int)} (sh : Shape n ps) (h24 : n ≤ 24) (hl : ps.length ≤ 40) : Pairs n ps :=
  ⟨sh.two, h24, fun p hp => by have := sh.ok p hp; omega, sh.cn, hl⟩
theorem Pairs.add {n a b : Int} {ps : List (Int × Int)} (h : Pairs n ps) (a0 : 0 ≤ a) (a1 : a < n) (b0 : 0 ≤ b) (b1 : b < n) (ab : a ≠ b) (hl : ps.length < 40) : Pairs n (ps ++ [(a, b)]) := by
  refine ⟨h.two, h.n24, fun p hp => ?_, h.cn.more fun p hp => List.mem_append.mpr (.inl hp), by rw [List.length_append, List.length_singleton]; omega⟩
  rcases List.mem_append.mp hp with hp | hp
  · exact h.ok p hp
  · rw [List.mem_singleton.mp hp]; exact ⟨a0, a1, b0, b1, ab⟩
theorem pathR_len (n : Int) : (pathR n).length = (n - 1).toNat := by unfold pathR; rw [List.length_map, List.length_range]
theorem rowR_len (a b c : Int) : (rowR a b c).length = (c - b).toNat := by unfold rowR; rw [List.length_map, List.length_range]
theorem s__law_shape {kind : Str} {size : Int} (s0 : 2 ≤ size) (s1 : size ≤ 24) (h : ∀ n ps, Pairs n ps → k (.d (.tuple [.int n, .list (ps.map dP)]))) : m__law_shape [.wl 1, .d (.str kind), .d (.int size)] x k := by
  show a__law_shape _ [.wl 1, .d (.str kind), .d (.int size), .x, .x, .x, .x, .x, .x, .x, .x, .x, .x, .x, .x]
  walk_at "ax"
  refine i_r1 (by omega) ⟨by rw [List.length_map, iota_len]; omega, ?_⟩
  refine a_lcgo (fun i acc => acc = (List.range i).map fun (j : Nat) => dP ((j : Int), (j : Int) + 1)) rfl ?_ ?_
  · rintro i y acc hy rfl
    obtain ⟨rfl, hi⟩ := iota_at' hy
    walk_at "ax"
    rw [List.range_succ, List.map_append]
    rfl
  rintro acc rfl -
  rw [List.length_map, iota_len]
  have eL : ((List.range (size - 1).toNat).map fun (j : Nat) => dP ((j : Int), (j : Int) + 1)) = (pathR size).map dP := by
    unfold pathR
    rw [List.map_map]
    rfl
  rw [eL]
  have pl := pathR_len size
  have pth : Pairs size (pathR size) := Pairs.of (Shape.path s0) s1 (by omega)
  walk_at "ax"
  refine s_dec (fun c1 => ?_) (fun c1 => ?_)
  · walk_at "ax"
    exact h _ _ pth
  walk_at "ax"
  refine s_dec (fun c2 => ?_) (fun c2 => ?_)
  · walk_at "ax"
    refine g_addL rfl rfl (by rw [List.length_map, pl]; simp; omega) ?_
    walk_at "ax"
    have := h size (pathR size ++ [(0, size - 1)]) (pth.add (by omega) (by omega) (by omega) (by omega) (by omega) (by omega))
    rw [List.map_append] at this
    exact this
  walk_at "ax"
  refine s_dec (fun c3 => ?_) (fun c3 => ?_)
  · walk_at "ax"
    obtain ⟨m, em, m0, m1⟩ : ∃ m : Int, (if (size + 1) / 2 > 3 then (size + 1) / 2 else 3) = m ∧ 3 ≤ m ∧ m ≤ 12 := ⟨_, rfl, by split <;> omega, by split <;> omega⟩
    rw [em]
    refine i_r2 (by omega) ?_
    refine a_loop (fun i α => ∃ (ps : List (Int × Int)) (x5 x6 : Sot), α = [.wl 1, .d (.str kind), .d (.int size), .d (.list ((pathR size).map dP)), .d (.int m), x5, x6, .x, .x, .own (ps.map dP), .x, .x, .x, .x, .x] ∧ PartB (m - 1) i ps ∧ ps.length = 2 * i) ?_ ?_ ?_
    · exact ⟨[], _, _, rfl, PartB.nil, rfl⟩
    · rintro i y α hy ⟨ps, x5, x6, rfl, pb, hl⟩
      obtain ⟨hi, rfl⟩ := rgI_at hy
      walk_at "ax"
      refine ⟨_, rfl, by omega, by omega, fun r r0 r1 => ⟨?_, fun z => by cases z⟩⟩
      walk_at "ax"
      refine g_addL rfl rfl (by rw [List.length_map]; simp; omega) ?_
      walk_at "ax"
      have st := pb.step (by omega) r0 (show r < (i : Int) + 1 by omega)
      rw [show m - 1 + 1 + (i : Int) = m + (1 + (i : Int)) - 1 by omega, show (i : Int) + 1 = 1 + (i : Int) by omega] at st
      refine ⟨ps ++ [(r, m + (1 + (i : Int)) - 1), (1 + (i : Int), m + (1 + (i : Int)) - 1)], _, _, by rw [List.map_append]; rfl, ?_, by rw [List.length_append, hl]; rfl⟩
      rw [show ((i + 1 : Nat) : Int) = 1 + (i : Int) by omega]
      exact st
    · rintro α ⟨ps, x5, x6, rfl, pb, hl⟩
      rw [List.length_map, rgI_len] at pb hl
      rw [show (((m - 1).toNat : Nat) : Int) = m - 1 by omega] at pb
      have sh := pb.shape (by omega)
      rw [show 2 * (m - 1) + 1 = 2 * m - 1 by omega] at sh
      walk_at "ax"
      refine g_mulI (.inl ⟨by decide, by decide⟩) ?_
      walk_at "ax"
      exact h _ ps (Pairs.of sh (by omega) (by omega))
  walk_at "ax"
  refine s_dec (fun c4 => ?_) (fun c4 => ?_)
  · walk_at "ax"
    obtain ⟨M, em, m0, m1⟩ : ∃ M : Nat, (if 9 < size then 9 else size) = (M : Int) ∧ 2 ≤ M ∧ M ≤ 9 := ⟨(if 9 < size then 9 else size).toNat, by split <;> omega, by split <;> omega, by split <;> omega⟩
    rw [em]
    refine g_mulI (.inl ⟨by omega, by omega⟩) ?_
    have mm : M * M ≤ 81 := Nat.mul_le_mul m1 m1
    rw [show (M : Int) * (M : Int) = ((M * M : Nat) : Int) from rfl]
    walk_at "ax"
    refine i_r1 (by omega) ⟨by rw [List.length_map, iota_len]; omega, ?_⟩
    refine a_lcgo (fun i acc => acc = (((List.range i).filter fun k => decide (k / M < k % M)).map fun k => (((k / M : Nat) : Int), ((k % M : Nat) : Int))).map dP) rfl ?_ ?_
    · rintro i y acc hy rfl
      obtain ⟨rfl, hi⟩ := iota_at' hy
      walk_at "ax"
      rw [show (i : Int) / (M : Int) = ((i / M : Nat) : Int) from rfl, show (i : Int) % (M : Int) = ((i % M : Nat) : Int) from rfl]
      rw [List.range_succ, List.filter_append, List.map_append, List.map_append]
      refine s_dec (fun c => ?_) (fun c => ?_)
      · walk_at "ax"
        rw [List.filter_cons_of_pos (by exact decide_eq_true (by omega))]
        rfl
      · rw [List.filter_cons_of_neg (by rw [decide_eq_false (by omega)]; simp)]
        simp
    rintro acc rfl -
    rw [List.length_map, iota_len, Int.toNat_natCast]
    walk_at "ax"
    refine h _ _ ⟨by omega, by omega, fun p hp => ?_, fun S S0 hS i i0 i1 => ?_, ?_⟩
    · obtain ⟨j, hj, rfl⟩ := List.mem_map.mp hp
      have hj2 := List.mem_filter.mp hj
      have hj3 := List.mem_range.mp hj2.1
      have lt : j / M < M := Nat.div_lt_of_lt_mul hj3
      have lt2 : j % M < M := Nat.mod_lt _ (by omega)
      have := of_decide_eq_true hj2.2
      show 0 ≤ ((j / M : Nat) : Int) ∧ ((j / M : Nat) : Int) < M ∧ 0 ≤ ((j % M : Nat) : Int) ∧ ((j % M : Nat) : Int) < M ∧ ((j / M : Nat) : Int) ≠ ((j % M : Nat) : Int)
      generalize j / M = a at *
      generalize j % M = b at *
      omega
    · by_cases z : i = 0
      · rw [z]; exact S0
      · have lt : i.toNat < M := by omega
        have m : ((0 : Int), i) ∈ ((List.range (M * M)).filter fun k => decide (k / M < k % M)).map fun k => (((k / M : Nat) : Int), ((k % M : Nat) : Int)) := by
          refine List.mem_map.mpr ⟨i.toNat, List.mem_filter.mpr ⟨List.mem_range.mpr (Nat.lt_of_lt_of_le lt (Nat.le_mul_of_pos_left _ (by omega))), ?_⟩, ?_⟩
          · rw [Nat.div_eq_of_lt lt, Nat.mod_eq_of_lt lt]
            exact decide_eq_true (by omega)
          · rw [Nat.div_eq_of_lt lt, Nat.mod_eq_of_lt lt]
            exact Prod.ext rfl (by show ((i.toNat : Nat) : Int) = i; omega)
        exact (hS _ m).mp S0
    · rw [List.length_map]
      have all : ∀ M : Nat, M ≤ 9 → ((List.range (M * M)).filter fun k => decide (k / M < k % M)).length ≤ 40 := by decide +kernel
      exact all M m1
  walk_at "ax"
  refine s_dec (fun c5 => ?_) (fun c5 => ?_)
  · walk_at "ax"
    refine ⟨_, rfl, by split <;> omega, by split <;> omega, fun r r0 r1 => ⟨?_, fun z => by cases z⟩⟩
    have r4 : 1 + r ≤ 4 ∧ 1 + r < size := by split at r1 <;> omega
    walk_at "ax"
    refine a_while (fun c α => ∃ r : Int, α = [.wl 1, .d (.str kind), .d (.int size), .d (.list ((pathR size).map dP)), .x, .x, .x, .d (.int r), .x, .own [], .x, .x, .x, .x, .x] ∧ 1 ≤ r ∧ r ≤ 4 ∧ r < size ∧ c = r.toNat) (1 + r).toNat ⟨1 + r, rfl, by omega, r4.1, r4.2, rfl⟩ ?_
    rintro c α ⟨r, rfl, q0, q1, q2, rfl⟩
    clear r4 r0 r1
    walk_at "ax"
    refine g_mulI (.inl ⟨by omega, by omega⟩) ?_
    walk_at "ax"
    refine s_dec (fun hc => ?_) (fun hc => ?_)
    · have r2 : 2 ≤ r := by
        rcases Int.lt_or_le 1 r with z | z
        · omega
        · have e : r = 1 := by omega
          rw [e] at hc
          omega
      walk_at "ax"
      exact ⟨(r - 1).toNat, by omega, r - 1, rfl, by omega, by omega, by omega, rfl⟩
    · walk_at "ax"
      refine i_r1 (by omega) ?_
      refine a_loop (fun i α => ∃ (ps : List (Int × Int)) (x8 : Sot), α = [.wl 1, .d (.str kind), .d (.int size), .d (.list ((pathR size).map dP)), .x, .x, .x, .d (.int r), x8, .own (ps.map dP), .x, .x, .x, .x, .x] ∧ BoardB r size i ps ∧ ps.length = i * (size - r).toNat) ?_ ?_ ?_
      · exact ⟨[], _, rfl, BoardB.nil, by rw [Nat.zero_mul]; rfl⟩
      · rintro i y α hy ⟨ps, x8, rfl, bb, hl⟩
        obtain ⟨rfl, hi⟩ := iota_at' hy
        have big : i * (size - r).toNat ≤ 4 * 24 := Nat.mul_le_mul (by omega) (by omega)
        walk_at "ax"
        refine i_r2 (by omega) ⟨by rw [List.length_map, rgI_len]; omega, ?_⟩
        refine a_lcgo (fun j acc => acc = ((List.range j).map fun (b : Nat) => ((i : Int), r + (b : Int))).map dP) rfl ?_ ?_
        · rintro j y acc hy rfl
          obtain ⟨hj, rfl⟩ := rgI_at hy
          walk_at "ax"
          rw [List.range_succ, List.map_append, List.map_append]
          rfl
        rintro acc rfl -
        rw [List.length_map, rgI_len]
        walk_at "ax"
        refine g_addL rfl rfl (by rw [List.length_map, List.length_map, List.length_map, List.length_range]; omega) ?_
        walk_at "ax"
        refine ⟨ps ++ rowR i r size, _, by rw [List.map_append]; rfl, bb.step (by omega) q2, ?_⟩
        rw [List.length_append, hl, rowR_len, Nat.succ_mul]
      · rintro α ⟨ps, x8, rfl, bb, hl⟩
        rw [List.length_map, iota_len] at bb hl
        rw [show ((r.toNat : Nat) : Int) = r by omega] at bb
        have e : ((r.toNat * (size - r).toNat : Nat) : Int) = r * (size - r) := by
          rw [Int.natCast_mul, Int.toNat_of_nonneg (by omega), Int.toNat_of_nonneg (by omega)]
        walk_at "ax"
        exact h _ ps (Pairs.of (bb.shape q0 q2) s1 (by omega))
  walk_at "ax"
  refine i_r2 (by omega) ⟨by rw [List.length_map, rgI_len]; omega, ?_⟩
  refine a_lcgo (fun i acc => ∃ ps : List (Int × Int), acc = ps.map dP ∧ TreeB i ps ∧ ps.length = i) ⟨[], rfl, TreeB.nil, rfl⟩ ?_ ?_
  · rintro i y acc hy ⟨ps, rfl, tb, hl⟩
    obtain ⟨hi, rfl⟩ := rgI_at hy
    walk_at "ax"
    refine ⟨_, rfl, by omega, by omega, fun r r0 r1 => ⟨?_, fun z => by cases z⟩⟩
    walk_at "ax"
    have st := tb.step r0 (show r < (i : Int) + 1 by omega)
    refine ⟨ps ++ [(r, 1 + (i : Int))], by rw [List.map_append]; rfl, ?_, by rw [List.length_append, hl]; rfl⟩
    rw [show ((i + 1 : Nat) : Int) = (i : Int) + 1 by omega, show 1 + (i : Int) = (i : Int) + 1 by omega]
    exact st
  rintro acc ⟨ps, rfl, tb, hl⟩ -
  rw [List.length_map, rgI_len] at tb hl
  rw [show (((size - 1).toNat : Nat) : Int) = size - 1 by omega] at tb
  have sh := tb.shape (by omega)
  rw [show size - 1 + 1 = size by omega] at sh
  have pr : Pairs size ps := Pairs.of sh s1 (by omega)
  walk_at "ax"
  have fin : ∀ (t : Int), 0 ≤ t → t ≤ 5 → WR1 [.d (.int t)] fun xs fz => aLoop (agName 10) (aSeq (aAsg (aCall0 m__law_draw (bCons (aVar 0) (bCons (aVar 2) bNil))) (agName 11)) a__law_shape_0) { nx := a__law_shape_1 { nx := fun x => k (.d .none), rt := k, er := fun _ => x }, rt := k, er := fun _ => x } xs (aFrz [.wl 1, .d (.str kind), .d (.int size), .d (.list ((pathR size).map dP)), .x, .x, .x, .x, .x, .own (ps.map dP), .x, .x, .x, .x, .x] fz) := by
    intro t t0 t1
    refine i_r1 (by omega) ?_
    refine a_loop (fun i α => ∃ (qs : List (Int × Int)) (x10 x11 : Sot), α = [.wl 1, .d (.str kind), .d (.int size), .d (.list ((pathR size).map dP)), .x, .x, .x, .x, .x, .own (qs.map dP), x10, x11, .x, .x, .x] ∧ Pairs size qs ∧ qs.length = ps.length + i) ?_ ?_ ?_
    · exact ⟨ps, _, _, rfl, pr, rfl⟩
    · rintro i y α hy ⟨qs, x10, x11, rfl, pq, hq⟩
      obtain ⟨rfl, hi⟩ := iota_at' hy
      walk_at "ax"
      refine ⟨_, rfl, by omega, by omega, fun a a0 a1 => ⟨?_, fun z => by cases z⟩⟩
      walk_at "ax"
      refine ⟨_, rfl, by omega, by omega, fun b b0 b1 => ⟨?_, fun z => by cases z⟩⟩
      walk_at "ax"
      have e0 := Int.emod_nonneg (a + 1 + b) (b := size) (by omega)
      have e1 := Int.emod_lt_of_pos (a + 1 + b) (show 0 < size by omega)
      have e2 : a ≠ (a + 1 + b) % size := fun z => by
        rcases Int.lt_or_le (a + 1 + b) size with y | y
        · rw [Int.emod_eq_of_lt (by omega) y] at z; omega
        · have : (a + 1 + b) % size = (a + 1 + b - size) % size := by rw [Int.sub_emod_right]
          rw [this, Int.emod_eq_of_lt (by omega) (by omega)] at z
          omega
      refine ⟨by rw [List.length_map]; omega, qs ++ [(a, (a + 1 + b) % size)], _, _, by rw [List.map_append]; rfl, pq.add a0 a1 e0 e1 e2 (by omega), by rw [List.length_append, hq]; rfl⟩
    · rintro α ⟨qs, x10, x11, rfl, pq, hq⟩
      walk_at "ax"
      exact h _ qs pq
  refine s_dec (fun c => ?_) (fun c => ?_)
  · walk_at "ax"
    exact fin 0 (by decide) (by decide)
  · walk_at "ax"
    refine ⟨_, rfl, by decide, by decide, fun r r0 r1 => ⟨?_, fun z => by cases z⟩⟩
    walk_at "ax"
    exact fin _ (by omega) (by omega)
end
end UW.Un
namespace UW.Un
open PySem PySem.Spec PyProof.Rows L2 UW
/-- one step -/
local macro_rules | `(tactic| walk_at "a1") => `(tactic| first
  | with_reducible refine wk ?_
  | (with_reducible refine rs_go 1 ?_
     first
     | with_reducible refine a_var (by with_unfolding_all rfl) (by with_unfolding_all rfl) ?_
     | with_reducible refine a_gtup (by with_unfolding_all rfl) (by with_unfolding_all rfl) ?_
     | with_reducible refine a_glst (by with_unfolding_all rfl) (by with_unfolding_all rfl) ?_)
  | (with_reducible refine rs_go 2 ?_
     first
     | with_reducible refine g_ixT (by with_unfolding_all rfl) (by first | with_unfolding_all rfl | with_unfolding_all exact at_zero _ _) ?_
     | with_reducible refine g_ixL (by with_unfolding_all rfl) (by first | with_unfolding_all rfl | with_unfolding_all exact at_zero _ _) ?_)
  | (with_reducible refine rs_go 3 ?_
     first
     | with_reducible refine g_lenT (by with_unfolding_all rfl) ?_
     | with_reducible refine g_lenL (by with_unfolding_all rfl) ?_
     | with_reducible refine g_tupL (by with_unfolding_all rfl) ?_
     | with_reducible refine g_tupT (by with_unfolding_all rfl) ?_
     | with_reducible refine g_lstT (by with_unfolding_all rfl) ?_
     | with_reducible refine g_lstL (by with_unfolding_all rfl) ?_)
  | (with_reducible refine rs_go 4 ?_
     first
     | with_reducible refine g_addL (by with_unfolding_all rfl) (by with_unfolding_all rfl) (Nat.le_of_ble_eq_true (by with_unfolding_all rfl)) ?_
     | with_reducible refine g_mulI (by first | exact Or.inl ⟨by decide, by decide⟩ | exact Or.inr ⟨by decide, by decide⟩ | (first | (refine Or.inl ⟨?_, ?_⟩ <;> omega) | (refine Or.inr ⟨?_, ?_⟩ <;> omega))) ?_
     | with_reducible refine g_mod (by first | decide | omega) ?_
     | with_reducible refine g_div (by first | decide | omega) (by first | decide | omega) ?_
     | with_reducible refine g_slT (by with_unfolding_all rfl) ?_
     | with_reducible refine g_slL (by with_unfolding_all rfl) ?_
     | with_reducible refine g_isN (by with_unfolding_all rfl) ?_
     | with_reducible refine g_notN (by with_unfolding_all rfl) ?_)
  | (with_reducible refine rs_go 5 ?_
     first
     | with_reducible refine a_dget (by with_unfolding_all rfl) ?_
     | with_reducible refine a_dget2 (by with_unfolding_all rfl) ?_
     | with_reducible refine a_fzq (by with_unfolding_all rfl) ?_
     | with_reducible refine a_retC (by with_unfolding_all rfl) ?_
     | with_reducible refine a_isX (by with_unfolding_all rfl) ?_
     | with_reducible refine a_app (by with_unfolding_all rfl) ?_
     | with_reducible refine a_ext (by with_unfolding_all rfl) ?_
     | with_reducible refine a_pop (by with_unfolding_all rfl) ?_
     | with_reducible refine a_fz (by with_unfolding_all rfl) ?_
     | with_reducible refine a_lenDV (by with_unfolding_all rfl) ?_)
  | (with_reducible refine rs_go 6 ?_
     first
     | with_reducible refine a_cl (by with_unfolding_all rfl) ?_
     | with_reducible refine a_dat (by with_unfolding_all rfl) ?_
     | with_reducible refine a_s1 (by with_unfolding_all rfl) ?_
     | with_reducible refine a_dcy (by with_unfolding_all rfl) ?_
     | with_reducible refine a_s2 (by with_unfolding_all rfl) (by with_unfolding_all rfl) ?_
     | with_reducible refine a_s3 (by with_unfolding_all rfl) (by with_unfolding_all rfl) (by with_unfolding_all rfl) ?_
     | with_reducible refine a_owned (by with_unfolding_all rfl) ?_)
  | (with_reducible refine rs_go 7 ?_
     first
     | with_reducible refine i_B (by with_unfolding_all rfl) ?_
     | with_reducible refine i_T (by with_unfolding_all rfl) ?_
     | with_reducible refine i_L (by with_unfolding_all rfl) ?_)
  | (with_reducible refine rs_go 8 ?_
     first
     | with_reducible refine a_nb (by with_unfolding_all rfl) ?_
     | with_reducible refine a_len (by with_unfolding_all rfl) ?_
     | with_reducible refine a_revT (by with_unfolding_all rfl) ?_
     | with_reducible refine a_revL (by with_unfolding_all rfl) ?_)
  | (with_reducible refine rs_go 9 ?_
     first
     | with_reducible refine iteNT (by with_unfolding_all rfl) ?_
     | with_reducible refine iteNF (by with_unfolding_all rfl) ?_
     | with_reducible refine iteIT (by with_unfolding_all rfl) ?_
     | with_reducible refine iteIF (by with_unfolding_all rfl) ?_))
local macro_rules | `(tactic| walk_at "ax") => `(tactic| (repeat (first | walk_at "a1" | with_reducible refine a_if ?_); try dsimp only [List.set_cons_zero, List.set_cons_succ, awipe, aFrz, List.getElem?_cons_zero, List.getElem?_cons_succ]))
local macro_rules | `(tactic| walk_at "ay") => `(tactic| (repeat (walk_at "a1"); try dsimp only [List.set_cons_zero, List.set_cons_succ, awipe, aFrz, List.getElem?_cons_zero, List.getElem?_cons_succ]))
section
variable {x : AXc} {k : Avl → Prop}
/-- a dict from pairs to numbers -/
def dM (M : List ((Int × Int) × Int)) : List (List L2.Key × PyData) := M.map fun q => (pk q.1, .int q.2)
def putM (M : List ((Int × Int) × Int)) (p : Int × Int) (v : Int) : List ((Int × Int) × Int) := if p ∈ M.map (·.1) then M.map (fun q => if q.1 = p then (p, v) else q) else M ++ [(p, v)]
theorem pk_inj {p q : Int × Int} (h : pk p = pk q) : p = q := by
  unfold pk at h
  simp only [List.cons.injEq, Sum.inl.injEq, and_true] at h
  exact Prod.ext h.1 h.2
theorem put_dM (M : List ((Int × Int) × Int)) (p : Int × Int) (v : Int) : putD (dM M) (pk p) (.int v) = dM (putM M p v) := by
  unfold putD putM
  by_cases c : p ∈ M.map (·.1)
  · rw [if_pos c, if_pos]
    · unfold dM
      rw [List.map_map, List.map_map]
      refine List.map_congr_left fun q _ => ?_
      show (if pk q.1 = pk p then (pk q.1, PyData.int v) else (pk q.1, .int q.2)) = (pk (if q.1 = p then (p, v) else q).1, PyData.int (if q.1 = p then (p, v) else q).2)
      by_cases e : q.1 = p
      · rw [if_pos (congrArg pk e), if_pos e, e]
      · rw [if_neg fun z => e (pk_inj z), if_neg e]
    · obtain ⟨q, hq, e⟩ := List.mem_map.mp c
      exact List.any_eq_true.mpr ⟨(pk q.1, .int q.2), List.mem_map.mpr ⟨q, hq, rfl⟩, decide_eq_true (congrArg pk e)⟩
  · rw [if_neg c, if_neg]
    · unfold dM
      rw [List.map_append]
      rfl
    · intro z
      obtain ⟨a, ha, e⟩ := List.any_eq_true.mp z
      obtain ⟨q, hq, rfl⟩ := List.mem_map.mp ha
      exact c (List.mem_map.mpr ⟨q, hq, pk_inj (of_decide_eq_true e)⟩)
theorem keys_putM (M : List ((Int × Int) × Int)) (p : Int × Int) (v : Int) : (putM M p v).map (·.1) = if p ∈ M.map (·.1) then M.map (·.1) else M.map (·.1) ++ [p] := by
  unfold putM
  split
  · rw [List.map_map]
    refine List.map_congr_left fun q _ => ?_
    show (if q.1 = p then (p, v) else q).1 = q.1
    split
    · rename_i e; exact e.symm
    · rfl
  · rw [List.map_append]
    rfl
theorem mem_putM {M : List ((Int × Int) × Int)} {p : Int × Int} {v : Int} {q : (Int × Int) × Int} (h : q ∈ putM M p v) : q ∈ M ∨ q = (p, v) := by
  unfold putM at h
  split at h
  · obtain ⟨z, hz, e⟩ := List.mem_map.mp h
    split at e
    · exact .inr e.symm
    · exact .inl (e ▸ hz)
  · rcases List.mem_append.mp h with h | h
    · exact .inl h
    · exact .inr (List.mem_singleton.mp h)
theorem find_dM {M : List ((Int × Int) × Int)} {p : Int × Int} (h : p ∈ M.map (·.1)) : ∃ v, (p, v) ∈ M ∧ findD (dM M) (pk p) = some (.int v) := by
  induction M with
  | nil => cases h
  | cons q M ih =>
    unfold findD dM
    rw [List.map_cons, List.find?_cons]
    by_cases c : q.1 = p
    · rw [decide_eq_true (congrArg pk c)]
      exact ⟨q.2, by rw [← c]; exact List.mem_cons_self .., rfl⟩
    · rw [decide_eq_false fun z => c (pk_inj z)]
      rw [List.map_cons] at h
      obtain ⟨v, hv, e⟩ := ih ((List.mem_cons.mp h).resolve_left fun z => c z.symm)
      exact ⟨v, List.mem_cons_of_mem _ hv, e⟩
theorem reP_rng {n : Int} {ps : List (Int × Int)} {ns : List Int} (pr : Pairs n ps) (N : Names n ns) : ∀ p ∈ ps, 0 ≤ (reP ns p).1 ∧ (reP ns p).1 < (reP ns p).2 ∧ (reP ns p).2 < n := by
  intro p hp
  have a := pr.ok p hp
  have r1 := N.rng p.1 (by omega) (by omega)
  have r2 := N.rng p.2 (by omega) (by omega)
  have ne : nm ns p.1 ≠ nm ns p.2 := fun e => by
    have := N.inj p.1 p.2 (by omega) (by omega) (by omega) (by omega) e
    omega
  unfold reP
  show 0 ≤ (if nm ns p.2 < nm ns p.1 then nm ns p.2 else nm ns p.1) ∧ (if nm ns p.2 < nm ns p.1 then nm ns p.2 else nm ns p.1) < (if nm ns p.2 > nm ns p.1 then nm ns p.2 else nm ns p.1) ∧ (if nm ns p.2 > nm ns p.1 then nm ns p.2 else nm ns p.1) < n
  split <;> split <;> omega
theorem s__law_web {kind : Str} {size most : Int} (s0 : 2 ≤ size) (s1 : size ≤ 24) (m0 : 1 ≤ most) (m1 : most ≤ 9) (h : ∀ n rs ms, WebOk 24 40 9 n rs ms → k (.d (dWeb n rs ms))) : m__law_web [.wl 1, .d (.str kind), .d (.int size), .d (.int most)] x k := by
  show a__law_web _ [.wl 1, .d (.str kind), .d (.int size), .d (.int most), .x, .x, .x, .x, .x, .x, .x, .x]
  walk_at "ax"
  refine s__law_shape s0 s1 fun n ps pr => ⟨?_, fun z => by cases z⟩
  have n2 := pr.two
  have n24 := pr.n24
  have l40 := pr.l
  walk_at "ax"
  refine ⟨by omega, by omega, ?_⟩
  walk_at "ax"
  refine s__law_mixed rfl (by rw [List.length_map, iota_len]; omega) (pln_map pln_int) fun es pm => ⟨?_, fun z => by cases z⟩
  obtain ⟨ns, pn, rfl⟩ := perm_unmap pm rfl
  have N : Names n ns := Names.of (by omega) pn
  have nl := N.len
  have at' : ∀ {i : Int}, 0 ≤ i → i < n → atI (ns.map PyData.int) i = some (.int (nm ns i)) := fun i0 i1 => atI_toNat i0 (by rw [List.getElem?_map, nm_get i0 (by omega)]; rfl)
  walk_at "ax"
  refine a_dnewT ?_
  walk_at "ax"
  refine a_loop (fun i α => ∃ (M : List ((Int × Int) × Int)) (x7 x8 x10 : Sot), α = [.wl 1, .d (.str kind), .d (.int size), .d (.int most), .d (.int n), .own (ns.map .int), .dic (.t (dM M)), x7, x8, .d (.list (ps.map dP)), x10, .x] ∧ (M.map (·.1)).Nodup ∧ (∀ q ∈ M, q.1 ∈ (ps.take i).map (reP ns) ∧ 1 ≤ q.2 ∧ q.2 ≤ most) ∧ (∀ p ∈ ps.take i, reP ns p ∈ M.map (·.1)) ∧ M.length ≤ i) ?_ ?_ ?_
  · exact ⟨[], _, _, _, rfl, List.nodup_nil, fun q hq => (by cases hq), fun p hp => (by cases hp), Nat.le_refl _⟩
  · rintro i y α hy ⟨M, x7, x8, x10, rfl, nd, inM, all, hl⟩
    obtain ⟨p, hp, rfl⟩ := dp_at hy
    have hi := (List.getElem?_eq_some_iff.mp hp).1
    have mem := List.mem_of_getElem? hp
    have o := pr.ok p mem
    have et : ps.take (i + 1) = ps.take i ++ [p] := by rw [List.take_add_one, hp]; rfl
    walk_at "ax"
    refine g_ixL rfl (at' o.1 o.2.1) ?_
    walk_at "ax"
    refine g_ixL rfl (at' o.2.2.1 o.2.2.2.1) ?_
    walk_at "ax"
    refine g_ixL rfl (at' o.1 o.2.1) ?_
    walk_at "ax"
    refine g_ixL rfl (at' o.2.2.1 o.2.2.2.1) ?_
    walk_at "ay"
    refine a_ifj (fun av => ∃ v : Int, av = .d (.int v) ∧ 1 ≤ v ∧ v ≤ most) ?_ ?_
    · rintro _ ⟨v, rfl, v1, v2⟩
      walk_at "ax"
      refine ⟨_, ⟨pk (reP ns p), rfl, by unfold dM; rw [List.length_map]; omega, rfl⟩, ?_⟩
      rw [put_dM]
      have ek := keys_putM M (reP ns p) v
      refine ⟨putM M (reP ns p) v, _, _, _, rfl, ?_, fun q hq => ?_, fun p' hp' => ?_, ?_⟩
      · rw [ek]
        split
        · exact nd
        · rename_i c
          rw [List.nodup_append]
          exact ⟨nd, by simp, fun a ha b hb e => c (by rw [List.mem_singleton.mp hb] at e; rw [← e]; exact ha)⟩
      · rw [et, List.map_append]
        rcases mem_putM hq with hq | rfl
        · exact ⟨List.mem_append.mpr (.inl (inM q hq).1), (inM q hq).2⟩
        · exact ⟨List.mem_append.mpr (.inr (List.mem_singleton.mpr rfl)), v1, v2⟩
      · rw [ek]
        rw [et] at hp'
        have old : ∀ z, z ∈ M.map (·.1) → z ∈ (if reP ns p ∈ M.map (·.1) then M.map (·.1) else M.map (·.1) ++ [reP ns p]) := fun z hz => by
          split
          · exact hz
          · exact List.mem_append.mpr (.inl hz)
        rcases List.mem_append.mp hp' with hp' | hp'
        · exact old _ (all p' hp')
        · rw [List.mem_singleton.mp hp']
          split
          · assumption
          · simp
      · have := congrArg List.length ek
        rw [List.length_map] at this
        rw [this]
        split
        · rw [List.length_map]; omega
        · rw [List.length_append, List.length_map, List.length_singleton]; omega
    · intro k' hk'
      walk_at "ax"
      have one : k' (.d (.int 1)) := hk' _ ⟨1, rfl, Int.le_refl _, m0⟩
      by_cases c : most = 1
      · refine iteT' (decide_eq_true c) ?_
        refine iteT' rfl ?_
        walk_at "ax"
        exact one
      · refine iteF' (decide_eq_false c) ?_
        walk_at "ax"
        refine ⟨_, rfl, by decide, by decide, fun r r0 r1 => ⟨?_, fun z => by cases z⟩⟩
        walk_at "ax"
        refine s_dec (fun c2 => ?_) (fun c2 => ?_)
        · walk_at "ax"
          exact one
        · walk_at "ax"
          refine ⟨_, rfl, by omega, by omega, fun r r0 r1 => ⟨?_, fun z => by cases z⟩⟩
          walk_at "ax"
          exact hk' _ ⟨_, rfl, by omega, by omega⟩
  · rintro α ⟨M, x7, x8, x10, rfl, nd, inM, all, hl⟩
    rw [List.length_map] at inM all hl
    rw [List.take_length] at inM all
    walk_at "ax"
    refine ⟨dM M, M.map (·.1), rfl, by unfold dM; rw [List.map_map, List.map_map]; rfl, fun qs pq sr => ?_⟩
    have lq : qs.length = M.length := by rw [pq.length_eq, List.length_map]
    walk_at "ax"
    refine ⟨by rw [List.length_map]; omega, ?_⟩
    refine a_lcgo (fun i acc => ∃ ms : List Int, acc = ms.map .int ∧ ms.length = i ∧ ∀ m ∈ ms, 1 ≤ m ∧ m ≤ most) ⟨[], rfl, rfl, fun m hm => by cases hm⟩ ?_ ?_
    · rintro i y acc hy ⟨ms, rfl, lm, bm⟩
      obtain ⟨q, hq, rfl⟩ := dp_at hy
      obtain ⟨v, hv, ev⟩ := find_dM (pq.mem_iff.mp (List.mem_of_getElem? hq))
      have bv := (inM _ hv).2
      walk_at "ax"
      refine ⟨.int v, ⟨pk q, rfl, ev.symm⟩, ?_⟩
      walk_at "ax"
      refine ⟨ms ++ [v], by rw [List.map_append]; rfl, by rw [List.length_append, lm]; rfl, fun m hm => ?_⟩
      rcases List.mem_append.mp hm with hm | hm
      · exact bm m hm
      · rw [List.mem_singleton.mp hm]; exact bv
    rintro acc ⟨ms, rfl, lm, bm⟩ -
    rw [List.length_map] at lm
    walk_at "ax"
    have ndq : qs.Nodup := pq.nodup_iff.mpr nd
    refine h n qs ms ⟨⟨n2, ndq, fun q hq => ?_, ?_⟩, strict sr ndq, n24, by omega, lm, fun m hm => by have := bm m hm; omega⟩
    · obtain ⟨z, hz, rfl⟩ := List.mem_map.mp (pq.mem_iff.mp hq)
      obtain ⟨p, hp, e⟩ := List.mem_map.mp (inM z hz).1
      have := reP_rng pr N p hp
      rw [e] at this
      exact this
    · refine (pr.cn.names N (by omega)).more fun q hq => ?_
      obtain ⟨p, hp, rfl⟩ := List.mem_map.mp hq
      exact pq.mem_iff.mpr (all p hp)
end
end UW.Un
namespace UW.Un
open PySem PySem.Spec PyProof.Rows L2 UW
/-- one step -/
local macro_rules | `(tactic| walk_at "a1") => `(tactic| first
  | with_reducible refine wk ?_
  | (with_reducible refine rs_go 1 ?_
     first
     | with_reducible refine a_var (by with_unfolding_all rfl) (by with_unfolding_all rfl) ?_
     | with_reducible refine a_gtup (by with_unfolding_all rfl) (by with_unfolding_all rfl) ?_
     | with_reducible refine a_glst (by with_unfolding_all rfl) (by with_unfolding_all rfl) ?_)
  | (with_reducible refine rs_go 2 ?_
     first
     | with_reducible refine g_ixT (by with_unfolding_all rfl) (by first | with_unfolding_all rfl | with_unfolding_all exact at_zero _ _) ?_
     | with_reducible refine g_ixL (by with_unfolding_all rfl) (by first | with_unfolding_all rfl | with_unfolding_all exact at_zero _ _) ?_)
  | (with_reducible refine rs_go 3 ?_
     first
     | with_reducible refine g_lenT (by with_unfolding_all rfl) ?_
     | with_reducible refine g_lenL (by with_unfolding_all rfl) ?_
     | with_reducible refine g_tupL (by with_unfolding_all rfl) ?_
     | with_reducible refine g_tupT (by with_unfolding_all rfl) ?_
     | with_reducible refine g_lstT (by with_unfolding_all rfl) ?_
     | with_reducible refine g_lstL (by with_unfolding_all rfl) ?_)
  | (with_reducible refine rs_go 4 ?_
     first
     | with_reducible refine g_addL (by with_unfolding_all rfl) (by with_unfolding_all rfl) (Nat.le_of_ble_eq_true (by with_unfolding_all rfl)) ?_
     | with_reducible refine g_mulI (by first | exact Or.inl ⟨by decide, by decide⟩ | exact Or.inr ⟨by decide, by decide⟩ | (first | (refine Or.inl ⟨?_, ?_⟩ <;> omega) | (refine Or.inr ⟨?_, ?_⟩ <;> omega))) ?_
     | with_reducible refine g_mod (by first | decide | omega) ?_
     | with_reducible refine g_div (by first | decide | omega) (by first | decide | omega) ?_
     | with_reducible refine g_slT (by with_unfolding_all rfl) ?_
     | with_reducible refine g_slL (by with_unfolding_all rfl) ?_
     | with_reducible refine g_isN (by with_unfolding_all rfl) ?_
     | with_reducible refine g_notN (by with_unfolding_all rfl) ?_)
  | (with_reducible refine rs_go 5 ?_
     first
     | with_reducible refine a_dget (by with_unfolding_all rfl) ?_
     | with_reducible refine a_dget2 (by with_unfolding_all rfl) ?_
     | with_reducible refine a_fzq (by with_unfolding_all rfl) ?_
     | with_reducible refine a_retC (by with_unfolding_all rfl) ?_
     | with_reducible refine a_isX (by with_unfolding_all rfl) ?_
     | with_reducible refine a_app (by with_unfolding_all rfl) ?_
     | with_reducible refine a_ext (by with_unfolding_all rfl) ?_
     | with_reducible refine a_pop (by with_unfolding_all rfl) ?_
     | with_reducible refine a_fz (by with_unfolding_all rfl) ?_
     | with_reducible refine a_lenDV (by with_unfolding_all rfl) ?_)
  | (with_reducible refine rs_go 6 ?_
     first
     | with_reducible refine a_cl (by with_unfolding_all rfl) ?_
     | with_reducible refine a_dat (by with_unfolding_all rfl) ?_
     | with_reducible refine a_s1 (by with_unfolding_all rfl) ?_
     | with_reducible refine a_dcy (by with_unfolding_all rfl) ?_
     | with_reducible refine a_s2 (by with_unfolding_all rfl) (by with_unfolding_all rfl) ?_
     | with_reducible refine a_s3 (by with_unfolding_all rfl) (by with_unfolding_all rfl) (by with_unfolding_all rfl) ?_
     | with_reducible refine a_owned (by with_unfolding_all rfl) ?_)
  | (with_reducible refine rs_go 7 ?_
     first
     | with_reducible refine i_B (by with_unfolding_all rfl) ?_
     | with_reducible refine i_T (by with_unfolding_all rfl) ?_
     | with_reducible refine i_L (by with_unfolding_all rfl) ?_)
  | (with_reducible refine rs_go 8 ?_
     first
     | with_reducible refine a_nb (by with_unfolding_all rfl) ?_
     | with_reducible refine a_len (by with_unfolding_all rfl) ?_
     | with_reducible refine a_revT (by with_unfolding_all rfl) ?_
     | with_reducible refine a_revL (by with_unfolding_all rfl) ?_)
  | (with_reducible refine rs_go 9 ?_
     first
     | with_reducible refine iteNT (by with_unfolding_all rfl) ?_
     | with_reducible refine iteNF (by with_unfolding_all rfl) ?_
     | with_reducible refine iteIT (by with_unfolding_all rfl) ?_
     | with_reducible refine iteIF (by with_unfolding_all rfl) ?_))
local macro_rules | `(tactic| walk_at "ax") => `(tactic| (repeat (first | walk_at "a1" | with_reducible refine a_if ?_); try dsimp only [List.set_cons_zero, List.set_cons_succ, awipe, aFrz, List.getElem?_cons_zero, List.getElem?_cons_succ]))
local macro_rules | `(tactic| walk_at "ay") => `(tactic| (repeat (walk_at "a1"); try dsimp only [List.set_cons_zero, List.set_cons_succ, awipe, aFrz, List.getElem?_cons_zero, List.getElem?_cons_succ]))
/-- road_counts, slots web, found, one, other -/
def t_road_counts (K : Fg) : TS :=
  (tSeq (tAsg (tOp (rMulU K) (tLst (tCons (tC (.int 0)) tNil)) (tOp (rIx K) (tVar 0) (tC (.int 0)))) (gName 1)) (tSeq (tFor (iSeq K (tOp (rIx K)
    (tVar 0) (tC (.int 1)))) (gTup K 2 (gCons (gName 2) (gCons (gName 3) gNil))) (tSeq (tAsg (tOp (rAddU K) (tOp (rIx K) (tVar 1) (tVar 2)) (tC (.int 1))) (gSub (tVar 1) (tVar 2) rSetL)) (tAsg (tOp (rAddU K) (tOp (rIx K) (tVar 1)
    (tVar 3)) (tC (.int 1))) (gSub (tVar 1) (tVar 3) rSetL)))) (tRet (tVar 1))))
abbrev a_road_counts_0 : ASt :=
  (aSetI 1 (aOp gAdd (aOp gIx (aVar 1) (aVar 3)) (aC (.int 1))) (aVar 3))
abbrev a_road_counts_1 : ASt :=
  (aSeq (aFor (aSeqI (aOp gIx (aVar 0) (aC (.int 1)))) (agTup 2 (agCons (agName 2) (agCons (agName 3) agNil))) (aSeq (aSetI 1 (aOp gAdd (aOp gIx (aVar 1) (aVar 2)) (aC (.int 1))) (aVar 2))
    a_road_counts_0)) (aRet (aVar 1)))
abbrev a_road_counts : ASt :=
  (aSeq (aSet 1 (aOp gMul (aLst (aCons (aC (.int 0)) aNil)) (aOp gIx (aVar 0) (aC (.int 0))))) a_road_counts_1)
theorem f_road_counts {K : Fg} {E : WX} : RSt K E (t_road_counts K) a_road_counts :=
  (rs_seq (rs_set (re_op ro_mul (re_lst (ra_cons re_int ra_nil)) (re_op ro_ix re_var re_int))) (rs_seq (rs_for (ri_seq (re_op ro_ix re_var
    re_int)) (rg_tup (rgs_cons rg_name (rgs_cons rg_name rgs_nil))) (rs_seq (rs_setI (re_op ro_add (re_op ro_ix re_var re_var) re_int) re_var) (rs_setI (re_op ro_add (re_op ro_ix re_var re_var) re_int) re_var))) (rs_ret re_var)))
def m_road_counts : AFn := mOf 3 a_road_counts
def sp_road_counts (K : Fg) : Sp := SpA K 1 m_road_counts
theorem br_road_counts {K : Fg} : ∀ vs H Q E, SpA K 1 m_road_counts vs H Q E → sp_road_counts K vs H Q E := fun _ _ _ _ h => h
theorem l_road_counts {K : Fg} : ∀ vs H Q E, sp_road_counts K vs H Q E → vs.length = 1 := l_spa
theorem p_road_counts {K : Fg} {vs : List V} {H : Hp} {Q : VK} {E : XK} (h : sp_road_counts K vs H Q E) : t_road_counts K { nx := fun _ H' => Q .non H', rt := Q } (L2.start ["web", "found", "one", "other"] vs) H :=
  p_spa (f_road_counts) h rfl
section
variable {x : AXc} {k : Avl → Prop} {n : Int} {rs : List (Int × Int)} {ms : List Int} {C : Cl}
theorem nb_all (rs : List (Int × Int)) (j : Nat) : nb rs j = (rdsN rs (j : Int) 0).map (·.1) := by unfold nb nbTo; rw [List.take_length]
theorem mem_nb (j : Nat) (y : Int) : y ∈ nb rs j ↔ Adj rs (j : Int) y := by
  rw [nb_all, List.mem_map]
  constructor
  · rintro ⟨q, hq, rfl⟩
    exact rdsN_mem (r := q.2) rs 0 hq
  · intro h
    obtain ⟨r, hr⟩ := rdsN_adj rs 0 h
    exact ⟨_, hr, rfl⟩
/-- the neighbours, ascending, of each place -/
def NbS (n : Int) (rs : List (Int × Int)) (N : Int → List Int) : Prop := ∀ j : Nat, (j : Int) < n → (N (j : Int)).Perm (nb rs j) ∧ (N (j : Int)).Pairwise (· ≤ ·)
theorem NbS.mem {N : Int → List Int} (h : NbS n rs N) {z y : Int} (z0 : 0 ≤ z) (z1 : z < n) : y ∈ N z ↔ Adj rs z y := by
  have a := (h z.toNat (by omega)).1.mem_iff (a := y)
  have b := mem_nb (rs := rs) z.toNat y
  rw [show ((z.toNat : Nat) : Int) = z by omega] at a b
  exact a.trans b
/-- how many roads stand at each place, of the first i -/
def cnt (n : Int) (rs : List (Int × Int)) (i : Nat) : List Int := (List.range n.toNat).map fun j => ((nbTo rs i j).length : Int)
theorem cnt_get {i j : Nat} (h : j < n.toNat) : (cnt n rs i)[j]? = some ((nbTo rs i j).length : Int) := by
  unfold cnt
  rw [List.getElem?_map, List.getElem?_range h]
  rfl
theorem cnt_len (i : Nat) : (cnt n rs i).length = n.toNat := by unfold cnt; rw [List.length_map, List.length_range]
theorem cnt_step {i : Nat} {p : Int × Int} (hp : rs[i]? = some p) (h0 : 0 ≤ p.1) (h1 : p.1 < p.2) (h2 : p.2 < n) : ((cnt n rs i).set p.1.toNat (((nbTo rs i p.1.toNat).length : Int) + 1)).set p.2.toNat (((nbTo rs i p.2.toNat).length : Int) + 1) = cnt n rs (i + 1) := by
  refine List.ext_getElem? fun j => ?_
  rw [List.getElem?_set, List.getElem?_set, List.length_set, cnt_len]
  by_cases hj : j < n.toNat
  · rw [cnt_get hj, cnt_get hj, nbTo_succ hp, List.length_append]
    by_cases c2 : p.2.toNat = j
    · subst c2
      rw [if_pos rfl, if_pos (by omega), if_pos (.inr (by omega)), List.length_singleton]
      rfl
    · rw [if_neg c2]
      by_cases c1 : p.1.toNat = j
      · subst c1
        rw [if_pos rfl, if_pos (by omega), if_pos (.inl (by omega)), List.length_singleton]
        rfl
      · rw [if_neg c1, if_neg (by omega)]
        rfl
  · rw [List.getElem?_eq_none (l := cnt n rs (i + 1)) (by rw [cnt_len]; omega), List.getElem?_eq_none (l := cnt n rs i) (by rw [cnt_len]; omega), if_neg (by omega), if_neg (by omega)]
theorem set_ints (ms : List Int) (j : Nat) (v : Int) : (ms.map PyData.int).set j (.int v) = (ms.set j v).map .int := by rw [List.map_set]
theorem s_road_counts (sh : Shape n rs) (hn : n ≤ 1000) (hl : rs.length ≤ 1000) (h : k (.l ((cnt n rs rs.length).map .int))) : m_road_counts [.d (dWeb n rs ms)] x k := by
  show a_road_counts _ [.d (dWeb n rs ms), .x, .x, .x]
  have two := sh.two
  walk_at "ax"
  refine .inr ⟨_, _, rfl, rfl, by omega, by omega, by simp; omega, ?_⟩
  walk_at "ax"
  have e0 : (List.replicate n.toNat [PyData.int 0]).flatten = (cnt n rs 0).map .int := by
    rw [flat_rep]
    symm
    refine List.eq_replicate_iff.mpr ⟨by rw [List.length_map, cnt_len], fun b hb => ?_⟩
    obtain ⟨z, hz, rfl⟩ := List.mem_map.mp hb
    unfold cnt at hz
    obtain ⟨j, _, rfl⟩ := List.mem_map.mp hz
    rfl
  rw [e0]
  refine a_loop (fun i α => ∃ x2 x3 : Sot, α = [.d (dWeb n rs ms), .own ((cnt n rs i).map .int), x2, x3]) ⟨_, _, rfl⟩ ?_ ?_
  · rintro i y α hy ⟨x2, x3, rfl⟩
    obtain ⟨p, hp, rfl⟩ := dp_at hy
    have o := sh.ok p (List.mem_of_getElem? hp)
    walk_at "ax"
    refine g_ixL rfl (atI_toNat o.1 (by rw [List.getElem?_map, cnt_get (by omega)]; rfl)) ?_
    walk_at "ax"
    refine ⟨p.1, p.1.toNat, rfl, by rw [List.length_map, cnt_len]; exact ix_int o.1 (by omega), ?_⟩
    rw [set_ints]
    walk_at "ax"
    refine g_ixL rfl (atI_toNat (by omega) (by rw [List.getElem?_map, List.getElem?_set_ne (by omega), cnt_get (by omega)]; rfl)) ?_
    walk_at "ax"
    refine ⟨p.2, p.2.toNat, rfl, by rw [List.length_map, List.length_set, cnt_len]; exact ix_int (by omega) (by omega), ?_⟩
    rw [set_ints, cnt_step hp o.1 o.2.1 o.2.2]
    exact ⟨_, _, rfl⟩
  · rintro α ⟨x2, x3, rfl⟩
    rw [List.length_map]
    walk_at "ax"
    exact h
theorem NbS.deg {N : Int → List Int} (h : NbS n rs N) {j : Nat} (hj : (j : Int) < n) : (nb rs j).length = (N (j : Int)).length := (h j hj).1.length_eq.symm
end
end UW.Un
namespace UW
open PySem PySem.Spec PyProof.Rows L2
def dT (p : (Int × Int) × Int) : PyData := .tuple [.int p.1.1, .int p.1.2, .int p.2]
def iT (p : (Int × Int) × Int) : List Int := [p.1.1, p.1.2, p.2]
/-- the order of threes -/
def leT (p q : (Int × Int) × Int) : Prop := p.1.1 < q.1.1 ∨ (p.1.1 = q.1.1 ∧ (p.1.2 < q.1.2 ∨ (p.1.2 = q.1.2 ∧ p.2 ≤ q.2)))
def inB (p : (Int × Int) × Int) : Prop := (0 ≤ p.1.1 ∧ p.1.1 < 64) ∧ (0 ≤ p.1.2 ∧ p.1.2 < 64) ∧ (0 ≤ p.2 ∧ p.2 < 64)
def gSortT : AOn := fun as k => ∃ (a : Avl) (rs : List ((Int × Int) × Int)), as = [a] ∧ a.lst = some (rs.map dT) ∧ rs.length < 64 ∧ (∀ r ∈ rs, inB r) ∧ ∀ qs : List ((Int × Int) × Int), qs.Perm rs → qs.Pairwise leT → k (.l (qs.map dT))
theorem flat_dTs : ∀ rs : List ((Int × Int) × Int), flatDs (rs.map dT) = true
  | [] => by simp [flatDs]
  | p :: rs => by simp [flatDs, flatD, dT, flat_dTs rs]
theorem tp_dT {K : Fg} {H : Hp} {v : V} {p : (Int × Int) × Int} (h : Tp K H v (dT p)) : TupI K H v (iT p) ∧ ∃ t, v = .ref t ∧ SqT K H t ((iT p).map V.int) := by
  obtain ⟨t, xs, rfl, h1, h2⟩ := Tp.tup_inv h
  have e : xs = (iT p).map V.int := Tps.ints (ns := iT p) h2
  subst e
  exact ⟨⟨t, rfl, h1.up⟩, t, rfl, h1⟩
theorem tps_perm {K : Fg} {H : Hp} {κ : Type} {f : κ → PyData} {ys xs : List V} (pm : ys.Perm xs) : ∀ {rs : List κ}, Tps K H xs (rs.map f) → ∃ qs : List κ, qs.Perm rs ∧ Tps K H ys (qs.map f) := by
  induction pm with
  | nil =>
    intro rs h
    cases rs with
    | nil => exact ⟨[], .refl _, .nil⟩
    | cons p rs => cases h
  | cons x _ ih =>
    intro rs h
    cases rs with
    | nil => cases h
    | cons p rs =>
      cases h with
      | cons h1 h2 =>
        obtain ⟨qs, h3, h4⟩ := ih h2
        exact ⟨p :: qs, h3.cons p, .cons h1 h4⟩
  | swap x y l =>
    intro rs h
    cases rs with
    | nil => cases h
    | cons p rs =>
      cases h with
      | cons h1 h2 =>
        cases rs with
        | nil => cases h2
        | cons q rs =>
          cases h2 with
          | cons h2 h3 => exact ⟨q :: p :: rs, .swap .., .cons h2 (.cons h1 h3)⟩
  | trans _ _ ih1 ih2 =>
    intro rs h
    obtain ⟨qs, a, b⟩ := ih2 h
    obtain ⟨ts, c, d⟩ := ih1 b
    exact ⟨ts, c.trans a, d⟩
theorem leT_of {p q : (Int × Int) × Int} (hp : inB p) (hq : inB q) (h : TS.code 64 (iT p) ≤ TS.code 64 (iT q)) : leT p q := by
  have e : ∀ r : (Int × Int) × Int, TS.code 64 (iT r) = r.1.1 * 4096 + (r.1.2 * 64 + r.2) := by
    intro r
    unfold iT
    simp only [TS.code, List.length_cons, List.length_nil]
    have : (64 : Int) ^ (0 + 1 + 1) = 4096 := by decide
    have h2 : (64 : Int) ^ (0 + 1) = 64 := by decide
    have h3 : (64 : Int) ^ 0 = 1 := by decide
    rw [this, h2, h3]
    omega
  rw [e, e] at h
  unfold leT
  unfold inB at hp hq
  omega
theorem tps_pw {K : Fg} {H : Hp} {R : (Int × Int) × Int → (Int × Int) × Int → Prop} {S : V → V → Prop} (hS : ∀ x y p q, Tp K H x (dT p) → Tp K H y (dT q) → inB p → inB q → S x y → R p q) : ∀ {ys : List V} {qs : List ((Int × Int) × Int)}, Tps K H ys (qs.map dT) → (∀ q ∈ qs, inB q) → ys.Pairwise S → qs.Pairwise R
  | _, [], _, _, _ => .nil
  | ys, q :: qs, h, b, pw => by
    obtain ⟨v, vs, rfl, h1, h2⟩ := Tps.cons_inv h
    obtain ⟨p1, p2⟩ := List.pairwise_cons.mp pw
    refine List.pairwise_cons.mpr ⟨fun r hr => ?_, tps_pw hS h2 (fun z hz => b z (List.mem_cons_of_mem _ hz)) p2⟩
    obtain ⟨i, hi, ei⟩ := List.mem_iff_getElem.mp hr
    obtain ⟨x, hx, tx⟩ := h2.at (i := i) (d := dT r) (by rw [List.getElem?_map, List.getElem?_eq_getElem hi, ei]; rfl)
    exact hS v x q r h1 tx (b q (List.mem_cons_self ..)) (b r (List.mem_cons_of_mem _ hr)) (p1 x (List.mem_of_getElem? hx))
theorem rb_sortT {K : Fg} : RCb K (rSortU K 3 64) gSortT := by
  intro W Hs O S H xs as k Q ok r ⟨a, rs, e, h, h64, hb, hk⟩ q
  subst e
  obtain ⟨v, rfl, r1⟩ := one_inv r
  obtain ⟨p, vs, rfl, a, o⟩ := r1.lst h
  have t := o.tps (flat_dTs rs)
  have lv := t.length
  rw [List.length_map] at lv
  refine ⟨p, vs, rfl, SqL.of a, by omega, fun x hx => ?_, fun ys d pm pw hd => ?_⟩
  · obtain ⟨i, hi, rfl⟩ := List.mem_iff_getElem.mp hx
    obtain ⟨d, hd, td⟩ := t.get (List.getElem?_eq_getElem hi)
    rw [List.getElem?_map] at hd
    cases e : rs[i]? with
    | none => rw [e] at hd; cases hd
    | some r =>
      rw [e] at hd
      obtain rfl : dT r = d := Option.some.inj hd
      have b := hb r (List.mem_of_getElem? e)
      refine ⟨iT r, (tp_dT td).1, rfl, fun m hm => ?_⟩
      unfold inB at b
      unfold iT at hm
      simp only [List.mem_cons, List.not_mem_nil, or_false] at hm
      rcases hm with rfl | rfl | rfl <;> omega
  · obtain ⟨qs, h1, h2⟩ := tps_perm pm t
    have hb' : ∀ r ∈ qs, inB r := fun r hr => hb r (h1.mem_iff.mp hr)
    refine Rst.new q ok h2.ods (hk qs h1 (tps_pw (fun x y m n hx hy bm bn hc => leT_of bm bn (hc _ _ (tp_dT hx).1 (tp_dT hy).1)) h2 hb' pw)) d hd
end UW
namespace UW
open PySem PySem.Spec PyProof.Rows L2
section
variable {X : Cx} {a : Expr} {ta : TE} {x : Str} {ns : List Int} {p1 p2 : Pos}
end
def gAll : AOn := fun as k => ∃ (a : Avl) (bs : List Bool), as = [a] ∧ a.lst = some (bs.map .bool) ∧ k (.d (.bool (bs.all id)))
theorem Ods.bls {K : Fg} {G : Addr → Prop} {H : Hp} {bs : List Bool} : ∀ {vs : List V}, Ods K G H vs (bs.map .bool) → vs = bs.map V.bl := by
  induction bs with
  | nil => intro vs h; cases h; rfl
  | cons b bs ih =>
    intro vs h
    cases h with
    | cons h1 h2 =>
      cases h1
      rw [List.map_cons, ih h2]
theorem rb_all {K : Fg} : RCb K (rAll K) gAll := by
  intro W Hs O S H xs as k Q ok r ⟨a, bs, e, h, hk⟩ q
  subst e
  obtain ⟨v, rfl, r1⟩ := one_inv r
  obtain ⟨p, vs, rfl, a, o⟩ := r1.lst h
  rw [Ods.bls o] at a
  exact ⟨p, bs, rfl, SqL.of a, Rst.bl q ok hk⟩
end UW
namespace UW
open PySem PySem.Spec PyProof.Rows L2
def gSortI : AOn := fun as k => ∃ (a : Avl) (ns : List Int), as = [a] ∧ a.lst = some (ns.map .int) ∧ ∀ qs : List Int, qs.Perm ns → qs.Pairwise (· ≤ ·) → k (.l (qs.map .int))
theorem ods_ints {K : Fg} {G : Addr → Prop} {H : Hp} : ∀ ns : List Int, Ods K G H (ns.map V.int) (ns.map .int)
  | [] => .nil
  | n :: ns => .cons (Od.int n) (ods_ints ns)
theorem rb_sortI {K : Fg} : RCb K (rSortedI K) gSortI := by
  intro W Hs O S H xs as k Q ok r ⟨a, ns, e, h, hk⟩ q
  subst e
  obtain ⟨v, rfl, r1⟩ := one_inv r
  obtain ⟨p, vs, rfl, a, o⟩ := r1.lst h
  rw [o.ints] at a
  exact ⟨p, ns, rfl, SqL.of a, fun qs p' h1 h2 np => Rst.new q ok (ods_ints qs) (hk qs h1 h2) p' np⟩
end UW
namespace UW.Un
open PySem PySem.Spec PyProof.Rows L2 UW
section
variable {n : Int} {rs : List (Int × Int)}
theorem dsl_ex (sh : Shape n rs) : ∃ ds, DsL n rs 0 ds := by
  have two := sh.two
  have key : ∀ i : Nat, i ≤ n.toNat → ∃ ds : List Int, ds.length = i ∧ ∀ j : Nat, j < i → ∃ d : Nat, ds[j]? = some (d : Int) ∧ Dst rs 0 (j : Int) d := by
    intro i
    induction i with
    | zero => intro _; exact ⟨[], rfl, fun j h => absurd h (by omega)⟩
    | succ i ih =>
      intro hi
      obtain ⟨ds, hl, hd⟩ := ih (by omega)
      obtain ⟨k1, r⟩ := conn_rch (p := 0) (x := (i : Int)) sh (by omega) (by omega) (by omega) (by omega)
      obtain ⟨d, _, dj⟩ := Dst.ex r
      refine ⟨ds ++ [(d : Int)], by simp [hl], fun j hj => ?_⟩
      by_cases e : j < i
      · rw [List.getElem?_append_left (by omega)]
        exact hd j e
      · have : j = i := by omega
        subst this
        exact ⟨d, by rw [List.getElem?_append_right (by omega), hl]; simp, dj⟩
  obtain ⟨ds, h⟩ := key n.toNat (Nat.le_refl _)
  exact ⟨ds, h⟩
open Classical in
noncomputable def dsO (n : Int) (rs : List (Int × Int)) : List Int := if h : ∃ ds, DsL n rs 0 ds then Classical.choose h else []
theorem dsO_is (sh : Shape n rs) : DsL n rs 0 (dsO n rs) := by
  unfold dsO
  rw [dif_pos (dsl_ex sh)]
  exact Classical.choose_spec (dsl_ex sh)
theorem dsl_isO {ds : List Int} (h : DsL n rs 0 ds) (sh : Shape n rs) : ds = dsO n rs := h.uniq (dsO_is sh)
/-- how many roads a place has -/
def deg (rs : List (Int × Int)) (z : Int) : Int := ((nb rs z.toNat).length : Int)
/-- the places with steps of this evenness -/
noncomputable def sideL (n : Int) (rs : List (Int × Int)) (s : Int) : List Int := (iota n.toNat).filter fun p => decide ((dsO n rs).getD p.toNat 0 % 2 = s)
def OkS (n : Int) (rs : List (Int × Int)) (s : Int) : Prop := ∀ p ∈ sideL n rs s, deg rs p = 2
open Classical in
noncomputable def mids (n : Int) (rs : List (Int × Int)) : Option (List Int) :=
  if n < 3 ∨ (rs.length : Int) ≠ n - 1 then none else if OkS n rs 0 then some (sideL n rs 0) else if OkS n rs 1 then some (sideL n rs 1) else none
theorem mem_sideL {s p : Int} : p ∈ sideL n rs s → 0 ≤ p ∧ p < n := by
  intro h
  have := (List.mem_filter.mp h).1
  rw [mem_iota] at this
  omega
theorem sideL_len (s : Int) : (sideL n rs s).length ≤ n.toNat := by
  have := List.length_filter_le (fun p => decide ((dsO n rs).getD p.toNat 0 % 2 = s)) (iota n.toNat)
  rw [iota_len] at this
  exact this
theorem mids_mem {M : List Int} (h : mids n rs = some M) : (∀ p ∈ M, (0 ≤ p ∧ p < n) ∧ deg rs p = 2) ∧ M.length ≤ n.toNat := by
  unfold mids at h
  split at h
  · cases h
  · split at h
    · rename_i c
      cases h
      exact ⟨fun p hp => ⟨mem_sideL hp, c p hp⟩, sideL_len 0⟩
    · split at h
      · rename_i c
        cases h
        exact ⟨fun p hp => ⟨mem_sideL hp, c p hp⟩, sideL_len 1⟩
      · cases h
/-- the data of a list of places, if any -/
def mO : Option (List Int) → PyData
  | none => .none
  | some l => .list (l.map .int)
/-- sorted -/
def srt (l : List Int) : List Int := l.mergeSort fun a b => decide (a ≤ b)
theorem srt_perm (l : List Int) : (srt l).Perm l := List.mergeSort_perm _ _
theorem srt_pw (l : List Int) : (srt l).Pairwise (· ≤ ·) := by
  have := List.pairwise_mergeSort (le := fun a b : Int => decide (a ≤ b)) (fun a b c h1 h2 => by
    have h1 := of_decide_eq_true h1
    have h2 := of_decide_eq_true h2
    exact decide_eq_true (Int.le_trans h1 h2)) (fun a b => by
    rcases Int.le_total a b with c | c
    · rw [decide_eq_true c]; rfl
    · rw [decide_eq_true c, Bool.or_true]) l
  exact this.imp fun h => of_decide_eq_true h
theorem srt_eq {l qs : List Int} (pm : qs.Perm l) (pw : qs.Pairwise (· ≤ ·)) : qs = srt l :=
  (pm.trans (srt_perm l).symm).eq_of_pairwise (fun a b _ _ h1 h2 => Int.le_antisymm h1 h2) pw (srt_pw l)
/-- threes sorted -/
def leTb (p q : (Int × Int) × Int) : Bool := decide (p.1.1 < q.1.1 ∨ (p.1.1 = q.1.1 ∧ (p.1.2 < q.1.2 ∨ (p.1.2 = q.1.2 ∧ p.2 ≤ q.2))))
def srtT (l : List ((Int × Int) × Int)) : List ((Int × Int) × Int) := l.mergeSort leTb
theorem srtT_perm (l : List ((Int × Int) × Int)) : (srtT l).Perm l := List.mergeSort_perm _ _
theorem srtT_pw (l : List ((Int × Int) × Int)) : (srtT l).Pairwise leT := by
  have := List.pairwise_mergeSort (le := leTb) (fun a b c h1 h2 => by
    have h1 := of_decide_eq_true h1
    have h2 := of_decide_eq_true h2
    exact decide_eq_true (by omega)) (fun a b => by
    unfold leTb
    rw [← Bool.decide_or]
    exact decide_eq_true (by omega)) l
  exact this.imp fun h => of_decide_eq_true h
theorem srtT_eq {l qs : List ((Int × Int) × Int)} (pm : qs.Perm l) (pw : qs.Pairwise leT) : qs = srtT l :=
  (pm.trans (srtT_perm l).symm).eq_of_pairwise (fun a b _ _ h1 h2 => by
    unfold leT at h1 h2
    exact Prod.ext (Prod.ext (by omega) (by omega)) (by omega)) pw (srtT_pw l)
end
end UW.Un
namespace UW.Un
open PySem PySem.Spec PyProof.Rows L2 UW
/-- one step -/
local macro_rules | `(tactic| walk_at "a1") => `(tactic| first
  | with_reducible refine wk ?_
  | (with_reducible refine rs_go 1 ?_
     first
     | with_reducible refine a_var (by with_unfolding_all rfl) (by with_unfolding_all rfl) ?_
     | with_reducible refine a_gtup (by with_unfolding_all rfl) (by with_unfolding_all rfl) ?_
     | with_reducible refine a_glst (by with_unfolding_all rfl) (by with_unfolding_all rfl) ?_)
  | (with_reducible refine rs_go 2 ?_
     first
     | with_reducible refine g_ixT (by with_unfolding_all rfl) (by first | with_unfolding_all rfl | with_unfolding_all exact at_zero _ _) ?_
     | with_reducible refine g_ixL (by with_unfolding_all rfl) (by first | with_unfolding_all rfl | with_unfolding_all exact at_zero _ _) ?_)
  | (with_reducible refine rs_go 3 ?_
     first
     | with_reducible refine g_lenT (by with_unfolding_all rfl) ?_
     | with_reducible refine g_lenL (by with_unfolding_all rfl) ?_
     | with_reducible refine g_tupL (by with_unfolding_all rfl) ?_
     | with_reducible refine g_tupT (by with_unfolding_all rfl) ?_
     | with_reducible refine g_lstT (by with_unfolding_all rfl) ?_
     | with_reducible refine g_lstL (by with_unfolding_all rfl) ?_)
  | (with_reducible refine rs_go 4 ?_
     first
     | with_reducible refine g_addL (by with_unfolding_all rfl) (by with_unfolding_all rfl) (Nat.le_of_ble_eq_true (by with_unfolding_all rfl)) ?_
     | with_reducible refine g_mulI (by first | exact Or.inl ⟨by decide, by decide⟩ | exact Or.inr ⟨by decide, by decide⟩ | (first | (refine Or.inl ⟨?_, ?_⟩ <;> omega) | (refine Or.inr ⟨?_, ?_⟩ <;> omega))) ?_
     | with_reducible refine g_mod (by first | decide | omega) ?_
     | with_reducible refine g_div (by first | decide | omega) (by first | decide | omega) ?_
     | with_reducible refine g_slT (by with_unfolding_all rfl) ?_
     | with_reducible refine g_slL (by with_unfolding_all rfl) ?_
     | with_reducible refine g_isN (by with_unfolding_all rfl) ?_
     | with_reducible refine g_notN (by with_unfolding_all rfl) ?_)
  | (with_reducible refine rs_go 5 ?_
     first
     | with_reducible refine a_dget (by with_unfolding_all rfl) ?_
     | with_reducible refine a_dget2 (by with_unfolding_all rfl) ?_
     | with_reducible refine a_fzq (by with_unfolding_all rfl) ?_
     | with_reducible refine a_retC (by with_unfolding_all rfl) ?_
     | with_reducible refine a_isX (by with_unfolding_all rfl) ?_
     | with_reducible refine a_app (by with_unfolding_all rfl) ?_
     | with_reducible refine a_ext (by with_unfolding_all rfl) ?_
     | with_reducible refine a_pop (by with_unfolding_all rfl) ?_
     | with_reducible refine a_fz (by with_unfolding_all rfl) ?_
     | with_reducible refine a_lenDV (by with_unfolding_all rfl) ?_)
  | (with_reducible refine rs_go 6 ?_
     first
     | with_reducible refine a_cl (by with_unfolding_all rfl) ?_
     | with_reducible refine a_dat (by with_unfolding_all rfl) ?_
     | with_reducible refine a_s1 (by with_unfolding_all rfl) ?_
     | with_reducible refine a_dcy (by with_unfolding_all rfl) ?_
     | with_reducible refine a_s2 (by with_unfolding_all rfl) (by with_unfolding_all rfl) ?_
     | with_reducible refine a_s3 (by with_unfolding_all rfl) (by with_unfolding_all rfl) (by with_unfolding_all rfl) ?_
     | with_reducible refine a_owned (by with_unfolding_all rfl) ?_)
  | (with_reducible refine rs_go 7 ?_
     first
     | with_reducible refine i_B (by with_unfolding_all rfl) ?_
     | with_reducible refine i_T (by with_unfolding_all rfl) ?_
     | with_reducible refine i_L (by with_unfolding_all rfl) ?_)
  | (with_reducible refine rs_go 8 ?_
     first
     | with_reducible refine a_nb (by with_unfolding_all rfl) ?_
     | with_reducible refine a_len (by with_unfolding_all rfl) ?_
     | with_reducible refine a_revT (by with_unfolding_all rfl) ?_
     | with_reducible refine a_revL (by with_unfolding_all rfl) ?_)
  | (with_reducible refine rs_go 9 ?_
     first
     | with_reducible refine iteNT (by with_unfolding_all rfl) ?_
     | with_reducible refine iteNF (by with_unfolding_all rfl) ?_
     | with_reducible refine iteIT (by with_unfolding_all rfl) ?_
     | with_reducible refine iteIF (by with_unfolding_all rfl) ?_))
local macro_rules | `(tactic| walk_at "ax") => `(tactic| (repeat (first | walk_at "a1" | with_reducible refine a_if ?_); try dsimp only [List.set_cons_zero, List.set_cons_succ, awipe, aFrz, List.getElem?_cons_zero, List.getElem?_cons_succ]))
local macro_rules | `(tactic| walk_at "ay") => `(tactic| (repeat (walk_at "a1"); try dsimp only [List.set_cons_zero, List.set_cons_succ, awipe, aFrz, List.getElem?_cons_zero, List.getElem?_cons_succ]))
/-- steps_from, slots web, place, steps, other -/
def t_steps_from (K : Fg) : TS :=
  (tSeq (tAsg (tG (sp_steps_known K) E00 (tCons (tVar 0) (tCons (tVar 1) tNil))) (gName 2)) (tRet (tCB (rTupOf K) (tCons (tLc (iRng1 (tCons (tOp
    (rIx K) (tVar 0) (tC (.int 0))) tNil)) (gName 3) tYes (tDGet (tVar 2) (tVar 3)) [3]) tNil))))
abbrev a_steps_from_0 : ASt :=
  (aRet (aCB gTupOf (bCons (aLc (aRng1 (bCons (aOp gIx (aVar 0) (aC (.int 0))) bNil)) (agName 3) aYes (aDGet 2 (aVar 3)) [3]) bNil)))
abbrev a_steps_from : ASt :=
  (aSeq (aSet 2 (aCall0 m_steps_known (bCons (aVar 0) (bCons (aVar 1) bNil)))) a_steps_from_0)
theorem f_steps_from {K : Fg} {E : WX} : RSt K E (t_steps_from K) a_steps_from :=
  (rs_seq (rs_set (re_call0 br_steps_known (rv_cons re_var (rv_cons re_var rv_nil)))) (rs_ret (re_cb rb_tupOf (rv_cons (re_lc (ri_rng1 (rv_cons
    (re_op ro_ix re_var re_int) rv_nil)) rg_name rt_yes (re_dget re_var) (by rfl)) rv_nil))))
def m_steps_from : AFn := mOf 2 a_steps_from
def sp_steps_from (K : Fg) : Sp := SpA K 2 m_steps_from
theorem br_steps_from {K : Fg} : ∀ vs H Q E, SpA K 2 m_steps_from vs H Q E → sp_steps_from K vs H Q E := fun _ _ _ _ h => h
theorem l_steps_from {K : Fg} : ∀ vs H Q E, sp_steps_from K vs H Q E → vs.length = 2 := l_spa
theorem p_steps_from {K : Fg} {vs : List V} {H : Hp} {Q : VK} {E : XK} (h : sp_steps_from K vs H Q E) : t_steps_from K { nx := fun _ H' => Q .non H', rt := Q } (L2.start ["web", "place", "steps", "other"] vs) H :=
  p_spa (f_steps_from) h rfl
/-- middles_of, slots web, n, roads, most, steps, many, side, places, place -/
def t_middles_of (K : Fg) : TS :=
  (tSeq (tAsg (tVar 0) (gTup K 3 (gCons (gName 1) (gCons (gName 2) (gCons (gName 3) gNil))))) (tSeq (tIfS (tOr (tTest
    (tOp (rLtU K) (tVar 1) (tC (.int 3)))) (tTest (tOp (rNeU K) (tCB (rLenU K) (tCons (tVar 2) tNil)) (tOp rSubI (tVar 1) (tC (.int 1)))))) (tRet (tC .non)) tNext) (tSeq (tAsg (tTup (tCons (tG (sp_steps_from K) E00 (tCons (tVar 0)
    (tCons (tC (.int 0)) tNil))) (tCons (tG (sp_road_counts K) E00 (tCons (tVar 0) tNil)) tNil))) (gTup K 2 (gCons (gName 4) (gCons (gName 5) gNil)))) (tSeq (tFor (iSeq K (tTup (tCons (tC (.int 0)) (tCons (tC (.int 1)) tNil))))
    (gName 6) (tSeq (tAsg (tLc (iRng1 (tCons (tVar 1) tNil)) (gName 8) (tTest (tOp (rEqU K) (tOp rModI (tOp (rIx K) (tVar 4) (tVar 8)) (tC (.int 2))) (tVar 6))) (tVar 8) [8]) (gName 7)) (tIfS (tB (tCB (rAll K) (tCons (tLc (iSeq K
    (tVar 7)) (gName 8) tYes (tOp (rEqU K) (tOp (rIx K) (tVar 5) (tVar 8)) (tC (.int 2))) [8]) tNil))) (tRet (tVar 7)) tNext))) (tRet (tC .non))))))
abbrev a_middles_of_0 : ASt :=
  (aIfS (aB (aCB gAll (bCons (aLc (aSeqI (aVar 7)) (agName 8) aYes (aOp gEq (aOp gIx (aVar 5) (aVar 8)) (aC (.int 2))) [8]) bNil))) (aRet (aVar 7)) aNext)
abbrev a_middles_of_1 : ASt :=
  (aSeq (aFor (aSeqI (aTup (aCons (aC (.int 0)) (aCons (aC (.int 1)) aNil)))) (agName 6) (aSeq (aAsg (aLc (aRng1 (bCons (aVar 1) bNil)) (agName 8) (aB (aOp gEq (aOp gMod (aOp gIx (aVar 4) (aVar 8))
    (aC (.int 2))) (aVar 6))) (aVar 8) [8]) (agName 7)) a_middles_of_0)) (aRet (aC .none)))
abbrev a_middles_of_2 : ASt :=
  (aSeq (aAsg (aTup (aCons (aCall0 m_steps_from (bCons (aVar 0) (bCons (aC (.int 0)) bNil))) (aCons (aCall0 m_road_counts (bCons (aVar 0) bNil)) aNil))) (agTup 2 (agCons (agName 4) (agCons (agName 5)
    agNil)))) a_middles_of_1)
abbrev a_middles_of_3 : ASt :=
  (aSeq (aIfS (aOr (aB (aOp gLt (aVar 1) (aC (.int 3)))) (aB (aOp gNe (aCB gLen (bCons (aVar 2) bNil)) (aOp gSub' (aVar 1) (aC (.int 1)))))) (aRet (aC .none)) aNext) a_middles_of_2)
abbrev a_middles_of : ASt :=
  (aSeq (aAsg (aVar 0) (agTup 3 (agCons (agName 1) (agCons (agName 2) (agCons (agName 3) agNil))))) a_middles_of_3)
theorem f_middles_of {K : Fg} {E : WX} : RSt K E (t_middles_of K) a_middles_of :=
  (rs_seq (rs_asg re_var (rg_tup (rgs_cons rg_name (rgs_cons rg_name (rgs_cons rg_name rgs_nil))))) (rs_seq (rs_ifs (rt_or (rt_test (re_op ro_lt
    re_var re_int)) (rt_test (re_op ro_ne (re_cb rb_len (rv_cons re_var rv_nil)) (re_op ro_sub re_var re_int)))) (rs_ret re_non) rs_next) (rs_seq (rs_asg (re_tup (ra_cons (re_call0 br_steps_from (rv_cons re_var (rv_cons re_int
    rv_nil))) (ra_cons (re_call0 br_road_counts (rv_cons re_var rv_nil)) ra_nil))) (rg_tup (rgs_cons rg_name (rgs_cons rg_name rgs_nil)))) (rs_seq (rs_for (ri_seq (re_tup (ra_cons re_int (ra_cons re_int ra_nil)))) rg_name (rs_seq
    (rs_asg (re_lc (ri_rng1 (rv_cons re_var rv_nil)) rg_name (rt_test (re_op ro_eq (re_op ro_mod (re_op ro_ix re_var re_var) re_int) re_var)) re_var (by rfl)) rg_name) (rs_ifs (rt_b (re_cb rb_all (rv_cons (re_lc (ri_seq re_var)
    rg_name rt_yes (re_op ro_eq (re_op ro_ix re_var re_var) re_int) (by rfl)) rv_nil))) (rs_ret re_var) rs_next))) (rs_ret re_non)))))
def m_middles_of : AFn := mOf 8 a_middles_of
def sp_middles_of (K : Fg) : Sp := SpA K 1 m_middles_of
theorem br_middles_of {K : Fg} : ∀ vs H Q E, SpA K 1 m_middles_of vs H Q E → sp_middles_of K vs H Q E := fun _ _ _ _ h => h
theorem l_middles_of {K : Fg} : ∀ vs H Q E, sp_middles_of K vs H Q E → vs.length = 1 := l_spa
theorem p_middles_of {K : Fg} {vs : List V} {H : Hp} {Q : VK} {E : XK} (h : sp_middles_of K vs H Q E) : t_middles_of K { nx := fun _ H' => Q .non H', rt := Q } (L2.start ["web", "n", "roads", "most", "steps", "many", "side", "places", "place"] vs) H :=
  p_spa (f_middles_of) h rfl
/-- _law_degrees, slots web, found, a, b -/
def t__law_degrees (K : Fg) : TS :=
  (tSeq (tAsg (tOp (rMulU K) (tLst (tCons (tC (.int 0)) tNil)) (tOp (rIx K) (tVar 0) (tC (.int 0)))) (gName 1)) (tSeq (tFor (iSeq K (tOp (rIx K) (tVar
    0) (tC (.int 1)))) (gTup K 2 (gCons (gName 2) (gCons (gName 3) gNil))) (tAsg (tTup (tCons (tOp (rAddU K) (tOp (rIx K) (tVar 1) (tVar 2)) (tC (.int 1))) (tCons (tOp (rAddU K) (tOp (rIx K) (tVar 1) (tVar 3)) (tC (.int 1)))
    tNil))) (gTup K 2 (gCons (gSub (tVar 1) (tVar 2) rSetL) (gCons (gSub (tVar 1) (tVar 3) rSetL) gNil))))) (tRet (tVar 1))))
abbrev a__law_degrees_0 : ASt :=
  (aSeq (aFor (aSeqI (aOp gIx (aVar 0) (aC (.int 1)))) (agTup 2 (agCons (agName 2) (agCons (agName 3) agNil))) (aSwap 1 1 (aOp gAdd (aOp gIx (aVar 1) (aVar 2)) (aC (.int 1))) (aOp gAdd (aOp gIx
    (aVar 1) (aVar 3)) (aC (.int 1))) (aVar 2) (aVar 3))) (aRet (aVar 1)))
abbrev a__law_degrees : ASt :=
  (aSeq (aSet 1 (aOp gMul (aLst (aCons (aC (.int 0)) aNil)) (aOp gIx (aVar 0) (aC (.int 0))))) a__law_degrees_0)
theorem f__law_degrees {K : Fg} {E : WX} : RSt K E (t__law_degrees K) a__law_degrees :=
  (rs_seq (rs_set (re_op ro_mul (re_lst (ra_cons re_int ra_nil)) (re_op ro_ix re_var re_int))) (rs_seq (rs_for (ri_seq (re_op ro_ix re_var
    re_int)) (rg_tup (rgs_cons rg_name (rgs_cons rg_name rgs_nil))) (rs_swap (re_op ro_add (re_op ro_ix re_var re_var) re_int) (re_op ro_add (re_op ro_ix re_var re_var) re_int) re_var re_var)) (rs_ret re_var)))
def m__law_degrees : AFn := mOf 3 a__law_degrees
def sp__law_degrees (K : Fg) : Sp := SpA K 1 m__law_degrees
theorem br__law_degrees {K : Fg} : ∀ vs H Q E, SpA K 1 m__law_degrees vs H Q E → sp__law_degrees K vs H Q E := fun _ _ _ _ h => h
theorem l__law_degrees {K : Fg} : ∀ vs H Q E, sp__law_degrees K vs H Q E → vs.length = 1 := l_spa
theorem p__law_degrees {K : Fg} {vs : List V} {H : Hp} {Q : VK} {E : XK} (h : sp__law_degrees K vs H Q E) : t__law_degrees K { nx := fun _ H' => Q .non H', rt := Q } (L2.start ["web", "found", "a", "b"] vs) H :=
  p_spa (f__law_degrees) h rfl
/-- _law_steps, slots web, place, found, turn, a, b, own -/
def t__law_steps (K : Fg) : TS :=
  (tSeq (tAsg (tDisp [((tVar 1), (tC (.int 0)))]) (gName 2)) (tSeq (tFor (iRng1 (tCons (tOp (rIx K) (tVar 0) (tC (.int 0))) tNil)) (gName
    3) (tFor (iSeq K (tOp (rIx K) (tVar 0) (tC (.int 1)))) (gTup K 2 (gCons (gName 4) (gCons (gName 5) gNil))) (Evl.tCut (tIfS (tAnd (tB (tDIn (tVar 4) (tVar 2))) (tAnd (tTest (tOp (rEqU K) (tDGet (tVar 2) (tVar 4)) (tVar 3))) (tB
    (tDNotIn (tVar 5) (tVar 2))))) (sDPut (tVar 2) (tVar 5) (tOp (rAddU K) (tVar 3) (tC (.int 1)))) tNext) (tIfS (tAnd (tB (tDIn (tVar 5) (tVar 2))) (tAnd (tTest (tOp (rEqU K) (tDGet (tVar 2) (tVar 5)) (tVar 3))) (tB (tDNotIn (tVar
    4) (tVar 2))))) (sDPut (tVar 2) (tVar 4) (tOp (rAddU K) (tVar 3) (tC (.int 1)))) tNext)))) (tRet (tLc (iRng1 (tCons (tOp (rIx K) (tVar 0) (tC (.int 0))) tNil)) (gName 6) tYes (tDGet (tVar 2) (tVar 6)) [6]))))
abbrev a__law_steps_0 : ASt :=
  (aIfS (aAnd (aB (aDIn (aVar 5) 2)) (aAnd (aB (aOp gEq (aDGet 2 (aVar 5)) (aVar 3))) (aB (aDNi (aVar 4) 2)))) (aDPut 2 (aVar 4) (aOp gAdd (aVar 3) (aC (.int 1)))) aNext)
abbrev a__law_steps_1 : ASt :=
  (aRet (aLc (aRng1 (bCons (aOp gIx (aVar 0) (aC (.int 0))) bNil)) (agName 6) aYes (aDGet 2 (aVar 6)) [6]))
abbrev a__law_steps_2 : ASt :=
  (aSeq (aFor (aRng1 (bCons (aOp gIx (aVar 0) (aC (.int 0))) bNil)) (agName 3) (aFor (aSeqI (aOp gIx (aVar 0) (aC (.int 1)))) (agTup 2 (agCons (agName 4) (agCons (agName 5) agNil))) (aCut (aIfS (aAnd
    (aB (aDIn (aVar 4) 2)) (aAnd (aB (aOp gEq (aDGet 2 (aVar 4)) (aVar 3))) (aB (aDNi (aVar 5) 2)))) (aDPut 2 (aVar 5) (aOp gAdd (aVar 3) (aC (.int 1)))) aNext) a__law_steps_0))) a__law_steps_1)
abbrev a__law_steps : ASt :=
  (aSeq (aSet 2 (aDOne (aVar 1) (aC (.int 0)))) a__law_steps_2)
theorem f__law_steps {K : Fg} {E : WX} : RSt K E (t__law_steps K) a__law_steps :=
  (rs_seq (rs_set (re_done re_var re_int)) (rs_seq (rs_for (ri_rng1 (rv_cons (re_op ro_ix re_var re_int) rv_nil)) rg_name (rs_for (ri_seq (re_op
    ro_ix re_var re_int)) (rg_tup (rgs_cons rg_name (rgs_cons rg_name rgs_nil))) (rs_cut (rs_ifs (rt_and (rt_b (re_din re_var)) (rt_and (rt_test (re_op ro_eq (re_dget re_var) re_var)) (rt_b (re_dni re_var)))) (rs_dput re_var (re_op
    ro_add re_var re_int)) rs_next) (rs_ifs (rt_and (rt_b (re_din re_var)) (rt_and (rt_test (re_op ro_eq (re_dget re_var) re_var)) (rt_b (re_dni re_var)))) (rs_dput re_var (re_op ro_add re_var re_int)) rs_next)))) (rs_ret (re_lc
    (ri_rng1 (rv_cons (re_op ro_ix re_var re_int) rv_nil)) rg_name rt_yes (re_dget re_var) (by rfl)))))
def m__law_steps : AFn := mOf 5 a__law_steps
def sp__law_steps (K : Fg) : Sp := SpA K 2 m__law_steps
theorem br__law_steps {K : Fg} : ∀ vs H Q E, SpA K 2 m__law_steps vs H Q E → sp__law_steps K vs H Q E := fun _ _ _ _ h => h
theorem l__law_steps {K : Fg} : ∀ vs H Q E, sp__law_steps K vs H Q E → vs.length = 2 := l_spa
theorem p__law_steps {K : Fg} {vs : List V} {H : Hp} {Q : VK} {E : XK} (h : sp__law_steps K vs H Q E) : t__law_steps K { nx := fun _ H' => Q .non H', rt := Q } (L2.start ["web", "place", "found", "turn", "a", "b", "own"] vs) H :=
  p_spa (f__law_steps) h rfl
section
variable {x : AXc} {k : Avl → Prop} {n : Int} {rs : List (Int × Int)} {ms : List Int} {C : Cl}
theorem dsl_snoc {p : Int} {ds : List Int} {i j : Nat} (hl : ds.length = i) (hd : ∀ j : Nat, j < i → ∃ d : Nat, ds[j]? = some (d : Int) ∧ Dst rs p (j : Int) d) (dj : Dst rs p (i : Int) j) :
    ∀ j' : Nat, j' < i + 1 → ∃ d : Nat, (ds ++ [(j : Int)])[j']? = some (d : Int) ∧ Dst rs p (j' : Int) d := by
  intro t ht
  by_cases c : t < i
  · obtain ⟨d, a, b⟩ := hd t c
    exact ⟨d, by rw [List.getElem?_append_left (by omega)]; exact a, b⟩
  · have : t = i := by omega
    subst this
    exact ⟨j, by rw [List.getElem?_append_right (by omega), hl]; simp, dj⟩
theorem s_steps_from {p : Int} (sh : Shape n rs) (hl : rs.length ≤ 1000) (hn : n ≤ 1000) (p0 : 0 ≤ p) (p1 : p < n) (h : ∀ ds, DsL n rs p ds → k (.d (dIs ds))) : m_steps_from [.d (dWeb n rs ms), .d (.int p)] x k := by
  show a_steps_from _ [.d (dWeb n rs ms), .d (.int p), .x, .x]
  walk_at "ax"
  refine s_steps_known sh.ok hl hn p0 p1 fun m ky dn d1 => ⟨?_, fun z => by cases z⟩
  walk_at "ax"
  refine i_r1 (by have := sh.two; omega) ⟨by rw [List.length_map, iota_len]; omega, ?_⟩
  refine a_lcgo (fun i acc => ∃ ds : List Int, acc = ds.map .int ∧ ds.length = i ∧ ∀ j : Nat, j < i → ∃ d : Nat, ds[j]? = some (d : Int) ∧ Dst rs p (j : Int) d) ?_ ?_ ?_
  · exact ⟨[], rfl, rfl, fun j hj => absurd hj (by omega)⟩
  · rintro i y acc hy ⟨ds, rfl, hl', hd⟩
    obtain ⟨rfl, hi⟩ := iota_at' hy
    obtain ⟨k1, r⟩ := conn_rch (p := p) (x := (i : Int)) sh p0 p1 (by omega) (by omega)
    obtain ⟨j, _, dj⟩ := Dst.ex r
    walk_at "ax"
    refine a_dgI (x := .int (j : Int)) (by rw [find_dI, dn _ _ dj]; rfl) ?_
    walk_at "ax"
    exact ⟨ds ++ [(j : Int)], by rw [List.map_append]; rfl, by rw [List.length_append, hl']; rfl, dsl_snoc hl' hd dj⟩
  · rintro acc ⟨ds, rfl, hl', hd⟩ _
    rw [List.length_map, iota_len] at hl' hd
    walk_at "ax"
    exact h ds ⟨hl', hd⟩
theorem s__law_degrees (sh : Shape n rs) (hn : n ≤ 1000) (hl : rs.length ≤ 1000) (h : k (.l ((cnt n rs rs.length).map .int))) : m__law_degrees [.d (dWeb n rs ms)] x k := by
  show a__law_degrees _ [.d (dWeb n rs ms), .x, .x, .x]
  have two := sh.two
  walk_at "ax"
  refine .inr ⟨_, _, rfl, rfl, by omega, by omega, by simp; omega, ?_⟩
  walk_at "ax"
  have e0 : (List.replicate n.toNat [PyData.int 0]).flatten = (cnt n rs 0).map .int := by
    rw [flat_rep]
    symm
    refine List.eq_replicate_iff.mpr ⟨by rw [List.length_map, cnt_len], fun b hb => ?_⟩
    obtain ⟨z, hz, rfl⟩ := List.mem_map.mp hb
    unfold cnt at hz
    obtain ⟨j, _, rfl⟩ := List.mem_map.mp hz
    rfl
  rw [e0]
  refine a_loop (fun i α => ∃ x2 x3 : Sot, α = [.d (dWeb n rs ms), .own ((cnt n rs i).map .int), x2, x3]) ⟨_, _, rfl⟩ ?_ ?_
  · rintro i y α hy ⟨x2, x3, rfl⟩
    obtain ⟨p, hp, rfl⟩ := dp_at hy
    have o := sh.ok p (List.mem_of_getElem? hp)
    walk_at "ax"
    refine g_ixL rfl (atI_toNat o.1 (by rw [List.getElem?_map, cnt_get (by omega)]; rfl)) ?_
    walk_at "ax"
    refine g_ixL rfl (atI_toNat (by omega) (by rw [List.getElem?_map, cnt_get (by omega)]; rfl)) ?_
    walk_at "ax"
    refine ⟨p.1, p.1.toNat, rfl, by rw [List.length_map, cnt_len]; exact ix_int o.1 (by omega), _, rfl, ?_⟩
    walk_at "ax"
    refine ⟨p.2, p.2.toNat, rfl, by rw [List.length_set, List.length_map, cnt_len]; exact ix_int (by omega) (by omega), ?_⟩
    rw [set_ints, set_ints, cnt_step hp o.1 o.2.1 o.2.2]
    exact ⟨_, _, rfl⟩
  · rintro α ⟨x2, x3, rfl⟩
    rw [List.length_map]
    walk_at "ax"
    exact h
theorem deg_get {p : Int} (h0 : 0 ≤ p) (h1 : p < n) : atI ((cnt n rs rs.length).map PyData.int) p = some (.int (deg rs p)) := by
  refine atI_toNat h0 ?_
  rw [List.getElem?_map, cnt_get (by omega)]
  rfl
open Classical in
theorem all_deg {s : Int} : ((sideL n rs s).map fun p => decide (deg rs p = 2)).all id = decide (OkS n rs s) := by
  rw [Bool.eq_iff_iff, List.all_eq_true, decide_eq_true_iff]
  constructor
  · intro h p hp
    exact of_decide_eq_true (h _ (List.mem_map.mpr ⟨p, hp, rfl⟩))
  · intro h b hb
    obtain ⟨p, hp, rfl⟩ := List.mem_map.mp hb
    exact decide_eq_true (h p hp)
theorem iota_take {i m : Nat} (h : i < m) : (iota m).take (i + 1) = (iota m).take i ++ [(i : Int)] := by rw [List.take_add_one, iota_get h]; rfl
/-- the places of a side, gathered one by one -/
theorem side_snoc {s : Int} {i : Nat} (h : i < n.toNat) : ((iota n.toNat).take (i + 1)).filter (fun p => decide ((dsO n rs).getD p.toNat 0 % 2 = s)) = ((iota n.toNat).take i).filter (fun p => decide ((dsO n rs).getD p.toNat 0 % 2 = s)) ++ (if (dsO n rs).getD i 0 % 2 = s then [(i : Int)] else []) := by
  rw [iota_take h, List.filter_append]
  congr 1
  by_cases c : (dsO n rs).getD i 0 % 2 = s
  · rw [if_pos c, List.filter_cons_of_pos (by exact decide_eq_true c)]; rfl
  · rw [if_neg c, List.filter_cons_of_neg (by show ¬ decide _ = true; rw [decide_eq_false (by exact c)]; simp)]; rfl
theorem side_all {s : Int} : ((iota n.toNat).take n.toNat).filter (fun p => decide ((dsO n rs).getD p.toNat 0 % 2 = s)) = sideL n rs s := by
  unfold sideL
  rw [List.take_of_length_le (by rw [iota_len]; exact Nat.le_refl _)]
theorem dsO_get (sh : Shape n rs) {p : Int} (h0 : 0 ≤ p) (h1 : p < n) : atI ((dsO n rs).map PyData.int) p = some (.int ((dsO n rs).getD p.toNat 0)) := by
  refine atI_toNat h0 ?_
  have l := (dsO_is sh).1
  rw [List.getElem?_map, List.getElem?_eq_getElem (by omega), List.getD_eq_getElem?_getD, List.getElem?_eq_getElem (by omega)]
  rfl
open Classical in
theorem s_middles_of (sh : Shape n rs) (hn : n ≤ 1000) (hl : rs.length ≤ 1000) (h : k (.d (mO (mids n rs)))) : m_middles_of [.d (dWeb n rs ms)] x k := by
  show a_middles_of _ [.d (dWeb n rs ms), .x, .x, .x, .x, .x, .x, .x, .x]
  have two := sh.two
  walk_at "ax"
  have none' : (n < 3 ∨ (rs.length : Int) ≠ n - 1) → k (.d .none) := fun c => by
    unfold mids at h
    rw [if_pos c] at h
    exact h
  refine s_dec (fun c => ?_) (fun c => ?_)
  · walk_at "ax"
    exact none' (.inl c)
  walk_at "ax"
  rw [List.length_map]
  refine s_ndec (fun c2 => ?_) (fun c2 => ?_)
  · walk_at "ax"
    exact none' (.inr c2)
  have h : k (.d (mO (if OkS n rs 0 then some (sideL n rs 0) else if OkS n rs 1 then some (sideL n rs 1) else none))) := by
    unfold mids at h
    rw [if_neg (by rintro (z | z) <;> omega)] at h
    exact h
  walk_at "ax"
  refine s_steps_from sh hl hn (by omega) (by omega) fun ds hd => ⟨?_, fun z => by cases z⟩
  rw [dsl_isO hd sh]
  walk_at "ax"
  refine s_road_counts sh hn hl ⟨?_, fun z => by cases z⟩
  walk_at "ax"
  refine a_loop (fun i α => ∃ x6 x7 x8 : Sot, α = [.d (dWeb n rs ms), .d (.int n), .d (dPs rs), .d (dIs ms), .d (dIs (dsO n rs)), .d (.list ((cnt n rs rs.length).map .int)), x6, x7, x8] ∧ ∀ j : Nat, j < i → ¬ OkS n rs (j : Int)) ?_ ?_ ?_
  · exact ⟨_, _, _, rfl, fun j hj => absurd hj (by omega)⟩
  · rintro i y α hy ⟨x6, x7, x8, rfl, hno⟩
    obtain ⟨rfl, hi⟩ : y = .int (i : Int) ∧ i < 2 := by
      match i, hy with
      | 0, hy => cases hy; exact ⟨rfl, by decide⟩
      | 1, hy => cases hy; exact ⟨rfl, by decide⟩
      | i + 2, hy => cases hy
    clear hy
    walk_at "ax"
    refine i_r1 (by omega) ⟨by rw [List.length_map, iota_len]; omega, ?_⟩
    refine a_lcgo (fun j acc => acc = (((iota n.toNat).take j).filter fun p => decide ((dsO n rs).getD p.toNat 0 % 2 = (i : Int))).map .int) rfl ?_ ?_
    · rintro j y acc hy rfl
      obtain ⟨rfl, hj⟩ := iota_at' hy
      rw [side_snoc hj]
      walk_at "ax"
      refine g_ixT rfl (dsO_get sh (by omega) (by omega)) ?_
      walk_at "ax"
      rw [show ((j : Int)).toNat = j by omega]
      refine s_dec (fun c => ?_) (fun c => ?_)
      · walk_at "ax"
        rw [if_pos c, List.map_append]
        rfl
      · rw [if_neg c, List.append_nil]
    rintro acc rfl -
    rw [List.length_map, iota_len, side_all]
    walk_at "ax"
    refine ⟨by rw [List.length_map]; have := sideL_len (n := n) (rs := rs) (i : Int); omega, ?_⟩
    refine a_lcgo (fun j acc => acc = (((sideL n rs (i : Int)).take j).map fun p => decide (deg rs p = 2)).map .bool) rfl ?_ ?_
    · rintro j y acc hy rfl
      obtain ⟨p, hp, rfl⟩ := intd_at hy
      have rp := mem_sideL (List.mem_of_getElem? hp)
      walk_at "ax"
      refine g_ixL rfl (deg_get rp.1 rp.2) ?_
      walk_at "ax"
      rw [List.take_add_one, hp]
      simp
    rintro acc rfl -
    rw [List.length_map, List.take_of_length_le (Nat.le_refl _)]
    walk_at "ax"
    refine ⟨_, _, rfl, rfl, ?_⟩
    rw [all_deg]
    walk_at "ax"
    refine s_dec (fun c => ?_) (fun c => ?_)
    · walk_at "ax"
      have : i = 0 ∨ i = 1 := by omega
      rcases this with rfl | rfl
      · have c' : OkS n rs 0 := c
        rw [if_pos c'] at h
        exact h
      · have c' : OkS n rs 1 := c
        have c0 : ¬ OkS n rs 0 := hno 0 (by omega)
        rw [if_neg c0, if_pos c'] at h
        exact h
    · walk_at "ax"
      refine ⟨_, _, _, rfl, fun j hj => ?_⟩
      by_cases e : j = i
      · subst e; exact c
      · exact hno j (by omega)
  · rintro α ⟨x6, x7, x8, rfl, hno⟩
    have c0 : ¬ OkS n rs 0 := hno 0 (by decide)
    have c1 : ¬ OkS n rs 1 := hno 1 (by decide)
    rw [if_neg c0, if_neg c1] at h
    walk_at "ax"
    exact h
end
end UW.Un
namespace UW.Un
open PySem PySem.Spec PyProof.Rows L2 UW
/-- one step -/
local macro_rules | `(tactic| walk_at "a1") => `(tactic| first
  | with_reducible refine wk ?_
  | (with_reducible refine rs_go 1 ?_
     first
     | with_reducible refine a_var (by with_unfolding_all rfl) (by with_unfolding_all rfl) ?_
     | with_reducible refine a_gtup (by with_unfolding_all rfl) (by with_unfolding_all rfl) ?_
     | with_reducible refine a_glst (by with_unfolding_all rfl) (by with_unfolding_all rfl) ?_)
  | (with_reducible refine rs_go 2 ?_
     first
     | with_reducible refine g_ixT (by with_unfolding_all rfl) (by first | with_unfolding_all rfl | with_unfolding_all exact at_zero _ _) ?_
     | with_reducible refine g_ixL (by with_unfolding_all rfl) (by first | with_unfolding_all rfl | with_unfolding_all exact at_zero _ _) ?_)
  | (with_reducible refine rs_go 3 ?_
     first
     | with_reducible refine g_lenT (by with_unfolding_all rfl) ?_
     | with_reducible refine g_lenL (by with_unfolding_all rfl) ?_
     | with_reducible refine g_tupL (by with_unfolding_all rfl) ?_
     | with_reducible refine g_tupT (by with_unfolding_all rfl) ?_
     | with_reducible refine g_lstT (by with_unfolding_all rfl) ?_
     | with_reducible refine g_lstL (by with_unfolding_all rfl) ?_)
  | (with_reducible refine rs_go 4 ?_
     first
     | with_reducible refine g_addL (by with_unfolding_all rfl) (by with_unfolding_all rfl) (Nat.le_of_ble_eq_true (by with_unfolding_all rfl)) ?_
     | with_reducible refine g_mulI (by first | exact Or.inl ⟨by decide, by decide⟩ | exact Or.inr ⟨by decide, by decide⟩ | (first | (refine Or.inl ⟨?_, ?_⟩ <;> omega) | (refine Or.inr ⟨?_, ?_⟩ <;> omega))) ?_
     | with_reducible refine g_mod (by first | decide | omega) ?_
     | with_reducible refine g_div (by first | decide | omega) (by first | decide | omega) ?_
     | with_reducible refine g_slT (by with_unfolding_all rfl) ?_
     | with_reducible refine g_slL (by with_unfolding_all rfl) ?_
     | with_reducible refine g_isN (by with_unfolding_all rfl) ?_
     | with_reducible refine g_notN (by with_unfolding_all rfl) ?_)
  | (with_reducible refine rs_go 5 ?_
     first
     | with_reducible refine a_dget (by with_unfolding_all rfl) ?_
     | with_reducible refine a_dget2 (by with_unfolding_all rfl) ?_
     | with_reducible refine a_fzq (by with_unfolding_all rfl) ?_
     | with_reducible refine a_retC (by with_unfolding_all rfl) ?_
     | with_reducible refine a_isX (by with_unfolding_all rfl) ?_
     | with_reducible refine a_app (by with_unfolding_all rfl) ?_
     | with_reducible refine a_ext (by with_unfolding_all rfl) ?_
     | with_reducible refine a_pop (by with_unfolding_all rfl) ?_
     | with_reducible refine a_fz (by with_unfolding_all rfl) ?_
     | with_reducible refine a_lenDV (by with_unfolding_all rfl) ?_)
  | (with_reducible refine rs_go 6 ?_
     first
     | with_reducible refine a_cl (by with_unfolding_all rfl) ?_
     | with_reducible refine a_dat (by with_unfolding_all rfl) ?_
     | with_reducible refine a_s1 (by with_unfolding_all rfl) ?_
     | with_reducible refine a_dcy (by with_unfolding_all rfl) ?_
     | with_reducible refine a_s2 (by with_unfolding_all rfl) (by with_unfolding_all rfl) ?_
     | with_reducible refine a_s3 (by with_unfolding_all rfl) (by with_unfolding_all rfl) (by with_unfolding_all rfl) ?_
     | with_reducible refine a_owned (by with_unfolding_all rfl) ?_)
  | (with_reducible refine rs_go 7 ?_
     first
     | with_reducible refine i_B (by with_unfolding_all rfl) ?_
     | with_reducible refine i_T (by with_unfolding_all rfl) ?_
     | with_reducible refine i_L (by with_unfolding_all rfl) ?_)
  | (with_reducible refine rs_go 8 ?_
     first
     | with_reducible refine a_nb (by with_unfolding_all rfl) ?_
     | with_reducible refine a_len (by with_unfolding_all rfl) ?_
     | with_reducible refine a_revT (by with_unfolding_all rfl) ?_
     | with_reducible refine a_revL (by with_unfolding_all rfl) ?_)
  | (with_reducible refine rs_go 9 ?_
     first
     | with_reducible refine iteNT (by with_unfolding_all rfl) ?_
     | with_reducible refine iteNF (by with_unfolding_all rfl) ?_
     | with_reducible refine iteIT (by with_unfolding_all rfl) ?_
     | with_reducible refine iteIF (by with_unfolding_all rfl) ?_))
local macro_rules | `(tactic| walk_at "ax") => `(tactic| (repeat (first | walk_at "a1" | with_reducible refine a_if ?_); try dsimp only [List.set_cons_zero, List.set_cons_succ, awipe, aFrz, List.getElem?_cons_zero, List.getElem?_cons_succ]))
local macro_rules | `(tactic| walk_at "ay") => `(tactic| (repeat (walk_at "a1"); try dsimp only [List.set_cons_zero, List.set_cons_succ, awipe, aFrz, List.getElem?_cons_zero, List.getElem?_cons_succ]))
section
variable {n : Int} {rs : List (Int × Int)} {m : List (Int × Nat)} {t : Nat} {u v p : Int}
/-- the steps that are known in the turn t -/
structure Fs (rs : List (Int × Int)) (p : Int) (t : Nat) (m : List (Int × Nat)) : Prop where
  s : ∀ x k, lk m x = some k → Dst rs p x k ∧ k ≤ t + 1
  a : ∀ x k, Dst rs p x k → k ≤ t → lk m x = some k
theorem Fs.half (f : Fs rs p t m) (ad : Adj rs u v) (hu : lk m u = some t) (hv : lk m v = none) : Fs rs p t (m ++ [(v, t + 1)]) := by
  have l2 := lk_snoc (k := t + 1) hv
  have dv : Dst rs p v (t + 1) := by
    obtain ⟨j, hj, d⟩ := (f.s u t hu).1.next ad
    by_cases c : j ≤ t
    · have := f.a v j d c
      rw [hv] at this
      cases this
    · have : j = t + 1 := by omega
      rw [← this]; exact d
  refine ⟨fun x k hx => ?_, fun x k d hk => ?_⟩
  · rw [l2] at hx
    split at hx
    · rename_i e
      cases hx
      rw [e]
      exact ⟨dv, Nat.le_refl _⟩
    · exact f.s x k hx
  · rw [l2]
    have := f.a x k d hk
    split
    · rename_i e
      rw [e, hv] at this
      cases this
    · exact this
theorem Fs.turn (f : Fs rs p t m) (r : ∀ q ∈ rs, (lk m q.1 = some t → lk m q.2 ≠ none) ∧ (lk m q.2 = some t → lk m q.1 ≠ none)) : Fs rs p (t + 1) m := by
  refine ⟨fun x k hx => ⟨(f.s x k hx).1, by have := (f.s x k hx).2; omega⟩, fun x k d hk => ?_⟩
  by_cases c : k ≤ t
  · exact f.a x k d c
  · have e : k = t + 1 := by omega
    subst e
    obtain ⟨y, dy, ad⟩ := d.pred
    have ly := f.a y t dy (Nat.le_refl _)
    have hx : lk m x ≠ none := by
      rcases ad with a | a
      · exact (r _ a).1 ly
      · exact (r _ a).2 ly
    obtain ⟨j, hj⟩ := some_of hx
    rw [hj, (f.s x j hj).1.uniq d]
theorem Fs.start : Fs rs p 0 [(p, 0)] := by
  have e : ∀ x, lk [((p : Int), 0)] x = if x = p then some 0 else none := fun x => by
    by_cases c : x = p
    · rw [if_pos c, c]; unfold lk; rw [List.find?_cons_of_pos (by exact decide_eq_true rfl)]; rfl
    · rw [if_neg c]
      unfold lk
      rw [List.find?_cons_of_neg (by show ¬ decide _ = true; rw [decide_eq_false (by exact fun z => c z.symm)]; simp)]
      rfl
  refine ⟨fun x k hx => ?_, fun x k d hk => ?_⟩
  · rw [e] at hx
    split at hx
    · rename_i c
      cases hx
      rw [c]
      exact ⟨Dst.zero, by omega⟩
    · cases hx
  · have : k = 0 := by omega
    subst this
    rw [d.nil, e, if_pos rfl]
/-- what has grown -/
def Gro (m m' : List (Int × Nat)) : Prop := ∀ x k, lk m x = some k → lk m' x = some k
theorem half_keep {m' : List (Int × Nat)} (f : Fs rs p t m) (f' : Fs rs p t m') (g : Gro m m') (h : lk m u = some t → lk m v ≠ none) : lk m' u = some t → lk m' v ≠ none := fun z => by
  obtain ⟨j, hj⟩ := some_of (h (f.a u t (f'.s u t z).1 (Nat.le_refl _)))
  rw [g _ _ hj]
  intro w
  cases w
theorem gro_snoc {k : Nat} (hv : lk m v = none) : Gro m (m ++ [(v, k)]) := fun x j hx => by
  rw [lk_snoc hv, if_neg (fun e => by rw [e, hv] at hx; cases hx)]
  exact hx
end
section
variable {x : AXc} {k : Avl → Prop} {n : Int} {rs : List (Int × Int)} {ms : List Int} {C : Cl}
theorem s__law_stepsP {p : Int} (sh : Shape n rs) (hl : rs.length ≤ 1000) (hn : n ≤ 1000) (p0 : 0 ≤ p) (p1 : p < n) (h : ∀ ds, DsL n rs p ds → k (.l (ds.map .int))) : m__law_steps [.d (dWeb n rs ms), .d (.int p)] x k := by
  have two := sh.two
  have inr : Inr n rs := sh.ok
  show a__law_steps _ [.d (dWeb n rs ms), .d (.int p), .x, .x, .x, .x, .x]
  walk_at "ax"
  refine i_r1 (by omega) ?_
  refine a_loop (fun t α => ∃ (m : List (Int × Nat)) (x3 x4 x5 x6 : Sot), α = [.d (dWeb n rs ms), .d (.int p), .dic (.k (dI m)), x3, x4, x5, x6] ∧ Fs rs p t m ∧ Kys n m) ?_ ?_ ?_
  · exact ⟨[(p, 0)], _, _, _, _, rfl, Fs.start, Kys.one p0 p1⟩
  · rintro t y α hy ⟨m, x3, x4, x5, x6, rfl, f, ky⟩
    obtain ⟨rfl, ht⟩ := iota_at' hy
    clear hy
    walk_at "ax"
    refine a_loop (fun i α => ∃ (m : List (Int × Nat)) (x4 x5 x6 : Sot), α = [.d (dWeb n rs ms), .d (.int p), .dic (.k (dI m)), .d (.int (t : Int)), x4, x5, x6] ∧ Fs rs p t m ∧ Kys n m ∧ ∀ q ∈ rs.take i, (lk m q.1 = some t → lk m q.2 ≠ none) ∧ (lk m q.2 = some t → lk m q.1 ≠ none)) ?_ ?_ ?_
    · exact ⟨m, _, _, _, rfl, f, ky, fun q hq => (by cases hq)⟩
    · rintro i y α hy ⟨m, x4, x5, x6, rfl, f, ky, hr⟩
      obtain ⟨q, hq, rfl⟩ := dp_at hy
      have et : rs.take (i + 1) = rs.take i ++ [q] := by rw [List.take_add_one, hq]; rfl
      have mq := List.mem_of_getElem? hq
      have ad : Adj rs q.1 q.2 := .inl mq
      have rq := sh.ok q mq
      have half : ∀ {m : List (Int × Nat)} {u v : Int}, Fs rs p t m → Kys n m → Adj rs u v → 0 ≤ v → v < n → lk m u = some t → lk m v = none →
          Fs rs p t (m ++ [(v, t + 1)]) ∧ Kys n (m ++ [(v, t + 1)]) ∧ Gro m (m ++ [(v, t + 1)]) ∧ (lk (m ++ [(v, t + 1)]) v ≠ none) := fun f ky ad v0 v1 hu hv =>
        ⟨f.half ad hu hv, ky.snoc hv v0 v1, gro_snoc hv, by rw [lk_snoc hv, if_pos rfl]; intro z; cases z⟩
      have fin : ∀ m'', Fs rs p t m'' → Gro m m'' → (lk m'' q.1 = some t → lk m'' q.2 ≠ none) → (lk m'' q.2 = some t → lk m'' q.1 ≠ none) → ∀ r ∈ rs.take (i + 1), (lk m'' r.1 = some t → lk m'' r.2 ≠ none) ∧ (lk m'' r.2 = some t → lk m'' r.1 ≠ none) := fun m'' f'' g'' z1 z2 r hr' => by
        rw [et] at hr'
        rcases List.mem_append.mp hr' with hr' | hr'
        · exact ⟨half_keep f f'' g'' (hr r hr').1, half_keep f f'' g'' (hr r hr').2⟩
        · rw [List.mem_singleton.mp hr']
          exact ⟨z1, z2⟩
      walk_at "ax"
      refine a_cut (fun α => ∃ m', α = [.d (dWeb n rs ms), .d (.int p), .dic (.k (dI m')), .d (.int (t : Int)), .d (.int q.1), .d (.int q.2), x6] ∧ Fs rs p t m' ∧ Kys n m' ∧ Gro m m' ∧ (lk m' q.1 = some t → lk m' q.2 ≠ none)) ?_ ?_
      · have stay : (lk m q.1 = some t → lk m q.2 ≠ none) → ∃ m', [Sot.d (dWeb n rs ms), .d (.int p), .dic (.k (dI m)), .d (.int (t : Int)), .d (.int q.1), .d (.int q.2), x6] = [Sot.d (dWeb n rs ms), .d (.int p), .dic (.k (dI m')), .d (.int (t : Int)), .d (.int q.1), .d (.int q.2), x6] ∧ Fs rs p t m' ∧ Kys n m' ∧ Gro m m' ∧ (lk m' q.1 = some t → lk m' q.2 ≠ none) := fun z => ⟨m, rfl, f, ky, fun _ _ h => h, z⟩
        walk_at "ax"
        refine a_dinI ?_
        rw [find_dI]
        cases eu : lk m q.1 with
        | none =>
          walk_at "ax"
          refine iteF ?_
          walk_at "ax"
          exact stay (fun z => by rw [eu] at z; cases z)
        | some j =>
          walk_at "ax"
          refine iteT ?_
          walk_at "ax"
          refine a_dgI (x := .int (j : Int)) (by rw [find_dI, eu]; rfl) ?_
          walk_at "ax"
          refine s_dec (fun c => ?_) (fun c => ?_)
          · have ej : j = t := by omega
            subst ej
            walk_at "ax"
            refine a_dinI ?_
            rw [find_dI]
            cases ev : lk m q.2 with
            | some j2 =>
              walk_at "ax"
              refine iteF ?_
              walk_at "ax"
              exact stay (fun _ z => by rw [ev] at z; cases z)
            | none =>
              have kl := ky.len
              walk_at "ax"
              refine iteT ?_
              walk_at "ax"
              refine a_dpI (kvs := dI m) (by unfold dI; rw [List.length_map]; omega) ?_
              rw [show ((j : Int) + 1) = ((j + 1 : Nat) : Int) from by omega, put_dI ev]
              walk_at "ax"
              obtain ⟨h1, h2, h3, h4⟩ := half f ky ad (by omega) (by omega) eu ev
              exact ⟨_, rfl, h1, h2, h3, fun _ => h4⟩
          · walk_at "ax"
            exact stay (fun z => by rw [eu] at z; cases z; exact absurd rfl c)
      · rintro α ⟨m', rfl, f', ky', g', r'⟩
        walk_at "ax"
        refine a_dinI ?_
        rw [find_dI]
        cases eu : lk m' q.2 with
        | none =>
          walk_at "ax"
          refine iteF ?_
          walk_at "ax"
          refine ⟨m', _, _, _, rfl, f', ky', fin m' f' g' r' ?_⟩; exact (fun z => by rw [eu] at z; cases z)
        | some j =>
          walk_at "ax"
          refine iteT ?_
          walk_at "ax"
          refine a_dgI (x := .int (j : Int)) (by rw [find_dI, eu]; rfl) ?_
          walk_at "ax"
          refine s_dec (fun c => ?_) (fun c => ?_)
          · have ej : j = t := by omega
            subst ej
            walk_at "ax"
            refine a_dinI ?_
            rw [find_dI]
            cases ev : lk m' q.1 with
            | some j2 =>
              walk_at "ax"
              refine iteF ?_
              walk_at "ax"
              refine ⟨m', _, _, _, rfl, f', ky', fin m' f' g' r' ?_⟩; exact (fun _ z => by rw [ev] at z; cases z)
            | none =>
              have kl := ky'.len
              walk_at "ax"
              refine iteT ?_
              walk_at "ax"
              refine a_dpI (kvs := dI m') (by unfold dI; rw [List.length_map]; omega) ?_
              rw [show ((j : Int) + 1) = ((j + 1 : Nat) : Int) from by omega, put_dI ev]
              walk_at "ax"
              obtain ⟨h1, h2, h3, h4⟩ := half f' ky' ad.symm (by omega) (by omega) eu ev
              exact ⟨_, _, _, _, rfl, h1, h2, fin _ h1 (fun y k z => h3 y k (g' y k z)) (half_keep f' h1 h3 r') fun _ => h4⟩
          · walk_at "ax"
            refine ⟨m', _, _, _, rfl, f', ky', fin m' f' g' r' ?_⟩; exact (fun z => by rw [eu] at z; cases z; exact absurd rfl c)
    · rintro α ⟨m, x4, x5, x6, rfl, f, ky, hr⟩
      rw [List.length_map, List.take_length] at hr
      exact ⟨m, _, _, _, _, rfl, f.turn hr, ky⟩
  · rintro α ⟨m, x3, x4, x5, x6, rfl, f, ky⟩
    rw [List.length_map, iota_len] at f
    walk_at "ax"
    refine i_r1 (by omega) ⟨by rw [List.length_map, iota_len]; omega, ?_⟩
    refine a_lcgo (fun i acc => ∃ ds : List Int, acc = ds.map .int ∧ ds.length = i ∧ ∀ j : Nat, j < i → ∃ d : Nat, ds[j]? = some (d : Int) ∧ Dst rs p (j : Int) d) ?_ ?_ ?_
    · exact ⟨[], rfl, rfl, fun j hj => absurd hj (by omega)⟩
    · rintro i y acc hy ⟨ds, rfl, hl', hd⟩
      obtain ⟨rfl, hi⟩ := iota_at' hy
      obtain ⟨k1, r⟩ := conn_rch (p := p) (x := (i : Int)) sh p0 p1 (by omega) (by omega)
      obtain ⟨d, _, dd⟩ := Dst.ex r
      have := dst_le inr p0 p1 dd
      walk_at "ax"
      refine a_dgI (x := .int (d : Int)) (by rw [find_dI, f.a _ _ dd (by omega)]; rfl) ?_
      walk_at "ax"
      exact ⟨ds ++ [(d : Int)], by rw [List.map_append]; rfl, by rw [List.length_append, hl']; rfl, dsl_snoc hl' hd dd⟩
    · rintro acc ⟨ds, rfl, hl', hd⟩ _
      rw [List.length_map, iota_len] at hl' hd
      walk_at "ax"
      exact h ds ⟨hl', hd⟩
theorem s__law_steps (sh : Shape n rs) (hl : rs.length ≤ 1000) (hn : n ≤ 1000) (h : k (.l ((dsO n rs).map .int))) : m__law_steps [.d (dWeb n rs ms), .d (.int 0)] x k :=
  s__law_stepsP sh hl hn (by omega) (by have := sh.two; omega) fun ds hd => by rw [dsl_isO hd sh]; exact h
end
end UW.Un
namespace UW.Un
open PySem PySem.Spec PyProof.Rows L2 UW
/-- one step -/
local macro_rules | `(tactic| walk_at "a1") => `(tactic| first
  | with_reducible refine wk ?_
  | (with_reducible refine rs_go 1 ?_
     first
     | with_reducible refine a_var (by with_unfolding_all rfl) (by with_unfolding_all rfl) ?_
     | with_reducible refine a_gtup (by with_unfolding_all rfl) (by with_unfolding_all rfl) ?_
     | with_reducible refine a_glst (by with_unfolding_all rfl) (by with_unfolding_all rfl) ?_)
  | (with_reducible refine rs_go 2 ?_
     first
     | with_reducible refine g_ixT (by with_unfolding_all rfl) (by first | with_unfolding_all rfl | with_unfolding_all exact at_zero _ _) ?_
     | with_reducible refine g_ixL (by with_unfolding_all rfl) (by first | with_unfolding_all rfl | with_unfolding_all exact at_zero _ _) ?_)
  | (with_reducible refine rs_go 3 ?_
     first
     | with_reducible refine g_lenT (by with_unfolding_all rfl) ?_
     | with_reducible refine g_lenL (by with_unfolding_all rfl) ?_
     | with_reducible refine g_tupL (by with_unfolding_all rfl) ?_
     | with_reducible refine g_tupT (by with_unfolding_all rfl) ?_
     | with_reducible refine g_lstT (by with_unfolding_all rfl) ?_
     | with_reducible refine g_lstL (by with_unfolding_all rfl) ?_)
  | (with_reducible refine rs_go 4 ?_
     first
     | with_reducible refine g_addL (by with_unfolding_all rfl) (by with_unfolding_all rfl) (Nat.le_of_ble_eq_true (by with_unfolding_all rfl)) ?_
     | with_reducible refine g_mulI (by first | exact Or.inl ⟨by decide, by decide⟩ | exact Or.inr ⟨by decide, by decide⟩ | (first | (refine Or.inl ⟨?_, ?_⟩ <;> omega) | (refine Or.inr ⟨?_, ?_⟩ <;> omega))) ?_
     | with_reducible refine g_mod (by first | decide | omega) ?_
     | with_reducible refine g_div (by first | decide | omega) (by first | decide | omega) ?_
     | with_reducible refine g_slT (by with_unfolding_all rfl) ?_
     | with_reducible refine g_slL (by with_unfolding_all rfl) ?_
     | with_reducible refine g_isN (by with_unfolding_all rfl) ?_
     | with_reducible refine g_notN (by with_unfolding_all rfl) ?_)
  | (with_reducible refine rs_go 5 ?_
     first
     | with_reducible refine a_dget (by with_unfolding_all rfl) ?_
     | with_reducible refine a_dget2 (by with_unfolding_all rfl) ?_
     | with_reducible refine a_fzq (by with_unfolding_all rfl) ?_
     | with_reducible refine a_retC (by with_unfolding_all rfl) ?_
     | with_reducible refine a_isX (by with_unfolding_all rfl) ?_
     | with_reducible refine a_app (by with_unfolding_all rfl) ?_
     | with_reducible refine a_ext (by with_unfolding_all rfl) ?_
     | with_reducible refine a_pop (by with_unfolding_all rfl) ?_
     | with_reducible refine a_fz (by with_unfolding_all rfl) ?_
     | with_reducible refine a_lenDV (by with_unfolding_all rfl) ?_)
  | (with_reducible refine rs_go 6 ?_
     first
     | with_reducible refine a_cl (by with_unfolding_all rfl) ?_
     | with_reducible refine a_dat (by with_unfolding_all rfl) ?_
     | with_reducible refine a_s1 (by with_unfolding_all rfl) ?_
     | with_reducible refine a_dcy (by with_unfolding_all rfl) ?_
     | with_reducible refine a_s2 (by with_unfolding_all rfl) (by with_unfolding_all rfl) ?_
     | with_reducible refine a_s3 (by with_unfolding_all rfl) (by with_unfolding_all rfl) (by with_unfolding_all rfl) ?_
     | with_reducible refine a_owned (by with_unfolding_all rfl) ?_)
  | (with_reducible refine rs_go 7 ?_
     first
     | with_reducible refine i_B (by with_unfolding_all rfl) ?_
     | with_reducible refine i_T (by with_unfolding_all rfl) ?_
     | with_reducible refine i_L (by with_unfolding_all rfl) ?_)
  | (with_reducible refine rs_go 8 ?_
     first
     | with_reducible refine a_nb (by with_unfolding_all rfl) ?_
     | with_reducible refine a_len (by with_unfolding_all rfl) ?_
     | with_reducible refine a_revT (by with_unfolding_all rfl) ?_
     | with_reducible refine a_revL (by with_unfolding_all rfl) ?_)
  | (with_reducible refine rs_go 9 ?_
     first
     | with_reducible refine iteNT (by with_unfolding_all rfl) ?_
     | with_reducible refine iteNF (by with_unfolding_all rfl) ?_
     | with_reducible refine iteIT (by with_unfolding_all rfl) ?_
     | with_reducible refine iteIF (by with_unfolding_all rfl) ?_))
local macro_rules | `(tactic| walk_at "ax") => `(tactic| (repeat (first | walk_at "a1" | with_reducible refine a_if ?_); try dsimp only [List.set_cons_zero, List.set_cons_succ, awipe, aFrz, List.getElem?_cons_zero, List.getElem?_cons_succ]))
local macro_rules | `(tactic| walk_at "ay") => `(tactic| (repeat (walk_at "a1"); try dsimp only [List.set_cons_zero, List.set_cons_succ, awipe, aFrz, List.getElem?_cons_zero, List.getElem?_cons_succ]))
/-- _law_elder, slots web, n, degrees, steps, side, middles, rows, middle, ends, place, a, b -/
def t__law_elder (K : Fg) : TS :=
  (tSeq (tAsg (tTup (tCons (tOp (rIx K) (tVar 0) (tC (.int 0))) (tCons (tG (sp__law_degrees K) E00
    (tCons (tVar 0) tNil)) tNil))) (gTup K 2 (gCons (gName 1) (gCons (gName 2) gNil)))) (tSeq (tIfS (tOr (tTest (tOp (rLtU K) (tVar 1) (tC (.int 3)))) (tTest (tOp (rNeU K) (tCB (rLenU K) (tCons (tOp (rIx K) (tVar 0) (tC (.int 1)))
    tNil)) (tOp rSubI (tVar 1) (tC (.int 1)))))) (tRet (tC .non)) tNext) (tSeq (tAsg (tG (sp__law_steps K) E00 (tCons (tVar 0) (tCons (tC (.int 0)) tNil))) (gName 3)) (tSeq (tFor (iRng1 (tCons (tC (.int 2)) tNil)) (gName 4) (tSeq
    (tAsg (tLc (iRng1 (tCons (tVar 1) tNil)) (gName 9) (tTest (tOp (rEqU K) (tOp rModI (tCB rInt (tCons (tOp (rIx K) (tVar 3) (tVar 9)) tNil)) (tC (.int 2))) (tVar 4))) (tVar 9) [9]) (gName 5)) (tIfS (tTest (tOp (rEqU K) (tLc (iSeq
    K (tVar 5)) (gName 9) (tTest (tOp (rNeU K) (tOp (rIx K) (tVar 2) (tVar 9)) (tC (.int 2)))) (tC (.int 1)) [9]) (tLst tNil))) (tSeq (tAsg (tLst tNil) (gName 6)) (tSeq (tFor (iSeq K (tVar 5)) (gName 7) (tSeq (tAsg (tCB (rSortedI
    K) (tCons (tLc (iSeq K (tOp (rIx K) (tVar 0) (tC (.int 1)))) (gTup K 2 (gCons (gName 10) (gCons (gName 11) gNil))) (tTest (tOp (rInU K) (tVar 7) (tTup (tCons (tVar 10) (tCons (tVar 11) tNil))))) (tOp rSubI (tOp (rAddU K) (tVar
    10) (tVar 11)) (tVar 7)) [10, 11]) tNil)) (gName 8)) (tDrop (tBM K "list" rAppend (tVar 6) (tCons (tTup (tCons (tOp (rIx K) (tVar 8) (tC (.int 0))) (tCons (tOp (rIx K) (tVar 8) (tC (.int 1))) (tCons (tVar 7) tNil)))) tNil)))))
    (tRet (tTup (tCons (tCB (rTupOf K) (tCons (tLc (iRng1 (tCons (tVar 1) tNil)) (gName 9) (tTest (tOp (rNiU K) (tVar 9) (tVar 5))) (tVar 9) [9]) tNil)) (tCons (tCB (rTupOf K) (tCons (tCB (rSortU K 3 64) (tCons (tVar 6) tNil))
    tNil)) tNil)))))) tNext))) (tRet (tC .non))))))
abbrev a__law_elder_0 : ASt :=
  (aApp 6 (aTup (aCons (aOp gIx (aVar 8) (aC (.int 0))) (aCons (aOp gIx (aVar 8) (aC (.int 1))) (aCons (aVar 7) aNil)))))
abbrev a__law_elder_1 : ASt :=
  (aRet (aTup (aCons (aCB gTupOf (bCons (aLc (aRng1 (bCons (aVar 1) bNil)) (agName 9) (aB (aOp (gIn true) (aVar 9) (aVar 5))) (aVar 9) [9]) bNil)) (aCons (aCB gTupOf (bCons (aCB gSortT (bCons (aVar 6)
    bNil)) bNil)) aNil))))
abbrev a__law_elder_2 : ASt :=
  (aSeq (aFor (aSeqI (aVar 5)) (agName 7) (aSeq (aAsg (aCB gSortI (bCons (aLc (aSeqI (aOp gIx (aVar 0) (aC (.int 1)))) (agTup 2 (agCons (agName 10) (agCons (agName 11) agNil))) (aB (aOp (gIn false)
    (aVar 7) (aTup (aCons (aVar 10) (aCons (aVar 11) aNil))))) (aOp gSub' (aOp gAdd (aVar 10) (aVar 11)) (aVar 7)) [10, 11]) bNil)) (agName 8)) a__law_elder_0)) a__law_elder_1)
abbrev a__law_elder_3 : ASt :=
  (aIfS (aB (aOp gEq (aLc (aSeqI (aVar 5)) (agName 9) (aB (aOp gNe (aOp gIx (aVar 2) (aVar 9)) (aC (.int 2)))) (aC (.int 1)) [9]) (aLst aNil))) (aSeq (aSet 6 (aLst aNil)) a__law_elder_2) aNext)
abbrev a__law_elder_4 : ASt :=
  (aSeq (aFor (aRng1 (bCons (aC (.int 2)) bNil)) (agName 4) (aSeq (aAsg (aLc (aRng1 (bCons (aVar 1) bNil)) (agName 9) (aB (aOp gEq (aOp gMod (aCB gInt (bCons (aOp gIx (aVar 3) (aVar 9)) bNil)) (aC
    (.int 2))) (aVar 4))) (aVar 9) [9]) (agName 5)) a__law_elder_3)) (aRet (aC .none)))
abbrev a__law_elder_5 : ASt :=
  (aSeq (aAsg (aCall0 m__law_steps (bCons (aVar 0) (bCons (aC (.int 0)) bNil))) (agName 3)) a__law_elder_4)
abbrev a__law_elder_6 : ASt :=
  (aSeq (aIfS (aOr (aB (aOp gLt (aVar 1) (aC (.int 3)))) (aB (aOp gNe (aCB gLen (bCons (aOp gIx (aVar 0) (aC (.int 1))) bNil)) (aOp gSub' (aVar 1) (aC (.int 1)))))) (aRet (aC .none)) aNext)
    a__law_elder_5)
abbrev a__law_elder : ASt :=
  (aSeq (aAsg (aTup (aCons (aOp gIx (aVar 0) (aC (.int 0))) (aCons (aCall0 m__law_degrees (bCons (aVar 0) bNil)) aNil))) (agTup 2 (agCons (agName 1) (agCons (agName 2) agNil)))) a__law_elder_6)
theorem f__law_elder {K : Fg} {E : WX} : RSt K E (t__law_elder K) a__law_elder :=
  (rs_seq (rs_asg (re_tup (ra_cons (re_op ro_ix re_var re_int) (ra_cons (re_call0 br__law_degrees (rv_cons re_var rv_nil)) ra_nil))) (rg_tup
    (rgs_cons rg_name (rgs_cons rg_name rgs_nil)))) (rs_seq (rs_ifs (rt_or (rt_test (re_op ro_lt re_var re_int)) (rt_test (re_op ro_ne (re_cb rb_len (rv_cons (re_op ro_ix re_var re_int) rv_nil)) (re_op ro_sub re_var re_int))))
    (rs_ret re_non) rs_next) (rs_seq (rs_asg (re_call0 br__law_steps (rv_cons re_var (rv_cons re_int rv_nil))) rg_name) (rs_seq (rs_for (ri_rng1 (rv_cons re_int rv_nil)) rg_name (rs_seq (rs_asg (re_lc (ri_rng1 (rv_cons re_var
    rv_nil)) rg_name (rt_test (re_op ro_eq (re_op ro_mod (re_cb rb_int (rv_cons (re_op ro_ix re_var re_var) rv_nil)) re_int) re_var)) re_var (by rfl)) rg_name) (rs_ifs (rt_test (re_op ro_eq (re_lc (ri_seq re_var) rg_name (rt_test
    (re_op ro_ne (re_op ro_ix re_var re_var) re_int)) re_int (by rfl)) (re_lst ra_nil))) (rs_seq (rs_set (re_lst ra_nil)) (rs_seq (rs_for (ri_seq re_var) rg_name (rs_seq (rs_asg (re_cb rb_sortI (rv_cons (re_lc (ri_seq (re_op ro_ix
    re_var re_int)) (rg_tup (rgs_cons rg_name (rgs_cons rg_name rgs_nil))) (rt_test (re_op ro_in re_var (re_tup (ra_cons re_var (ra_cons re_var ra_nil))))) (re_op ro_sub (re_op ro_add re_var re_var) re_var) (by rfl)) rv_nil))
    rg_name) (rs_app (re_tup (ra_cons (re_op ro_ix re_var re_int) (ra_cons (re_op ro_ix re_var re_int) (ra_cons re_var ra_nil))))))) (rs_ret (re_tup (ra_cons (re_cb rb_tupOf (rv_cons (re_lc (ri_rng1 (rv_cons re_var rv_nil)) rg_name
    (rt_test (re_op ro_ni re_var re_var)) re_var (by rfl)) rv_nil)) (ra_cons (re_cb rb_tupOf (rv_cons (re_cb rb_sortT (rv_cons re_var rv_nil)) rv_nil)) ra_nil)))))) rs_next))) (rs_ret re_non)))))
def m__law_elder : AFn := mOf 11 a__law_elder
def sp__law_elder (K : Fg) : Sp := SpA K 1 m__law_elder
theorem br__law_elder {K : Fg} : ∀ vs H Q E, SpA K 1 m__law_elder vs H Q E → sp__law_elder K vs H Q E := fun _ _ _ _ h => h
theorem l__law_elder {K : Fg} : ∀ vs H Q E, sp__law_elder K vs H Q E → vs.length = 1 := l_spa
theorem p__law_elder {K : Fg} {vs : List V} {H : Hp} {Q : VK} {E : XK} (h : sp__law_elder K vs H Q E) : t__law_elder K { nx := fun _ H' => Q .non H', rt := Q } (L2.start ["web", "n", "degrees", "steps", "side", "middles", "rows", "middle", "ends", "place", "a", "b"] vs) H :=
  p_spa (f__law_elder) h rfl
section
variable {x : AXc} {k : Avl → Prop} {n : Int} {rs : List (Int × Int)} {ms : List Int} {C : Cl}
/-- a middle with its two neighbours -/
def rowM (rs : List (Int × Int)) (p : Int) : (Int × Int) × Int := (((srt (nb rs p.toNat)).getD 0 0, (srt (nb rs p.toNat)).getD 1 0), p)
def spotsO (n : Int) (M : List Int) : List Int := (iota n.toNat).filter fun p => decide (p ∉ M)
def eldO (n : Int) (rs : List (Int × Int)) : Option (List Int) → PyData
  | none => .none
  | some M => .tuple [dIs (spotsO n M), .tuple ((srtT (M.map (rowM rs))).map dT)]
theorem rowM_len {p : Int} (hd : deg rs p = 2) : (srt (nb rs p.toNat)).length = 2 := by
  have := (srt_perm (nb rs p.toNat)).length_eq
  unfold deg at hd
  omega
theorem nb_rng (sh : Shape n rs) {p y : Int} (h0 : 0 ≤ p) (h : y ∈ nb rs p.toNat) : 0 ≤ y ∧ y < n := by
  have inr : Inr n rs := sh.ok
  have := (mem_nb (rs := rs) p.toNat y).mp h
  rw [show ((p.toNat : Nat) : Int) = p by omega] at this
  exact adj_rng inr this
theorem rowM_inB (sh : Shape n rs) (hn : n ≤ 60) {p : Int} (h0 : 0 ≤ p) (h1 : p < n) (hd : deg rs p = 2) : inB (rowM rs p) := by
  have l := rowM_len hd
  have g : ∀ i, i < 2 → 0 ≤ (srt (nb rs p.toNat)).getD i 0 ∧ (srt (nb rs p.toNat)).getD i 0 < n := fun i hi => by
    rw [List.getD_eq_getElem?_getD, List.getElem?_eq_getElem (by omega)]
    exact nb_rng sh h0 ((srt_perm _).mem_iff.mp (List.getElem_mem _))
  have a := g 0 (by decide)
  have b := g 1 (by decide)
  unfold rowM inB
  refine ⟨⟨a.1, ?_⟩, ⟨b.1, ?_⟩, h0, ?_⟩
  · show (srt (nb rs p.toNat)).getD 0 0 < 64; have := a.2; omega
  · show (srt (nb rs p.toNat)).getD 1 0 < 64; have := b.2; omega
  · show p < 64; omega
open Classical in
theorem s__law_elder (sh : Shape n rs) (hn : n ≤ 60) (hl : rs.length ≤ 1000) (h : k (.d (eldO n rs (mids n rs)))) : m__law_elder [.d (dWeb n rs ms)] x k := by
  show a__law_elder _ [.d (dWeb n rs ms), .x, .x, .x, .x, .x, .x, .x, .x, .x, .x, .x]
  have two := sh.two
  have none' : (n < 3 ∨ (rs.length : Int) ≠ n - 1) → k (.d .none) := fun c => by
    unfold mids at h
    rw [if_pos c] at h
    exact h
  walk_at "ax"
  refine s__law_degrees sh (by omega) hl ⟨?_, fun z => by cases z⟩
  walk_at "ax"
  refine s_dec (fun c => ?_) (fun c => ?_)
  · walk_at "ax"
    exact none' (.inl c)
  walk_at "ax"
  rw [List.length_map]
  refine s_ndec (fun c2 => ?_) (fun c2 => ?_)
  · walk_at "ax"
    exact none' (.inr c2)
  have h : k (.d (eldO n rs (if OkS n rs 0 then some (sideL n rs 0) else if OkS n rs 1 then some (sideL n rs 1) else none))) := by
    unfold mids at h
    rw [if_neg (by rintro (z | z) <;> omega)] at h
    exact h
  walk_at "ax"
  refine s__law_steps sh hl (by omega) ⟨?_, fun z => by cases z⟩
  walk_at "ax"
  refine i_r1 (by omega) ?_
  refine a_loop (fun i α => ∃ x4 x5 x6 x7 x8 x9 x10 x11 : Sot, α = [.d (dWeb n rs ms), .d (.int n), .d (.list ((cnt n rs rs.length).map .int)), .d (.list ((dsO n rs).map .int)), x4, x5, x6, x7, x8, x9, x10, x11] ∧ ∀ j : Nat, j < i → ¬ OkS n rs (j : Int)) ?_ ?_ ?_
  · exact ⟨_, _, _, _, _, _, _, _, rfl, fun j hj => absurd hj (by omega)⟩
  · rintro i y α hy ⟨x4, x5, x6, x7, x8, x9, x10, x11, rfl, hno⟩
    obtain ⟨rfl, hi⟩ := iota_at' hy
    have hi : i < 2 := hi
    clear hy
    walk_at "ax"
    refine i_r1 (by omega) ⟨by rw [List.length_map, iota_len]; omega, ?_⟩
    refine a_lcgo (fun j acc => acc = (((iota n.toNat).take j).filter fun p => decide ((dsO n rs).getD p.toNat 0 % 2 = (i : Int))).map .int) rfl ?_ ?_
    · rintro j y acc hy rfl
      obtain ⟨rfl, hj⟩ := iota_at' hy
      rw [side_snoc hj]
      walk_at "ax"
      refine g_ixL rfl (dsO_get sh (by omega) (by omega)) ?_
      walk_at "ax"
      rw [show ((j : Int)).toNat = j by omega]
      refine s_dec (fun c => ?_) (fun c => ?_)
      · walk_at "ax"
        rw [if_pos c, List.map_append]
        rfl
      · rw [if_neg c, List.append_nil]
    rintro acc rfl -
    rw [List.length_map, iota_len, side_all]
    have lS := sideL_len (n := n) (rs := rs) (i : Int)
    walk_at "ax"
    refine ⟨by rw [List.length_map]; omega, ?_⟩
    refine a_lcgo (fun j acc => (acc = [] ↔ ∀ p ∈ (sideL n rs (i : Int)).take j, deg rs p = 2) ∧ ∃ t : List Int, acc = t.map .int) ⟨⟨fun _ p hp => (by cases hp), fun _ => rfl⟩, [], rfl⟩ ?_ ?_
    · rintro j y acc hy ⟨hi1, t, rfl⟩
      obtain ⟨p, hp, rfl⟩ := intd_at hy
      have rp := mem_sideL (List.mem_of_getElem? hp)
      have et : (sideL n rs (i : Int)).take (j + 1) = (sideL n rs (i : Int)).take j ++ [p] := by rw [List.take_add_one, hp]; rfl
      rw [et]
      walk_at "ax"
      refine g_ixL rfl (deg_get rp.1 rp.2) ?_
      walk_at "ax"
      refine s_ndec (fun c => ?_) (fun c => ?_)
      · walk_at "ax"
        refine ⟨⟨fun z => absurd z (by simp), fun z => ?_⟩, t ++ [1], by rw [List.map_append]; rfl⟩
        exact absurd (z p (by simp)) c
      · refine ⟨⟨fun z q hq => ?_, fun z => hi1.mpr fun q hq => z q (List.mem_append_left _ hq)⟩, t, rfl⟩
        rcases List.mem_append.mp hq with hq | hq
        · exact hi1.mp z q hq
        · rw [List.mem_singleton.mp hq]; exact c
    rintro acc ⟨hi1, t, rfl⟩ -
    rw [List.length_map, List.take_length] at hi1
    walk_at "ax"
    refine g_eqD rfl rfl (shaped_ints t) rfl ?_
    rw [eqv_ints_nil]
    have hi2 : t = [] ↔ OkS n rs (i : Int) := by
      show t = [] ↔ ∀ p ∈ sideL n rs (i : Int), deg rs p = 2
      rw [← hi1]
      cases t with
      | nil => simp
      | cons a l => simp
    walk_at "ax"
    refine s_dec (fun c => ?_) (fun c => ?_)
    · have ok := hi2.mp c
      have h : k (.d (eldO n rs (some (sideL n rs (i : Int))))) := by
        have : i = 0 ∨ i = 1 := by omega
        rcases this with rfl | rfl
        · have c' : OkS n rs 0 := ok
          rw [if_pos c'] at h
          exact h
        · have c' : OkS n rs 1 := ok
          have c0 : ¬ OkS n rs 0 := hno 0 (by omega)
          rw [if_neg c0, if_pos c'] at h
          exact h
      have okp : ∀ p ∈ sideL n rs (i : Int), (0 ≤ p ∧ p < n) ∧ deg rs p = 2 := fun p hp => ⟨mem_sideL hp, ok p hp⟩
      clear hno
      generalize sideL n rs (i : Int) = M at *
      walk_at "ax"
      refine a_loop (fun j α => ∃ x7 x8 x9 x10 x11 : Sot, α = [.d (dWeb n rs ms), .d (.int n), .d (.list ((cnt n rs rs.length).map .int)), .d (.list ((dsO n rs).map .int)), .d (.int (i : Int)), .d (.list (M.map .int)), .own (((M.take j).map (rowM rs)).map dT), x7, x8, x9, x10, x11]) ?_ ?_ ?_
      · exact ⟨_, _, _, _, _, rfl⟩
      · rintro j y α hy ⟨x7, x8, x9, x10, x11, rfl⟩
        obtain ⟨p, hp, rfl⟩ := intd_at hy
        obtain ⟨⟨p0, p1⟩, dp⟩ := okp p (List.mem_of_getElem? hp)
        have lj := (List.getElem?_eq_some_iff.mp hp).1
        walk_at "ax"
        refine ⟨by rw [List.length_map]; omega, ?_⟩
        refine a_lcgo (fun i acc => acc = (nbTo rs i p.toNat).map .int) rfl ?_ ?_
        · rintro i y acc hy rfl
          obtain ⟨q, hq, rfl⟩ := dp_at hy
          rw [nbTo_succ hq, show ((p.toNat : Nat) : Int) = p by omega]
          walk_at "ax"
          refine g_in2 ?_
          walk_at "ax"
          refine s_dec (fun c => ?_) (fun c => ?_)
          · walk_at "ax"
            rw [if_pos c, List.map_append]
            rfl
          · rw [if_neg c, List.append_nil]
        rintro acc rfl -
        rw [List.length_map]
        walk_at "ax"
        refine ⟨_, _, rfl, rfl, fun qs pm pw => ?_⟩
        have e := srt_eq pm pw
        have l := rowM_len dp
        rw [show nbTo rs rs.length p.toNat = nb rs p.toNat from rfl] at e
        rw [e]
        walk_at "ax"
        refine g_ixL rfl (atI_toNat (by decide) (by rw [List.getElem?_map, show (0 : Int).toNat = 0 from rfl, List.getElem?_eq_getElem (by omega)]; rfl)) ?_
        walk_at "ax"
        refine g_ixL rfl (atI_toNat (by decide) (by rw [List.getElem?_map, show (1 : Int).toNat = 1 from rfl, List.getElem?_eq_getElem (by omega)]; rfl)) ?_
        walk_at "ax"
        have er : ((M.take j).map (rowM rs)).map dT ++ [PyData.tuple [.int ((srt (nb rs p.toNat))[0]'(by omega)), .int ((srt (nb rs p.toNat))[1]'(by omega)), .int p]] = ((M.take (j + 1)).map (rowM rs)).map dT := by
          have eR : rowM rs p = (((srt (nb rs p.toNat))[0]'(by omega), (srt (nb rs p.toNat))[1]'(by omega)), p) := by
            unfold rowM
            rw [List.getD_eq_getElem?_getD, List.getElem?_eq_getElem (by omega), List.getD_eq_getElem?_getD, List.getElem?_eq_getElem (by omega)]
            rfl
          rw [List.take_add_one, hp, List.map_append, List.map_append]
          show _ = _ ++ [dT (rowM rs p)]
          rw [eR]
          rfl
        refine ⟨by rw [List.length_map, List.length_map, List.length_take]; omega, ?_⟩
        rw [er]
        exact ⟨_, _, _, _, _, rfl⟩
      · rintro α ⟨x7, x8, x9, x10, x11, rfl⟩
        rw [List.length_map, List.take_length]
        walk_at "ax"
        refine i_r1 (by omega) ⟨by rw [List.length_map, iota_len]; omega, ?_⟩
        refine a_lcgo (fun j acc => acc = (((iota n.toNat).take j).filter fun p => decide (p ∉ M)).map .int) rfl ?_ ?_
        · rintro j y acc hy rfl
          obtain ⟨rfl, hj⟩ := iota_at' hy
          rw [iota_take hj, List.filter_append, List.map_append]
          walk_at "ax"
          refine g_niI rfl ?_
          walk_at "ax"
          refine s_ndec (fun c => ?_) (fun c => ?_)
          · walk_at "ax"
            rw [List.filter_cons_of_pos (by exact decide_eq_true c)]
            rfl
          · rw [List.filter_cons_of_neg (by show ¬ decide _ = true; rw [decide_eq_false (fun z => z c)]; simp)]
            simp
        rintro acc rfl -
        rw [List.length_map, iota_len, List.take_of_length_le (by rw [iota_len]; exact Nat.le_refl _)]
        walk_at "ax"
        refine ⟨_, _, rfl, rfl, by rw [List.length_map]; omega, fun r hr => ?_, fun qs pm pw => ?_⟩
        · obtain ⟨p, hp, rfl⟩ := List.mem_map.mp hr
          obtain ⟨⟨p0, p1⟩, dp⟩ := okp p hp
          exact rowM_inB sh hn p0 p1 dp
        rw [srtT_eq pm pw]
        walk_at "ax"
        exact h
    · walk_at "ax"
      refine ⟨_, _, _, _, _, _, _, _, rfl, fun j hj => ?_⟩
      by_cases e : j = i
      · subst e; exact fun z => c (hi2.mpr z)
      · exact hno j (by omega)
  · rintro α ⟨x4, x5, x6, x7, x8, x9, x10, x11, rfl, hno⟩
    have c0 : ¬ OkS n rs 0 := hno 0 (by decide)
    have c1 : ¬ OkS n rs 1 := hno 1 (by decide)
    rw [if_neg c0, if_neg c1] at h
    walk_at "ax"
    exact h
end
end UW.Un
namespace UW.Un
open PySem PySem.Spec PyProof.Rows L2 UW
/-- one step -/
local macro_rules | `(tactic| walk_at "a1") => `(tactic| first
  | with_reducible refine wk ?_
  | (with_reducible refine rs_go 1 ?_
     first
     | with_reducible refine a_var (by with_unfolding_all rfl) (by with_unfolding_all rfl) ?_
     | with_reducible refine a_gtup (by with_unfolding_all rfl) (by with_unfolding_all rfl) ?_
     | with_reducible refine a_glst (by with_unfolding_all rfl) (by with_unfolding_all rfl) ?_)
  | (with_reducible refine rs_go 2 ?_
     first
     | with_reducible refine g_ixT (by with_unfolding_all rfl) (by first | with_unfolding_all rfl | with_unfolding_all exact at_zero _ _) ?_
     | with_reducible refine g_ixL (by with_unfolding_all rfl) (by first | with_unfolding_all rfl | with_unfolding_all exact at_zero _ _) ?_)
  | (with_reducible refine rs_go 3 ?_
     first
     | with_reducible refine g_lenT (by with_unfolding_all rfl) ?_
     | with_reducible refine g_lenL (by with_unfolding_all rfl) ?_
     | with_reducible refine g_tupL (by with_unfolding_all rfl) ?_
     | with_reducible refine g_tupT (by with_unfolding_all rfl) ?_
     | with_reducible refine g_lstT (by with_unfolding_all rfl) ?_
     | with_reducible refine g_lstL (by with_unfolding_all rfl) ?_)
  | (with_reducible refine rs_go 4 ?_
     first
     | with_reducible refine g_addL (by with_unfolding_all rfl) (by with_unfolding_all rfl) (Nat.le_of_ble_eq_true (by with_unfolding_all rfl)) ?_
     | with_reducible refine g_mulI (by first | exact Or.inl ⟨by decide, by decide⟩ | exact Or.inr ⟨by decide, by decide⟩ | (first | (refine Or.inl ⟨?_, ?_⟩ <;> omega) | (refine Or.inr ⟨?_, ?_⟩ <;> omega))) ?_
     | with_reducible refine g_mod (by first | decide | omega) ?_
     | with_reducible refine g_div (by first | decide | omega) (by first | decide | omega) ?_
     | with_reducible refine g_slT (by with_unfolding_all rfl) ?_
     | with_reducible refine g_slL (by with_unfolding_all rfl) ?_
     | with_reducible refine g_isN (by with_unfolding_all rfl) ?_
     | with_reducible refine g_notN (by with_unfolding_all rfl) ?_)
  | (with_reducible refine rs_go 5 ?_
     first
     | with_reducible refine a_dget (by with_unfolding_all rfl) ?_
     | with_reducible refine a_dget2 (by with_unfolding_all rfl) ?_
     | with_reducible refine a_fzq (by with_unfolding_all rfl) ?_
     | with_reducible refine a_retC (by with_unfolding_all rfl) ?_
     | with_reducible refine a_isX (by with_unfolding_all rfl) ?_
     | with_reducible refine a_app (by with_unfolding_all rfl) ?_
     | with_reducible refine a_ext (by with_unfolding_all rfl) ?_
     | with_reducible refine a_pop (by with_unfolding_all rfl) ?_
     | with_reducible refine a_fz (by with_unfolding_all rfl) ?_
     | with_reducible refine a_lenDV (by with_unfolding_all rfl) ?_)
  | (with_reducible refine rs_go 6 ?_
     first
     | with_reducible refine a_cl (by with_unfolding_all rfl) ?_
     | with_reducible refine a_dat (by with_unfolding_all rfl) ?_
     | with_reducible refine a_s1 (by with_unfolding_all rfl) ?_
     | with_reducible refine a_dcy (by with_unfolding_all rfl) ?_
     | with_reducible refine a_s2 (by with_unfolding_all rfl) (by with_unfolding_all rfl) ?_
     | with_reducible refine a_s3 (by with_unfolding_all rfl) (by with_unfolding_all rfl) (by with_unfolding_all rfl) ?_
     | with_reducible refine a_owned (by with_unfolding_all rfl) ?_)
  | (with_reducible refine rs_go 7 ?_
     first
     | with_reducible refine i_B (by with_unfolding_all rfl) ?_
     | with_reducible refine i_T (by with_unfolding_all rfl) ?_
     | with_reducible refine i_L (by with_unfolding_all rfl) ?_)
  | (with_reducible refine rs_go 8 ?_
     first
     | with_reducible refine a_nb (by with_unfolding_all rfl) ?_
     | with_reducible refine a_len (by with_unfolding_all rfl) ?_
     | with_reducible refine a_revT (by with_unfolding_all rfl) ?_
     | with_reducible refine a_revL (by with_unfolding_all rfl) ?_)
  | (with_reducible refine rs_go 9 ?_
     first
     | with_reducible refine iteNT (by with_unfolding_all rfl) ?_
     | with_reducible refine iteNF (by with_unfolding_all rfl) ?_
     | with_reducible refine iteIT (by with_unfolding_all rfl) ?_
     | with_reducible refine iteIF (by with_unfolding_all rfl) ?_))
local macro_rules | `(tactic| walk_at "ax") => `(tactic| (repeat (first | walk_at "a1" | with_reducible refine a_if ?_); try dsimp only [List.set_cons_zero, List.set_cons_succ, awipe, aFrz, List.getElem?_cons_zero, List.getElem?_cons_succ]))
local macro_rules | `(tactic| walk_at "ay") => `(tactic| (repeat (walk_at "a1"); try dsimp only [List.set_cons_zero, List.set_cons_succ, awipe, aFrz, List.getElem?_cons_zero, List.getElem?_cons_succ]))
section
variable {n : Int} {rs : List (Int × Int)} {ms : List Int}
open Classical in
theorem mO_none {o : Option (List Int)} : isNon (mO o) = decide (o = none) := by cases o <;> rfl
end
section
variable {x : AXc} {k : Avl → Prop} {n : Int} {rs : List (Int × Int)} {ms : List Int} {C : Cl}
end
end UW.Un
namespace UW.Un
open PySem PySem.Spec PyProof.Rows L2 UW
section
variable {n : Int} {rs : List (Int × Int)} {ms : List Int}
end
end UW.Un
namespace UW
open PySem PySem.Spec PyProof.Rows L2
section
variable {K : Fg} {E : WX} {ta tb : TE} {a b : AEx}
def aIdx (a b : AEx) : AEx := fun X α k => a X α fun x => ∃ ns : List Int, x.lst = some (ns.map .int) ∧ b X α fun y => ∃ (i : Int) (j : Nat), y = .d (.int i) ∧ ns[j]? = some i ∧ (∀ m, m < j → ns[m]? ≠ some i) ∧ k (.d (.int (j : Int)))
theorem a_idx {X : AXr} {α : Afr} {k : Avl → Prop} (h : a X α fun x => ∃ ns : List Int, x.lst = some (ns.map .int) ∧ b X α fun y => ∃ (i : Int) (j : Nat), y = .d (.int i) ∧ ns[j]? = some i ∧ (∀ m, m < j → ns[m]? ≠ some i) ∧ k (.d (.int (j : Int)))) : aIdx a b X α k := h
end
instance {X : AXr} {α : Afr} {k : Avl → Prop} : Wk (aIdx a b X α k) (a X α fun x => ∃ ns : List Int, x.lst = some (ns.map .int) ∧ b X α fun y => ∃ (i : Int) (j : Nat), y = .d (.int i) ∧ ns[j]? = some i ∧ (∀ m, m < j → ns[m]? ≠ some i) ∧ k (.d (.int (j : Int)))) := ⟨fun h => a_idx h⟩
end UW
namespace UW.Un
open PySem PySem.Spec PyProof.Rows L2 UW
/-- one step -/
local macro_rules | `(tactic| walk_at "a1") => `(tactic| first
  | with_reducible refine wk ?_
  | (with_reducible refine rs_go 1 ?_
     first
     | with_reducible refine a_var (by with_unfolding_all rfl) (by with_unfolding_all rfl) ?_
     | with_reducible refine a_gtup (by with_unfolding_all rfl) (by with_unfolding_all rfl) ?_
     | with_reducible refine a_glst (by with_unfolding_all rfl) (by with_unfolding_all rfl) ?_)
  | (with_reducible refine rs_go 2 ?_
     first
     | with_reducible refine g_ixT (by with_unfolding_all rfl) (by first | with_unfolding_all rfl | with_unfolding_all exact at_zero _ _) ?_
     | with_reducible refine g_ixL (by with_unfolding_all rfl) (by first | with_unfolding_all rfl | with_unfolding_all exact at_zero _ _) ?_)
  | (with_reducible refine rs_go 3 ?_
     first
     | with_reducible refine g_lenT (by with_unfolding_all rfl) ?_
     | with_reducible refine g_lenL (by with_unfolding_all rfl) ?_
     | with_reducible refine g_tupL (by with_unfolding_all rfl) ?_
     | with_reducible refine g_tupT (by with_unfolding_all rfl) ?_
     | with_reducible refine g_lstT (by with_unfolding_all rfl) ?_
     | with_reducible refine g_lstL (by with_unfolding_all rfl) ?_)
  | (with_reducible refine rs_go 4 ?_
     first
     | with_reducible refine g_addL (by with_unfolding_all rfl) (by with_unfolding_all rfl) (Nat.le_of_ble_eq_true (by with_unfolding_all rfl)) ?_
     | with_reducible refine g_mulI (by first | exact Or.inl ⟨by decide, by decide⟩ | exact Or.inr ⟨by decide, by decide⟩ | (first | (refine Or.inl ⟨?_, ?_⟩ <;> omega) | (refine Or.inr ⟨?_, ?_⟩ <;> omega))) ?_
     | with_reducible refine g_mod (by first | decide | omega) ?_
     | with_reducible refine g_div (by first | decide | omega) (by first | decide | omega) ?_
     | with_reducible refine g_slT (by with_unfolding_all rfl) ?_
     | with_reducible refine g_slL (by with_unfolding_all rfl) ?_
     | with_reducible refine g_isN (by with_unfolding_all rfl) ?_
     | with_reducible refine g_notN (by with_unfolding_all rfl) ?_)
  | (with_reducible refine rs_go 5 ?_
     first
     | with_reducible refine a_dget (by with_unfolding_all rfl) ?_
     | with_reducible refine a_dget2 (by with_unfolding_all rfl) ?_
     | with_reducible refine a_fzq (by with_unfolding_all rfl) ?_
     | with_reducible refine a_retC (by with_unfolding_all rfl) ?_
     | with_reducible refine a_isX (by with_unfolding_all rfl) ?_
     | with_reducible refine a_app (by with_unfolding_all rfl) ?_
     | with_reducible refine a_ext (by with_unfolding_all rfl) ?_
     | with_reducible refine a_pop (by with_unfolding_all rfl) ?_
     | with_reducible refine a_fz (by with_unfolding_all rfl) ?_
     | with_reducible refine a_lenDV (by with_unfolding_all rfl) ?_)
  | (with_reducible refine rs_go 6 ?_
     first
     | with_reducible refine a_cl (by with_unfolding_all rfl) ?_
     | with_reducible refine a_dat (by with_unfolding_all rfl) ?_
     | with_reducible refine a_s1 (by with_unfolding_all rfl) ?_
     | with_reducible refine a_dcy (by with_unfolding_all rfl) ?_
     | with_reducible refine a_s2 (by with_unfolding_all rfl) (by with_unfolding_all rfl) ?_
     | with_reducible refine a_s3 (by with_unfolding_all rfl) (by with_unfolding_all rfl) (by with_unfolding_all rfl) ?_
     | with_reducible refine a_owned (by with_unfolding_all rfl) ?_)
  | (with_reducible refine rs_go 7 ?_
     first
     | with_reducible refine i_B (by with_unfolding_all rfl) ?_
     | with_reducible refine i_T (by with_unfolding_all rfl) ?_
     | with_reducible refine i_L (by with_unfolding_all rfl) ?_)
  | (with_reducible refine rs_go 8 ?_
     first
     | with_reducible refine a_nb (by with_unfolding_all rfl) ?_
     | with_reducible refine a_len (by with_unfolding_all rfl) ?_
     | with_reducible refine a_revT (by with_unfolding_all rfl) ?_
     | with_reducible refine a_revL (by with_unfolding_all rfl) ?_)
  | (with_reducible refine rs_go 9 ?_
     first
     | with_reducible refine iteNT (by with_unfolding_all rfl) ?_
     | with_reducible refine iteNF (by with_unfolding_all rfl) ?_
     | with_reducible refine iteIT (by with_unfolding_all rfl) ?_
     | with_reducible refine iteIF (by with_unfolding_all rfl) ?_))
local macro_rules | `(tactic| walk_at "ax") => `(tactic| (repeat (first | walk_at "a1" | with_reducible refine a_if ?_); try dsimp only [List.set_cons_zero, List.set_cons_succ, awipe, aFrz, List.getElem?_cons_zero, List.getElem?_cons_succ]))
local macro_rules | `(tactic| walk_at "ay") => `(tactic| (repeat (walk_at "a1"); try dsimp only [List.set_cons_zero, List.set_cons_succ, awipe, aFrz, List.getElem?_cons_zero, List.getElem?_cons_succ]))
section
variable {n : Int} {rs : List (Int × Int)} {ms ls : List Int}
end
section
variable {x : AXc} {k : Avl → Prop} {n : Int} {rs : List (Int × Int)} {ms ls : List Int} {C : Cl}
end
end UW.Un
namespace UW.Un
open PySem PySem.Spec PyProof.Rows L2 UW
/-- one step -/
local macro_rules | `(tactic| walk_at "a1") => `(tactic| first
  | with_reducible refine wk ?_
  | (with_reducible refine rs_go 1 ?_
     first
     | with_reducible refine a_var (by with_unfolding_all rfl) (by with_unfolding_all rfl) ?_
     | with_reducible refine a_gtup (by with_unfolding_all rfl) (by with_unfolding_all rfl) ?_
     | with_reducible refine a_glst (by with_unfolding_all rfl) (by with_unfolding_all rfl) ?_)
  | (with_reducible refine rs_go 2 ?_
     first
     | with_reducible refine g_ixT (by with_unfolding_all rfl) (by first | with_unfolding_all rfl | with_unfolding_all exact at_zero _ _) ?_
     | with_reducible refine g_ixL (by with_unfolding_all rfl) (by first | with_unfolding_all rfl | with_unfolding_all exact at_zero _ _) ?_)
  | (with_reducible refine rs_go 3 ?_
     first
     | with_reducible refine g_lenT (by with_unfolding_all rfl) ?_
     | with_reducible refine g_lenL (by with_unfolding_all rfl) ?_
     | with_reducible refine g_tupL (by with_unfolding_all rfl) ?_
     | with_reducible refine g_tupT (by with_unfolding_all rfl) ?_
     | with_reducible refine g_lstT (by with_unfolding_all rfl) ?_
     | with_reducible refine g_lstL (by with_unfolding_all rfl) ?_)
  | (with_reducible refine rs_go 4 ?_
     first
     | with_reducible refine g_addL (by with_unfolding_all rfl) (by with_unfolding_all rfl) (Nat.le_of_ble_eq_true (by with_unfolding_all rfl)) ?_
     | with_reducible refine g_mulI (by first | exact Or.inl ⟨by decide, by decide⟩ | exact Or.inr ⟨by decide, by decide⟩ | (first | (refine Or.inl ⟨?_, ?_⟩ <;> omega) | (refine Or.inr ⟨?_, ?_⟩ <;> omega))) ?_
     | with_reducible refine g_mod (by first | decide | omega) ?_
     | with_reducible refine g_div (by first | decide | omega) (by first | decide | omega) ?_
     | with_reducible refine g_slT (by with_unfolding_all rfl) ?_
     | with_reducible refine g_slL (by with_unfolding_all rfl) ?_
     | with_reducible refine g_isN (by with_unfolding_all rfl) ?_
     | with_reducible refine g_notN (by with_unfolding_all rfl) ?_)
  | (with_reducible refine rs_go 5 ?_
     first
     | with_reducible refine a_dget (by with_unfolding_all rfl) ?_
     | with_reducible refine a_dget2 (by with_unfolding_all rfl) ?_
     | with_reducible refine a_fzq (by with_unfolding_all rfl) ?_
     | with_reducible refine a_retC (by with_unfolding_all rfl) ?_
     | with_reducible refine a_isX (by with_unfolding_all rfl) ?_
     | with_reducible refine a_app (by with_unfolding_all rfl) ?_
     | with_reducible refine a_ext (by with_unfolding_all rfl) ?_
     | with_reducible refine a_pop (by with_unfolding_all rfl) ?_
     | with_reducible refine a_fz (by with_unfolding_all rfl) ?_
     | with_reducible refine a_lenDV (by with_unfolding_all rfl) ?_)
  | (with_reducible refine rs_go 6 ?_
     first
     | with_reducible refine a_cl (by with_unfolding_all rfl) ?_
     | with_reducible refine a_dat (by with_unfolding_all rfl) ?_
     | with_reducible refine a_s1 (by with_unfolding_all rfl) ?_
     | with_reducible refine a_dcy (by with_unfolding_all rfl) ?_
     | with_reducible refine a_s2 (by with_unfolding_all rfl) (by with_unfolding_all rfl) ?_
     | with_reducible refine a_s3 (by with_unfolding_all rfl) (by with_unfolding_all rfl) (by with_unfolding_all rfl) ?_
     | with_reducible refine a_owned (by with_unfolding_all rfl) ?_)
  | (with_reducible refine rs_go 7 ?_
     first
     | with_reducible refine i_B (by with_unfolding_all rfl) ?_
     | with_reducible refine i_T (by with_unfolding_all rfl) ?_
     | with_reducible refine i_L (by with_unfolding_all rfl) ?_)
  | (with_reducible refine rs_go 8 ?_
     first
     | with_reducible refine a_nb (by with_unfolding_all rfl) ?_
     | with_reducible refine a_len (by with_unfolding_all rfl) ?_
     | with_reducible refine a_revT (by with_unfolding_all rfl) ?_
     | with_reducible refine a_revL (by with_unfolding_all rfl) ?_)
  | (with_reducible refine rs_go 9 ?_
     first
     | with_reducible refine iteNT (by with_unfolding_all rfl) ?_
     | with_reducible refine iteNF (by with_unfolding_all rfl) ?_
     | with_reducible refine iteIT (by with_unfolding_all rfl) ?_
     | with_reducible refine iteIF (by with_unfolding_all rfl) ?_))
local macro_rules | `(tactic| walk_at "ax") => `(tactic| (repeat (first | walk_at "a1" | with_reducible refine a_if ?_); try dsimp only [List.set_cons_zero, List.set_cons_succ, awipe, aFrz, List.getElem?_cons_zero, List.getElem?_cons_succ]))
local macro_rules | `(tactic| walk_at "ay") => `(tactic| (repeat (walk_at "a1"); try dsimp only [List.set_cons_zero, List.set_cons_succ, awipe, aFrz, List.getElem?_cons_zero, List.getElem?_cons_succ]))
section
variable {n : Int} {rs : List (Int × Int)} {ms ls M : List Int}
/-- what a road bears near the place p -/
def nearV (n : Int) (M ds : List Int) (q : Int × Int) : Int :=
  if q.1 ∈ spotsO n M then (if ds.getD q.2.toNat 0 < ds.getD q.1.toNat 0 then 1 else 0) else (if ds.getD q.1.toNat 0 < ds.getD q.2.toNat 0 then 1 else 0)
def NearL (n : Int) (rs : List (Int × Int)) (M ls : List Int) : Prop := ∃ (p : Int) (ds : List Int), (p ∈ spotsO n M) ∧ (0 ≤ p ∧ p < n) ∧ DsL n rs p ds ∧
  (ls = rs.map (nearV n M ds) ∨ ∃ (r : Nat) (q : Int × Int), rs[r]? = some q ∧ (q.1 = p ∨ q.2 = p) ∧ ls = (rs.map (nearV n M ds)).set r 1)
theorem nearV_01 (n : Int) (M ds : List Int) (q : Int × Int) : nearV n M ds q = 0 ∨ nearV n M ds q = 1 := by
  unfold nearV
  split <;> split <;> simp
theorem NearL.len (h : NearL n rs M ls) : ls.length = rs.length := by
  obtain ⟨p, ds, _, _, _, rfl | ⟨r, q, _, _, rfl⟩⟩ := h
  · rw [List.length_map]
  · rw [List.length_set, List.length_map]
theorem NearL.one (h : NearL n rs M ls) : ∀ l ∈ ls, l = 0 ∨ l = 1 := by
  have key : ∀ {ds : List Int}, ∀ l ∈ rs.map (nearV n M ds), l = 0 ∨ l = 1 := fun {ds} l hl => by
    obtain ⟨q, _, rfl⟩ := List.mem_map.mp hl
    exact nearV_01 n M ds q
  obtain ⟨p, ds, _, _, _, rfl | ⟨r, q, _, _, rfl⟩⟩ := h
  · exact key
  · intro l hl
    rcases List.mem_or_eq_of_mem_set hl with hl | rfl
    · exact key l hl
    · exact .inr rfl
def Std (i : Nat) (ms ls : List Int) : Prop := ls.length = i ∧ ∀ (j : Nat) (l m : Int), ls[j]? = some l → ms[j]? = some m → 0 ≤ l ∧ l ≤ m
theorem Std.snoc {i : Nat} {l m : Int} (h : Std i ms ls) (hm : ms[i]? = some m) (h0 : 0 ≤ l) (h1 : l ≤ m) : Std (i + 1) ms (ls ++ [l]) := by
  refine ⟨by rw [List.length_append, h.1]; rfl, fun j l' m' hl' hm' => ?_⟩
  have lj := (List.getElem?_eq_some_iff.mp hl').1
  rw [List.length_append, h.1, List.length_singleton] at lj
  by_cases c : j < i
  · rw [List.getElem?_append_left (by rw [h.1]; exact c)] at hl'
    exact h.2 j l' m' hl' hm'
  · have : j = i := by omega
    subst this
    rw [List.getElem?_append_right (by rw [h.1]; exact Nat.le_refl _), h.1, Nat.sub_self] at hl'
    cases hl'
    rw [hm] at hm'
    cases hm'
    exact ⟨h0, h1⟩
theorem NearL.stand (w : WebOk 24 40 9 n rs ms) (h : NearL n rs M ls) : Stand ms ls :=
  ⟨by rw [h.len, w.lm], fun i l m hl hm => by
    have a := h.one l (List.mem_of_getElem? hl)
    have b := w.ld m (List.mem_of_getElem? hm)
    omega⟩
end
section
variable {x : AXc} {k : Avl → Prop} {n : Int} {rs : List (Int × Int)} {ms ls M : List Int} {C : Cl}
end
end UW.Un
namespace UW.Un
open PySem PySem.Spec PyProof.Rows L2 UW
section
variable {n : Int} {rs : List (Int × Int)} {ms ls : List Int}
end
end UW.Un
namespace UW
open PySem PySem.Spec PyProof.Rows L2
def agLst (n : Nat) (r : ATgs) : ATg := fun x α k => ∃ ds, x = .list ds ∧ ds.length = n ∧ r ds α k
section
variable {K : Fg} {n : Nat} {gs : TGs} {ags : ATgs} {is : List Nat}
theorem rg_lst (h1 : RTgs K gs ags is) : RTg K (gLst K n gs) (agLst n ags) is := by
  intro W H0 S0 O S α σ H v x k Q f o ⟨ds, e, hl, h⟩ q
  subst e
  cases o with
  | lst g a b => exact ⟨_, _, rfl, SqL.of a, by rw [b.length]; exact hl, h1 f b h q⟩
theorem a_glst {d : PyData} {α : Afr} {ds : List PyData} {gs : ATgs} {Q : Afr → Prop} (e : d = .list ds) (h : ds.length = n) (q : gs ds α Q) : agLst n gs d α Q := ⟨ds, e, h, q⟩
/-- tuple(range(n)) -/
def aTupRg (e : AEx) : AEx := fun X α k => e X α fun x => ∃ n : Int, x = .d (.int n) ∧ -1000000 ≤ n ∧ n ≤ 1000000 ∧ k (.d (.tuple ((iota n.toNat).map .int)))
theorem a_tupRg {X : AXr} {α : Afr} {k : Avl → Prop} {e : AEx} (h : e X α fun x => ∃ n : Int, x = .d (.int n) ∧ -1000000 ≤ n ∧ n ≤ 1000000 ∧ k (.d (.tuple ((iota n.toNat).map .int)))) : aTupRg e X α k := h
end
instance {X : AXr} {α : Afr} {k : Avl → Prop} {e : AEx} : Wk (aTupRg e X α k) (e X α fun x => ∃ n : Int, x = .d (.int n) ∧ -1000000 ≤ n ∧ n ≤ 1000000 ∧ k (.d (.tuple ((iota n.toNat).map .int)))) := ⟨fun h => a_tupRg h⟩
instance {n : Nat} {ds : List PyData} {gs : ATgs} {α : Afr} {Q : Afr → Prop} [v : CLen ds n] : Wk (agLst n gs (.list ds) α Q) (gs ds α Q) := ⟨fun h => a_glst rfl v.e h⟩
instance {n : Nat} {d : PyData} {gs : ATgs} {α : Afr} {Q : Afr → Prop} : Rs (agLst n gs d α Q) 1 := ⟨trivial⟩
end UW
namespace UW.Un
open PySem PySem.Spec PyProof.Rows L2 UW
/-- one step -/
local macro_rules | `(tactic| walk_at "a1") => `(tactic| first
  | with_reducible refine wk ?_
  | (with_reducible refine rs_go 1 ?_
     first
     | with_reducible refine a_var (by with_unfolding_all rfl) (by with_unfolding_all rfl) ?_
     | with_reducible refine a_gtup (by with_unfolding_all rfl) (by with_unfolding_all rfl) ?_
     | with_reducible refine a_glst (by with_unfolding_all rfl) (by with_unfolding_all rfl) ?_)
  | (with_reducible refine rs_go 2 ?_
     first
     | with_reducible refine g_ixT (by with_unfolding_all rfl) (by first | with_unfolding_all rfl | with_unfolding_all exact at_zero _ _) ?_
     | with_reducible refine g_ixL (by with_unfolding_all rfl) (by first | with_unfolding_all rfl | with_unfolding_all exact at_zero _ _) ?_)
  | (with_reducible refine rs_go 3 ?_
     first
     | with_reducible refine g_lenT (by with_unfolding_all rfl) ?_
     | with_reducible refine g_lenL (by with_unfolding_all rfl) ?_
     | with_reducible refine g_tupL (by with_unfolding_all rfl) ?_
     | with_reducible refine g_tupT (by with_unfolding_all rfl) ?_
     | with_reducible refine g_lstT (by with_unfolding_all rfl) ?_
     | with_reducible refine g_lstL (by with_unfolding_all rfl) ?_)
  | (with_reducible refine rs_go 4 ?_
     first
     | with_reducible refine g_addL (by with_unfolding_all rfl) (by with_unfolding_all rfl) (Nat.le_of_ble_eq_true (by with_unfolding_all rfl)) ?_
     | with_reducible refine g_mulI (by first | exact Or.inl ⟨by decide, by decide⟩ | exact Or.inr ⟨by decide, by decide⟩ | (first | (refine Or.inl ⟨?_, ?_⟩ <;> omega) | (refine Or.inr ⟨?_, ?_⟩ <;> omega))) ?_
     | with_reducible refine g_mod (by first | decide | omega) ?_
     | with_reducible refine g_div (by first | decide | omega) (by first | decide | omega) ?_
     | with_reducible refine g_slT (by with_unfolding_all rfl) ?_
     | with_reducible refine g_slL (by with_unfolding_all rfl) ?_
     | with_reducible refine g_isN (by with_unfolding_all rfl) ?_
     | with_reducible refine g_notN (by with_unfolding_all rfl) ?_)
  | (with_reducible refine rs_go 5 ?_
     first
     | with_reducible refine a_dget (by with_unfolding_all rfl) ?_
     | with_reducible refine a_dget2 (by with_unfolding_all rfl) ?_
     | with_reducible refine a_fzq (by with_unfolding_all rfl) ?_
     | with_reducible refine a_retC (by with_unfolding_all rfl) ?_
     | with_reducible refine a_isX (by with_unfolding_all rfl) ?_
     | with_reducible refine a_app (by with_unfolding_all rfl) ?_
     | with_reducible refine a_ext (by with_unfolding_all rfl) ?_
     | with_reducible refine a_pop (by with_unfolding_all rfl) ?_
     | with_reducible refine a_fz (by with_unfolding_all rfl) ?_
     | with_reducible refine a_lenDV (by with_unfolding_all rfl) ?_)
  | (with_reducible refine rs_go 6 ?_
     first
     | with_reducible refine a_cl (by with_unfolding_all rfl) ?_
     | with_reducible refine a_dat (by with_unfolding_all rfl) ?_
     | with_reducible refine a_s1 (by with_unfolding_all rfl) ?_
     | with_reducible refine a_dcy (by with_unfolding_all rfl) ?_
     | with_reducible refine a_s2 (by with_unfolding_all rfl) (by with_unfolding_all rfl) ?_
     | with_reducible refine a_s3 (by with_unfolding_all rfl) (by with_unfolding_all rfl) (by with_unfolding_all rfl) ?_
     | with_reducible refine a_owned (by with_unfolding_all rfl) ?_)
  | (with_reducible refine rs_go 7 ?_
     first
     | with_reducible refine i_B (by with_unfolding_all rfl) ?_
     | with_reducible refine i_T (by with_unfolding_all rfl) ?_
     | with_reducible refine i_L (by with_unfolding_all rfl) ?_)
  | (with_reducible refine rs_go 8 ?_
     first
     | with_reducible refine a_nb (by with_unfolding_all rfl) ?_
     | with_reducible refine a_len (by with_unfolding_all rfl) ?_
     | with_reducible refine a_revT (by with_unfolding_all rfl) ?_
     | with_reducible refine a_revL (by with_unfolding_all rfl) ?_)
  | (with_reducible refine rs_go 9 ?_
     first
     | with_reducible refine iteNT (by with_unfolding_all rfl) ?_
     | with_reducible refine iteNF (by with_unfolding_all rfl) ?_
     | with_reducible refine iteIT (by with_unfolding_all rfl) ?_
     | with_reducible refine iteIF (by with_unfolding_all rfl) ?_))
local macro_rules | `(tactic| walk_at "ax") => `(tactic| (repeat (first | walk_at "a1" | with_reducible refine a_if ?_); try dsimp only [List.set_cons_zero, List.set_cons_succ, awipe, aFrz, List.getElem?_cons_zero, List.getElem?_cons_succ]))
local macro_rules | `(tactic| walk_at "ay") => `(tactic| (repeat (walk_at "a1"); try dsimp only [List.set_cons_zero, List.set_cons_succ, awipe, aFrz, List.getElem?_cons_zero, List.getElem?_cons_succ]))
/-- elder_tree, slots web, middles, tree, middle, one, other, mate, road, place -/
def t_elder_tree (K : Fg) (C : Cl) (W0 : WX) : TS :=
  (tSeq (tAsg (tG (sp_middles_of K) E00 (tCons (tVar 0) tNil)) (gName 1)) (tSeq (tIfS (tTest
    (tOp rIsN (tVar 1) (tC .non))) (tRaise (tMkB C.Unfit (sp_bare K)) W0) tNext) (tSeq (tAsg (tLst tNil) (gName 2)) (tSeq (tFor (iSeq K (tVar 1)) (gName 3) (tSeq (tAsg (tLc (iSeq K (tG (sp_roads_at K) E00 (tCons (tVar 0) (tCons
    (tVar 3) tNil)))) (gTup K 2 (gCons (gName 6) (gCons (gName 7) gNil))) tYes (tVar 6) [6, 7]) (gLst K 2 (gCons (gName 4) (gCons (gName 5) gNil)))) (tDrop (tBM K "list" rAppend (tVar 2) (tCons (tTup (tCons (tVar 4) (tCons (tVar 5)
    (tCons (tVar 3) tNil)))) tNil))))) (tRet (tTup (tCons (tCB (rTupOf K) (tCons (tLc (iRng1 (tCons (tOp (rIx K) (tVar 0) (tC (.int 0))) tNil)) (gName 8) (tTest (tOp (rNiU K) (tVar 8) (tVar 1))) (tVar 8) [8]) tNil)) (tCons (tCB
    (rTupOf K) (tCons (tCB (rSortU K 3 64) (tCons (tVar 2) tNil)) tNil)) tNil))))))))
abbrev a_elder_tree_0 (C : Cl) : ASt :=
  (aApp 2 (aTup (aCons (aVar 4) (aCons (aVar 5) (aCons (aVar 3) aNil)))))
abbrev a_elder_tree_1 (C : Cl) : ASt :=
  (aRet (aTup (aCons (aCB gTupOf (bCons (aLc (aRng1 (bCons (aOp gIx (aVar 0) (aC (.int 0))) bNil)) (agName 8) (aB (aOp (gIn true) (aVar 8) (aVar 1))) (aVar 8) [8]) bNil)) (aCons (aCB gTupOf
    (bCons (aCB gSortT (bCons (aVar 2) bNil)) bNil)) aNil))))
abbrev a_elder_tree_2 (C : Cl) : ASt :=
  (aSeq (aFor (aSeqI (aVar 1)) (agName 3) (aSeq (aAsg (aLc (aSeqI (aCall0 m_roads_at (bCons (aVar 0) (bCons (aVar 3) bNil)))) (agTup 2 (agCons (agName 6) (agCons (agName 7) agNil))) aYes
    (aVar 6) [6, 7]) (agLst 2 (agCons (agName 4) (agCons (agName 5) agNil)))) (a_elder_tree_0 C))) (a_elder_tree_1 C))
abbrev a_elder_tree_3 (C : Cl) : ASt :=
  (aSeq (aSet 2 (aLst aNil)) (a_elder_tree_2 C))
abbrev a_elder_tree_4 (C : Cl) : ASt :=
  (aSeq (aIfS (aB (aOp gIsN (aVar 1) (aC .none))) (aRaise C.Unfit) aNext) (a_elder_tree_3 C))
abbrev a_elder_tree (C : Cl) : ASt :=
  (aSeq (aAsg (aCall0 m_middles_of (bCons (aVar 0) bNil)) (agName 1)) (a_elder_tree_4 C))
theorem f_elder_tree {K : Fg} {C : Cl} {E : WX} (T_Unfit : ExT K C.Unfit C.UnevenError) : RSt K E (t_elder_tree K C E) (a_elder_tree C) :=
  (rs_seq (rs_asg (re_call0 br_middles_of (rv_cons re_var rv_nil)) rg_name) (rs_seq (rs_ifs
    (rt_test (re_op ro_isN re_var re_non)) (rs_raise T_Unfit.o) rs_next) (rs_seq (rs_set (re_lst ra_nil)) (rs_seq (rs_for (ri_seq re_var) rg_name (rs_seq (rs_asg (re_lc (ri_seq (re_call0 br_roads_at (rv_cons re_var (rv_cons re_var
    rv_nil)))) (rg_tup (rgs_cons rg_name (rgs_cons rg_name rgs_nil))) rt_yes re_var (by rfl)) (rg_lst (rgs_cons rg_name (rgs_cons rg_name rgs_nil)))) (rs_app (re_tup (ra_cons re_var (ra_cons re_var (ra_cons re_var ra_nil)))))))
    (rs_ret (re_tup (ra_cons (re_cb rb_tupOf (rv_cons (re_lc (ri_rng1 (rv_cons (re_op ro_ix re_var re_int) rv_nil)) rg_name (rt_test (re_op ro_ni re_var re_var)) re_var (by rfl)) rv_nil)) (ra_cons (re_cb rb_tupOf (rv_cons (re_cb
    rb_sortT (rv_cons re_var rv_nil)) rv_nil)) ra_nil))))))))
def m_elder_tree (C : Cl) : AFn := mOf 8 (a_elder_tree C)
def sp_elder_tree (K : Fg) (C : Cl) : Sp := SpA K 1 (m_elder_tree C)
theorem br_elder_tree {K : Fg} {C : Cl} : ∀ vs H Q E, SpA K 1 (m_elder_tree C) vs H Q E → sp_elder_tree K C vs H Q E := fun _ _ _ _ h => h
theorem l_elder_tree {K : Fg} {C : Cl} : ∀ vs H Q E, sp_elder_tree K C vs H Q E → vs.length = 1 := l_spa
theorem p_elder_tree {K : Fg} {C : Cl} (T_Unfit : ExT K C.Unfit C.UnevenError) {vs : List V} {H : Hp} {Q : VK} {E : XK} (h : sp_elder_tree K C vs H Q E) : t_elder_tree K C (fun c d _ H => E c d H) { nx := fun _ H' => Q .non H', rt := Q } (L2.start ["web", "middles", "tree", "middle", "one", "other", "mate", "road", "place"] vs) H :=
  p_spa (f_elder_tree T_Unfit) h rfl
section
variable {x : AXc} {k : Avl → Prop} {n : Int} {rs : List (Int × Int)} {ms : List Int} {C : Cl}
theorem fst_pw {qs : List (Int × Int)} (h : qs.Pairwise fun p q => SrtO.lexB q p = false) : (qs.map (·.1)).Pairwise (· ≤ ·) := by
  rw [List.pairwise_map]
  refine h.imp fun {p q} z => ?_
  refine Classical.byContradiction fun c => ?_
  have : SrtO.lexB q p = true := by
    unfold SrtO.lexB
    rw [if_neg (by omega)]
    exact decide_eq_true (by omega)
  rw [this] at z
  cases z
theorem mates_srt {qs : List (Int × Int)} {p : Int} (p0 : 0 ≤ p) (pm : qs.Perm (rdsN rs p 0)) (pw : qs.Pairwise fun p q => SrtO.lexB q p = false) : qs.map (·.1) = srt (nb rs p.toNat) := by
  refine srt_eq ?_ (fst_pw pw)
  unfold nb nbTo
  rw [List.take_length, show ((p.toNat : Nat) : Int) = p by omega]
  exact pm.map _
theorem s_elder_tree (sh : Shape n rs) (hn : n ≤ 60) (hl : rs.length ≤ 1000) (h1 : ∀ M, mids n rs = some M → k (.d (eldO n rs (some M)))) (h2 : mids n rs = none → x C.Unfit none) : m_elder_tree C [.d (dWeb n rs ms)] x k := by
  have two := sh.two
  show a_elder_tree C _ [.d (dWeb n rs ms), .x, .x, .x, .x, .x, .x, .x, .x]
  walk_at "ax"
  refine s_middles_of sh (by omega) hl ⟨?_, fun z => by cases z⟩
  walk_at "ax"
  rw [mO_none]
  refine s_dec (fun c => ?_) (fun c => ?_)
  · walk_at "ax"
    exact h2 c
  obtain ⟨M, eM⟩ : ∃ M, mids n rs = some M := by
    cases e : mids n rs with
    | none => exact absurd e c
    | some M => exact ⟨M, rfl⟩
  have h1 := h1 M eM
  obtain ⟨okp, ml⟩ := mids_mem eM
  rw [eM]
  walk_at "ax"
  refine a_loop (fun j α => ∃ x3 x4 x5 x6 x7 x8 : Sot, α = [.d (dWeb n rs ms), .d (.list (M.map .int)), .own (((M.take j).map (rowM rs)).map dT), x3, x4, x5, x6, x7, x8]) ?_ ?_ ?_
  · exact ⟨_, _, _, _, _, _, rfl⟩
  · rintro j y α hy ⟨x3, x4, x5, x6, x7, x8, rfl⟩
    obtain ⟨p, hp, rfl⟩ := intd_at hy
    obtain ⟨⟨p0, p1⟩, dp⟩ := okp p (List.mem_of_getElem? hp)
    have lj := (List.getElem?_eq_some_iff.mp hp).1
    walk_at "ax"
    refine s_roads_at hl fun qs pm pw => ⟨?_, fun z => by cases z⟩
    have em := mates_srt p0 pm pw
    have l := rowM_len dp
    have lq : qs.length = 2 := by rw [← List.length_map (f := (·.1)), em, l]
    walk_at "ax"
    refine ⟨by rw [List.length_map]; omega, ?_⟩
    refine a_lcgo (fun i acc => acc = ((qs.map (·.1)).take i).map .int) rfl ?_ ?_
    · rintro i y acc hy rfl
      obtain ⟨q, hq, rfl⟩ := dp_at hy
      walk_at "ax"
      rw [List.take_add_one, List.getElem?_map, hq, List.map_append]
      rfl
    rintro acc rfl -
    rw [List.length_map, ← List.length_map (f := (·.1)), List.take_length, em]
    obtain ⟨a, b, eab⟩ := len_two l
    rw [eab]
    walk_at "ax"
    have er : ((M.take j).map (rowM rs)).map dT ++ [PyData.tuple [.int a, .int b, .int p]] = ((M.take (j + 1)).map (rowM rs)).map dT := by
      have eR : rowM rs p = ((a, b), p) := by
        unfold rowM
        rw [eab]
        rfl
      rw [List.take_add_one, hp, List.map_append, List.map_append]
      show _ = _ ++ [dT (rowM rs p)]
      rw [eR]
      rfl
    simp only [List.map_cons, List.map_nil]
    walk_at "ax"
    refine ⟨by rw [List.length_map, List.length_map, List.length_take]; omega, ?_⟩
    rw [er]
    exact ⟨_, _, _, _, _, _, rfl⟩
  · rintro α ⟨x3, x4, x5, x6, x7, x8, rfl⟩
    rw [List.length_map, List.take_length]
    walk_at "ax"
    refine i_r1 (by omega) ⟨by rw [List.length_map, iota_len]; omega, ?_⟩
    refine a_lcgo (fun j acc => acc = (((iota n.toNat).take j).filter fun p => decide (p ∉ M)).map .int) rfl ?_ ?_
    · rintro j y acc hy rfl
      obtain ⟨rfl, hj⟩ := iota_at' hy
      rw [iota_take hj, List.filter_append, List.map_append]
      walk_at "ax"
      refine g_niI rfl ?_
      walk_at "ax"
      refine s_ndec (fun c => ?_) (fun c => ?_)
      · walk_at "ax"
        rw [List.filter_cons_of_pos (by exact decide_eq_true c)]
        rfl
      · rw [List.filter_cons_of_neg (by show ¬ decide _ = true; rw [decide_eq_false (fun z => z c)]; simp)]
        simp
    rintro acc rfl -
    rw [List.length_map, iota_len, List.take_of_length_le (by rw [iota_len]; exact Nat.le_refl _)]
    walk_at "ax"
    refine ⟨_, M.map (rowM rs), rfl, rfl, by rw [List.length_map]; omega, fun r hr => ?_, fun qs pm pw => ?_⟩
    · obtain ⟨p, hp, rfl⟩ := List.mem_map.mp hr
      obtain ⟨⟨p0, p1⟩, dp⟩ := okp p hp
      exact rowM_inB sh hn p0 p1 dp
    rw [srtT_eq pm pw]
    walk_at "ax"
    exact h1
end
end UW.Un
namespace UW
open PySem PySem.Spec PyProof.Rows L2
def dNn (p : (Int × Int) × Int) : PyData := .tuple [dP p.1, .int p.2]
def rSortNn (K : Fg) : List V → Hp → VK → Prop := fun vs H Q => ∃ (a : Addr) (xs : List V) (rs : List ((Int × Int) × Int)), vs = [V.ref a] ∧ SqL K H a xs ∧ Tps K H xs (rs.map dNn) ∧
  ∀ (ys : List V) (qs : List ((Int × Int) × Int)), qs.Perm rs → qs.Pairwise leT → Tps K H ys (qs.map dNn) → New Q H (.lst ys)
abbrev VN := V × ((Int × Int) × Int)
def enNn (b : VN) : PyData := dNn b.2
theorem alike_dP (p q : Int × Int) : PySem.W.alike (dP p) (dP q) = true := by
  simp [dP, PySem.W.alike, PySem.W.alikeAll]
theorem alike_dN (p q : (Int × Int) × Int) : PySem.W.alike (dNn p) (dNn q) = true := by
  have := alike_dP p.1 q.1
  simp [dNn, PySem.W.alike, PySem.W.alikeAll, this]
def leTb' (p q : (Int × Int) × Int) : Bool := decide (p.1.1 < q.1.1 ∨ (p.1.1 = q.1.1 ∧ (p.1.2 < q.1.2 ∨ (p.1.2 = q.1.2 ∧ p.2 ≤ q.2))))
theorem dataLe_Nn : PySem.W.dataLe false enNn = fun p q => leTb' p.2 q.2 := by
  funext p q
  show (!PySem.W.dataLt (dNn q.2) (dNn p.2)) = _
  unfold dNn
  rw [PySem.W.dataLt_pair (alike_dP _ _) (by simp [PySem.W.alike]), eqv_dP]
  have e1 : PySem.W.dataLt (dP q.2.1) (dP p.2.1) = decide (q.2.1.1 < p.2.1.1 ∨ (q.2.1.1 = p.2.1.1 ∧ q.2.1.2 < p.2.1.2)) := PySem.W.dataLt_ii _ _ _ _
  have e2 : PySem.W.dataLt (.int q.2.2) (.int p.2.2) = decide (q.2.2 < p.2.2) := PySem.W.dataLt_int _ _
  have e3 : PyData.eqv (.int q.2.2) (.int p.2.2) = decide (q.2.2 = p.2.2) := by simp only [PyData.eqv]; first | rfl | exact beq_eq_decide _ _
  rw [e1, e2, e3]
  generalize hp : p.2 = P
  generalize hq : q.2 = S
  obtain ⟨⟨a, b⟩, r⟩ := P
  obtain ⟨⟨c, d⟩, t⟩ := S
  unfold leTb'
  show (!if decide ((c, d) = (a, b)) = true then (if decide (t = r) = true then false else decide (t < r)) else decide (c < a ∨ c = a ∧ d < b)) = decide (a < c ∨ a = c ∧ (b < d ∨ b = d ∧ r ≤ t))
  by_cases h1 : (c, d) = (a, b)
  · have h2 : c = a ∧ d = b := by simpa using h1
    rw [if_pos (decide_eq_true h1)]
    by_cases h3 : t = r
    · rw [if_pos (decide_eq_true h3)]
      exact (decide_eq_true (by omega)).symm
    · rw [if_neg (by rw [decide_eq_false h3]; simp)]
      by_cases h4 : t < r
      · rw [decide_eq_true h4, decide_eq_false (by omega)]; rfl
      · rw [decide_eq_false h4, decide_eq_true (by omega)]; rfl
  · have h2 : ¬ (c = a ∧ d = b) := fun z => h1 (by rw [z.1, z.2])
    rw [if_neg (by rw [decide_eq_false h1]; simp)]
    by_cases h4 : c < a ∨ c = a ∧ d < b
    · rw [decide_eq_true h4, decide_eq_false (by omega)]; rfl
    · rw [decide_eq_false h4, decide_eq_true (by omega)]; rfl
theorem leTb_pwn (l : List VN) : ((l.mergeSort fun p q => leTb' p.2 q.2).map (·.2)).Pairwise leT := by
  rw [List.pairwise_map]
  have := List.pairwise_mergeSort (le := fun (p q : VN) => leTb' p.2 q.2) (fun a b c h1 h2 => by
    have h1 := of_decide_eq_true h1
    have h2 := of_decide_eq_true h2
    exact decide_eq_true (by omega)) (fun a b => by
    show (leTb' a.2 b.2 || leTb' b.2 a.2) = true
    unfold leTb'
    rw [← Bool.decide_or]
    exact decide_eq_true (by omega)) l
  exact this.imp fun h => of_decide_eq_true h
theorem each_vals : ∀ {xs : List V} {us : List Value} {rs : List ((Int × Int) × Int)}, Vals xs us → xs.length = rs.length → PySem.W.EachIs (fun (v : Value) (b : VN) => RelV b.1 v) us (xs.zip rs)
  | [], _, [], .nil, _ => .nil
  | x :: xs, _, r :: rs, .cons h t, hl => .cons h (each_vals t (by simpa using hl))
theorem vals_each : ∀ {us : List Value} {bs : List VN}, PySem.W.EachIs (fun (v : Value) (b : VN) => RelV b.1 v) us bs → Vals (bs.map (·.1)) us
  | _, _, .nil => .nil
  | _, _, .cons h t => .cons h (vals_each t)
section
variable {X : Cx}
theorem each_reads {pins : List (Addr × Obj)} {σ : L2.St} {H : Hp} {s : Shared} (I : Inv X pins σ H s) : ∀ {xs : List V} {us : List Value} {rs : List ((Int × Int) × Int)}, Vals xs us → Tps X.K H xs (rs.map dNn) → PySem.W.EachIs (fun (v : Value) (b : VN) => ∃ as, Reads s.heap v (enNn b) as) us (xs.zip rs)
  | _, _, [], .nil, _ => .nil
  | _, _, [], .cons h t, tx => by cases tx
  | _, _, r :: rs, .nil, tx => by cases tx
  | x :: xs, u :: us, r :: rs, .cons h t, tx => by
    obtain ⟨v, vs, e, t1, t2⟩ := Tps.cons_inv tx
    cases e
    exact .cons (Dp.reads I (dNn r) _ _ t1.dp h) (each_reads I t t2)
theorem tps_zip {K : Fg} {H : Hp} : ∀ {xs : List V} {rs : List ((Int × Int) × Int)}, Tps K H xs (rs.map dNn) → ∀ b ∈ xs.zip rs, Tp K H b.1 (dNn b.2)
  | _, [], tx, b, hb => by simp at hb
  | _, r :: rs, tx, b, hb => by
    obtain ⟨v, vs, e, t1, t2⟩ := Tps.cons_inv tx
    cases e
    rw [List.zip_cons_cons] at hb
    rcases List.mem_cons.mp hb with rfl | hb
    · exact t1
    · exact tps_zip t2 b hb
theorem tps_all {K : Fg} {H : Hp} : ∀ {bs : List VN}, (∀ b ∈ bs, Tp K H b.1 (dNn b.2)) → Tps K H (bs.map (·.1)) ((bs.map (·.2)).map dNn)
  | [], _ => .nil
  | b :: bs, h => .cons (h b (List.mem_cons_self ..)) (tps_all fun c hc => h c (List.mem_cons_of_mem _ hc))
theorem tps_len {K : Fg} {H : Hp} : ∀ {xs : List V} {ds : List PyData}, Tps K H xs ds → xs.length = ds.length
  | _, _, .nil => rfl
  | _, _, .cons _ t => by rw [List.length_cons, List.length_cons, tps_len t]
theorem cr_sortNn (hu : X.A.units + 4 < cLine) : CallR X (.builtin "sorted") (rSortNn X.K) := by
  intro pins s σ H vs us Q I r h
  obtain ⟨a, xs, rs, rfl, hs, tx, q⟩ := h
  obtain ⟨its, rv, hl, hz⟩ := I.list hs
  obtain ⟨u, rfl, ru⟩ := vals1 r
  obtain rfl : u = Value.ref a := ru
  have lx : xs.length = rs.length := by rw [tps_len tx, List.length_map]
  have lz : (xs.zip rs).length = xs.length := by rw [List.length_zip, lx, Nat.min_self]
  refine PySem.W.sorted_data (enc := enNn) hl.isList (each_vals rv lx) (each_reads I rv tx) (PySem.W.AllAlike.of fun b b' => alike_dN _ _) (PySem.W.Sortable.tuples fun b => ⟨_, _, rfl⟩) (by rw [lz]; exact hz) (fun b _ => ?_) fun out ho eo => ?_
  · have : (enNn b).depth ≤ 2 := by simp [enNn, dNn, dP, PyData.depth, PyData.depthAll]
    omega
  · rw [dataLe_Nn] at eo
    have pm : ((xs.zip rs).mergeSort fun p q => leTb' p.2 q.2).Perm (xs.zip rs) := List.mergeSort_perm _ _
    obtain ⟨c, hc⟩ := PyProof.Rows.sortedAll_at s.heap its out.toArray
    have ro := vals_each eo
    refine ⟨.ref (s.heap.objs.size + 1), upd H (s.heap.objs.size + 1) (.lst (((xs.zip rs).mergeSort fun p q => leTb' p.2 q.2).map (·.1))), I.laid (t' := s.toks) (fun b o e => PyProof.Rows.sortedAll_old e) (Nat.le_succ _) ⟨?_, out, c, ro, ?_⟩, rfl,
      q _ (((xs.zip rs).mergeSort fun p q => leTb' p.2 q.2).map (·.2)) ?_ (leTb_pwn _) (tps_all fun b hb => tps_zip tx b (pm.mem_iff.mp hb)) _ (I.hok.fresh (Nat.le_succ _))⟩
    · rw [List.length_map, pm.length_eq, lz]; exact hz
    · exact hc
    · have := pm.map (·.2)
      rw [List.map_snd_zip (by omega)] at this
      exact this
end
end UW
namespace UW
open PySem PySem.Spec PyProof.Rows L2
/-- as many as differ -/
def Dif (ns : List Int) (c : Nat) : Prop := ∃ ks : List Int, ks.Nodup ∧ ks.length = c ∧ ∀ k, k ∈ ks ↔ k ∈ ns
section
variable {X : Cx}
end
def gIsT : AO2 := fun x y k => ∃ a b, x = .d (.bool a) ∧ y = .d (.bool b) ∧ k (.d (.bool (decide (a = b))))
def gNotT : AO2 := fun x y k => ∃ a b, x = .d (.bool a) ∧ y = .d (.bool b) ∧ k (.d (.bool (!decide (a = b))))
instance {a b : Bool} {k : Avl → Prop} : Wk (gIsT (.d (.bool a)) (.d (.bool b)) k) (k (.d (.bool (decide (a = b))))) := ⟨fun h => ⟨a, b, rfl, rfl, h⟩⟩
instance {a b : Bool} {k : Avl → Prop} : Wk (gNotT (.d (.bool a)) (.d (.bool b)) k) (k (.d (.bool (!decide (a = b))))) := ⟨fun h => ⟨a, b, rfl, rfl, h⟩⟩
section
variable {K : Fg} {E : WX} {te : TE} {e : AEx}
def aLenSetT (e : AEx) : AEx := fun X α k => e X α fun x => ∃ ns : List Int, x.tup = some (ns.map .int) ∧ ns.length ≤ 4000 ∧ ∀ c : Nat, Dif ns c → k (.d (.int (c : Nat)))
instance {X : AXr} {α : Afr} {k : Avl → Prop} : Wk (aLenSetT e X α k) (e X α fun x => ∃ ns : List Int, x.tup = some (ns.map .int) ∧ ns.length ≤ 4000 ∧ ∀ c : Nat, Dif ns c → k (.d (.int (c : Nat)))) := ⟨fun h => h⟩
def gSortN : AOn := fun as k => ∃ (a : Avl) (rs : List ((Int × Int) × Int)), as = [a] ∧ a.lst = some (rs.map dNn) ∧ ∀ qs : List ((Int × Int) × Int), qs.Perm rs → qs.Pairwise leT → k (.l (qs.map dNn))
theorem flat_dNs : ∀ rs : List ((Int × Int) × Int), flatDs (rs.map dNn) = true
  | [] => by simp [flatDs]
  | p :: rs => by simp [flatDs, flatD, dNn, dP, flat_dNs rs]
theorem rb_sortN : RCb K (rSortNn K) gSortN := by
  intro W Hs O S H xs as k Q ok r ⟨a, rs, e, h, hk⟩ q
  subst e
  obtain ⟨v, rfl, r1⟩ := one_inv r
  obtain ⟨p, vs, rfl, a, o⟩ := r1.lst h
  exact ⟨p, vs, rs, rfl, SqL.of a, o.tps (flat_dNs rs), fun ys qs h1 h2 t => Rst.new q ok t.ods (hk qs h1 h2)⟩
end
end UW
namespace UW.Un
open PySem PySem.Spec PyProof.Rows L2 UW
/-- one step -/
local macro_rules | `(tactic| walk_at "a1") => `(tactic| first
  | with_reducible refine wk ?_
  | (with_reducible refine rs_go 1 ?_
     first
     | with_reducible refine a_var (by with_unfolding_all rfl) (by with_unfolding_all rfl) ?_
     | with_reducible refine a_gtup (by with_unfolding_all rfl) (by with_unfolding_all rfl) ?_
     | with_reducible refine a_glst (by with_unfolding_all rfl) (by with_unfolding_all rfl) ?_)
  | (with_reducible refine rs_go 2 ?_
     first
     | with_reducible refine g_ixT (by with_unfolding_all rfl) (by first | with_unfolding_all rfl | with_unfolding_all exact at_zero _ _) ?_
     | with_reducible refine g_ixL (by with_unfolding_all rfl) (by first | with_unfolding_all rfl | with_unfolding_all exact at_zero _ _) ?_)
  | (with_reducible refine rs_go 3 ?_
     first
     | with_reducible refine g_lenT (by with_unfolding_all rfl) ?_
     | with_reducible refine g_lenL (by with_unfolding_all rfl) ?_
     | with_reducible refine g_tupL (by with_unfolding_all rfl) ?_
     | with_reducible refine g_tupT (by with_unfolding_all rfl) ?_
     | with_reducible refine g_lstT (by with_unfolding_all rfl) ?_
     | with_reducible refine g_lstL (by with_unfolding_all rfl) ?_)
  | (with_reducible refine rs_go 4 ?_
     first
     | with_reducible refine g_addL (by with_unfolding_all rfl) (by with_unfolding_all rfl) (Nat.le_of_ble_eq_true (by with_unfolding_all rfl)) ?_
     | with_reducible refine g_mulI (by first | exact Or.inl ⟨by decide, by decide⟩ | exact Or.inr ⟨by decide, by decide⟩ | (first | (refine Or.inl ⟨?_, ?_⟩ <;> omega) | (refine Or.inr ⟨?_, ?_⟩ <;> omega))) ?_
     | with_reducible refine g_mod (by first | decide | omega) ?_
     | with_reducible refine g_div (by first | decide | omega) (by first | decide | omega) ?_
     | with_reducible refine g_slT (by with_unfolding_all rfl) ?_
     | with_reducible refine g_slL (by with_unfolding_all rfl) ?_
     | with_reducible refine g_isN (by with_unfolding_all rfl) ?_
     | with_reducible refine g_notN (by with_unfolding_all rfl) ?_)
  | (with_reducible refine rs_go 5 ?_
     first
     | with_reducible refine a_dget (by with_unfolding_all rfl) ?_
     | with_reducible refine a_dget2 (by with_unfolding_all rfl) ?_
     | with_reducible refine a_fzq (by with_unfolding_all rfl) ?_
     | with_reducible refine a_retC (by with_unfolding_all rfl) ?_
     | with_reducible refine a_isX (by with_unfolding_all rfl) ?_
     | with_reducible refine a_app (by with_unfolding_all rfl) ?_
     | with_reducible refine a_ext (by with_unfolding_all rfl) ?_
     | with_reducible refine a_pop (by with_unfolding_all rfl) ?_
     | with_reducible refine a_fz (by with_unfolding_all rfl) ?_
     | with_reducible refine a_lenDV (by with_unfolding_all rfl) ?_)
  | (with_reducible refine rs_go 6 ?_
     first
     | with_reducible refine a_cl (by with_unfolding_all rfl) ?_
     | with_reducible refine a_dat (by with_unfolding_all rfl) ?_
     | with_reducible refine a_s1 (by with_unfolding_all rfl) ?_
     | with_reducible refine a_dcy (by with_unfolding_all rfl) ?_
     | with_reducible refine a_s2 (by with_unfolding_all rfl) (by with_unfolding_all rfl) ?_
     | with_reducible refine a_s3 (by with_unfolding_all rfl) (by with_unfolding_all rfl) (by with_unfolding_all rfl) ?_
     | with_reducible refine a_owned (by with_unfolding_all rfl) ?_)
  | (with_reducible refine rs_go 7 ?_
     first
     | with_reducible refine i_B (by with_unfolding_all rfl) ?_
     | with_reducible refine i_T (by with_unfolding_all rfl) ?_
     | with_reducible refine i_L (by with_unfolding_all rfl) ?_)
  | (with_reducible refine rs_go 8 ?_
     first
     | with_reducible refine a_nb (by with_unfolding_all rfl) ?_
     | with_reducible refine a_len (by with_unfolding_all rfl) ?_
     | with_reducible refine a_revT (by with_unfolding_all rfl) ?_
     | with_reducible refine a_revL (by with_unfolding_all rfl) ?_)
  | (with_reducible refine rs_go 9 ?_
     first
     | with_reducible refine iteNT (by with_unfolding_all rfl) ?_
     | with_reducible refine iteNF (by with_unfolding_all rfl) ?_
     | with_reducible refine iteIT (by with_unfolding_all rfl) ?_
     | with_reducible refine iteIF (by with_unfolding_all rfl) ?_))
local macro_rules | `(tactic| walk_at "ax") => `(tactic| (repeat (first | walk_at "a1" | with_reducible refine a_if ?_); try dsimp only [List.set_cons_zero, List.set_cons_succ, awipe, aFrz, List.getElem?_cons_zero, List.getElem?_cons_succ]))
local macro_rules | `(tactic| walk_at "ay") => `(tactic| (repeat (walk_at "a1"); try dsimp only [List.set_cons_zero, List.set_cons_succ, awipe, aFrz, List.getElem?_cons_zero, List.getElem?_cons_succ]))
def g_kb_elder_tree_web : {α : Type} → List α → List α := fun l => match l with | [a0] => [a0] | l => l
theorem kq_kb_elder_tree_web : ∀ {R : V → Avl → Prop} {vs : List V} {as : List Avl}, Paired R vs as → vs.length = 1 → Paired R (g_kb_elder_tree_web vs) (g_kb_elder_tree_web as) ∧ (g_kb_elder_tree_web vs).length = 1 := by
  intro R vs as r h
  rcases r with _ | ⟨r0, r⟩
  · simp only [List.length_cons, List.length_nil] at h; omega
  rcases r with _ | ⟨rx, r⟩
  · exact ⟨(.cons r0 .nil), rfl⟩
  · simp only [List.length_cons] at h; omega
/-- _law_told, slots web, is_named, refused -/
def t__law_told (K : Fg) (C : Cl) (W0 : WX) : TS :=
  (tTry K (.ref C.Unfit) 2 (fun W1 => (tRet (tIf (tB (tVar 1)) (tKw (sp_elder_tree K C) 1 g_kb_elder_tree_web (WE W1) (tCons (tVar
    0) tNil)) (tG (sp_elder_tree K C) (WE W1) (tCons (tVar 0) tNil))))) (fun a cls dd => (tRet (tIf (tB (tCB (rIsX K cls dd a) (tCons (tVar 2) (tCons (tC (.ref C.UnevenError)) tNil)))) (tC .non) (tC (.str "odd"))))) W0)
abbrev a__law_told (C : Cl) : ASt :=
  (aTry C.Unfit 2 (aRet (aIf (aB (aVar 1)) (aCall (m_elder_tree C) (aKw 1 (fun l => g_kb_elder_tree_web l) (bCons (aVar 0) bNil))) (aCall (m_elder_tree C) (bCons (aVar 0) bNil)))) (fun a =>
    (aRet (aIf (aB (aIsX 2 a)) (aC .none) (aC (.str "odd"))))))
theorem f__law_told {K : Fg} {C : Cl} {E : WX} (T_Unfit : ExT K C.Unfit C.UnevenError) : RSt K E (t__law_told K C E) (a__law_told C) :=
  (rs_try T_Unfit.e (fun _ => (rs_ret (re_if (rt_b re_var) (re_kw br_elder_tree (fun _ _ _ _ h
    => h) kq_kb_elder_tree_web (rv_cons re_var rv_nil)) (re_call br_elder_tree (fun _ _ _ _ h => h) (rv_cons re_var rv_nil))))) (fun a => (rs_ret (re_if (rt_b (re_isX T_Unfit)) re_non re_str))))
def m__law_told (C : Cl) : AFn := mOf 1 (a__law_told C)
def sp__law_told (K : Fg) (C : Cl) : Sp := SpA K 2 (m__law_told C)
theorem br__law_told {K : Fg} {C : Cl} : ∀ vs H Q E, SpA K 2 (m__law_told C) vs H Q E → sp__law_told K C vs H Q E := fun _ _ _ _ h => h
theorem l__law_told {K : Fg} {C : Cl} : ∀ vs H Q E, sp__law_told K C vs H Q E → vs.length = 2 := l_spa
theorem p__law_told {K : Fg} {C : Cl} (T_Unfit : ExT K C.Unfit C.UnevenError) {vs : List V} {H : Hp} {Q : VK} {E : XK} (h : sp__law_told K C vs H Q E) : t__law_told K C (fun c d _ H => E c d H) { nx := fun _ H' => Q .non H', rt := Q } (L2.start ["web", "is_named", "refused"] vs) H :=
  p_spa (f__law_told T_Unfit) h rfl
/-- _law_grown, slots urn, web, a, rows, road, load -/
def t__law_grown (K : Fg) : TS :=
  (tSeq (tAsg (tG (sp__law_draw K) E00 (tCons (tVar 0) (tCons (tOp (rIx K) (tVar 1) (tC (.int 0))) tNil))) (gName 2)) (tSeq (tAsg (tCB
    (rSortNn K) (tCons (tOp (rAddU K) (UW.Zl.tLstZip K (tCons (tOp (rIx K) (tVar 1) (tC (.int 1))) (tCons (tOp (rIx K) (tVar 1) (tC (.int 2))) tNil))) (tLst (tCons (tTup (tCons (tTup (tCons (tVar 2) (tCons (tOp (rIx K) (tVar 1) (tC
    (.int 0))) tNil))) (tCons (tOp (rAddU K) (tC (.int 1)) (tG (sp__law_draw K) E00 (tCons (tVar 0) (tCons (tC (.int 9)) tNil)))) tNil))) tNil))) tNil)) (gName 3)) (tRet (tTup (tCons (tOp (rAddU K) (tOp (rIx K) (tVar 1) (tC (.int
    0))) (tC (.int 1))) (tCons (tCB (rTupOf K) (tCons (tLc (iSeq K (tVar 3)) (gTup K 2 (gCons (gName 4) (gCons (gName 5) gNil))) tYes (tVar 4) [4, 5]) tNil)) (tCons (tCB (rTupOf K) (tCons (tLc (iSeq K (tVar 3)) (gTup K 2 (gCons
    (gName 4) (gCons (gName 5) gNil))) tYes (tVar 5) [4, 5]) tNil)) tNil)))))))
abbrev a__law_grown_0 : ASt :=
  (aRet (aTup (aCons (aOp gAdd (aOp gIx (aVar 1) (aC (.int 0))) (aC (.int 1))) (aCons (aCB gTupOf (bCons (aLc (aSeqI (aVar 3)) (agTup 2 (agCons (agName 4) (agCons (agName 5) agNil))) aYes (aVar 4) [4,
    5]) bNil)) (aCons (aCB gTupOf (bCons (aLc (aSeqI (aVar 3)) (agTup 2 (agCons (agName 4) (agCons (agName 5) agNil))) aYes (aVar 5) [4, 5]) bNil)) aNil)))))
abbrev a__law_grown_1 : ASt :=
  (aSeq (aAsg (aCB gSortN (bCons (aOp gAdd (aLstZip (bCons (aOp gIx (aVar 1) (aC (.int 1))) (bCons (aOp gIx (aVar 1) (aC (.int 2))) bNil))) (aLst (aCons (aTup (aCons (aTup (aCons (aVar 2) (aCons (aOp
    gIx (aVar 1) (aC (.int 0))) aNil))) (aCons (aOp gAdd (aC (.int 1)) (aCall0 m__law_draw (bCons (aVar 0) (bCons (aC (.int 9)) bNil)))) aNil))) aNil))) bNil)) (agName 3)) a__law_grown_0)
abbrev a__law_grown : ASt :=
  (aSeq (aAsg (aCall0 m__law_draw (bCons (aVar 0) (bCons (aOp gIx (aVar 1) (aC (.int 0))) bNil))) (agName 2)) a__law_grown_1)
theorem f__law_grown {K : Fg} {E : WX} : RSt K E (t__law_grown K) a__law_grown :=
  (rs_seq (rs_asg (re_call0 br__law_draw (rv_cons re_var (rv_cons (re_op ro_ix re_var re_int) rv_nil))) rg_name) (rs_seq (rs_asg (re_cb rb_sortN
    (rv_cons (re_op ro_add (re_lstZip (rv_cons (re_op ro_ix re_var re_int) (rv_cons (re_op ro_ix re_var re_int) rv_nil))) (re_lst (ra_cons (re_tup (ra_cons (re_tup (ra_cons re_var (ra_cons (re_op ro_ix re_var re_int) ra_nil)))
    (ra_cons (re_op ro_add re_int (re_call0 br__law_draw (rv_cons re_var (rv_cons re_int rv_nil)))) ra_nil))) ra_nil))) rv_nil)) rg_name) (rs_ret (re_tup (ra_cons (re_op ro_add (re_op ro_ix re_var re_int) re_int) (ra_cons (re_cb
    rb_tupOf (rv_cons (re_lc (ri_seq re_var) (rg_tup (rgs_cons rg_name (rgs_cons rg_name rgs_nil))) rt_yes re_var (by rfl)) rv_nil)) (ra_cons (re_cb rb_tupOf (rv_cons (re_lc (ri_seq re_var) (rg_tup (rgs_cons rg_name (rgs_cons
    rg_name rgs_nil))) rt_yes re_var (by rfl)) rv_nil)) ra_nil)))))))
def m__law_grown : AFn := mOf 4 a__law_grown
def sp__law_grown (K : Fg) : Sp := SpA K 2 m__law_grown
theorem br__law_grown {K : Fg} : ∀ vs H Q E, SpA K 2 m__law_grown vs H Q E → sp__law_grown K vs H Q E := fun _ _ _ _ h => h
theorem l__law_grown {K : Fg} : ∀ vs H Q E, sp__law_grown K vs H Q E → vs.length = 2 := l_spa
theorem p__law_grown {K : Fg} {vs : List V} {H : Hp} {Q : VK} {E : XK} (h : sp__law_grown K vs H Q E) : t__law_grown K { nx := fun _ H' => Q .non H', rt := Q } (L2.start ["urn", "web", "a", "rows", "road", "load"] vs) H :=
  p_spa (f__law_grown) h rfl
/-- _law_is_told, slots web, is_named, due, kept -/
def t__law_is_told (K : Fg) (C : Cl) (W0 : WX) : TS :=
  (tSeq (tPar 2 3 (tCons (tCB (rReprU K) (tCons (tG (sp__law_elder K) E00 (tCons (tVar 0) tNil)) tNil)) (tCons (tCB (rReprU
    K) (tCons (tVar 0) tNil)) tNil))) (tRet (tAndV (tOp (rEqU K) (tCB (rReprU K) (tCons (tG (sp__law_told K C) (WE W0) (tCons (tVar 0) (tCons (tVar 1) tNil))) tNil)) (tVar 2)) (tOp (rEqU K) (tCB (rReprU K) (tCons (tVar 0) tNil))
    (tVar 3)))))
abbrev a__law_is_told_0 (C : Cl) : ASt :=
  (aRet (aAndV (aOp gEq (aCB gRepr (bCons (aCall (m__law_told C) (bCons (aVar 0) (bCons (aVar 1) bNil))) bNil)) (aVar 2)) (aOp gEq (aCB gRepr (bCons (aVar 0) bNil)) (aVar 3))))
abbrev a__law_is_told (C : Cl) : ASt :=
  (aSeq (aParD 2 3 (aCons (aCB gRepr (bCons (aCall0 m__law_elder (bCons (aVar 0) bNil)) bNil)) (aCons (aCB gRepr (bCons (aVar 0) bNil)) aNil))) (a__law_is_told_0 C))
theorem f__law_is_told {K : Fg} {C : Cl} {E : WX} : RSt K E (t__law_is_told K C E) (a__law_is_told C) :=
  (rs_seq (rs_parD (ra_cons (re_cb rb_repr (rv_cons (re_call0 br__law_elder (rv_cons re_var rv_nil)) rv_nil)) (ra_cons (re_cb
    rb_repr (rv_cons re_var rv_nil)) ra_nil))) (rs_ret (re_andV (re_op ro_eq (re_cb rb_repr (rv_cons (re_call br__law_told (fun _ _ _ _ h => h) (rv_cons re_var (rv_cons re_var rv_nil))) rv_nil)) re_var) (re_op ro_eq (re_cb rb_repr
    (rv_cons re_var rv_nil)) re_var))))
def m__law_is_told (C : Cl) : AFn := mOf 2 (a__law_is_told C)
def sp__law_is_told (K : Fg) (C : Cl) : Sp := SpA K 2 (m__law_is_told C)
theorem br__law_is_told {K : Fg} {C : Cl} : ∀ vs H Q E, SpA K 2 (m__law_is_told C) vs H Q E → sp__law_is_told K C vs H Q E := fun _ _ _ _ h => h
theorem l__law_is_told {K : Fg} {C : Cl} : ∀ vs H Q E, sp__law_is_told K C vs H Q E → vs.length = 2 := l_spa
theorem p__law_is_told {K : Fg} {C : Cl} {vs : List V} {H : Hp} {Q : VK} {E : XK} (h : sp__law_is_told K C vs H Q E) : t__law_is_told K C (fun c d _ H => E c d H) { nx := fun _ H' => Q .non H', rt := Q } (L2.start ["web", "is_named", "due", "kept"] vs) H :=
  p_spa (f__law_is_told) h rfl
/-- law, slots script, urn, turn, kind, web -/
def t_law (K : Fg) (C : Cl) (W0 : WX) : TS :=
  (tSeq (tAsg (tG (sp__law_urn K) E00 (tCons (tVar 0) tNil)) (gName 1)) (tSeq (tFor (iEnumV K (tCons (tLst (tCons (tC (.str "tree"))
    (tCons (tC (.str "path")) (tCons (tC (.str "parted")) (tCons (tC (.str "parted")) (tCons (tC (.str "rounds")) (tCons (tC (.str "tree")) (tCons (tC (.str "ring")) (tCons (tC (.str "board")) (tCons (tC (.str "full"))
    tNil)))))))))) tNil)) (gTup K 2 (gCons (gName 2) (gCons (gName 3) gNil))) (tSeq (tAsg (tG (sp__law_web K) E00 (tCons (tVar 1) (tCons (tVar 3) (tCons (tG (sp__law_pick K) E00 (tCons (tVar 1) (tCons (tLst (tCons (tC (.int 3))
    (tCons (tC (.int 4)) (tCons (tC (.int 5)) (tCons (tC (.int 6)) (tCons (tC (.int 7)) (tCons (tC (.int 9)) tNil))))))) tNil))) (tCons (tG (sp__law_pick K) E00 (tCons (tVar 1) (tCons (tLst (tCons (tC (.int 1)) (tCons (tC (.int 2))
    (tCons (tC (.int 9)) tNil)))) tNil))) tNil))))) (gName 4)) (tIfS (tOr (tNot (tB (tG (sp__law_is_told K C) (WE W0) (tCons (tVar 4) (tCons (tOp (rEqU K) (tVar 2) (tC (.int 3))) tNil))))) (tNot (tB (tG (sp__law_is_told K C) (WE
    W0) (tCons (tG (sp__law_grown K) E00 (tCons (tVar 1) (tCons (tVar 4) tNil))) (tCons (tC (.bl false)) tNil)))))) (tRet (tC (.bl false))) tNext))) (tSeq (tAsg (tG (sp__law_web K) E00 (tCons (tVar 1) (tCons (tG (sp__law_pick K)
    E00 (tCons (tVar 1) (tCons (tLst (tCons (tC (.str "path")) (tCons (tC (.str "parted")) (tCons (tC (.str "tree")) tNil)))) tNil))) (tCons (tG (sp__law_pick K) E00 (tCons (tVar 1) (tCons (tLst (tCons (tC (.int 21)) (tCons (tC
    (.int 22)) (tCons (tC (.int 23)) tNil)))) tNil))) (tCons (tC (.int 9)) tNil))))) (gName 4)) (tSeq (tIfS (tOr (tNot (tB (tG (sp__law_is_told K C) (WE W0) (tCons (tVar 4) (tCons (tC (.bl false)) tNil))))) (tNot (tB (tG
    (sp__law_is_told K C) (WE W0) (tCons (tG (sp__law_grown K) E00 (tCons (tVar 1) (tCons (tVar 4) tNil))) (tCons (tC (.bl true)) tNil)))))) (tRet (tC (.bl false))) tNext) (tRet (tG (sp__law_is_told K C) (WE W0) (tCons (tTup (tCons
    (tC (.int 2)) (tCons (tTup (tCons (tTup (tCons (tC (.int 0)) (tCons (tC (.int 1)) tNil))) tNil)) (tCons (tTup (tCons (tC (.int 1)) tNil)) tNil)))) (tCons (tC (.bl false)) tNil))))))))
abbrev a_law_0 (C : Cl) : ASt :=
  (aRet (aCall (m__law_is_told C) (bCons (aTup (aCons (aC (.int 2)) (aCons (aTup (aCons (aTup (aCons (aC (.int 0)) (aCons (aC (.int 1)) aNil))) aNil)) (aCons (aTup (aCons (aC (.int 1)) aNil))
    aNil)))) (bCons (aC (.bool false)) bNil))))
abbrev a_law_1 (C : Cl) : ASt :=
  (aSeq (aIfS (aOr (aNot (aB (aCall (m__law_is_told C) (bCons (aVar 4) (bCons (aC (.bool false)) bNil))))) (aNot (aB (aCall (m__law_is_told C) (bCons (aCall0 m__law_grown (bCons (aVar 1) (bCons
    (aVar 4) bNil))) (bCons (aC (.bool true)) bNil)))))) (aRet (aC (.bool false))) aNext) (a_law_0 C))
abbrev a_law_2 (C : Cl) : ASt :=
  (aIfS (aOr (aNot (aB (aCall (m__law_is_told C) (bCons (aVar 4) (bCons (aOp gEq (aVar 2) (aC (.int 3))) bNil))))) (aNot (aB (aCall (m__law_is_told C) (bCons (aCall0 m__law_grown (bCons (aVar 1)
    (bCons (aVar 4) bNil))) (bCons (aC (.bool false)) bNil)))))) (aRet (aC (.bool false))) aNext)
abbrev a_law_3 (C : Cl) : ASt :=
  (aSeq (aAsg (aCall0 m__law_web (bCons (aVar 1) (bCons (aCall0 m__law_pick (bCons (aVar 1) (bCons (aLst (aCons (aC (.str "path")) (aCons (aC (.str "parted")) (aCons (aC (.str "tree")) aNil))))
    bNil))) (bCons (aCall0 m__law_pick (bCons (aVar 1) (bCons (aLst (aCons (aC (.int 21)) (aCons (aC (.int 22)) (aCons (aC (.int 23)) aNil)))) bNil))) (bCons (aC (.int 9)) bNil))))) (agName 4)) (a_law_1 C))
abbrev a_law (C : Cl) : ASt :=
  (aSeq (aFor (aEnum (bCons (aLst (aCons (aC (.str "tree")) (aCons (aC (.str "path")) (aCons (aC (.str "parted")) (aCons (aC (.str "parted")) (aCons (aC (.str "rounds")) (aCons (aC (.str "tree"))
    (aCons (aC (.str "ring")) (aCons (aC (.str "board")) (aCons (aC (.str "full")) aNil)))))))))) bNil)) (agTup 2 (agCons (agName 2) (agCons (agName 3) agNil))) (aSeq (aAsg (aCall0 m__law_web (bCons (aVar 1) (bCons (aVar 3) (bCons
    (aCall0 m__law_pick (bCons (aVar 1) (bCons (aLst (aCons (aC (.int 3)) (aCons (aC (.int 4)) (aCons (aC (.int 5)) (aCons (aC (.int 6)) (aCons (aC (.int 7)) (aCons (aC (.int 9)) aNil))))))) bNil))) (bCons (aCall0 m__law_pick
    (bCons (aVar 1) (bCons (aLst (aCons (aC (.int 1)) (aCons (aC (.int 2)) (aCons (aC (.int 9)) aNil)))) bNil))) bNil))))) (agName 4)) (a_law_2 C))) (a_law_3 C))
def u_law (K : Fg) (C : Cl) (W0 : WX) : TS :=
  (tSeq (tFor (iEnumV K (tCons (tLst (tCons (tC (.str "tree")) (tCons (tC (.str "path")) (tCons (tC (.str "parted")) (tCons (tC (.str "parted")) (tCons (tC (.str "rounds")) (tCons (tC
    (.str "tree")) (tCons (tC (.str "ring")) (tCons (tC (.str "board")) (tCons (tC (.str "full")) tNil)))))))))) tNil)) (gTup K 2 (gCons (gName 2) (gCons (gName 3) gNil))) (tSeq (tAsg (tG (sp__law_web K) E00 (tCons (tVar 1) (tCons
    (tVar 3) (tCons (tG (sp__law_pick K) E00 (tCons (tVar 1) (tCons (tLst (tCons (tC (.int 3)) (tCons (tC (.int 4)) (tCons (tC (.int 5)) (tCons (tC (.int 6)) (tCons (tC (.int 7)) (tCons (tC (.int 9)) tNil))))))) tNil))) (tCons (tG
    (sp__law_pick K) E00 (tCons (tVar 1) (tCons (tLst (tCons (tC (.int 1)) (tCons (tC (.int 2)) (tCons (tC (.int 9)) tNil)))) tNil))) tNil))))) (gName 4)) (tIfS (tOr (tNot (tB (tG (sp__law_is_told K C) (WE W0) (tCons (tVar 4)
    (tCons (tOp (rEqU K) (tVar 2) (tC (.int 3))) tNil))))) (tNot (tB (tG (sp__law_is_told K C) (WE W0) (tCons (tG (sp__law_grown K) E00 (tCons (tVar 1) (tCons (tVar 4) tNil))) (tCons (tC (.bl false)) tNil)))))) (tRet (tC (.bl
    false))) tNext))) (tSeq (tAsg (tG (sp__law_web K) E00 (tCons (tVar 1) (tCons (tG (sp__law_pick K) E00 (tCons (tVar 1) (tCons (tLst (tCons (tC (.str "path")) (tCons (tC (.str "parted")) (tCons (tC (.str "tree")) tNil)))) tNil)))
    (tCons (tG (sp__law_pick K) E00 (tCons (tVar 1) (tCons (tLst (tCons (tC (.int 21)) (tCons (tC (.int 22)) (tCons (tC (.int 23)) tNil)))) tNil))) (tCons (tC (.int 9)) tNil))))) (gName 4)) (tSeq (tIfS (tOr (tNot (tB (tG
    (sp__law_is_told K C) (WE W0) (tCons (tVar 4) (tCons (tC (.bl false)) tNil))))) (tNot (tB (tG (sp__law_is_told K C) (WE W0) (tCons (tG (sp__law_grown K) E00 (tCons (tVar 1) (tCons (tVar 4) tNil))) (tCons (tC (.bl true))
    tNil)))))) (tRet (tC (.bl false))) tNext) (tRet (tG (sp__law_is_told K C) (WE W0) (tCons (tTup (tCons (tC (.int 2)) (tCons (tTup (tCons (tTup (tCons (tC (.int 0)) (tCons (tC (.int 1)) tNil))) tNil)) (tCons (tTup (tCons (tC
    (.int 1)) tNil)) tNil)))) (tCons (tC (.bl false)) tNil)))))))
theorem f_law {K : Fg} {C : Cl} {E : WX} : RSt K E (u_law K C E) (a_law C) :=
  (rs_seq (rs_for (ri_enum (rv_cons (re_lst (ra_cons re_str (ra_cons re_str (ra_cons re_str (ra_cons re_str (ra_cons re_str (ra_cons re_str (ra_cons
    re_str (ra_cons re_str (ra_cons re_str ra_nil)))))))))) rv_nil)) (rg_tup (rgs_cons rg_name (rgs_cons rg_name rgs_nil))) (rs_seq (rs_asg (re_call0 br__law_web (rv_cons re_var (rv_cons re_var (rv_cons (re_call0 br__law_pick
    (rv_cons re_var (rv_cons (re_lst (ra_cons re_int (ra_cons re_int (ra_cons re_int (ra_cons re_int (ra_cons re_int (ra_cons re_int ra_nil))))))) rv_nil))) (rv_cons (re_call0 br__law_pick (rv_cons re_var (rv_cons (re_lst (ra_cons
    re_int (ra_cons re_int (ra_cons re_int ra_nil)))) rv_nil))) rv_nil))))) rg_name) (rs_ifs (rt_or (rt_not (rt_b (re_call br__law_is_told (fun _ _ _ _ h => h) (rv_cons re_var (rv_cons (re_op ro_eq re_var re_int) rv_nil)))))
    (rt_not (rt_b (re_call br__law_is_told (fun _ _ _ _ h => h) (rv_cons (re_call0 br__law_grown (rv_cons re_var (rv_cons re_var rv_nil))) (rv_cons re_bl rv_nil)))))) (rs_ret re_bl) rs_next))) (rs_seq (rs_asg (re_call0 br__law_web
    (rv_cons re_var (rv_cons (re_call0 br__law_pick (rv_cons re_var (rv_cons (re_lst (ra_cons re_str (ra_cons re_str (ra_cons re_str ra_nil)))) rv_nil))) (rv_cons (re_call0 br__law_pick (rv_cons re_var (rv_cons (re_lst (ra_cons
    re_int (ra_cons re_int (ra_cons re_int ra_nil)))) rv_nil))) (rv_cons re_int rv_nil))))) rg_name) (rs_seq (rs_ifs (rt_or (rt_not (rt_b (re_call br__law_is_told (fun _ _ _ _ h => h) (rv_cons re_var (rv_cons re_bl rv_nil)))))
    (rt_not (rt_b (re_call br__law_is_told (fun _ _ _ _ h => h) (rv_cons (re_call0 br__law_grown (rv_cons re_var (rv_cons re_var rv_nil))) (rv_cons re_bl rv_nil)))))) (rs_ret re_bl) rs_next) (rs_ret (re_call br__law_is_told (fun _
    _ _ _ h => h) (rv_cons (re_tup (ra_cons re_int (ra_cons (re_tup (ra_cons (re_tup (ra_cons re_int (ra_cons re_int ra_nil))) ra_nil)) (ra_cons (re_tup (ra_cons re_int ra_nil)) ra_nil)))) (rv_cons re_bl rv_nil)))))))
section
variable {x : AXc} {k : Avl → Prop} {n : Int} {rs : List (Int × Int)} {ms : List Int} {C : Cl}
/-- a web, or one with a place more -/
structure WG (n : Int) (rs : List (Int × Int)) (ms : List Int) : Prop where
  sh : Shape n rs
  n1 : n ≤ 25
  l : rs.length ≤ 41
  lm : ms.length = rs.length
  ld : ∀ m ∈ ms, 1 ≤ m ∧ m ≤ 9
theorem WG.of (w : WebOk 24 40 9 n rs ms) : WG n rs ms := by
  have := w.sz
  have := w.rm
  exact ⟨w.sh, by omega, by omega, w.lm, w.ld⟩
theorem okd_webG (w : WG n rs ms) : Okd (dWeb n rs ms) 3 50000 := by
  have h0 := w.sh.two
  have h1 := w.n1
  have h2 := w.l
  unfold dWeb
  refine (Okd.tup (n := 12000) (k := 2) (m := 3) (fun d hd => ?_) (Nat.le_refl _)).mono (by decide) (by decide)
  rcases List.mem_cons.mp hd with rfl | hd
  · exact (okd_int (by omega)).mono (by decide) (by decide)
  rcases List.mem_cons.mp hd with rfl | hd
  · exact (okd_dPs (m := 41) (fun p hp => by have := w.sh.ok p hp; omega) (by omega)).mono (by decide) (by decide)
  rcases List.mem_cons.mp hd with rfl | hd
  · exact (okd_dIs (m := 41) (fun i hi => by have := w.ld i hi; omega) (by have := w.lm; omega)).mono (by decide) (by decide)
  · cases hd
theorem okx_elG {l : List Int} {R : List ((Int × Int) × Int)} (hl : l.length ≤ 60) (hR : R.length ≤ 60) (bl : ∀ i ∈ l, i.natAbs < 100) (bR : ∀ r ∈ R, r.1.1.natAbs < 100 ∧ r.1.2.natAbs < 100 ∧ r.2.natAbs < 100) : Okx (.tuple [dIs l, .tuple (R.map dT)]) 3 60000 := by
  have a : Okx (dIs l) 1 7500 := by
    refine (Okx.tup (k := 0) (n := 121) (m := 60) (fun d hd => ?_) (by rw [List.length_map]; exact hl)).mono (by decide) (by decide)
    obtain ⟨i, hi, rfl⟩ := List.mem_map.mp hd
    exact okx_int (bl i hi)
  have b : Okx (.tuple (R.map dT)) 2 25000 := by
    refine (Okx.tup (k := 1) (n := 400) (m := 60) (fun d hd => ?_) (by rw [List.length_map]; exact hR)).mono (by decide) (by decide)
    obtain ⟨r, hr, rfl⟩ := List.mem_map.mp hd
    obtain ⟨h1, h2, h3⟩ := bR r hr
    refine (Okx.tup (k := 0) (n := 121) (m := 3) (fun d hd => ?_) (by simp)).mono (by decide) (by decide)
    simp only [List.mem_cons, List.not_mem_nil, or_false] at hd
    rcases hd with rfl | rfl | rfl
    · exact okx_int h1
    · exact okx_int h2
    · exact okx_int h3
  exact (okx_t2 a b).mono (by decide) (by decide)
theorem shw_eld (w : WG n rs ms) : Shw (eldO n rs (mids n rs)) := by
  have two := w.sh.two
  have n1 := w.n1
  cases e : mids n rs with
  | none => exact shw Okd.non.x
  | some M =>
    obtain ⟨okp, ml⟩ := mids_mem e
    refine shw (okx_elG (l := spotsO n M) (R := srtT (M.map (rowM rs))) ?_ ?_ (fun i hi => ?_) (fun r hr => ?_))
    · have := List.length_filter_le (fun p => decide (p ∉ M)) (iota n.toNat)
      rw [iota_len] at this
      unfold spotsO
      omega
    · rw [(srtT_perm _).length_eq, List.length_map]
      omega
    · have := (List.mem_filter.mp hi).1
      rw [mem_iota] at this
      omega
    · obtain ⟨p, hp, rfl⟩ := List.mem_map.mp ((srtT_perm _).mem_iff.mp hr)
      obtain ⟨⟨p0, p1⟩, dp⟩ := okp p hp
      have b := rowM_inB w.sh (by omega) p0 p1 dp
      unfold inB at b
      omega
theorem s__law_told {b : Bool} (w : WG n rs ms) (h : k (.d (eldO n rs (mids n rs)))) : m__law_told C [.d (dWeb n rs ms), .d (.bool b)] x k := by
  have n1 := w.n1
  have l := w.l
  have ok : ∀ M, mids n rs = some M → k (.d (eldO n rs (some M))) := fun M e => by rw [← e]; exact h
  have no : mids n rs = none → k (.d .none) := fun e => by rw [e] at h; exact h
  show a__law_told C _ [.d (dWeb n rs ms), .d (.bool b), .x]
  walk_at "ax"
  cases b with
  | true =>
    refine iteT' rfl ?_
    walk_at "ax"
    refine s_elder_tree w.sh (by omega) (by omega) (fun M e => ⟨?_, fun z => by cases z⟩) (fun e => ⟨⟨rfl, rfl, fun ea => ?_⟩, fun z => by cases z⟩)
    · walk_at "ax"
      exact ok M e
    · walk_at "ax"
      exact no e
  | false =>
    refine iteF' rfl ?_
    walk_at "ax"
    refine s_elder_tree w.sh (by omega) (by omega) (fun M e => ⟨?_, fun z => by cases z⟩) (fun e => ⟨⟨rfl, rfl, fun ea => ?_⟩, fun z => by cases z⟩)
    · walk_at "ax"
      exact ok M e
    · walk_at "ax"
      exact no e
theorem s__law_is_told {b : Bool} (w : WG n rs ms) (h : k (.d (.bool true))) : m__law_is_told C [.d (dWeb n rs ms), .d (.bool b)] x k := by
  have n1 := w.n1
  have l := w.l
  have oke := shw_eld w
  have okw := shw (okd_webG w).x
  show a__law_is_told C _ [.d (dWeb n rs ms), .d (.bool b), .x, .x]
  walk_at "ax"
  refine s__law_elder w.sh (by omega) (by omega) ⟨?_, fun z => by cases z⟩
  walk_at "ax"
  refine g_repr rfl oke ?_
  walk_at "ax"
  refine g_repr rfl okw ?_
  walk_at "ax"
  refine s__law_told w ⟨?_, fun z => by cases z⟩
  walk_at "ax"
  refine g_repr rfl oke ?_
  walk_at "ax"
  refine iteT' (decide_eq_true rfl) ?_
  walk_at "ax"
  refine g_repr rfl okw ?_
  walk_at "ax"
  rw [decide_eq_true rfl]
  exact h
theorem mapA {α : Type} {f : α → PyData} {l : List α} {i : Nat} {y : PyData} (h : (l.map f)[i]? = some y) : ∃ z, l[i]? = some z ∧ y = f z := by
  rw [List.getElem?_map] at h
  cases e : l[i]? with
  | none => rw [e] at h; cases h
  | some z => rw [e] at h; cases h; exact ⟨z, rfl, rfl⟩
theorem leaf {a : Int} (h : Shape n rs) (h0 : 0 ≤ a) (h1 : a < n) : Shape (n + 1) (rs ++ [(a, n)]) := by
  have two := h.two
  refine ⟨by omega, ?_, fun p hp => ?_, fun S s0 hS i i0 i1 => ?_⟩
  · rw [List.nodup_append]
    refine ⟨h.nd, by simp, fun p hp q hq e => ?_⟩
    rw [List.mem_singleton.mp hq] at e
    have := h.ok p hp
    rw [e] at this
    exact absurd this.2.2 (by show ¬ n < n; omega)
  · rcases List.mem_append.mp hp with hp | hp
    · have := h.ok p hp; omega
    · rw [List.mem_singleton.mp hp]; exact ⟨h0, h1, by show n < n + 1; omega⟩
  · have lo : ∀ i, 0 ≤ i → i < n → S i := h.cn S s0 fun p hp => hS p (List.mem_append_left _ hp)
    by_cases c : i < n
    · exact lo i i0 c
    · have e : i = n := by omega
      rw [e]
      exact (hS (a, n) (List.mem_append_right _ (List.mem_singleton.mpr rfl))).mp (lo a h0 h1)
theorem zip_dNn : ∀ (rs : List (Int × Int)) (ms : List Int), List.zipWith (fun d e => PyData.tuple [d, e]) (rs.map dP) (ms.map .int) = (rs.zip ms).map dNn
  | [], _ => by simp
  | _ :: _, [] => by simp
  | r :: rs, m :: ms => by
    rw [List.map_cons, List.map_cons, List.zipWith_cons_cons, zip_dNn rs ms, List.zip_cons_cons, List.map_cons]
    rfl
theorem s__law_grown (w : WebOk 24 40 9 n rs ms) (h : ∀ qs vs, WG (n + 1) qs vs → k (.d (dWeb (n + 1) qs vs))) : m__law_grown [.wl 1, .d (dWeb n rs ms)] x k := by
  have two := w.sh.two
  have sz := w.sz
  have rm := w.rm
  have lm := w.lm
  show a__law_grown _ [.wl 1, .d (dWeb n rs ms), .x, .x, .x, .x]
  walk_at "ax"
  refine ⟨_, rfl, by omega, by omega, fun a a0 a1 => ⟨?_, fun z => by cases z⟩⟩
  walk_at "ax"
  refine ⟨_, _, rs.map dP, ms.map .int, rfl, rfl, rfl, by rw [List.length_map, List.length_map, lm], by rw [List.length_map]; omega, ?_⟩
  walk_at "ax"
  refine ⟨_, rfl, by decide, by decide, fun r r0 r1 => ⟨?_, fun z => by cases z⟩⟩
  walk_at "ax"
  have lz : (rs.zip ms).length = rs.length := by rw [List.length_zip, lm, Nat.min_self]
  refine g_addL rfl rfl (by rw [zip_dNn, List.length_map, lz]; simp; omega) ?_
  refine ⟨_, rs.zip ms ++ [((a, n), 1 + r)], rfl, ?_, fun qs pq pw => ?_⟩
  · show some _ = some _
    rw [zip_dNn, List.map_append]
    rfl
  have lq : qs.length = rs.length + 1 := by rw [pq.length_eq, List.length_append, lz, List.length_singleton]
  walk_at "ax"
  refine ⟨by rw [List.length_map]; omega, ?_⟩
  refine a_lcgo (fun i acc => acc = ((qs.take i).map (·.1)).map dP) rfl ?_ ?_
  · rintro i y acc hy rfl
    obtain ⟨z, hz, rfl⟩ := mapA hy
    walk_at "ax"
    rw [List.take_add_one, hz, List.map_append, List.map_append]
    rfl
  rintro acc rfl -
  rw [List.length_map, List.take_length]
  walk_at "ax"
  refine ⟨by rw [List.length_map]; omega, ?_⟩
  refine a_lcgo (fun i acc => acc = ((qs.take i).map (·.2)).map PyData.int) rfl ?_ ?_
  · rintro i y acc hy rfl
    obtain ⟨z, hz, rfl⟩ := mapA hy
    walk_at "ax"
    rw [List.take_add_one, hz, List.map_append, List.map_append]
    rfl
  rintro acc rfl -
  rw [List.length_map, List.take_length]
  walk_at "ax"
  have p1 : (qs.map (·.1)).Perm (rs ++ [(a, n)]) := by
    have := pq.map (·.1)
    rw [List.map_append, List.map_fst_zip (by omega)] at this
    exact this
  have p2 : (qs.map (·.2)).Perm (ms ++ [1 + r]) := by
    have := pq.map (·.2)
    rw [List.map_append, List.map_snd_zip (by omega)] at this
    exact this
  refine h (qs.map (·.1)) (qs.map (·.2)) ⟨(leaf w.sh a0 a1).perm p1, by omega, by rw [List.length_map]; omega, by rw [List.length_map, List.length_map], fun m hm => ?_⟩
  rcases List.mem_append.mp (p2.mem_iff.mp hm) with q | q
  · exact w.ld m q
  · rw [List.mem_singleton.mp q]; omega
theorem law_holds : a_law C { nx := fun _ => False, rt := fun av => av = .d (.bool true) } (.x :: .wl 1 :: List.replicate 3 .x) := by
  show a_law C _ [.x, .wl 1, .x, .x, .x]
  walk_at "ax"
  refine a_loop (fun i α => ∃ x2 x3 x4, α = [.x, .wl 1, x2, x3, x4]) ⟨_, _, _, rfl⟩ ?_ ?_
  · rintro i y α hy ⟨x2, x3, x4, rfl⟩
    obtain ⟨d, hd, rfl⟩ := enD_at hy
    obtain ⟨kind, rfl⟩ : ∃ kind : Str, d = .str kind := by
      have := List.mem_of_getElem? hd
      simp only [List.mem_cons, List.not_mem_nil, or_false] at this
      rcases this with rfl | rfl | rfl | rfl | rfl | rfl | rfl | rfl | rfl <;> exact ⟨_, rfl⟩
    walk_at "ay"
    refine s__law_pick (by simp) (Nat.le_of_ble_eq_true rfl) fun d hd => ⟨?_, fun z => by cases z⟩
    obtain ⟨s, rfl, s0, s1⟩ : ∃ s : Int, d = .int s ∧ 2 ≤ s ∧ s ≤ 24 := by
      simp only [List.mem_cons, List.not_mem_nil, or_false] at hd
      rcases hd with rfl | rfl | rfl | rfl | rfl | rfl <;> exact ⟨_, rfl, by decide, by decide⟩
    walk_at "ay"
    refine s__law_pick (by simp) (Nat.le_of_ble_eq_true rfl) fun d hd => ⟨?_, fun z => by cases z⟩
    obtain ⟨m, rfl, m0, m1⟩ : ∃ m : Int, d = .int m ∧ 1 ≤ m ∧ m ≤ 9 := by
      simp only [List.mem_cons, List.not_mem_nil, or_false] at hd
      rcases hd with rfl | rfl | rfl <;> exact ⟨_, rfl, by decide, by decide⟩
    walk_at "ay"
    refine s__law_web s0 s1 m0 m1 fun n rs ms w => ⟨?_, fun z => by cases z⟩
    walk_at "ay"
    refine s__law_is_told (WG.of w) ⟨?_, fun z => by cases z⟩
    walk_at "ay"
    refine iteF' rfl ?_
    walk_at "ay"
    refine s__law_grown w fun qs vs g => ⟨?_, fun z => by cases z⟩
    walk_at "ay"
    refine s__law_is_told g ⟨?_, fun z => by cases z⟩
    walk_at "ay"
    refine iteF' rfl ?_
    walk_at "ay"
    exact ⟨_, _, _, rfl⟩
  · rintro α ⟨x2, x3, x4, rfl⟩
    walk_at "ay"
    refine s__law_pick (by simp) (Nat.le_of_ble_eq_true rfl) fun d hd => ⟨?_, fun z => by cases z⟩
    obtain ⟨kind, rfl⟩ : ∃ kind : Str, d = .str kind := by
      simp only [List.mem_cons, List.not_mem_nil, or_false] at hd
      rcases hd with rfl | rfl | rfl <;> exact ⟨_, rfl⟩
    walk_at "ay"
    refine s__law_pick (by simp) (Nat.le_of_ble_eq_true rfl) fun d hd => ⟨?_, fun z => by cases z⟩
    obtain ⟨s, rfl, s0, s1⟩ : ∃ s : Int, d = .int s ∧ 2 ≤ s ∧ s ≤ 24 := by
      simp only [List.mem_cons, List.not_mem_nil, or_false] at hd
      rcases hd with rfl | rfl | rfl <;> exact ⟨_, rfl, by decide, by decide⟩
    walk_at "ay"
    refine s__law_web s0 s1 (by decide) (by decide) fun n rs ms w => ⟨?_, fun z => by cases z⟩
    walk_at "ay"
    refine s__law_is_told (WG.of w) ⟨?_, fun z => by cases z⟩
    walk_at "ay"
    refine iteF' rfl ?_
    walk_at "ay"
    refine s__law_grown w fun qs vs g => ⟨?_, fun z => by cases z⟩
    walk_at "ay"
    refine s__law_is_told g ⟨?_, fun z => by cases z⟩
    walk_at "ay"
    refine iteF' rfl ?_
    walk_at "ay"
    have w2 : WG 2 [(0, 1)] [1] := ⟨Shape.path (n := 2) (by decide), by decide, by decide, rfl, fun m hm => by rw [List.mem_singleton.mp hm]; omega⟩
    refine s__law_is_told (n := 2) (rs := [(0, 1)]) (ms := [1]) w2 ⟨?_, fun z => by cases z⟩
    walk_at "ay"
    rfl
theorem p_law {K : Fg} {vs : List V} {H : Hp} {Q : VK} {E : XK} (h : sp_law K vs H Q E) : t_law K C (fun c d _ H => E c d H) { nx := fun _ H' => Q .non H', rt := Q } (L2.start ["script", "urn", "turn", "kind", "web"] vs) H :=
  p_lawU f_law rfl law_holds h
end
end UW.Un
namespace UW.Un.D21
open PySem PySem.Spec PyProof.Rows L2 UW

def top (i : Nat) : Stmt := PySem.Challenge.pw_unevenroads_k21_elder_trees_of_drawn_web.main.body.getD i (.Pass ⟨0, 0, 0, 0⟩)
abbrev s_roads_at : Stmt := top 4
abbrev N_roads_at : List Str := ["web", "place", "found", "road", "one", "other"]
theorem sc_roads_at : FnScope N_roads_at ["web", "place"] (defScope s_roads_at) := ⟨rfl, rfl, rfl, by decide +kernel, rfl, by decide +kernel, by decide +kernel⟩
abbrev s_steps_known : Stmt := top 5
abbrev N_steps_known : List Str := ["web", "place", "waiting", "here", "mate", "road", "steps"]
theorem sc_steps_known : FnScope N_steps_known ["web", "place"] (defScope s_steps_known) := ⟨rfl, rfl, rfl, by decide +kernel, rfl, by decide +kernel, by decide +kernel⟩
abbrev s_steps_from : Stmt := top 6
abbrev N_steps_from : List Str := ["web", "place", "steps", "other"]
theorem sc_steps_from : FnScope N_steps_from ["web", "place"] (defScope s_steps_from) := ⟨rfl, rfl, rfl, by decide +kernel, rfl, by decide +kernel, by decide +kernel⟩
abbrev s_road_counts : Stmt := top 8
abbrev N_road_counts : List Str := ["web", "found", "one", "other"]
theorem sc_road_counts : FnScope N_road_counts ["web"] (defScope s_road_counts) := ⟨rfl, rfl, rfl, by decide +kernel, rfl, by decide +kernel, by decide +kernel⟩
abbrev s_middles_of : Stmt := top 9
abbrev N_middles_of : List Str := ["web", "n", "roads", "most", "steps", "many", "side", "places", "place"]
theorem sc_middles_of : FnScope N_middles_of ["web"] (defScope s_middles_of) := ⟨rfl, rfl, rfl, by decide +kernel, rfl, by decide +kernel, by decide +kernel⟩
abbrev s_elder_tree : Stmt := top 10
abbrev N_elder_tree : List Str := ["web", "middles", "tree", "middle", "one", "other", "mate", "road", "place"]
theorem sc_elder_tree : FnScope N_elder_tree ["web"] (defScope s_elder_tree) := ⟨rfl, rfl, rfl, by decide +kernel, rfl, by decide +kernel, by decide +kernel⟩
abbrev s__law_urn : Stmt := top 12
abbrev N__law_urn : List Str := ["script", "one", "two", "cell", "cells"]
theorem sc__law_urn : FnScope N__law_urn ["script"] (defScope s__law_urn) := ⟨rfl, rfl, rfl, by decide +kernel, rfl, by decide +kernel, by decide +kernel⟩
abbrev s__law_draw : Stmt := top 13
abbrev N__law_draw : List Str := ["urn", "size", "cell", "much"]
theorem sc__law_draw : FnScope N__law_draw ["urn", "size"] (defScope s__law_draw) := ⟨rfl, rfl, rfl, by decide +kernel, rfl, by decide +kernel, by decide +kernel⟩
abbrev s__law_pick : Stmt := top 14
abbrev N__law_pick : List Str := ["urn", "items"]
theorem sc__law_pick : FnScope N__law_pick ["urn", "items"] (defScope s__law_pick) := ⟨rfl, rfl, rfl, by decide +kernel, rfl, by decide +kernel, by decide +kernel⟩
abbrev s__law_mixed : Stmt := top 15
abbrev N__law_mixed : List Str := ["urn", "items", "left", "found"]
theorem sc__law_mixed : FnScope N__law_mixed ["urn", "items"] (defScope s__law_mixed) := ⟨rfl, rfl, rfl, by decide +kernel, rfl, by decide +kernel, by decide +kernel⟩
abbrev s__law_shape : Stmt := top 16
abbrev N__law_shape : List Str := ["urn", "kind", "size", "line", "spots", "spot", "middle", "rows", "row", "pairs", "turn", "one", "place", "k", "column"]
theorem sc__law_shape : FnScope N__law_shape ["urn", "kind", "size"] (defScope s__law_shape) := ⟨rfl, rfl, rfl, by decide +kernel, rfl, by decide +kernel, by decide +kernel⟩
abbrev s__law_web : Stmt := top 17
abbrev N__law_web : List Str := ["urn", "kind", "size", "most", "n", "names", "known", "a", "b", "pairs", "road", "roads"]
theorem sc__law_web : FnScope N__law_web ["urn", "kind", "size", "most"] (defScope s__law_web) := ⟨rfl, rfl, rfl, by decide +kernel, rfl, by decide +kernel, by decide +kernel⟩
abbrev s__law_degrees : Stmt := top 18
abbrev N__law_degrees : List Str := ["web", "found", "a", "b"]
theorem sc__law_degrees : FnScope N__law_degrees ["web"] (defScope s__law_degrees) := ⟨rfl, rfl, rfl, by decide +kernel, rfl, by decide +kernel, by decide +kernel⟩
abbrev s__law_steps : Stmt := top 19
abbrev N__law_steps : List Str := ["web", "place", "found", "turn", "a", "b", "own"]
theorem sc__law_steps : FnScope N__law_steps ["web", "place"] (defScope s__law_steps) := ⟨rfl, rfl, rfl, by decide +kernel, rfl, by decide +kernel, by decide +kernel⟩
abbrev s__law_elder : Stmt := top 20
abbrev N__law_elder : List Str := ["web", "n", "degrees", "steps", "side", "middles", "rows", "middle", "ends", "place", "a", "b"]
theorem sc__law_elder : FnScope N__law_elder ["web"] (defScope s__law_elder) := ⟨rfl, rfl, rfl, by decide +kernel, rfl, by decide +kernel, by decide +kernel⟩
abbrev s__law_told : Stmt := top 21
abbrev N__law_told : List Str := ["web", "is_named", "refused"]
theorem sc__law_told : FnScope N__law_told ["web", "is_named"] (defScope s__law_told) := ⟨rfl, rfl, rfl, by decide +kernel, rfl, by decide +kernel, by decide +kernel⟩
abbrev s__law_grown : Stmt := top 22
abbrev N__law_grown : List Str := ["urn", "web", "a", "rows", "road", "load"]
theorem sc__law_grown : FnScope N__law_grown ["urn", "web"] (defScope s__law_grown) := ⟨rfl, rfl, rfl, by decide +kernel, rfl, by decide +kernel, by decide +kernel⟩
abbrev s__law_is_told : Stmt := top 23
abbrev N__law_is_told : List Str := ["web", "is_named", "due", "kept"]
theorem sc__law_is_told : FnScope N__law_is_told ["web", "is_named"] (defScope s__law_is_told) := ⟨rfl, rfl, rfl, by decide +kernel, rfl, by decide +kernel, by decide +kernel⟩
abbrev s_law : Stmt := top 24
abbrev N_law : List Str := ["script", "urn", "turn", "kind", "web"]
theorem sc_law : FnScope N_law ["script"] (defScope s_law) := ⟨rfl, rfl, rfl, by decide +kernel, rfl, by decide +kernel, by decide +kernel⟩
abbrev s__Unfit : Stmt := inClass (top 2) 0
theorem sc__Unfit : FnScope ["self"] ["self"] (defScope s__Unfit) := ⟨rfl, rfl, rfl, by decide +kernel, rfl, by decide +kernel, by decide +kernel⟩
structure Fs where
  f_roads_at : Addr
  d_roads_at : FuncData
  f_steps_known : Addr
  d_steps_known : FuncData
  f_steps_from : Addr
  d_steps_from : FuncData
  f_road_counts : Addr
  d_road_counts : FuncData
  f_middles_of : Addr
  d_middles_of : FuncData
  f_elder_tree : Addr
  d_elder_tree : FuncData
  f__law_urn : Addr
  d__law_urn : FuncData
  f__law_draw : Addr
  d__law_draw : FuncData
  f__law_pick : Addr
  d__law_pick : FuncData
  f__law_mixed : Addr
  d__law_mixed : FuncData
  f__law_shape : Addr
  d__law_shape : FuncData
  f__law_web : Addr
  d__law_web : FuncData
  f__law_degrees : Addr
  d__law_degrees : FuncData
  f__law_steps : Addr
  d__law_steps : FuncData
  f__law_elder : Addr
  d__law_elder : FuncData
  f__law_told : Addr
  d__law_told : FuncData
  f__law_grown : Addr
  d__law_grown : FuncData
  f__law_is_told : Addr
  d__law_is_told : FuncData
  f_law : Addr
  d_law : FuncData
  f__Unfit : Addr
  d__Unfit : FuncData
  cl : Cl
structure All (K : Fg) (mg : Str → Option Value) (F : Fs) : Prop where
  h_roads_at : Fun K "roads_at" "roads_at" s_roads_at F.f_roads_at F.d_roads_at
  b_roads_at : Binds K F.d_roads_at ["web", "place"] []
  m_roads_at : mg "roads_at" = some (.ref F.f_roads_at)
  k_roads_at : PySem.W.keepIn K (.ref F.f_roads_at) = true
  h_steps_known : Fun K "steps_known" "steps_known" s_steps_known F.f_steps_known F.d_steps_known
  b_steps_known : Binds K F.d_steps_known ["web", "place"] []
  m_steps_known : mg "steps_known" = some (.ref F.f_steps_known)
  k_steps_known : PySem.W.keepIn K (.ref F.f_steps_known) = true
  h_steps_from : Fun K "steps_from" "steps_from" s_steps_from F.f_steps_from F.d_steps_from
  b_steps_from : Binds K F.d_steps_from ["web", "place"] []
  m_steps_from : mg "steps_from" = some (.ref F.f_steps_from)
  k_steps_from : PySem.W.keepIn K (.ref F.f_steps_from) = true
  h_road_counts : Fun K "road_counts" "road_counts" s_road_counts F.f_road_counts F.d_road_counts
  b_road_counts : Binds K F.d_road_counts ["web"] []
  m_road_counts : mg "road_counts" = some (.ref F.f_road_counts)
  k_road_counts : PySem.W.keepIn K (.ref F.f_road_counts) = true
  h_middles_of : Fun K "middles_of" "middles_of" s_middles_of F.f_middles_of F.d_middles_of
  b_middles_of : Binds K F.d_middles_of ["web"] []
  m_middles_of : mg "middles_of" = some (.ref F.f_middles_of)
  k_middles_of : PySem.W.keepIn K (.ref F.f_middles_of) = true
  h_elder_tree : Fun K "elder_tree" "elder_tree" s_elder_tree F.f_elder_tree F.d_elder_tree
  b_elder_tree : Binds K F.d_elder_tree ["web"] []
  m_elder_tree : mg "elder_tree" = some (.ref F.f_elder_tree)
  k_elder_tree : PySem.W.keepIn K (.ref F.f_elder_tree) = true
  h__law_urn : Fun K "_law_urn" "_law_urn" s__law_urn F.f__law_urn F.d__law_urn
  b__law_urn : Binds K F.d__law_urn ["script"] []
  m__law_urn : mg "_law_urn" = some (.ref F.f__law_urn)
  k__law_urn : PySem.W.keepIn K (.ref F.f__law_urn) = true
  h__law_draw : Fun K "_law_draw" "_law_draw" s__law_draw F.f__law_draw F.d__law_draw
  b__law_draw : Binds K F.d__law_draw ["urn", "size"] []
  m__law_draw : mg "_law_draw" = some (.ref F.f__law_draw)
  k__law_draw : PySem.W.keepIn K (.ref F.f__law_draw) = true
  h__law_pick : Fun K "_law_pick" "_law_pick" s__law_pick F.f__law_pick F.d__law_pick
  b__law_pick : Binds K F.d__law_pick ["urn", "items"] []
  m__law_pick : mg "_law_pick" = some (.ref F.f__law_pick)
  k__law_pick : PySem.W.keepIn K (.ref F.f__law_pick) = true
  h__law_mixed : Fun K "_law_mixed" "_law_mixed" s__law_mixed F.f__law_mixed F.d__law_mixed
  b__law_mixed : Binds K F.d__law_mixed ["urn", "items"] []
  m__law_mixed : mg "_law_mixed" = some (.ref F.f__law_mixed)
  k__law_mixed : PySem.W.keepIn K (.ref F.f__law_mixed) = true
  h__law_shape : Fun K "_law_shape" "_law_shape" s__law_shape F.f__law_shape F.d__law_shape
  b__law_shape : Binds K F.d__law_shape ["urn", "kind", "size"] []
  m__law_shape : mg "_law_shape" = some (.ref F.f__law_shape)
  k__law_shape : PySem.W.keepIn K (.ref F.f__law_shape) = true
  h__law_web : Fun K "_law_web" "_law_web" s__law_web F.f__law_web F.d__law_web
  b__law_web : Binds K F.d__law_web ["urn", "kind", "size", "most"] []
  m__law_web : mg "_law_web" = some (.ref F.f__law_web)
  k__law_web : PySem.W.keepIn K (.ref F.f__law_web) = true
  h__law_degrees : Fun K "_law_degrees" "_law_degrees" s__law_degrees F.f__law_degrees F.d__law_degrees
  b__law_degrees : Binds K F.d__law_degrees ["web"] []
  m__law_degrees : mg "_law_degrees" = some (.ref F.f__law_degrees)
  k__law_degrees : PySem.W.keepIn K (.ref F.f__law_degrees) = true
  h__law_steps : Fun K "_law_steps" "_law_steps" s__law_steps F.f__law_steps F.d__law_steps
  b__law_steps : Binds K F.d__law_steps ["web", "place"] []
  m__law_steps : mg "_law_steps" = some (.ref F.f__law_steps)
  k__law_steps : PySem.W.keepIn K (.ref F.f__law_steps) = true
  h__law_elder : Fun K "_law_elder" "_law_elder" s__law_elder F.f__law_elder F.d__law_elder
  b__law_elder : Binds K F.d__law_elder ["web"] []
  m__law_elder : mg "_law_elder" = some (.ref F.f__law_elder)
  k__law_elder : PySem.W.keepIn K (.ref F.f__law_elder) = true
  h__law_told : Fun K "_law_told" "_law_told" s__law_told F.f__law_told F.d__law_told
  b__law_told : Binds K F.d__law_told ["web", "is_named"] []
  m__law_told : mg "_law_told" = some (.ref F.f__law_told)
  k__law_told : PySem.W.keepIn K (.ref F.f__law_told) = true
  h__law_grown : Fun K "_law_grown" "_law_grown" s__law_grown F.f__law_grown F.d__law_grown
  b__law_grown : Binds K F.d__law_grown ["urn", "web"] []
  m__law_grown : mg "_law_grown" = some (.ref F.f__law_grown)
  k__law_grown : PySem.W.keepIn K (.ref F.f__law_grown) = true
  h__law_is_told : Fun K "_law_is_told" "_law_is_told" s__law_is_told F.f__law_is_told F.d__law_is_told
  b__law_is_told : Binds K F.d__law_is_told ["web", "is_named"] []
  m__law_is_told : mg "_law_is_told" = some (.ref F.f__law_is_told)
  k__law_is_told : PySem.W.keepIn K (.ref F.f__law_is_told) = true
  h_law : Fun K "law" "law" s_law F.f_law F.d_law
  b_law : Binds K F.d_law ["script"] []
  m_law : mg "law" = some (.ref F.f_law)
  k_law : PySem.W.keepIn K (.ref F.f_law) = true
  m_Unfit : mg "Unfit" = some (.ref F.cl.Unfit)
  o_Unfit : OexC K F.cl.Unfit
  i_Unfit : PySem.W.findIn K (.ref F.cl.Unfit) "__init__" = some (some (.ref F.f__Unfit))
  t_Unfit : PySem.W.typeIn K (.ref F.f__Unfit) = some (.type "function")
  x_Unfit : ExT K F.cl.Unfit F.cl.UnevenError
  h__Unfit : Fun K "__init__" "Unfit.__init__" s__Unfit F.f__Unfit F.d__Unfit
  b_Unfit : Binds K F.d__Unfit ["self"] []
  m_UnevenError : mg "UnevenError" = some (.ref F.cl.UnevenError)
  u_UnevenError : UeC K F.cl.UnevenError
  z_all : mg "all" = none
  z_enumerate : mg "enumerate" = none
  z_int : mg "int" = none
  z_isinstance : mg "isinstance" = none
  z_len : mg "len" = none
  z_list : mg "list" = none
  z_max : mg "max" = none
  z_min : mg "min" = none
  z_range : mg "range" = none
  z_repr : mg "repr" = none
  z_sorted : mg "sorted" = none
  z_tuple : mg "tuple" = none
  z_zip : mg "zip" = none
variable {P : Program} {w : World} {K : Fg} {mg : Str → Option Value} {base : Heap} {F : Fs}
theorem kb_elder_tree_web (A : All K mg F) : KOnly K F.d_elder_tree ["web"] ["web"] g_kb_elder_tree_web := by
  obtain ⟨oc, od, kV, doc, pm, an, cdv, ct, osl, e, lk, hcd⟩ := A.h_elder_tree.ex
  rw [e]
  refine ⟨fun s ws _ hl => match ws, hl with | [_], _ => .of_eq rfl, ?_⟩
  intro zs ws r
  rcases r with _ | ⟨r0, r⟩
  · exact .nil
  rcases r with _ | ⟨rx, r⟩
  · exact (.cons r0 .nil)
  · exact (.cons r0 (.cons rx r))
theorem g__Unfit (A : All K mg F) : FnOk P w K mg base (L2.CX P w) 1 F.f__Unfit F.d__Unfit ["self"] (sp_bare K) := by
  refine Fun.okX A.h__Unfit sc__Unfit l_bare ?_
  intro cdv Ar o s H vs Q E hr h
  exact ⟨t_bare K "what does not fit", (pss_one (ps_expr (pe_ueinit (by rfl) A.m_UnevenError A.u_UnevenError (pa_cons (pv 0) (pa_cons pe_str pa_nil))))), p_bare h⟩
theorem g_roads_at (A : All K mg F) (hsm : Smb base) : FnG P w K mg base 1 F.f_roads_at F.d_roads_at ["web", "place"] (sp_roads_at K) := by
  refine Fun.okG A.h_roads_at sc_roads_at l_roads_at ?_
  intro cdv Ar o s H vs Q E hG hr h
  have hu := hu_of hr
  have h65 := h65_of hr
  have hp := passes_of (X := cxOf (L2.CX P w) P w K mg base N_roads_at "roads_at" (defScope s_roads_at) F.f_roads_at cdv Ar o s H E) rfl
  exact ⟨t_roads_at K, (pss_cons (ps_set (i := 2) sc_roads_at.nd rfl (Or.inl rfl) (pe_lst pa_nil)) (pss_cons (ps_for hp rfl (pi_enumV A.z_enumerate (pa_cons (pe_ix ix_seq (pv 0) pe_int (fun _ _ => rfl)) pa_nil)) (pg_tup rfl (pgs_cons (pg_name (i := 3)
    sc_roads_at.nd rfl (Or.inl rfl)) (pgs_cons (pg_tup rfl (pgs_cons (pg_name (i := 4) sc_roads_at.nd rfl (Or.inl rfl)) (pgs_cons (pg_name (i := 5) sc_roads_at.nd rfl (Or.inl rfl)) pgs_nil))) pgs_nil))) (pss_one (ps_if (pt_cmpR
    (op_inU h65) (pv 1) (pe_tup (pa_cons (pv 4) (pa_cons (pv 5) pa_nil))) rfl) (pss_one (ps_expr (pe_bm PySem.F.plainAttrs_list PySem.F.slot_list_append PySem.F.type_list_append mt_append (pv 2) (pa_cons (pe_tup (pa_cons (pe_op
    op_subI (pe_op op_addU (pv 4) (pv 5)) (pv 1)) (pa_cons (pv 3) pa_nil))) pa_nil)))) pss_nil))) (pss_one (ps_ret (pe_callTy cr_tupOf (by rfl) A.z_tuple (by decide +kernel) (pa_cons (pe_callB cr_sortP (by rfl) A.z_sorted (by
    decide +kernel) (pa_cons (pv 2) pa_nil)) pa_nil)))))), p_roads_at h⟩
theorem g_road_counts (A : All K mg F) (hsm : Smb base) : FnG P w K mg base 1 F.f_road_counts F.d_road_counts ["web"] (sp_road_counts K) := by
  refine Fun.okG A.h_road_counts sc_road_counts l_road_counts ?_
  intro cdv Ar o s H vs Q E hG hr h
  have hu := hu_of hr
  have h65 := h65_of hr
  have hp := passes_of (X := cxOf (L2.CX P w) P w K mg base N_road_counts "road_counts" (defScope s_road_counts) F.f_road_counts cdv Ar o s H E) rfl
  exact ⟨t_road_counts K, (pss_cons (ps_set (i := 1) sc_road_counts.nd rfl (Or.inl rfl) (pe_op op_mulU (pe_lst (pa_cons pe_int pa_nil)) (pe_ix ix_seq (pv 0) pe_int (fun _ _ => rfl)))) (pss_cons (ps_for hp rfl (pi_seq (pe_ix ix_seq (pv 0) pe_int (fun _ _ =>
    rfl))) (pg_tup rfl (pgs_cons (pg_name (i := 2) sc_road_counts.nd rfl (Or.inl rfl)) (pgs_cons (pg_name (i := 3) sc_road_counts.nd rfl (Or.inl rfl)) pgs_nil))) (pss_cons (ps_asg (pe_op op_addU (pe_ix ix_seq (pv 1) (pv 2) (fun _ _
    => rfl)) pe_int) (pg_sub (pv 1) (pv 2) set_list)) (pss_one (ps_asg (pe_op op_addU (pe_ix ix_seq (pv 1) (pv 3) (fun _ _ => rfl)) pe_int) (pg_sub (pv 1) (pv 3) set_list))))) (pss_one (ps_ret (pv 1))))), p_road_counts h⟩
theorem g__law_urn (A : All K mg F) (hsm : Smb base) : FnG P w K mg base 1 F.f__law_urn F.d__law_urn ["script"] (sp__law_urn K) := by
  refine Fun.okG A.h__law_urn sc__law_urn l__law_urn ?_
  intro cdv Ar o s H vs Q E hG hr h
  have hu := hu_of hr
  have h65 := h65_of hr
  have hp := passes_of (X := cxOf (L2.CX P w) P w K mg base N__law_urn "_law_urn" (defScope s__law_urn) F.f__law_urn cdv Ar o s H E) rfl
  exact ⟨t__law_urn K, (pss_cons (ps_par3 (i := 4) (j := 1) (l := 2) rfl sc__law_urn.nd rfl rfl rfl (by decide) (by decide) (by decide) rfl rfl rfl (pa_cons (pe_lc (own := [("cell", 3)]) (g := (gName 3)) (tt := tYes) (te := (tIf (tTest (tOp rGeI (tVar 3)
    (tC (.int 0)))) (tOp (rMulU K) (tC (.int 2)) (tVar 3)) (tOp rSubI (tUn (rU fun i => .int (-i)) (tC (.int 1))) (tOp (rMulU K) (tC (.int 2)) (tVar 3))))) rfl sc__law_urn.nd (pi_seq (pe_slice sl_U (pv 0) po_none (po_some pe_int)))
    (blkOk_by (N := N__law_urn) (sc := defScope s__law_urn) (by decide +kernel)) (fun _ _ _ _ _ => (pg_name (i := 3) sc__law_urn.nd rfl (Or.inl rfl))) (fun _ _ _ _ _ => pts_nil) (fun _ _ _ _ _ => (pe_ifExp (pt_cmpR op_geI (pv 3)
    pe_int (nomark _)) (pe_op op_mulU pe_int (pv 3)) (pe_op op_subI (pe_un un_neg pe_int) (pe_op op_mulU pe_int (pv 3)))))) (pa_cons pe_int (pa_cons (pe_op op_addU pe_int (pe_callB cr_len (by rfl) A.z_len boot_len (pa_cons (pv 0)
    pa_nil))) pa_nil))) (by rfl)) (pss_cons (ps_for hp rfl (pi_seq (pv 4)) (pg_name (i := 3) sc__law_urn.nd rfl (Or.inl rfl)) (pss_one (ps_parU (i := 1) (j := 2) rfl sc__law_urn.nd rfl rfl (by decide) (Or.inl rfl) (Or.inl rfl)
    (pa_cons (pe_op op_modI (pe_callTy cr_int (by rfl) A.z_int (by decide +kernel) (pa_cons (pe_op op_addU (pe_op op_mulU (pv 1) pe_int) (pv 3)) pa_nil)) pe_int) (pa_cons (pe_op op_modI (pe_callTy cr_int (by rfl) A.z_int (by
    decide +kernel) (pa_cons (pe_op op_addU (pe_op op_addU (pe_op op_mulU (pv 2) pe_int) (pe_op op_mulU pe_int (pv 3))) pe_int) pa_nil)) pe_int) pa_nil)) (by rfl)))) (pss_one (ps_ret (pe_lst (pa_cons (pe_lc (own := [("cell", 3)])
    (g := (gName 3)) (tt := (tTest (tOp rGtI (tVar 3) (tOp rPowI (tC (.int 10)) (tC (.int 16)))))) (te := (tVar 3)) rfl sc__law_urn.nd (pi_seq (pv 4)) (blkOk_by (N := N__law_urn) (sc := defScope s__law_urn) (by decide +kernel))
    (fun _ _ _ _ _ => (pg_name (i := 3) sc__law_urn.nd rfl (Or.inl rfl))) (fun _ _ _ _ _ => (pts_one (pt_cmpR op_gtI (pv 3) (pe_op op_powI pe_int pe_int) (nomark _)))) (fun _ _ _ _ _ => (pv 3))) (pa_cons (pv 1) (pa_cons (pv 2)
    (pa_cons pe_int pa_nil))))))))), p__law_urn h⟩
theorem g__law_draw (A : All K mg F) (hsm : Smb base) : FnG P w K mg base 1 F.f__law_draw F.d__law_draw ["urn", "size"] (sp__law_draw K) := by
  refine Fun.okG A.h__law_draw sc__law_draw l__law_draw ?_
  intro cdv Ar o s H vs Q E hG hr h
  have hu := hu_of hr
  have h65 := h65_of hr
  exact ⟨t__law_draw K, (pss_cons (ps_if (pt_cmpR (op_neU hr.units) (pe_ix ix_seq (pv 0) pe_int (fun _ _ => rfl)) (pe_lst pa_nil) (nomark _)) (pss_cons (ps_set (i := 2) sc__law_draw.nd rfl (Or.inl rfl) (pe_bm0 PySem.F.plainAttrs_list PySem.F.slot_list_pop
    PySem.F.type_list_pop mt_pop (pe_ix ix_seq (pv 0) pe_int (fun _ _ => rfl)))) (Evl.pss_cut (ps_if (pt_cmpR op_geI (pv 2) (pv 1) (nomark _)) (pss_one (ps_expr (pe_bm PySem.F.plainAttrs_list PySem.F.slot_list_append
    PySem.F.type_list_append mt_append (pe_ix ix_seq (pv 0) pe_int (fun _ _ => rfl)) (pa_cons (pe_op op_divI (pv 2) (pv 1)) pa_nil)))) pss_nil) (pss_one (ps_ret (pe_op op_modI (pe_callTy cr_int (by rfl) A.z_int (by decide +kernel)
    (pa_cons (pv 2) pa_nil)) (pv 1)))))) pss_nil) (pss_cons (ps_asg (pe_op op_addU (pe_ix ix_seq (pv 0) pe_int (fun _ _ => rfl)) pe_int) (pg_sub (pv 0) pe_int set_list)) (pss_cons (ps_set (i := 3) sc__law_draw.nd rfl (Or.inl rfl)
    (pe_op op_modI (pe_callTy cr_int (by rfl) A.z_int (by decide +kernel) (pa_cons (pe_op op_addU (pe_ix ix_seq (pv 0) pe_int (fun _ _ => rfl)) (pe_op op_mulU (pe_ix ix_seq (pv 0) pe_int (fun _ _ => rfl)) pe_int)) pa_nil)) pe_int))
    (pss_cons (ps_set (i := 3) sc__law_draw.nd rfl (Or.inl rfl) (pe_op op_modI (pe_callTy cr_int (by rfl) A.z_int (by decide +kernel) (pa_cons (pe_op op_addU (pe_op op_addU (pe_op op_mulU (pv 3) (pv 3)) (pe_op op_mulU (pe_ix ix_seq
    (pv 0) pe_int (fun _ _ => rfl)) (pe_ix ix_seq (pv 0) pe_int (fun _ _ => rfl)))) pe_int) pa_nil)) pe_int)) (pss_cons (ps_set (i := 3) sc__law_draw.nd rfl (Or.inl rfl) (pe_op op_modI (pe_callTy cr_int (by rfl) A.z_int (by
    decide +kernel) (pa_cons (pe_op op_addU (pe_op op_addU (pe_op op_mulU (pv 3) (pv 3)) (pe_ix ix_seq (pv 0) pe_int (fun _ _ => rfl))) pe_int) pa_nil)) pe_int)) (pss_one (ps_ret (pe_op op_modI (pe_callTy cr_int (by rfl) A.z_int
    (by decide +kernel) (pa_cons (pe_op op_divI (pv 3) pe_int) pa_nil)) (pv 1))))))))), p__law_draw h⟩
theorem g__law_degrees (A : All K mg F) (hsm : Smb base) : FnG P w K mg base 1 F.f__law_degrees F.d__law_degrees ["web"] (sp__law_degrees K) := by
  refine Fun.okG A.h__law_degrees sc__law_degrees l__law_degrees ?_
  intro cdv Ar o s H vs Q E hG hr h
  have hu := hu_of hr
  have h65 := h65_of hr
  have hp := passes_of (X := cxOf (L2.CX P w) P w K mg base N__law_degrees "_law_degrees" (defScope s__law_degrees) F.f__law_degrees cdv Ar o s H E) rfl
  exact ⟨t__law_degrees K, (pss_cons (ps_set (i := 1) sc__law_degrees.nd rfl (Or.inl rfl) (pe_op op_mulU (pe_lst (pa_cons pe_int pa_nil)) (pe_ix ix_seq (pv 0) pe_int (fun _ _ => rfl)))) (pss_cons (ps_for hp rfl (pi_seq (pe_ix ix_seq (pv 0) pe_int (fun _ _ =>
    rfl))) (pg_tup rfl (pgs_cons (pg_name (i := 2) sc__law_degrees.nd rfl (Or.inl rfl)) (pgs_cons (pg_name (i := 3) sc__law_degrees.nd rfl (Or.inl rfl)) pgs_nil))) (pss_one (ps_asg (pe_tup (pa_cons (pe_op op_addU (pe_ix ix_seq (pv
    1) (pv 2) (fun _ _ => rfl)) pe_int) (pa_cons (pe_op op_addU (pe_ix ix_seq (pv 1) (pv 3) (fun _ _ => rfl)) pe_int) pa_nil))) (pg_tup rfl (pgs_cons (pg_sub (pv 1) (pv 2) set_list) (pgs_cons (pg_sub (pv 1) (pv 3) set_list)
    pgs_nil)))))) (pss_one (ps_ret (pv 1))))), p__law_degrees h⟩
theorem g__law_steps (A : All K mg F) (hsm : Smb base) : FnG P w K mg base 1 F.f__law_steps F.d__law_steps ["web", "place"] (sp__law_steps K) := by
  refine Fun.okG A.h__law_steps sc__law_steps l__law_steps ?_
  intro cdv Ar o s H vs Q E hG hr h
  have hu := hu_of hr
  have h65 := h65_of hr
  have hp := passes_of (X := cxOf (L2.CX P w) P w K mg base N__law_steps "_law_steps" (defScope s__law_steps) F.f__law_steps cdv Ar o s H E) rfl
  exact ⟨t__law_steps K, (pss_cons (ps_set (i := 2) sc__law_steps.nd rfl (Or.inr rfl) (pe_disp (pps_cons (pv 1) pe_int pps_nil) (by rfl) (by rfl) (fun z => by cases z) (by decide))) (pss_cons (ps_for hp rfl (pi_range1 rfl A.z_range (pa_cons (pe_ix ix_seq
    (pv 0) pe_int (fun _ _ => rfl)) pa_nil)) (pg_name (i := 3) sc__law_steps.nd rfl (Or.inl rfl)) (pss_one (ps_for hp rfl (pi_seq (pe_ix ix_seq (pv 0) pe_int (fun _ _ => rfl))) (pg_tup rfl (pgs_cons (pg_name (i := 4)
    sc__law_steps.nd rfl (Or.inl rfl)) (pgs_cons (pg_name (i := 5) sc__law_steps.nd rfl (Or.inl rfl)) pgs_nil))) (Evl.pss_cut (ps_if (PW.pt (pw_and (pt_cmp (pc_din hu (pv 4) (pv 2))) (pw_and (pt_cmpR (op_eqU hr.units) (pe_dget hu
    (pv 2) (pv 4) (fun _ _ => rfl)) (pv 3) (nomark _)) (pw_and1 (pt_cmp (pc_dnotin hu (pv 5) (pv 2))))))) (pss_one (ps_dput hu (pv 2) (pv 5) (pe_op op_addU (pv 3) pe_int) rfl)) pss_nil) (pss_one (ps_if (PW.pt (pw_and (pt_cmp
    (pc_din hu (pv 5) (pv 2))) (pw_and (pt_cmpR (op_eqU hr.units) (pe_dget hu (pv 2) (pv 5) (fun _ _ => rfl)) (pv 3) (nomark _)) (pw_and1 (pt_cmp (pc_dnotin hu (pv 4) (pv 2))))))) (pss_one (ps_dput hu (pv 2) (pv 4) (pe_op op_addU
    (pv 3) pe_int) rfl)) pss_nil)))))) (pss_one (ps_ret (pe_lc (own := [("own", 6)]) (g := (gName 6)) (tt := tYes) (te := (tDGet (tVar 2) (tVar 6))) rfl sc__law_steps.nd (pi_range1 rfl A.z_range (pa_cons (pe_ix ix_seq (pv 0) pe_int
    (fun _ _ => rfl)) pa_nil)) (blkOk_by (N := N__law_steps) (sc := defScope s__law_steps) (by decide +kernel)) (fun _ _ _ _ _ => (pg_name (i := 6) sc__law_steps.nd rfl (Or.inl rfl))) (fun _ _ _ _ _ => pts_nil) (fun _ _ _ _ _ =>
    (pe_dget hu (pv 2) (pv 6) (fun _ _ => rfl)))))))), p__law_steps h⟩
theorem g_steps_known (A : All K mg F) (hsm : Smb base) (g_roads_at : FnG P w K mg base 1 F.f_roads_at F.d_roads_at ["web", "place"] (sp_roads_at K)) : FnG P w K mg base 2 F.f_steps_known F.d_steps_known ["web", "place"] (sp_steps_known K) := by
  refine Fun.okG A.h_steps_known sc_steps_known l_steps_known ?_
  intro cdv Ar o s H vs Q E hG hr h
  have hu := hu_of hr
  have h65 := h65_of hr
  have hp := passes_of (X := cxOf (L2.CX P w) P w K mg base N_steps_known "steps_known" (defScope s_steps_known) F.f_steps_known cdv Ar o s H E) rfl
  exact ⟨t_steps_known K, (pss_cons (ps_parU (i := 6) (j := 2) rfl sc_steps_known.nd rfl rfl (by decide) (Or.inl rfl) (Or.inl rfl) (pa_cons (pe_disp (pps_cons (pv 1) pe_int pps_nil) (by rfl) (by rfl) (fun z => by cases z) (by decide)) (pa_cons (pe_lst
    (pa_cons (pv 1) pa_nil)) pa_nil)) (by rfl)) (pss_cons (ps_while hp (pt_cmpR (op_neU hr.units) (pv 2) (pe_lst pa_nil) (nomark _)) (pss_cons (ps_set (i := 3) sc_steps_known.nd rfl (Or.inl rfl) (pe_bm PySem.F.plainAttrs_list
    PySem.F.slot_list_pop PySem.F.type_list_pop mt_popAt (pv 2) (pa_cons pe_int pa_nil))) (pss_one (ps_for hp rfl (pi_seq (pe_g g_roads_at hG (hr.mono (by decide)) A.m_roads_at A.k_roads_at A.b_roads_at pass00 (pa_cons (pv 0)
    (pa_cons (pv 3) pa_nil)))) (pg_tup rfl (pgs_cons (pg_name (i := 4) sc_steps_known.nd rfl (Or.inl rfl)) (pgs_cons (pg_name (i := 5) sc_steps_known.nd rfl (Or.inl rfl)) pgs_nil))) (pss_one (ps_if (pt_cmp (pc_dnotin hu (pv 4) (pv
    6))) (pss_cons (ps_dput hu (pv 6) (pv 4) (pe_op op_addU (pe_dget hu (pv 6) (pv 3) (fun _ _ => rfl)) pe_int) rfl) (pss_one (ps_expr (pe_bm PySem.F.plainAttrs_list PySem.F.slot_list_append PySem.F.type_list_append mt_append (pv
    2) (pa_cons (pv 4) pa_nil))))) pss_nil)))))) (pss_one (ps_ret (pv 6))))), p_steps_known h⟩
theorem g__law_pick (A : All K mg F) (hsm : Smb base) (g__law_draw : FnG P w K mg base 1 F.f__law_draw F.d__law_draw ["urn", "size"] (sp__law_draw K)) : FnG P w K mg base 2 F.f__law_pick F.d__law_pick ["urn", "items"] (sp__law_pick K) := by
  refine Fun.okG A.h__law_pick sc__law_pick l__law_pick ?_
  intro cdv Ar o s H vs Q E hG hr h
  have hu := hu_of hr
  have h65 := h65_of hr
  exact ⟨t__law_pick K, (pss_one (ps_ret (pe_ix ix_seq (pv 1) (pe_g g__law_draw hG (hr.mono (by decide)) A.m__law_draw A.k__law_draw A.b__law_draw pass00 (pa_cons (pv 0) (pa_cons (pe_callB cr_len (by rfl) A.z_len boot_len (pa_cons (pv 1) pa_nil))
    pa_nil))) (fun _ _ => rfl)))), p__law_pick h⟩
theorem g__law_mixed (A : All K mg F) (hsm : Smb base) (g__law_draw : FnG P w K mg base 1 F.f__law_draw F.d__law_draw ["urn", "size"] (sp__law_draw K)) : FnG P w K mg base 2 F.f__law_mixed F.d__law_mixed ["urn", "items"] (sp__law_mixed K) := by
  refine Fun.okG A.h__law_mixed sc__law_mixed l__law_mixed ?_
  intro cdv Ar o s H vs Q E hG hr h
  have hu := hu_of hr
  have h65 := h65_of hr
  have hp := passes_of (X := cxOf (L2.CX P w) P w K mg base N__law_mixed "_law_mixed" (defScope s__law_mixed) F.f__law_mixed cdv Ar o s H E) rfl
  exact ⟨t__law_mixed K, (pss_cons (ps_parU (i := 2) (j := 3) rfl sc__law_mixed.nd rfl rfl (by decide) (Or.inl rfl) (Or.inl rfl) (pa_cons (pe_callTy cr_lstOf (by rfl) A.z_list (by decide +kernel) (pa_cons (pv 1) pa_nil)) (pa_cons (pe_lst pa_nil) pa_nil))
    (by rfl)) (pss_cons (ps_while hp (pt_cmpR (op_neU hr.units) (pv 2) (pe_lst pa_nil) (nomark _)) (pss_one (ps_expr (pe_bm PySem.F.plainAttrs_list PySem.F.slot_list_append PySem.F.type_list_append mt_append (pv 3) (pa_cons (pe_bm
    PySem.F.plainAttrs_list PySem.F.slot_list_pop PySem.F.type_list_pop mt_popAt (pv 2) (pa_cons (pe_g g__law_draw hG (hr.mono (by decide)) A.m__law_draw A.k__law_draw A.b__law_draw pass00 (pa_cons (pv 0) (pa_cons (pe_callB cr_len
    (by rfl) A.z_len boot_len (pa_cons (pv 2) pa_nil)) pa_nil))) pa_nil)) pa_nil))))) (pss_one (ps_ret (pv 3))))), p__law_mixed h⟩
theorem g__law_shape (A : All K mg F) (hsm : Smb base) (g__law_draw : FnG P w K mg base 1 F.f__law_draw F.d__law_draw ["urn", "size"] (sp__law_draw K)) : FnG P w K mg base 2 F.f__law_shape F.d__law_shape ["urn", "kind", "size"] (sp__law_shape K) := by
  refine Fun.okG A.h__law_shape sc__law_shape l__law_shape ?_
  intro cdv Ar o s H vs Q E hG hr h
  have hu := hu_of hr
  have h65 := h65_of hr
  have hp := passes_of (X := cxOf (L2.CX P w) P w K mg base N__law_shape "_law_shape" (defScope s__law_shape) F.f__law_shape cdv Ar o s H E) rfl
  exact ⟨t__law_shape K, (pss_cons (ps_setLc (i := 3) (own := [("place", 12)]) (g := (gName 12)) (tt := tYes) (te := (tTup (tCons (tVar 12) (tCons (tOp (rAddU K) (tVar 12) (tC (.int 1))) tNil)))) rfl sc__law_shape.nd rfl (by rfl) (sw_true (by rfl) (by rfl)
    (by rfl) (by decide +kernel)) (pi_range1 rfl A.z_range (pa_cons (pe_op op_subI (pv 2) pe_int) pa_nil)) (blkOk_by (N := N__law_shape) (sc := defScope s__law_shape) (by decide +kernel)) (fun _ _ _ _ _ => (pg_name (i := 12)
    sc__law_shape.nd rfl (Or.inl rfl))) (fun _ _ _ _ _ => pts_nil) (fun _ _ _ _ _ => (pe_tup (pa_cons (pv 12) (pa_cons (pe_op op_addU (pv 12) pe_int) pa_nil))))) (pss_cons (ps_if (pt_cmpR (op_eqU hr.units) (pv 1) pe_str (nomark _))
    (pss_one (ps_ret (pe_tup (pa_cons (pv 2) (pa_cons (pv 3) pa_nil))))) pss_nil) (pss_cons (ps_if (pt_cmpR (op_eqU hr.units) (pv 1) pe_str (nomark _)) (pss_one (ps_ret (pe_tup (pa_cons (pv 2) (pa_cons (pe_op op_addU (pv 3) (pe_lst
    (pa_cons (pe_tup (pa_cons pe_int (pa_cons (pe_op op_subI (pv 2) pe_int) pa_nil))) pa_nil))) pa_nil))))) pss_nil) (pss_cons (ps_if (pt_cmpR (op_eqU hr.units) (pv 1) pe_str (nomark _)) (pss_cons (ps_parU (i := 4) (j := 9) rfl
    sc__law_shape.nd rfl rfl (by decide) (Or.inl rfl) (Or.inl rfl) (pa_cons (pe_callB (cr_max2 rfl) (by rfl) A.z_max (by decide +kernel) (pa_cons pe_int (pa_cons (pe_op op_divI (pe_callTy cr_int (by rfl) A.z_int (by decide +kernel)
    (pa_cons (pe_op op_addU (pv 2) pe_int) pa_nil)) pe_int) pa_nil))) (pa_cons (pe_lst pa_nil) pa_nil)) (by rfl)) (pss_cons (ps_for hp rfl (pi_range2 rfl A.z_range (pa_cons pe_int (pa_cons (pv 4) pa_nil))) (pg_name (i := 5)
    sc__law_shape.nd rfl (Or.inl rfl)) (pss_cons (ps_set (i := 6) sc__law_shape.nd rfl (Or.inl rfl) (pe_op op_subI (pe_op op_addU (pv 4) (pv 5)) pe_int)) (pss_one (ps_set (i := 9) sc__law_shape.nd rfl (Or.inl rfl) (pe_op op_addU
    (pv 9) (pe_lst (pa_cons (pe_tup (pa_cons (pe_g g__law_draw hG (hr.mono (by decide)) A.m__law_draw A.k__law_draw A.b__law_draw pass00 (pa_cons (pv 0) (pa_cons (pv 5) pa_nil))) (pa_cons (pv 6) pa_nil))) (pa_cons (pe_tup (pa_cons
    (pv 5) (pa_cons (pv 6) pa_nil))) pa_nil)))))))) (pss_one (ps_ret (pe_tup (pa_cons (pe_op op_subI (pe_op op_mulU pe_int (pv 4)) pe_int) (pa_cons (pv 9) pa_nil))))))) pss_nil) (pss_cons (ps_if (pt_cmpR (op_eqU hr.units) (pv 1)
    pe_str (nomark _)) (pss_cons (ps_set (i := 2) sc__law_shape.nd rfl (Or.inr rfl) (pe_callB (cr_min2 rfl) (by rfl) A.z_min (by decide +kernel) (pa_cons (pv 2) (pa_cons pe_int pa_nil)))) (pss_one (ps_ret (pe_tup (pa_cons (pv 2)
    (pa_cons (pe_lc (own := [("k", 13)]) (g := (gName 13)) (tt := (tTest (tOp (rLtU K) (tCB rInt (tCons (tOp rDivI (tVar 13) (tVar 2)) tNil)) (tOp rModI (tCB rInt (tCons (tVar 13) tNil)) (tVar 2))))) (te := (tTup (tCons (tCB rInt
    (tCons (tOp rDivI (tVar 13) (tVar 2)) tNil)) (tCons (tOp rModI (tCB rInt (tCons (tVar 13) tNil)) (tVar 2)) tNil)))) rfl sc__law_shape.nd (pi_range1 rfl A.z_range (pa_cons (pe_op op_mulU (pv 2) (pv 2)) pa_nil)) (blkOk_by (N :=
    N__law_shape) (sc := defScope s__law_shape) (by decide +kernel)) (fun _ _ _ _ _ => (pg_name (i := 13) sc__law_shape.nd rfl (Or.inl rfl))) (fun _ _ _ _ _ => (pts_one (pt_cmpR (op_ltU hr.units0) (pe_callTy cr_int (by rfl) A.z_int
    (by decide +kernel) (pa_cons (pe_op op_divI (pv 13) (pv 2)) pa_nil)) (pe_op op_modI (pe_callTy cr_int (by rfl) A.z_int (by decide +kernel) (pa_cons (pv 13) pa_nil)) (pv 2)) (nomark _)))) (fun _ _ _ _ _ => (pe_tup (pa_cons
    (pe_callTy cr_int (by rfl) A.z_int (by decide +kernel) (pa_cons (pe_op op_divI (pv 13) (pv 2)) pa_nil)) (pa_cons (pe_op op_modI (pe_callTy cr_int (by rfl) A.z_int (by decide +kernel) (pa_cons (pv 13) pa_nil)) (pv 2))
    pa_nil))))) pa_nil)))))) pss_nil) (pss_cons (ps_if (pt_cmpR (op_eqU hr.units) (pv 1) pe_str (nomark _)) (pss_cons (ps_parU (i := 7) (j := 9) rfl sc__law_shape.nd rfl rfl (by decide) (Or.inl rfl) (Or.inl rfl) (pa_cons (pe_op
    op_addU pe_int (pe_g g__law_draw hG (hr.mono (by decide)) A.m__law_draw A.k__law_draw A.b__law_draw pass00 (pa_cons (pv 0) (pa_cons (pe_callB (cr_min2 rfl) (by rfl) A.z_min (by decide +kernel) (pa_cons pe_int (pa_cons (pe_op
    op_subI (pv 2) pe_int) pa_nil))) pa_nil)))) (pa_cons (pe_lst pa_nil) pa_nil)) (by rfl)) (pss_cons (ps_while hp (pt_cmpR op_gtI (pe_op op_mulU (pv 7) (pe_op op_subI (pv 2) (pv 7))) pe_int (nomark _)) (pss_one (ps_set (i := 7)
    sc__law_shape.nd rfl (Or.inl rfl) (pe_op op_subI (pv 7) pe_int)))) (pss_cons (ps_for hp rfl (pi_range1 rfl A.z_range (pa_cons (pv 7) pa_nil)) (pg_name (i := 8) sc__law_shape.nd rfl (Or.inr rfl)) (pss_one (ps_set (i := 9)
    sc__law_shape.nd rfl (Or.inl rfl) (pe_op op_addU (pv 9) (pe_lc (own := [("column", 14)]) (g := (gName 14)) (tt := tYes) (te := (tTup (tCons (tVar 8) (tCons (tVar 14) tNil)))) rfl sc__law_shape.nd (pi_range2 rfl A.z_range
    (pa_cons (pv 7) (pa_cons (pv 2) pa_nil))) (blkOk_by (N := N__law_shape) (sc := defScope s__law_shape) (by decide +kernel)) (fun _ _ _ _ _ => (pg_name (i := 14) sc__law_shape.nd rfl (Or.inl rfl))) (fun _ _ _ _ _ => pts_nil) (fun
    _ _ _ _ _ => (pe_tup (pa_cons (pv 8) (pa_cons (pv 14) pa_nil))))))))) (pss_one (ps_ret (pe_tup (pa_cons (pv 2) (pa_cons (pv 9) pa_nil)))))))) pss_nil) (pss_cons (ps_setLc (i := 9) (own := [("place", 12)]) (g := (gName 12)) (tt
    := tYes) (te := (tTup (tCons (tG (sp__law_draw K) E00 (tCons (tVar 0) (tCons (tVar 12) tNil))) (tCons (tVar 12) tNil)))) rfl sc__law_shape.nd rfl (by rfl) (sw_true (by rfl) (by rfl) (by rfl) (by decide +kernel)) (pi_range2 rfl
    A.z_range (pa_cons pe_int (pa_cons (pv 2) pa_nil))) (blkOk_by (N := N__law_shape) (sc := defScope s__law_shape) (by decide +kernel)) (fun _ _ _ _ _ => (pg_name (i := 12) sc__law_shape.nd rfl (Or.inl rfl))) (fun _ _ _ _ _ =>
    pts_nil) (fun _ _ _ _ _ => (pe_tup (pa_cons (pe_g g__law_draw hG (hr.mono (by decide)) A.m__law_draw A.k__law_draw A.b__law_draw pass00 (pa_cons (pv 0) (pa_cons (pv 12) pa_nil))) (pa_cons (pv 12) pa_nil))))) (pss_cons (ps_for
    hp rfl (pi_range1 rfl A.z_range (pa_cons (pe_ifExp (pt_cmpR (op_eqU hr.units) (pv 1) pe_str (nomark _)) pe_int (pe_op op_addU pe_int (pe_g g__law_draw hG (hr.mono (by decide)) A.m__law_draw A.k__law_draw A.b__law_draw pass00
    (pa_cons (pv 0) (pa_cons pe_int pa_nil))))) pa_nil)) (pg_name (i := 10) sc__law_shape.nd rfl (Or.inl rfl)) (pss_cons (ps_set (i := 11) sc__law_shape.nd rfl (Or.inl rfl) (pe_g g__law_draw hG (hr.mono (by decide)) A.m__law_draw
    A.k__law_draw A.b__law_draw pass00 (pa_cons (pv 0) (pa_cons (pv 2) pa_nil)))) (pss_one (ps_expr (pe_bm PySem.F.plainAttrs_list PySem.F.slot_list_append PySem.F.type_list_append mt_append (pv 9) (pa_cons (pe_tup (pa_cons (pv 11)
    (pa_cons (pe_op op_modI (pe_callTy cr_int (by rfl) A.z_int (by decide +kernel) (pa_cons (pe_op op_addU (pe_op op_addU (pv 11) pe_int) (pe_g g__law_draw hG (hr.mono (by decide)) A.m__law_draw A.k__law_draw A.b__law_draw pass00
    (pa_cons (pv 0) (pa_cons (pe_op op_subI (pv 2) pe_int) pa_nil)))) pa_nil)) (pv 2)) pa_nil))) pa_nil)))))) (pss_one (ps_ret (pe_tup (pa_cons (pv 2) (pa_cons (pv 9) pa_nil))))))))))))), p__law_shape h⟩
theorem g__law_elder (A : All K mg F) (hsm : Smb base) (g__law_degrees : FnG P w K mg base 1 F.f__law_degrees F.d__law_degrees ["web"] (sp__law_degrees K)) (g__law_steps : FnG P w K mg base 1 F.f__law_steps F.d__law_steps ["web", "place"] (sp__law_steps K)) : FnG P w K mg base 2 F.f__law_elder F.d__law_elder ["web"] (sp__law_elder K) := by
  refine Fun.okG A.h__law_elder sc__law_elder l__law_elder ?_
  intro cdv Ar o s H vs Q E hG hr h
  have hu := hu_of hr
  have h65 := h65_of hr
  have hp := passes_of (X := cxOf (L2.CX P w) P w K mg base N__law_elder "_law_elder" (defScope s__law_elder) F.f__law_elder cdv Ar o s H E) rfl
  exact ⟨t__law_elder K, (pss_cons (ps_asg (pe_tup (pa_cons (pe_ix ix_seq (pv 0) pe_int (fun _ _ => rfl)) (pa_cons (pe_g g__law_degrees hG (hr.mono (by decide)) A.m__law_degrees A.k__law_degrees A.b__law_degrees pass00 (pa_cons (pv 0) pa_nil)) pa_nil)))
    (pg_tup rfl (pgs_cons (pg_name (i := 1) sc__law_elder.nd rfl (Or.inl rfl)) (pgs_cons (pg_name (i := 2) sc__law_elder.nd rfl (Or.inr rfl)) pgs_nil)))) (pss_cons (ps_if (PW.pt (pw_or (pt_cmpR (op_ltU hr.units0) (pv 1) pe_int
    (nomark _)) (pw_or1 (pt_cmpR (op_neU hr.units) (pe_callB cr_len (by rfl) A.z_len boot_len (pa_cons (pe_ix ix_seq (pv 0) pe_int (fun _ _ => rfl)) pa_nil)) (pe_op op_subI (pv 1) pe_int) (nomark _))))) (pss_one (ps_ret pe_non))
    pss_nil) (pss_cons (ps_set (i := 3) sc__law_elder.nd rfl (Or.inr rfl) (pe_g g__law_steps hG (hr.mono (by decide)) A.m__law_steps A.k__law_steps A.b__law_steps pass00 (pa_cons (pv 0) (pa_cons pe_int pa_nil)))) (pss_cons (ps_for
    hp rfl (pi_range1 rfl A.z_range (pa_cons pe_int pa_nil)) (pg_name (i := 4) sc__law_elder.nd rfl (Or.inr rfl)) (pss_cons (ps_set (i := 5) sc__law_elder.nd rfl (Or.inr rfl) (pe_lc (own := [("place", 9)]) (g := (gName 9)) (tt :=
    (tTest (tOp (rEqU K) (tOp rModI (tCB rInt (tCons (tOp (rIx K) (tVar 3) (tVar 9)) tNil)) (tC (.int 2))) (tVar 4)))) (te := (tVar 9)) rfl sc__law_elder.nd (pi_range1 rfl A.z_range (pa_cons (pv 1) pa_nil)) (blkOk_by (N :=
    N__law_elder) (sc := defScope s__law_elder) (by decide +kernel)) (fun _ _ _ _ _ => (pg_name (i := 9) sc__law_elder.nd rfl (Or.inl rfl))) (fun _ _ _ _ _ => (pts_one (pt_cmpR (op_eqU hr.units) (pe_op op_modI (pe_callTy cr_int (by
    rfl) A.z_int (by decide +kernel) (pa_cons (pe_ix ix_seq (pv 3) (pv 9) (fun _ _ => rfl)) pa_nil)) pe_int) (pv 4) (nomark _)))) (fun _ _ _ _ _ => (pv 9)))) (pss_one (ps_if (pt_cmpR (op_eqU hr.units) (pe_lc (own := [("place", 9)])
    (g := (gName 9)) (tt := (tTest (tOp (rNeU K) (tOp (rIx K) (tVar 2) (tVar 9)) (tC (.int 2))))) (te := (tC (.int 1))) rfl sc__law_elder.nd (pi_seq (pv 5)) (blkOk_by (N := N__law_elder) (sc := defScope s__law_elder) (by
    decide +kernel)) (fun _ _ _ _ _ => (pg_name (i := 9) sc__law_elder.nd rfl (Or.inl rfl))) (fun _ _ _ _ _ => (pts_one (pt_cmpR (op_neU hr.units) (pe_ix ix_seq (pv 2) (pv 9) (fun _ _ => rfl)) pe_int (nomark _)))) (fun _ _ _ _ _ =>
    pe_int)) (pe_lst pa_nil) (nomark _)) (pss_cons (ps_set (i := 6) sc__law_elder.nd rfl (Or.inl rfl) (pe_lst pa_nil)) (pss_cons (ps_for hp rfl (pi_seq (pv 5)) (pg_name (i := 7) sc__law_elder.nd rfl (Or.inr rfl)) (pss_cons (ps_set
    (i := 8) sc__law_elder.nd rfl (Or.inl rfl) (pe_callB cr_sortedI (by rfl) A.z_sorted (by decide +kernel) (pa_cons (pe_lc (own := [("a", 10), ("b", 11)]) (g := (gTup K 2 (gCons (gName 10) (gCons (gName 11) gNil)))) (tt := (tTest
    (tOp (rInU K) (tVar 7) (tTup (tCons (tVar 10) (tCons (tVar 11) tNil)))))) (te := (tOp rSubI (tOp (rAddU K) (tVar 10) (tVar 11)) (tVar 7))) rfl sc__law_elder.nd (pi_seq (pe_ix ix_seq (pv 0) pe_int (fun _ _ => rfl))) (blkOk_by (N
    := N__law_elder) (sc := defScope s__law_elder) (by decide +kernel)) (fun _ _ _ _ _ => (pg_tup rfl (pgs_cons (pg_name (i := 10) sc__law_elder.nd rfl (Or.inl rfl)) (pgs_cons (pg_name (i := 11) sc__law_elder.nd rfl (Or.inl rfl))
    pgs_nil)))) (fun _ _ _ _ _ => (pts_one (pt_cmpR (op_inU h65) (pv 7) (pe_tup (pa_cons (pv 10) (pa_cons (pv 11) pa_nil))) rfl))) (fun _ _ _ _ _ => (pe_op op_subI (pe_op op_addU (pv 10) (pv 11)) (pv 7)))) pa_nil))) (pss_one
    (ps_expr (pe_bm PySem.F.plainAttrs_list PySem.F.slot_list_append PySem.F.type_list_append mt_append (pv 6) (pa_cons (pe_tup (pa_cons (pe_ix ix_seq (pv 8) pe_int (fun _ _ => rfl)) (pa_cons (pe_ix ix_seq (pv 8) pe_int (fun _ _ =>
    rfl)) (pa_cons (pv 7) pa_nil)))) pa_nil)))))) (pss_one (ps_ret (pe_tup (pa_cons (pe_callTy cr_tupOf (by rfl) A.z_tuple (by decide +kernel) (pa_cons (pe_lc (own := [("place", 9)]) (g := (gName 9)) (tt := (tTest (tOp (rNiU K)
    (tVar 9) (tVar 5)))) (te := (tVar 9)) rfl sc__law_elder.nd (pi_range1 rfl A.z_range (pa_cons (pv 1) pa_nil)) (blkOk_by (N := N__law_elder) (sc := defScope s__law_elder) (by decide +kernel)) (fun _ _ _ _ _ => (pg_name (i := 9)
    sc__law_elder.nd rfl (Or.inl rfl))) (fun _ _ _ _ _ => (pts_one (pt_cmpR (op_niU h65) (pv 9) (pv 5) rfl))) (fun _ _ _ _ _ => (pv 9))) pa_nil)) (pa_cons (pe_callTy cr_tupOf (by rfl) A.z_tuple (by decide +kernel) (pa_cons
    (pe_callB (cr_sortT (d := 3) (B := 64) (by decide)) (by rfl) A.z_sorted (by decide +kernel) (pa_cons (pv 6) pa_nil)) pa_nil)) pa_nil))))))) pss_nil)))) (pss_one (ps_ret pe_non)))))), p__law_elder h⟩
theorem g__law_grown (A : All K mg F) (hsm : Smb base) (g__law_draw : FnG P w K mg base 1 F.f__law_draw F.d__law_draw ["urn", "size"] (sp__law_draw K)) : FnG P w K mg base 2 F.f__law_grown F.d__law_grown ["urn", "web"] (sp__law_grown K) := by
  refine Fun.okG A.h__law_grown sc__law_grown l__law_grown ?_
  intro cdv Ar o s H vs Q E hG hr h
  have hu := hu_of hr
  have h65 := h65_of hr
  exact ⟨t__law_grown K, (pss_cons (ps_set (i := 2) sc__law_grown.nd rfl (Or.inl rfl) (pe_g g__law_draw hG (hr.mono (by decide)) A.m__law_draw A.k__law_draw A.b__law_draw pass00 (pa_cons (pv 0) (pa_cons (pe_ix ix_seq (pv 1) pe_int (fun _ _ => rfl))
    pa_nil)))) (pss_cons (ps_set (i := 3) sc__law_grown.nd rfl (Or.inl rfl) (pe_callB (cr_sortNn (Nat.lt_of_le_of_lt (Nat.add_le_add_left (by decide : 4 ≤ 65) _) h65)) (by rfl) A.z_sorted (by decide +kernel) (pa_cons (pe_op op_addU
    (UW.Zl.pe_lstZip rfl (by rfl) A.z_list (by rfl) A.z_zip (pa_cons (pe_ix ix_seq (pv 1) pe_int (fun _ _ => rfl)) (pa_cons (pe_ix ix_seq (pv 1) pe_int (fun _ _ => rfl)) pa_nil))) (pe_lst (pa_cons (pe_tup (pa_cons (pe_tup (pa_cons
    (pv 2) (pa_cons (pe_ix ix_seq (pv 1) pe_int (fun _ _ => rfl)) pa_nil))) (pa_cons (pe_op op_addU pe_int (pe_g g__law_draw hG (hr.mono (by decide)) A.m__law_draw A.k__law_draw A.b__law_draw pass00 (pa_cons (pv 0) (pa_cons pe_int
    pa_nil)))) pa_nil))) pa_nil))) pa_nil))) (pss_one (ps_ret (pe_tup (pa_cons (pe_op op_addU (pe_ix ix_seq (pv 1) pe_int (fun _ _ => rfl)) pe_int) (pa_cons (pe_callTy cr_tupOf (by rfl) A.z_tuple (by decide +kernel) (pa_cons (pe_lc
    (own := [("road", 4), ("load", 5)]) (g := (gTup K 2 (gCons (gName 4) (gCons (gName 5) gNil)))) (tt := tYes) (te := (tVar 4)) rfl sc__law_grown.nd (pi_seq (pv 3)) (blkOk_by (N := N__law_grown) (sc := defScope s__law_grown) (by
    decide +kernel)) (fun _ _ _ _ _ => (pg_tup rfl (pgs_cons (pg_name (i := 4) sc__law_grown.nd rfl (Or.inl rfl)) (pgs_cons (pg_name (i := 5) sc__law_grown.nd rfl (Or.inl rfl)) pgs_nil)))) (fun _ _ _ _ _ => pts_nil) (fun _ _ _ _ _
    => (pv 4))) pa_nil)) (pa_cons (pe_callTy cr_tupOf (by rfl) A.z_tuple (by decide +kernel) (pa_cons (pe_lc (own := [("road", 4), ("load", 5)]) (g := (gTup K 2 (gCons (gName 4) (gCons (gName 5) gNil)))) (tt := tYes) (te := (tVar
    5)) rfl sc__law_grown.nd (pi_seq (pv 3)) (blkOk_by (N := N__law_grown) (sc := defScope s__law_grown) (by decide +kernel)) (fun _ _ _ _ _ => (pg_tup rfl (pgs_cons (pg_name (i := 4) sc__law_grown.nd rfl (Or.inl rfl)) (pgs_cons
    (pg_name (i := 5) sc__law_grown.nd rfl (Or.inl rfl)) pgs_nil)))) (fun _ _ _ _ _ => pts_nil) (fun _ _ _ _ _ => (pv 5))) pa_nil)) pa_nil)))))))), p__law_grown h⟩
theorem g_steps_from (A : All K mg F) (hsm : Smb base) (g_steps_known : FnG P w K mg base 2 F.f_steps_known F.d_steps_known ["web", "place"] (sp_steps_known K)) : FnG P w K mg base 3 F.f_steps_from F.d_steps_from ["web", "place"] (sp_steps_from K) := by
  refine Fun.okG A.h_steps_from sc_steps_from l_steps_from ?_
  intro cdv Ar o s H vs Q E hG hr h
  have hu := hu_of hr
  have h65 := h65_of hr
  exact ⟨t_steps_from K, (pss_cons (ps_set (i := 2) sc_steps_from.nd rfl (Or.inr rfl) (pe_g g_steps_known hG (hr.mono (by decide)) A.m_steps_known A.k_steps_known A.b_steps_known pass00 (pa_cons (pv 0) (pa_cons (pv 1) pa_nil)))) (pss_one (ps_ret (pe_callTy
    cr_tupOf (by rfl) A.z_tuple (by decide +kernel) (pa_cons (pe_lc (own := [("other", 3)]) (g := (gName 3)) (tt := tYes) (te := (tDGet (tVar 2) (tVar 3))) rfl sc_steps_from.nd (pi_range1 rfl A.z_range (pa_cons (pe_ix ix_seq (pv 0)
    pe_int (fun _ _ => rfl)) pa_nil)) (blkOk_by (N := N_steps_from) (sc := defScope s_steps_from) (by decide +kernel)) (fun _ _ _ _ _ => (pg_name (i := 3) sc_steps_from.nd rfl (Or.inl rfl))) (fun _ _ _ _ _ => pts_nil) (fun _ _ _ _
    _ => (pe_dget hu (pv 2) (pv 3) (fun _ _ => rfl)))) pa_nil))))), p_steps_from h⟩
theorem g__law_web (A : All K mg F) (hsm : Smb base) (g__law_draw : FnG P w K mg base 1 F.f__law_draw F.d__law_draw ["urn", "size"] (sp__law_draw K)) (g__law_mixed : FnG P w K mg base 2 F.f__law_mixed F.d__law_mixed ["urn", "items"] (sp__law_mixed K)) (g__law_shape : FnG P w K mg base 2 F.f__law_shape F.d__law_shape ["urn", "kind", "size"] (sp__law_shape K)) : FnG P w K mg base 3 F.f__law_web F.d__law_web ["urn", "kind", "size", "most"] (sp__law_web K) := by
  refine Fun.okG A.h__law_web sc__law_web l__law_web ?_
  intro cdv Ar o s H vs Q E hG hr h
  have hu := hu_of hr
  have h65 := h65_of hr
  have hp := passes_of (X := cxOf (L2.CX P w) P w K mg base N__law_web "_law_web" (defScope s__law_web) F.f__law_web cdv Ar o s H E) rfl
  exact ⟨t__law_web K, (pss_cons (ps_asg (pe_g g__law_shape hG (hr.mono (by decide)) A.m__law_shape A.k__law_shape A.b__law_shape pass00 (pa_cons (pv 0) (pa_cons (pv 1) (pa_cons (pv 2) pa_nil)))) (pg_tup rfl (pgs_cons (pg_name (i := 4) sc__law_web.nd rfl
    (Or.inl rfl)) (pgs_cons (pg_name (i := 9) sc__law_web.nd rfl (Or.inl rfl)) pgs_nil)))) (pss_cons (ps_asg (pe_tup (pa_cons (pe_g g__law_mixed hG (hr.mono (by decide)) A.m__law_mixed A.k__law_mixed A.b__law_mixed pass00 (pa_cons
    (pv 0) (pa_cons (pe_listRg rfl (by rfl) A.z_list (prg_1 (by rfl) A.z_range (pv 4))) pa_nil))) (pa_cons pe_dnewT pa_nil))) (pg_tup rfl (pgs_cons (pg_name (i := 5) sc__law_web.nd rfl (Or.inl rfl)) (pgs_cons (pg_name (i := 6)
    sc__law_web.nd rfl (Or.inr rfl)) pgs_nil)))) (pss_cons (ps_for hp rfl (pi_seq (pv 9)) (pg_tup rfl (pgs_cons (pg_name (i := 7) sc__law_web.nd rfl (Or.inl rfl)) (pgs_cons (pg_name (i := 8) sc__law_web.nd rfl (Or.inl rfl))
    pgs_nil))) (pss_cons (ps_set (i := 10) sc__law_web.nd rfl (Or.inl rfl) (pe_tup (pa_cons (pe_callB (cr_min2 rfl) (by rfl) A.z_min (by decide +kernel) (pa_cons (pe_ix ix_seq (pv 5) (pv 7) (fun _ _ => rfl)) (pa_cons (pe_ix ix_seq
    (pv 5) (pv 8) (fun _ _ => rfl)) pa_nil))) (pa_cons (pe_callB (cr_max2 rfl) (by rfl) A.z_max (by decide +kernel) (pa_cons (pe_ix ix_seq (pv 5) (pv 7) (fun _ _ => rfl)) (pa_cons (pe_ix ix_seq (pv 5) (pv 8) (fun _ _ => rfl))
    pa_nil))) pa_nil)))) (pss_one (ps_dput hu (pv 6) (pv 10) (pe_ifExp (PW.pt (pw_or (pt_cmpR (op_eqU hr.units) (pv 3) pe_int (nomark _)) (pw_or1 (pt_cmpR op_gtI (pe_g g__law_draw hG (hr.mono (by decide)) A.m__law_draw
    A.k__law_draw A.b__law_draw pass00 (pa_cons (pv 0) (pa_cons pe_int pa_nil))) pe_int (nomark _))))) pe_int (pe_op op_addU pe_int (pe_g g__law_draw hG (hr.mono (by decide)) A.m__law_draw A.k__law_draw A.b__law_draw pass00
    (pa_cons (pv 0) (pa_cons (pv 3) pa_nil))))) rfl)))) (pss_cons (ps_set (i := 11) sc__law_web.nd rfl (Or.inl rfl) (pe_callTy cr_tupOf (by rfl) A.z_tuple (by decide +kernel) (pa_cons (pe_callB (cr_sortDT rfl) (by rfl) A.z_sorted
    (by decide +kernel) (pa_cons (pv 6) pa_nil)) pa_nil))) (pss_one (ps_ret (pe_tup (pa_cons (pv 4) (pa_cons (pv 11) (pa_cons (pe_callTy cr_tupOf (by rfl) A.z_tuple (by decide +kernel) (pa_cons (pe_lc (own := [("road", 10)]) (g :=
    (gName 10)) (tt := tYes) (te := (tDGet (tVar 6) (tVar 10))) rfl sc__law_web.nd (pi_seq (pv 11)) (blkOk_by (N := N__law_web) (sc := defScope s__law_web) (by decide +kernel)) (fun _ _ _ _ _ => (pg_name (i := 10) sc__law_web.nd
    rfl (Or.inl rfl))) (fun _ _ _ _ _ => pts_nil) (fun _ _ _ _ _ => (pe_dget hu (pv 6) (pv 10) (fun _ _ => rfl)))) pa_nil)) pa_nil)))))))))), p__law_web h⟩
theorem g_middles_of (A : All K mg F) (hsm : Smb base) (g_road_counts : FnG P w K mg base 1 F.f_road_counts F.d_road_counts ["web"] (sp_road_counts K)) (g_steps_from : FnG P w K mg base 3 F.f_steps_from F.d_steps_from ["web", "place"] (sp_steps_from K)) : FnG P w K mg base 4 F.f_middles_of F.d_middles_of ["web"] (sp_middles_of K) := by
  refine Fun.okG A.h_middles_of sc_middles_of l_middles_of ?_
  intro cdv Ar o s H vs Q E hG hr h
  have hu := hu_of hr
  have h65 := h65_of hr
  have hp := passes_of (X := cxOf (L2.CX P w) P w K mg base N_middles_of "middles_of" (defScope s_middles_of) F.f_middles_of cdv Ar o s H E) rfl
  exact ⟨t_middles_of K, (pss_cons (ps_asg (pv 0) (pg_tup rfl (pgs_cons (pg_name (i := 1) sc_middles_of.nd rfl (Or.inl rfl)) (pgs_cons (pg_name (i := 2) sc_middles_of.nd rfl (Or.inl rfl)) (pgs_cons (pg_name (i := 3) sc_middles_of.nd rfl (Or.inl rfl))
    pgs_nil))))) (pss_cons (ps_if (PW.pt (pw_or (pt_cmpR (op_ltU hr.units0) (pv 1) pe_int (nomark _)) (pw_or1 (pt_cmpR (op_neU hr.units) (pe_callB cr_len (by rfl) A.z_len boot_len (pa_cons (pv 2) pa_nil)) (pe_op op_subI (pv 1)
    pe_int) (nomark _))))) (pss_one (ps_ret pe_non)) pss_nil) (pss_cons (ps_asg (pe_tup (pa_cons (pe_g g_steps_from hG (hr.mono (by decide)) A.m_steps_from A.k_steps_from A.b_steps_from pass00 (pa_cons (pv 0) (pa_cons pe_int
    pa_nil))) (pa_cons (pe_g g_road_counts hG (hr.mono (by decide)) A.m_road_counts A.k_road_counts A.b_road_counts pass00 (pa_cons (pv 0) pa_nil)) pa_nil))) (pg_tup rfl (pgs_cons (pg_name (i := 4) sc_middles_of.nd rfl (Or.inr
    rfl)) (pgs_cons (pg_name (i := 5) sc_middles_of.nd rfl (Or.inr rfl)) pgs_nil)))) (pss_cons (ps_for hp rfl (pi_seq (pe_tup (pa_cons pe_int (pa_cons pe_int pa_nil)))) (pg_name (i := 6) sc_middles_of.nd rfl (Or.inr rfl)) (pss_cons
    (ps_setLc (i := 7) (own := [("place", 8)]) (g := (gName 8)) (tt := (tTest (tOp (rEqU K) (tOp rModI (tOp (rIx K) (tVar 4) (tVar 8)) (tC (.int 2))) (tVar 6)))) (te := (tVar 8)) rfl sc_middles_of.nd rfl (by rfl) (sw_true (by rfl)
    (by rfl) (by rfl) (by decide +kernel)) (pi_range1 rfl A.z_range (pa_cons (pv 1) pa_nil)) (blkOk_by (N := N_middles_of) (sc := defScope s_middles_of) (by decide +kernel)) (fun _ _ _ _ _ => (pg_name (i := 8) sc_middles_of.nd rfl
    (Or.inl rfl))) (fun _ _ _ _ _ => (pts_one (pt_cmpR (op_eqU hr.units) (pe_op op_modI (pe_ix ix_seq (pv 4) (pv 8) (fun _ _ => rfl)) pe_int) (pv 6) (nomark _)))) (fun _ _ _ _ _ => (pv 8))) (pss_one (ps_if (pt_val (pe_callB (cr_all
    rfl) (by rfl) A.z_all (by decide +kernel) (pa_cons (pe_lc (own := [("place", 8)]) (g := (gName 8)) (tt := tYes) (te := (tOp (rEqU K) (tOp (rIx K) (tVar 5) (tVar 8)) (tC (.int 2)))) rfl sc_middles_of.nd (pi_seq (pv 7)) (blkOk_by
    (N := N_middles_of) (sc := defScope s_middles_of) (by decide +kernel)) (fun _ _ _ _ _ => (pg_name (i := 8) sc_middles_of.nd rfl (Or.inl rfl))) (fun _ _ _ _ _ => pts_nil) (fun _ _ _ _ _ => (pe_cmpR (op_eqU hr.units) (pe_ix
    ix_seq (pv 5) (pv 8) (fun _ _ => rfl)) pe_int (nomark _)))) pa_nil))) (pss_one (ps_ret (pv 7))) pss_nil)))) (pss_one (ps_ret pe_non)))))), p_middles_of h⟩
theorem g_elder_tree (A : All K mg F) (hsm : Smb base) (g__Unfit : FnOk P w K mg base (L2.CX P w) 1 F.f__Unfit F.d__Unfit ["self"] (sp_bare K)) (g_roads_at : FnG P w K mg base 1 F.f_roads_at F.d_roads_at ["web", "place"] (sp_roads_at K)) (g_middles_of : FnG P w K mg base 4 F.f_middles_of F.d_middles_of ["web"] (sp_middles_of K)) : FnG P w K mg base 5 F.f_elder_tree F.d_elder_tree ["web"] (sp_elder_tree K F.cl) := by
  refine Fun.okG A.h_elder_tree sc_elder_tree l_elder_tree ?_
  intro cdv Ar o s H vs Q E hG hr h
  have hu := hu_of hr
  have h65 := h65_of hr
  have hp := passes_of (X := cxOf (L2.CX P w) P w K mg base N_elder_tree "elder_tree" (defScope s_elder_tree) F.f_elder_tree cdv Ar o s H E) rfl
  have tk : Takes (cxOf (L2.CX P w) P w K mg base N_elder_tree "elder_tree" (defScope s_elder_tree) F.f_elder_tree cdv Ar o s H E) (fun c d _ H => E c d H) := takes_of rfl rfl rfl rfl
  exact ⟨t_elder_tree K F.cl (fun c d _ H => E c d H), (pss_cons (ps_set (i := 1) sc_elder_tree.nd rfl (Or.inr rfl) (pe_g g_middles_of hG (hr.mono (by decide)) A.m_middles_of A.k_middles_of A.b_middles_of pass00 (pa_cons (pv 0) pa_nil))) (pss_cons (ps_if (pt_cmpR op_isN1 (pv 1) pe_non
    (nomark _)) (pss_one (ps_raise rfl tk (pmk_bare A.o_Unfit A.i_Unfit A.t_Unfit g__Unfit (hr.mono (by decide)) A.b_Unfit passL A.m_Unfit))) pss_nil) (pss_cons (ps_set (i := 2) sc_elder_tree.nd rfl (Or.inl rfl) (pe_lst pa_nil))
    (pss_cons (ps_for hp rfl (pi_seq (pv 1)) (pg_name (i := 3) sc_elder_tree.nd rfl (Or.inl rfl)) (pss_cons (ps_asg (pe_lc (own := [("mate", 6), ("road", 7)]) (g := (gTup K 2 (gCons (gName 6) (gCons (gName 7) gNil)))) (tt := tYes)
    (te := (tVar 6)) rfl sc_elder_tree.nd (pi_seq (pe_g g_roads_at hG (hr.mono (by decide)) A.m_roads_at A.k_roads_at A.b_roads_at pass00 (pa_cons (pv 0) (pa_cons (pv 3) pa_nil)))) (blkOk_by (N := N_elder_tree) (sc := defScope
    s_elder_tree) (by decide +kernel)) (fun _ _ _ _ _ => (pg_tup rfl (pgs_cons (pg_name (i := 6) sc_elder_tree.nd rfl (Or.inl rfl)) (pgs_cons (pg_name (i := 7) sc_elder_tree.nd rfl (Or.inl rfl)) pgs_nil)))) (fun _ _ _ _ _ =>
    pts_nil) (fun _ _ _ _ _ => (pv 6))) (pg_lst rfl (pgs_cons (pg_name (i := 4) sc_elder_tree.nd rfl (Or.inl rfl)) (pgs_cons (pg_name (i := 5) sc_elder_tree.nd rfl (Or.inl rfl)) pgs_nil)))) (pss_one (ps_expr (pe_bm
    PySem.F.plainAttrs_list PySem.F.slot_list_append PySem.F.type_list_append mt_append (pv 2) (pa_cons (pe_tup (pa_cons (pv 4) (pa_cons (pv 5) (pa_cons (pv 3) pa_nil)))) pa_nil)))))) (pss_one (ps_ret (pe_tup (pa_cons (pe_callTy
    cr_tupOf (by rfl) A.z_tuple (by decide +kernel) (pa_cons (pe_lc (own := [("place", 8)]) (g := (gName 8)) (tt := (tTest (tOp (rNiU K) (tVar 8) (tVar 1)))) (te := (tVar 8)) rfl sc_elder_tree.nd (pi_range1 rfl A.z_range (pa_cons
    (pe_ix ix_seq (pv 0) pe_int (fun _ _ => rfl)) pa_nil)) (blkOk_by (N := N_elder_tree) (sc := defScope s_elder_tree) (by decide +kernel)) (fun _ _ _ _ _ => (pg_name (i := 8) sc_elder_tree.nd rfl (Or.inl rfl))) (fun _ _ _ _ _ =>
    (pts_one (pt_cmpR (op_niU h65) (pv 8) (pv 1) rfl))) (fun _ _ _ _ _ => (pv 8))) pa_nil)) (pa_cons (pe_callTy cr_tupOf (by rfl) A.z_tuple (by decide +kernel) (pa_cons (pe_callB (cr_sortT (d := 3) (B := 64) (by decide)) (by rfl)
    A.z_sorted (by decide +kernel) (pa_cons (pv 2) pa_nil)) pa_nil)) pa_nil))))))))), p_elder_tree A.x_Unfit h⟩
theorem g__law_told (A : All K mg F) (hsm : Smb base) (g__Unfit : FnOk P w K mg base (L2.CX P w) 1 F.f__Unfit F.d__Unfit ["self"] (sp_bare K)) (g_elder_tree : FnG P w K mg base 5 F.f_elder_tree F.d_elder_tree ["web"] (sp_elder_tree K F.cl)) : FnG P w K mg base 6 F.f__law_told F.d__law_told ["web", "is_named"] (sp__law_told K F.cl) := by
  refine Fun.okG A.h__law_told sc__law_told l__law_told ?_
  intro cdv Ar o s H vs Q E hG hr h
  have hu := hu_of hr
  have h65 := h65_of hr
  have tk : Takes (cxOf (L2.CX P w) P w K mg base N__law_told "_law_told" (defScope s__law_told) F.f__law_told cdv Ar o s H E) (fun c d _ H => E c d H) := takes_of rfl rfl rfl rfl
  exact ⟨t__law_told K F.cl (fun c d _ H => E c d H), (pss_one (ps_try_as (i := 2) (tb := fun W1 => (tRet (tIf (tB (tVar 1)) (tKw (sp_elder_tree K F.cl) 1 g_kb_elder_tree_web (WE W1) (tCons (tVar 0) tNil)) (tG (sp_elder_tree K F.cl) (WE W1) (tCons (tVar 0) tNil))))) (ts := fun a cls
    dd => (tRet (tIf (tB (tCB (rIsX K cls dd a) (tCons (tVar 2) (tCons (tC (.ref F.cl.UnevenError)) tNil)))) (tC .non) (tC (.str "odd"))))) (Wout := (fun c d _ H => E c d H)) rfl rfl sc__law_told.nd rfl (by rfl) ⟨by rfl, by decide,
    Or.inl A.m_Unfit⟩ tk (fun W1 pn xe tk1 hp1 => (pss_one (ps_ret (pe_ifExp (pt_val (pv 1)) (pe_gk g_elder_tree hG (hr.mono (by decide)) A.m_elder_tree A.k_elder_tree (kb_elder_tree_web A) (fun σ => passAt tk1 σ) (pk_cons (pv 0)
    pk_nil)) (pe_g g_elder_tree hG (hr.mono (by decide)) A.m_elder_tree A.k_elder_tree A.b_elder_tree (fun σ => passAt tk1 σ) (pa_cons (pv 0) pa_nil)))))) (fun a oe cls dd pn hz hf => (pss_one (ps_ret (pe_ifExp (pt_val (pe_callB
    (call_isX hz hf) (by rfl) A.z_isinstance (by decide +kernel) (pa_cons (pv 2) (pa_cons (pe_glob (by rfl) A.m_UnevenError rfl) pa_nil)))) pe_non pe_str)))))), p__law_told A.x_Unfit h⟩
theorem g__law_is_told (A : All K mg F) (hsm : Smb base) (g__Unfit : FnOk P w K mg base (L2.CX P w) 1 F.f__Unfit F.d__Unfit ["self"] (sp_bare K)) (g__law_elder : FnG P w K mg base 2 F.f__law_elder F.d__law_elder ["web"] (sp__law_elder K)) (g__law_told : FnG P w K mg base 6 F.f__law_told F.d__law_told ["web", "is_named"] (sp__law_told K F.cl)) : FnG P w K mg base 7 F.f__law_is_told F.d__law_is_told ["web", "is_named"] (sp__law_is_told K F.cl) := by
  refine Fun.okG A.h__law_is_told sc__law_is_told l__law_is_told ?_
  intro cdv Ar o s H vs Q E hG hr h
  have hu := hu_of hr
  have h65 := h65_of hr
  have tk : Takes (cxOf (L2.CX P w) P w K mg base N__law_is_told "_law_is_told" (defScope s__law_is_told) F.f__law_is_told cdv Ar o s H E) (fun c d _ H => E c d H) := takes_of rfl rfl rfl rfl
  exact ⟨t__law_is_told K F.cl (fun c d _ H => E c d H), (pss_cons (ps_parU (i := 2) (j := 3) rfl sc__law_is_told.nd rfl rfl (by decide) (Or.inl rfl) (Or.inl rfl) (pa_cons (pe_callB (call_reprU hG hr.units hsm) (by rfl) A.z_repr (by decide +kernel) (pa_cons (pe_g g__law_elder hG (hr.mono
    (by decide)) A.m__law_elder A.k__law_elder A.b__law_elder pass00 (pa_cons (pv 0) pa_nil)) pa_nil)) (pa_cons (pe_callB (call_reprU hG hr.units hsm) (by rfl) A.z_repr (by decide +kernel) (pa_cons (pv 0) pa_nil)) pa_nil)) (by
    rfl)) (pss_one (ps_ret (pe_and (pe_cmpR (op_eqU hr.units) (pe_callB (call_reprU hG hr.units hsm) (by rfl) A.z_repr (by decide +kernel) (pa_cons (pe_g g__law_told hG (hr.mono (by decide)) A.m__law_told A.k__law_told
    A.b__law_told (fun σ => passAt tk σ) (pa_cons (pv 0) (pa_cons (pv 1) pa_nil))) pa_nil)) (pv 2) (nomark _)) (pe_one (pe_cmpR (op_eqU hr.units) (pe_callB (call_reprU hG hr.units hsm) (by rfl) A.z_repr (by decide +kernel) (pa_cons
    (pv 0) pa_nil)) (pv 3) (nomark _))))))), p__law_is_told h⟩
theorem g_law (A : All K mg F) (hsm : Smb base) (g__Unfit : FnOk P w K mg base (L2.CX P w) 1 F.f__Unfit F.d__Unfit ["self"] (sp_bare K)) (g__law_urn : FnG P w K mg base 1 F.f__law_urn F.d__law_urn ["script"] (sp__law_urn K)) (g__law_grown : FnG P w K mg base 2 F.f__law_grown F.d__law_grown ["urn", "web"] (sp__law_grown K)) (g__law_pick : FnG P w K mg base 2 F.f__law_pick F.d__law_pick ["urn", "items"] (sp__law_pick K)) (g__law_web : FnG P w K mg base 3 F.f__law_web F.d__law_web ["urn", "kind", "size", "most"] (sp__law_web K)) (g__law_is_told : FnG P w K mg base 7 F.f__law_is_told F.d__law_is_told ["web", "is_named"] (sp__law_is_told K F.cl)) : FnG P w K mg base 8 F.f_law F.d_law ["script"] (sp_law K) := by
  refine Fun.okG A.h_law sc_law l_law ?_
  intro cdv Ar o s H vs Q E hG hr h
  have hu := hu_of hr
  have h65 := h65_of hr
  have hp := passes_of (X := cxOf (L2.CX P w) P w K mg base N_law "law" (defScope s_law) F.f_law cdv Ar o s H E) rfl
  have tk : Takes (cxOf (L2.CX P w) P w K mg base N_law "law" (defScope s_law) F.f_law cdv Ar o s H E) (fun c d _ H => E c d H) := takes_of rfl rfl rfl rfl
  exact ⟨t_law K F.cl (fun c d _ H => E c d H), (pss_cons (ps_set (i := 1) sc_law.nd rfl (Or.inl rfl) (pe_g g__law_urn hG (hr.mono (by decide)) A.m__law_urn A.k__law_urn A.b__law_urn pass00 (pa_cons (pv 0) pa_nil))) (pss_cons (ps_for hp rfl (pi_enumV A.z_enumerate (pa_cons
    (pe_lst (pa_cons pe_str (pa_cons pe_str (pa_cons pe_str (pa_cons pe_str (pa_cons pe_str (pa_cons pe_str (pa_cons pe_str (pa_cons pe_str (pa_cons pe_str pa_nil)))))))))) pa_nil)) (pg_tup rfl (pgs_cons (pg_name (i := 2) sc_law.nd
    rfl (Or.inl rfl)) (pgs_cons (pg_name (i := 3) sc_law.nd rfl (Or.inl rfl)) pgs_nil))) (pss_cons (ps_set (i := 4) sc_law.nd rfl (Or.inl rfl) (pe_g g__law_web hG (hr.mono (by decide)) A.m__law_web A.k__law_web A.b__law_web pass00
    (pa_cons (pv 1) (pa_cons (pv 3) (pa_cons (pe_g g__law_pick hG (hr.mono (by decide)) A.m__law_pick A.k__law_pick A.b__law_pick pass00 (pa_cons (pv 1) (pa_cons (pe_lst (pa_cons pe_int (pa_cons pe_int (pa_cons pe_int (pa_cons
    pe_int (pa_cons pe_int (pa_cons pe_int pa_nil))))))) pa_nil))) (pa_cons (pe_g g__law_pick hG (hr.mono (by decide)) A.m__law_pick A.k__law_pick A.b__law_pick pass00 (pa_cons (pv 1) (pa_cons (pe_lst (pa_cons pe_int (pa_cons
    pe_int (pa_cons pe_int pa_nil)))) pa_nil))) pa_nil)))))) (pss_one (ps_if (PW.pt (pw_or (pt_not (pt_val (pe_g g__law_is_told hG (hr.mono (by decide)) A.m__law_is_told A.k__law_is_told A.b__law_is_told (fun σ => passAt tk σ)
    (pa_cons (pv 4) (pa_cons (pe_cmpR (op_eqU hr.units) (pv 2) pe_int (nomark _)) pa_nil))))) (pw_or1 (pt_not (pt_val (pe_g g__law_is_told hG (hr.mono (by decide)) A.m__law_is_told A.k__law_is_told A.b__law_is_told (fun σ => passAt
    tk σ) (pa_cons (pe_g g__law_grown hG (hr.mono (by decide)) A.m__law_grown A.k__law_grown A.b__law_grown pass00 (pa_cons (pv 1) (pa_cons (pv 4) pa_nil))) (pa_cons pe_bl pa_nil)))))))) (pss_one (ps_ret pe_bl)) pss_nil))))
    (pss_cons (ps_set (i := 4) sc_law.nd rfl (Or.inl rfl) (pe_g g__law_web hG (hr.mono (by decide)) A.m__law_web A.k__law_web A.b__law_web pass00 (pa_cons (pv 1) (pa_cons (pe_g g__law_pick hG (hr.mono (by decide)) A.m__law_pick
    A.k__law_pick A.b__law_pick pass00 (pa_cons (pv 1) (pa_cons (pe_lst (pa_cons pe_str (pa_cons pe_str (pa_cons pe_str pa_nil)))) pa_nil))) (pa_cons (pe_g g__law_pick hG (hr.mono (by decide)) A.m__law_pick A.k__law_pick
    A.b__law_pick pass00 (pa_cons (pv 1) (pa_cons (pe_lst (pa_cons pe_int (pa_cons pe_int (pa_cons pe_int pa_nil)))) pa_nil))) (pa_cons pe_int pa_nil)))))) (pss_cons (ps_if (PW.pt (pw_or (pt_not (pt_val (pe_g g__law_is_told hG
    (hr.mono (by decide)) A.m__law_is_told A.k__law_is_told A.b__law_is_told (fun σ => passAt tk σ) (pa_cons (pv 4) (pa_cons pe_bl pa_nil))))) (pw_or1 (pt_not (pt_val (pe_g g__law_is_told hG (hr.mono (by decide)) A.m__law_is_told
    A.k__law_is_told A.b__law_is_told (fun σ => passAt tk σ) (pa_cons (pe_g g__law_grown hG (hr.mono (by decide)) A.m__law_grown A.k__law_grown A.b__law_grown pass00 (pa_cons (pv 1) (pa_cons (pv 4) pa_nil))) (pa_cons pe_bl
    pa_nil)))))))) (pss_one (ps_ret pe_bl)) pss_nil) (pss_one (ps_ret (pe_g g__law_is_told hG (hr.mono (by decide)) A.m__law_is_told A.k__law_is_told A.b__law_is_told (fun σ => passAt tk σ) (pa_cons (pe_tup (pa_cons pe_int (pa_cons
    (pe_tup (pa_cons (pe_tup (pa_cons pe_int (pa_cons pe_int pa_nil))) pa_nil)) (pa_cons (pe_tup (pa_cons pe_int pa_nil)) pa_nil)))) (pa_cons pe_bl pa_nil))))))))), p_law h⟩
end UW.Un.D21
namespace UW.Un.D21
open PySem PySem.Spec PyProof.Rows L2 UW
theorem run_all {P : Program} {w : World} {K : Fg} {mg : Str → Option Value} {base : Heap} {F : Fs} (A : All K mg F) (hsm : Smb base) : FnG P w K mg base 8 F.f_law F.d_law ["script"] (sp_law K) := by
  have q__Unfit := g__Unfit (P := P) (w := w) (base := base) A
  have q_roads_at := g_roads_at (P := P) (w := w) (base := base) A hsm
  have q_road_counts := g_road_counts (P := P) (w := w) (base := base) A hsm
  have q__law_urn := g__law_urn (P := P) (w := w) (base := base) A hsm
  have q__law_draw := g__law_draw (P := P) (w := w) (base := base) A hsm
  have q__law_degrees := g__law_degrees (P := P) (w := w) (base := base) A hsm
  have q__law_steps := g__law_steps (P := P) (w := w) (base := base) A hsm
  have q_steps_known := g_steps_known (P := P) (w := w) (base := base) A hsm q_roads_at
  have q__law_pick := g__law_pick (P := P) (w := w) (base := base) A hsm q__law_draw
  have q__law_mixed := g__law_mixed (P := P) (w := w) (base := base) A hsm q__law_draw
  have q__law_shape := g__law_shape (P := P) (w := w) (base := base) A hsm q__law_draw
  have q__law_elder := g__law_elder (P := P) (w := w) (base := base) A hsm q__law_degrees q__law_steps
  have q__law_grown := g__law_grown (P := P) (w := w) (base := base) A hsm q__law_draw
  have q_steps_from := g_steps_from (P := P) (w := w) (base := base) A hsm q_steps_known
  have q__law_web := g__law_web (P := P) (w := w) (base := base) A hsm q__law_draw q__law_mixed q__law_shape
  have q_middles_of := g_middles_of (P := P) (w := w) (base := base) A hsm q_road_counts q_steps_from
  have q_elder_tree := g_elder_tree (P := P) (w := w) (base := base) A hsm q__Unfit q_roads_at q_middles_of
  have q__law_told := g__law_told (P := P) (w := w) (base := base) A hsm q__Unfit q_elder_tree
  have q__law_is_told := g__law_is_told (P := P) (w := w) (base := base) A hsm q__Unfit q__law_elder q__law_told
  exact g_law (P := P) (w := w) (base := base) A hsm q__Unfit q__law_urn q__law_grown q__law_pick q__law_web q__law_is_told
theorem all_mk {l : PySem.W.OpenLaw} {w : World} {K : Fg} {h : Heap} {mg : Str → Option Value} {fa : Addr} (X : K.In h) (G : h.Ns mainGlobals mg) (hfa : mg "law" = some (.ref fa))
    {f1 f2 f3 f4 f5 f6 f7 f8 f9 f10 f11 f12 f13 f14 f15 f16 f17 f18 f19 f20 : Addr} {od1 an1 od2 an2 od3 an3 od4 an4 od5 an5 od6 an6 od7 an7 od8 an8 od9 an9 od10 an10 od11 an11 od12 an12 od13 an13 od14 an14 od15 an15 od16 an16 od17 an17 od18 an18 od19 an19 od20 an20 : Option Addr} {sl1 sl2 sl3 sl4 sl5 sl6 sl7 sl8 sl9 sl10 sl11 sl12 sl13 sl14 sl15 sl16 sl17 sl18 sl19 sl20 : Array (Option Value)} {oc1 kV1 dc1 pm1 cd1 ct1 oc2 kV2 dc2 pm2 cd2 ct2 oc3 kV3 dc3 pm3 cd3 ct3 oc4 kV4 dc4 pm4 cd4 ct4 oc5 kV5 dc5 pm5 cd5 ct5 oc6 kV6 dc6 pm6 cd6 ct6 oc7 kV7 dc7 pm7 cd7 ct7 oc8 kV8 dc8 pm8 cd8 ct8 oc9 kV9 dc9 pm9 cd9 ct9 oc10 kV10 dc10 pm10 cd10 ct10 oc11 kV11 dc11 pm11 cd11 ct11 oc12 kV12 dc12 pm12 cd12 ct12 oc13 kV13 dc13 pm13 cd13 ct13 oc14 kV14 dc14 pm14 cd14 ct14 oc15 kV15 dc15 pm15 cd15 ct15 oc16 kV16 dc16 pm16 cd16 ct16 oc17 kV17 dc17 pm17 cd17 ct17 oc18 kV18 dc18 pm18 cd18 ct18 oc19 kV19 dc19 pm19 cd19 ct19 oc20 kV20 dc20 pm20 cd20 ct20 : Value}
    (a1 : PySem.W.nsIn K mainGlobals "roads_at" = some (some (.ref f1)))
    (l1 : K.lookup f1 = some ⟨oc1, od1, .func (PySem.W.fnOf "roads_at" "roads_at" (defArgs s_roads_at) (defBody s_roads_at) (defScope s_roads_at) .none kV1 dc1 pm1 an1 cd1 ct1), sl1⟩)
    (c1 : PySem.W.codeIn K cd1 "roads_at" = true)
    (k1 : PySem.W.keepIn K (.ref f1) = true)
    (a2 : PySem.W.nsIn K mainGlobals "steps_known" = some (some (.ref f2)))
    (l2 : K.lookup f2 = some ⟨oc2, od2, .func (PySem.W.fnOf "steps_known" "steps_known" (defArgs s_steps_known) (defBody s_steps_known) (defScope s_steps_known) .none kV2 dc2 pm2 an2 cd2 ct2), sl2⟩)
    (c2 : PySem.W.codeIn K cd2 "steps_known" = true)
    (k2 : PySem.W.keepIn K (.ref f2) = true)
    (a3 : PySem.W.nsIn K mainGlobals "steps_from" = some (some (.ref f3)))
    (l3 : K.lookup f3 = some ⟨oc3, od3, .func (PySem.W.fnOf "steps_from" "steps_from" (defArgs s_steps_from) (defBody s_steps_from) (defScope s_steps_from) .none kV3 dc3 pm3 an3 cd3 ct3), sl3⟩)
    (c3 : PySem.W.codeIn K cd3 "steps_from" = true)
    (k3 : PySem.W.keepIn K (.ref f3) = true)
    (a4 : PySem.W.nsIn K mainGlobals "road_counts" = some (some (.ref f4)))
    (l4 : K.lookup f4 = some ⟨oc4, od4, .func (PySem.W.fnOf "road_counts" "road_counts" (defArgs s_road_counts) (defBody s_road_counts) (defScope s_road_counts) .none kV4 dc4 pm4 an4 cd4 ct4), sl4⟩)
    (c4 : PySem.W.codeIn K cd4 "road_counts" = true)
    (k4 : PySem.W.keepIn K (.ref f4) = true)
    (a5 : PySem.W.nsIn K mainGlobals "middles_of" = some (some (.ref f5)))
    (l5 : K.lookup f5 = some ⟨oc5, od5, .func (PySem.W.fnOf "middles_of" "middles_of" (defArgs s_middles_of) (defBody s_middles_of) (defScope s_middles_of) .none kV5 dc5 pm5 an5 cd5 ct5), sl5⟩)
    (c5 : PySem.W.codeIn K cd5 "middles_of" = true)
    (k5 : PySem.W.keepIn K (.ref f5) = true)
    (a6 : PySem.W.nsIn K mainGlobals "elder_tree" = some (some (.ref f6)))
    (l6 : K.lookup f6 = some ⟨oc6, od6, .func (PySem.W.fnOf "elder_tree" "elder_tree" (defArgs s_elder_tree) (defBody s_elder_tree) (defScope s_elder_tree) .none kV6 dc6 pm6 an6 cd6 ct6), sl6⟩)
    (c6 : PySem.W.codeIn K cd6 "elder_tree" = true)
    (k6 : PySem.W.keepIn K (.ref f6) = true)
    (a7 : PySem.W.nsIn K mainGlobals "_law_urn" = some (some (.ref f7)))
    (l7 : K.lookup f7 = some ⟨oc7, od7, .func (PySem.W.fnOf "_law_urn" "_law_urn" (defArgs s__law_urn) (defBody s__law_urn) (defScope s__law_urn) .none kV7 dc7 pm7 an7 cd7 ct7), sl7⟩)
    (c7 : PySem.W.codeIn K cd7 "_law_urn" = true)
    (k7 : PySem.W.keepIn K (.ref f7) = true)
    (a8 : PySem.W.nsIn K mainGlobals "_law_draw" = some (some (.ref f8)))
    (l8 : K.lookup f8 = some ⟨oc8, od8, .func (PySem.W.fnOf "_law_draw" "_law_draw" (defArgs s__law_draw) (defBody s__law_draw) (defScope s__law_draw) .none kV8 dc8 pm8 an8 cd8 ct8), sl8⟩)
    (c8 : PySem.W.codeIn K cd8 "_law_draw" = true)
    (k8 : PySem.W.keepIn K (.ref f8) = true)
    (a9 : PySem.W.nsIn K mainGlobals "_law_pick" = some (some (.ref f9)))
    (l9 : K.lookup f9 = some ⟨oc9, od9, .func (PySem.W.fnOf "_law_pick" "_law_pick" (defArgs s__law_pick) (defBody s__law_pick) (defScope s__law_pick) .none kV9 dc9 pm9 an9 cd9 ct9), sl9⟩)
    (c9 : PySem.W.codeIn K cd9 "_law_pick" = true)
    (k9 : PySem.W.keepIn K (.ref f9) = true)
    (a10 : PySem.W.nsIn K mainGlobals "_law_mixed" = some (some (.ref f10)))
    (l10 : K.lookup f10 = some ⟨oc10, od10, .func (PySem.W.fnOf "_law_mixed" "_law_mixed" (defArgs s__law_mixed) (defBody s__law_mixed) (defScope s__law_mixed) .none kV10 dc10 pm10 an10 cd10 ct10), sl10⟩)
    (c10 : PySem.W.codeIn K cd10 "_law_mixed" = true)
    (k10 : PySem.W.keepIn K (.ref f10) = true)
    (a11 : PySem.W.nsIn K mainGlobals "_law_shape" = some (some (.ref f11)))
    (l11 : K.lookup f11 = some ⟨oc11, od11, .func (PySem.W.fnOf "_law_shape" "_law_shape" (defArgs s__law_shape) (defBody s__law_shape) (defScope s__law_shape) .none kV11 dc11 pm11 an11 cd11 ct11), sl11⟩)
    (c11 : PySem.W.codeIn K cd11 "_law_shape" = true)
    (k11 : PySem.W.keepIn K (.ref f11) = true)
    (a12 : PySem.W.nsIn K mainGlobals "_law_web" = some (some (.ref f12)))
    (l12 : K.lookup f12 = some ⟨oc12, od12, .func (PySem.W.fnOf "_law_web" "_law_web" (defArgs s__law_web) (defBody s__law_web) (defScope s__law_web) .none kV12 dc12 pm12 an12 cd12 ct12), sl12⟩)
    (c12 : PySem.W.codeIn K cd12 "_law_web" = true)
    (k12 : PySem.W.keepIn K (.ref f12) = true)
    (a13 : PySem.W.nsIn K mainGlobals "_law_degrees" = some (some (.ref f13)))
    (l13 : K.lookup f13 = some ⟨oc13, od13, .func (PySem.W.fnOf "_law_degrees" "_law_degrees" (defArgs s__law_degrees) (defBody s__law_degrees) (defScope s__law_degrees) .none kV13 dc13 pm13 an13 cd13 ct13), sl13⟩)
    (c13 : PySem.W.codeIn K cd13 "_law_degrees" = true)
    (k13 : PySem.W.keepIn K (.ref f13) = true)
    (a14 : PySem.W.nsIn K mainGlobals "_law_steps" = some (some (.ref f14)))
    (l14 : K.lookup f14 = some ⟨oc14, od14, .func (PySem.W.fnOf "_law_steps" "_law_steps" (defArgs s__law_steps) (defBody s__law_steps) (defScope s__law_steps) .none kV14 dc14 pm14 an14 cd14 ct14), sl14⟩)
    (c14 : PySem.W.codeIn K cd14 "_law_steps" = true)
    (k14 : PySem.W.keepIn K (.ref f14) = true)
    (a15 : PySem.W.nsIn K mainGlobals "_law_elder" = some (some (.ref f15)))
    (l15 : K.lookup f15 = some ⟨oc15, od15, .func (PySem.W.fnOf "_law_elder" "_law_elder" (defArgs s__law_elder) (defBody s__law_elder) (defScope s__law_elder) .none kV15 dc15 pm15 an15 cd15 ct15), sl15⟩)
    (c15 : PySem.W.codeIn K cd15 "_law_elder" = true)
    (k15 : PySem.W.keepIn K (.ref f15) = true)
    (a16 : PySem.W.nsIn K mainGlobals "_law_told" = some (some (.ref f16)))
    (l16 : K.lookup f16 = some ⟨oc16, od16, .func (PySem.W.fnOf "_law_told" "_law_told" (defArgs s__law_told) (defBody s__law_told) (defScope s__law_told) .none kV16 dc16 pm16 an16 cd16 ct16), sl16⟩)
    (c16 : PySem.W.codeIn K cd16 "_law_told" = true)
    (k16 : PySem.W.keepIn K (.ref f16) = true)
    (a17 : PySem.W.nsIn K mainGlobals "_law_grown" = some (some (.ref f17)))
    (l17 : K.lookup f17 = some ⟨oc17, od17, .func (PySem.W.fnOf "_law_grown" "_law_grown" (defArgs s__law_grown) (defBody s__law_grown) (defScope s__law_grown) .none kV17 dc17 pm17 an17 cd17 ct17), sl17⟩)
    (c17 : PySem.W.codeIn K cd17 "_law_grown" = true)
    (k17 : PySem.W.keepIn K (.ref f17) = true)
    (a18 : PySem.W.nsIn K mainGlobals "_law_is_told" = some (some (.ref f18)))
    (l18 : K.lookup f18 = some ⟨oc18, od18, .func (PySem.W.fnOf "_law_is_told" "_law_is_told" (defArgs s__law_is_told) (defBody s__law_is_told) (defScope s__law_is_told) .none kV18 dc18 pm18 an18 cd18 ct18), sl18⟩)
    (c18 : PySem.W.codeIn K cd18 "_law_is_told" = true)
    (k18 : PySem.W.keepIn K (.ref f18) = true)
    (a19 : PySem.W.nsIn K mainGlobals "law" = some (some (.ref f19)))
    (l19 : K.lookup f19 = some ⟨oc19, od19, .func (PySem.W.fnOf "law" "law" (defArgs s_law) (defBody s_law) (defScope s_law) .none kV19 dc19 pm19 an19 cd19 ct19), sl19⟩)
    (c19 : PySem.W.codeIn K cd19 "law" = true)
    (k19 : PySem.W.keepIn K (.ref f19) = true)
    {C0 : Addr}
    (aU : PySem.W.nsIn K mainGlobals "UnevenError" = some (some (.ref C0)))
    (sU : PySem.W.specialIn K (.ref C0) "__getattribute__" = some (some (.builtin "type.__getattribute__")))
    (tU : PySem.W.typeIn K (.ref C0) = some (.type "type"))
    (rU : PySem.W.readsIn K C0 (.type "type") = true)
    (fU : PySem.W.findCls K (.ref C0) (.type "type") "__init__" = some (.val (.builtin "ValueError.__init__")))
    {C20 N20 : Addr} {nm20 q20 : Str} {bs20 : List Value} {sn20 : List Str} {sub20 : List Value} {ab20 : Bool} {col20 : Option Bool} {dd20 : Option Addr} {w20 x20 y20 z20 v20 : Option Value}
    (b20 : PySem.W.nsIn K mainGlobals "Unfit" = some (some (.ref C20)))
    (e20 : K.lookup C20 = some (excClassObj nm20 q20 C20 N20 bs20 [.ref C0, .type "ValueError", .type "Exception", .type "BaseException", .type "object"] true sn20 sub20 ab20 col20 dd20 w20 x20 y20 z20 v20 "ValueError.__new__"))
    (sa20 : PySem.W.findIn K (.ref C20) "__setattr__" = some (some (.builtin "object.__setattr__")))
    (ga20 : PySem.W.findIn K (.ref C20) "__getattribute__" = some (some (.builtin "BaseException.__getattribute__")))
    (gg20 : PySem.W.findIn K (.ref C20) "__getattr__" = some none)
    (i20 : PySem.W.findIn K (.ref C20) "__init__" = some (some (.ref f20)))
    (ti20 : PySem.W.typeIn K (.ref f20) = some (.type "function"))
    (l20 : K.lookup f20 = some ⟨oc20, od20, .func (PySem.W.fnOf "__init__" "Unfit.__init__" (defArgs s__Unfit) (defBody s__Unfit) (defScope s__Unfit) .none kV20 dc20 pm20 an20 cd20 ct20), sl20⟩)
    (c20 : PySem.W.codeIn K cd20 "Unfit.__init__" = true)
    (k20 : PySem.W.keepIn K (.ref f20) = true)
    (kc20 : PySem.W.keepIn K (.ref C20) = true)
    (ec20 : PySem.W.subIn K (.ref C20) (.type "BaseException") = some true)
    (tc20 : PySem.W.typeIn K (.ref C20) = some (.type "type"))
    (hc20 : PySem.W.hasDictIn K C20 = true)
    (sc20 : PySem.W.subIn K (.ref C20) (.ref C20) = some true)
    (ha20 : PySem.W.findIn K (.ref C20) "__class__" = some (some (.builtin "object.__class__")))
    (hn20 : PySem.W.specialIn K (.builtin "object.__class__") "__get__" = some (some (.builtin "getset_descriptor.__get__")))
    (ht20 : PySem.W.takesIn K (.builtin "object.__class__") = some true)
    (hm20 : PySem.W.mroIn K C20 (.type "object") = some true)
    (qk20 : PySem.W.kitOne K (.ref C20) (.ref C0) = some true)
    (z_all : PySem.W.nsIn K mainGlobals "all" = some none)
    (z_enumerate : PySem.W.nsIn K mainGlobals "enumerate" = some none)
    (z_int : PySem.W.nsIn K mainGlobals "int" = some none)
    (z_isinstance : PySem.W.nsIn K mainGlobals "isinstance" = some none)
    (z_len : PySem.W.nsIn K mainGlobals "len" = some none)
    (z_list : PySem.W.nsIn K mainGlobals "list" = some none)
    (z_max : PySem.W.nsIn K mainGlobals "max" = some none)
    (z_min : PySem.W.nsIn K mainGlobals "min" = some none)
    (z_range : PySem.W.nsIn K mainGlobals "range" = some none)
    (z_repr : PySem.W.nsIn K mainGlobals "repr" = some none)
    (z_sorted : PySem.W.nsIn K mainGlobals "sorted" = some none)
    (z_tuple : PySem.W.nsIn K mainGlobals "tuple" = some none)
    (z_zip : PySem.W.nsIn K mainGlobals "zip" = some none)
    : ∃ (fd : FuncData) (sp : Sp), (∀ (s : Shared) (v : Value), BindsTo s fd ⟨[v], []⟩ [("script", v)]) ∧ (∀ base : Heap, K.In base → base.Ns mainGlobals mg → Smb base → FnG l.prog w K mg base 8 fa fd ["script"] sp) ∧
      ∀ (H : Hp) (a : Addr) (ns : List Int), ns.length ≤ 63 → SqL K H a (ns.map V.int) → sp [.ref a] H (fun v _ => v = .bl true) fun _ _ _ => False := by
  have e := hfa.symm.trans (PySem.W.mg_of X G a19)
  cases e
  have F1 := fun_mk (st := s_roads_at) l1 c1 k1
  have F2 := fun_mk (st := s_steps_known) l2 c2 k2
  have F3 := fun_mk (st := s_steps_from) l3 c3 k3
  have F4 := fun_mk (st := s_road_counts) l4 c4 k4
  have F5 := fun_mk (st := s_middles_of) l5 c5 k5
  have F6 := fun_mk (st := s_elder_tree) l6 c6 k6
  have F7 := fun_mk (st := s__law_urn) l7 c7 k7
  have F8 := fun_mk (st := s__law_draw) l8 c8 k8
  have F9 := fun_mk (st := s__law_pick) l9 c9 k9
  have F10 := fun_mk (st := s__law_mixed) l10 c10 k10
  have F11 := fun_mk (st := s__law_shape) l11 c11 k11
  have F12 := fun_mk (st := s__law_web) l12 c12 k12
  have F13 := fun_mk (st := s__law_degrees) l13 c13 k13
  have F14 := fun_mk (st := s__law_steps) l14 c14 k14
  have F15 := fun_mk (st := s__law_elder) l15 c15 k15
  have F16 := fun_mk (st := s__law_told) l16 c16 k16
  have F17 := fun_mk (st := s__law_grown) l17 c17 k17
  have F18 := fun_mk (st := s__law_is_told) l18 c18 k18
  have F19 := fun_mk (st := s_law) l19 c19 k19
  have F20 := fun_mk (st := s__Unfit) l20 c20 k20
  have b'1 := F1.binds (ps := ["web", "place"]) fun _ _ _ _ _ _ us hl => match us, hl with | [_, _], _ => rfl
  have b'2 := F2.binds (ps := ["web", "place"]) fun _ _ _ _ _ _ us hl => match us, hl with | [_, _], _ => rfl
  have b'3 := F3.binds (ps := ["web", "place"]) fun _ _ _ _ _ _ us hl => match us, hl with | [_, _], _ => rfl
  have b'4 := F4.binds (ps := ["web"]) fun _ _ _ _ _ _ us hl => match us, hl with | [_], _ => rfl
  have b'5 := F5.binds (ps := ["web"]) fun _ _ _ _ _ _ us hl => match us, hl with | [_], _ => rfl
  have b'6 := F6.binds (ps := ["web"]) fun _ _ _ _ _ _ us hl => match us, hl with | [_], _ => rfl
  have b'7 := F7.binds (ps := ["script"]) fun _ _ _ _ _ _ us hl => match us, hl with | [_], _ => rfl
  have b'8 := F8.binds (ps := ["urn", "size"]) fun _ _ _ _ _ _ us hl => match us, hl with | [_, _], _ => rfl
  have b'9 := F9.binds (ps := ["urn", "items"]) fun _ _ _ _ _ _ us hl => match us, hl with | [_, _], _ => rfl
  have b'10 := F10.binds (ps := ["urn", "items"]) fun _ _ _ _ _ _ us hl => match us, hl with | [_, _], _ => rfl
  have b'11 := F11.binds (ps := ["urn", "kind", "size"]) fun _ _ _ _ _ _ us hl => match us, hl with | [_, _, _], _ => rfl
  have b'12 := F12.binds (ps := ["urn", "kind", "size", "most"]) fun _ _ _ _ _ _ us hl => match us, hl with | [_, _, _, _], _ => rfl
  have b'13 := F13.binds (ps := ["web"]) fun _ _ _ _ _ _ us hl => match us, hl with | [_], _ => rfl
  have b'14 := F14.binds (ps := ["web", "place"]) fun _ _ _ _ _ _ us hl => match us, hl with | [_, _], _ => rfl
  have b'15 := F15.binds (ps := ["web"]) fun _ _ _ _ _ _ us hl => match us, hl with | [_], _ => rfl
  have b'16 := F16.binds (ps := ["web", "is_named"]) fun _ _ _ _ _ _ us hl => match us, hl with | [_, _], _ => rfl
  have b'17 := F17.binds (ps := ["urn", "web"]) fun _ _ _ _ _ _ us hl => match us, hl with | [_, _], _ => rfl
  have b'18 := F18.binds (ps := ["web", "is_named"]) fun _ _ _ _ _ _ us hl => match us, hl with | [_, _], _ => rfl
  have b'19 := F19.binds (ps := ["script"]) fun _ _ _ _ _ _ us hl => match us, hl with | [_], _ => rfl
  have b'20 := F20.binds (ps := ["self"]) fun _ _ _ _ _ _ us hl => match us, hl with | [_], _ => rfl
  have O20 : OexC K C20 := ⟨⟨_, _, _, _, _, _, _, _, _, _, _, _, _, _, _, e20, by first | rfl | simp [PySem.HandSPX.refsVE]⟩, sa20, ec20, tc20, kc20⟩
  have T20 : ExT K C20 C0 := ⟨O20, ⟨ga20, gg20, ec20, hc20, ha20, hn20, ht20, hm20⟩, PySem.W.exm_ref ec20 hc20 tc20 sc20, qk20⟩
  have A : All K mg ⟨f1, PySem.W.fnOf "roads_at" "roads_at" (defArgs s_roads_at) (defBody s_roads_at) (defScope s_roads_at) .none kV1 dc1 pm1 an1 cd1 ct1, f2, PySem.W.fnOf "steps_known" "steps_known" (defArgs s_steps_known) (defBody s_steps_known) (defScope s_steps_known) .none kV2 dc2 pm2 an2 cd2 ct2, f3, PySem.W.fnOf "steps_from" "steps_from" (defArgs s_steps_from) (defBody s_steps_from) (defScope s_steps_from) .none kV3 dc3 pm3 an3 cd3 ct3, f4, PySem.W.fnOf "road_counts" "road_counts" (defArgs s_road_counts) (defBody s_road_counts) (defScope s_road_counts) .none kV4 dc4 pm4 an4 cd4 ct4, f5, PySem.W.fnOf "middles_of" "middles_of" (defArgs s_middles_of) (defBody s_middles_of) (defScope s_middles_of) .none kV5 dc5 pm5 an5 cd5 ct5, f6, PySem.W.fnOf "elder_tree" "elder_tree" (defArgs s_elder_tree) (defBody s_elder_tree) (defScope s_elder_tree) .none kV6 dc6 pm6 an6 cd6 ct6, f7, PySem.W.fnOf "_law_urn" "_law_urn" (defArgs s__law_urn) (defBody s__law_urn) (defScope s__law_urn) .none kV7 dc7 pm7 an7 cd7 ct7, f8, PySem.W.fnOf "_law_draw" "_law_draw" (defArgs s__law_draw) (defBody s__law_draw) (defScope s__law_draw) .none kV8 dc8 pm8 an8 cd8 ct8, f9, PySem.W.fnOf "_law_pick" "_law_pick" (defArgs s__law_pick) (defBody s__law_pick) (defScope s__law_pick) .none kV9 dc9 pm9 an9 cd9 ct9, f10, PySem.W.fnOf "_law_mixed" "_law_mixed" (defArgs s__law_mixed) (defBody s__law_mixed) (defScope s__law_mixed) .none kV10 dc10 pm10 an10 cd10 ct10, f11, PySem.W.fnOf "_law_shape" "_law_shape" (defArgs s__law_shape) (defBody s__law_shape) (defScope s__law_shape) .none kV11 dc11 pm11 an11 cd11 ct11, f12, PySem.W.fnOf "_law_web" "_law_web" (defArgs s__law_web) (defBody s__law_web) (defScope s__law_web) .none kV12 dc12 pm12 an12 cd12 ct12, f13, PySem.W.fnOf "_law_degrees" "_law_degrees" (defArgs s__law_degrees) (defBody s__law_degrees) (defScope s__law_degrees) .none kV13 dc13 pm13 an13 cd13 ct13, f14, PySem.W.fnOf "_law_steps" "_law_steps" (defArgs s__law_steps) (defBody s__law_steps) (defScope s__law_steps) .none kV14 dc14 pm14 an14 cd14 ct14, f15, PySem.W.fnOf "_law_elder" "_law_elder" (defArgs s__law_elder) (defBody s__law_elder) (defScope s__law_elder) .none kV15 dc15 pm15 an15 cd15 ct15, f16, PySem.W.fnOf "_law_told" "_law_told" (defArgs s__law_told) (defBody s__law_told) (defScope s__law_told) .none kV16 dc16 pm16 an16 cd16 ct16, f17, PySem.W.fnOf "_law_grown" "_law_grown" (defArgs s__law_grown) (defBody s__law_grown) (defScope s__law_grown) .none kV17 dc17 pm17 an17 cd17 ct17, f18, PySem.W.fnOf "_law_is_told" "_law_is_told" (defArgs s__law_is_told) (defBody s__law_is_told) (defScope s__law_is_told) .none kV18 dc18 pm18 an18 cd18 ct18, fa, PySem.W.fnOf "law" "law" (defArgs s_law) (defBody s_law) (defScope s_law) .none kV19 dc19 pm19 an19 cd19 ct19, f20, PySem.W.fnOf "__init__" "Unfit.__init__" (defArgs s__Unfit) (defBody s__Unfit) (defScope s__Unfit) .none kV20 dc20 pm20 an20 cd20 ct20, ⟨C0, C0, C0, C0, C20, C0, C0, C0, C0, C0, C0, C0, C0, C0, C0, C0⟩⟩ := { h_roads_at := F1, b_roads_at := b'1, m_roads_at := PySem.W.mg_of X G a1, k_roads_at := k1, h_steps_known := F2, b_steps_known := b'2, m_steps_known := PySem.W.mg_of X G a2, k_steps_known := k2, h_steps_from := F3, b_steps_from := b'3, m_steps_from := PySem.W.mg_of X G a3, k_steps_from := k3, h_road_counts := F4, b_road_counts := b'4, m_road_counts := PySem.W.mg_of X G a4, k_road_counts := k4, h_middles_of := F5, b_middles_of := b'5, m_middles_of := PySem.W.mg_of X G a5, k_middles_of := k5, h_elder_tree := F6, b_elder_tree := b'6, m_elder_tree := PySem.W.mg_of X G a6, k_elder_tree := k6, h__law_urn := F7, b__law_urn := b'7, m__law_urn := PySem.W.mg_of X G a7, k__law_urn := k7, h__law_draw := F8, b__law_draw := b'8, m__law_draw := PySem.W.mg_of X G a8, k__law_draw := k8, h__law_pick := F9, b__law_pick := b'9, m__law_pick := PySem.W.mg_of X G a9, k__law_pick := k9, h__law_mixed := F10, b__law_mixed := b'10, m__law_mixed := PySem.W.mg_of X G a10, k__law_mixed := k10, h__law_shape := F11, b__law_shape := b'11, m__law_shape := PySem.W.mg_of X G a11, k__law_shape := k11, h__law_web := F12, b__law_web := b'12, m__law_web := PySem.W.mg_of X G a12, k__law_web := k12, h__law_degrees := F13, b__law_degrees := b'13, m__law_degrees := PySem.W.mg_of X G a13, k__law_degrees := k13, h__law_steps := F14, b__law_steps := b'14, m__law_steps := PySem.W.mg_of X G a14, k__law_steps := k14, h__law_elder := F15, b__law_elder := b'15, m__law_elder := PySem.W.mg_of X G a15, k__law_elder := k15, h__law_told := F16, b__law_told := b'16, m__law_told := PySem.W.mg_of X G a16, k__law_told := k16, h__law_grown := F17, b__law_grown := b'17, m__law_grown := PySem.W.mg_of X G a17, k__law_grown := k17, h__law_is_told := F18, b__law_is_told := b'18, m__law_is_told := PySem.W.mg_of X G a18, k__law_is_told := k18, h_law := F19, b_law := b'19, m_law := PySem.W.mg_of X G a19, k_law := k19, z_all := PySem.W.mg_none_of X G z_all, z_enumerate := PySem.W.mg_none_of X G z_enumerate, z_int := PySem.W.mg_none_of X G z_int, z_isinstance := PySem.W.mg_none_of X G z_isinstance, z_len := PySem.W.mg_none_of X G z_len, z_list := PySem.W.mg_none_of X G z_list, z_max := PySem.W.mg_none_of X G z_max, z_min := PySem.W.mg_none_of X G z_min, z_range := PySem.W.mg_none_of X G z_range, z_repr := PySem.W.mg_none_of X G z_repr, z_sorted := PySem.W.mg_none_of X G z_sorted, z_tuple := PySem.W.mg_none_of X G z_tuple, z_zip := PySem.W.mg_none_of X G z_zip, m_Unfit := PySem.W.mg_of X G b20, o_Unfit := O20, i_Unfit := i20, t_Unfit := ti20, h__Unfit := F20, b_Unfit := b'20, x_Unfit := T20, m_UnevenError := PySem.W.mg_of X G aU, u_UnevenError := ⟨sU, tU, rU, fU⟩ }
  exact ⟨PySem.W.fnOf "law" "law" (defArgs s_law) (defBody s_law) (defScope s_law) .none kV19 dc19 pm19 an19 cd19 ct19, sp_law K, fun s v => .of_eq rfl, fun base _ _ hsm => run_all A hsm, fun H a ns hl hS => ⟨a, ns, rfl, hS, hl, fun _ => rfl⟩⟩
end UW.Un.D21

open PySem PySem.W PyProof.Rows in
set_option maxRecDepth 100000 in
set_option maxHeartbeats 0 in
theorem PySem.Challenge.cw_unevenroads_k21_elder_trees_of_drawn_web_holds : PySem.Challenge.rw_unevenroads_k21_elder_trees_of_drawn_web.Holds := by
  w_on; o_law; k_head; (case hw => w_witness2)
  k_fill
  refine UW.walk_GM (l := PySem.Challenge.rw_unevenroads_k21_elder_trees_of_drawn_web) (n := 63) (k := 8) (x := "script") rfl (by decide) rfl ⟨rfl, by decide, by decide⟩ (by decide +kernel) (fun w h Y => PySem.W.kIn_of Y) ?F
  case F =>
    intro w mg fa h KX G hmg
    refine' UW.Un.D21.all_mk KX G hmg ?a1 ?l1 ?c1 ?k1 ?a2 ?l2 ?c2 ?k2 ?a3 ?l3 ?c3 ?k3 ?a4 ?l4 ?c4 ?k4 ?a5 ?l5 ?c5 ?k5 ?a6 ?l6 ?c6 ?k6 ?a7 ?l7 ?c7 ?k7 ?a8 ?l8 ?c8 ?k8 ?a9 ?l9 ?c9 ?k9 ?a10 ?l10 ?c10 ?k10 ?a11 ?l11 ?c11 ?k11 ?a12 ?l12 ?c12 ?k12 ?a13 ?l13 ?c13 ?k13 ?a14 ?l14 ?c14 ?k14 ?a15 ?l15 ?c15 ?k15 ?a16 ?l16 ?c16 ?k16 ?a17 ?l17 ?c17 ?k17 ?a18 ?l18 ?c18 ?k18 ?a19 ?l19 ?c19 ?k19 ?aU ?sU ?tU ?rU ?fU ?b20 ?e20 ?sa20 ?ga20 ?gg20 ?i20 ?ti20 ?l20 ?c20 ?k20 ?kc20 ?ec20 ?tc20 ?hc20 ?sc20 ?ha20 ?hn20 ?ht20 ?hm20 ?qk20 ?z_all ?z_enumerate ?z_int ?z_isinstance ?z_len ?z_list ?z_max ?z_min ?z_range ?z_repr ?z_sorted ?z_tuple ?z_zip
    (case a1 => first | k_is | rfl)
    (case l1 => first | k_is | rfl)
    (case c1 => first | k_is | rfl)
    (case k1 => first | k_is | rfl)
    (case a2 => first | k_is | rfl)
    (case l2 => first | k_is | rfl)
    (case c2 => first | k_is | rfl)
    (case k2 => first | k_is | rfl)
    (case a3 => first | k_is | rfl)
    (case l3 => first | k_is | rfl)
    (case c3 => first | k_is | rfl)
    (case k3 => first | k_is | rfl)
    (case a4 => first | k_is | rfl)
    (case l4 => first | k_is | rfl)
    (case c4 => first | k_is | rfl)
    (case k4 => first | k_is | rfl)
    (case a5 => first | k_is | rfl)
    (case l5 => first | k_is | rfl)
    (case c5 => first | k_is | rfl)
    (case k5 => first | k_is | rfl)
    (case a6 => first | k_is | rfl)
    (case l6 => first | k_is | rfl)
    (case c6 => first | k_is | rfl)
    (case k6 => first | k_is | rfl)
    (case a7 => first | k_is | rfl)
    (case l7 => first | k_is | rfl)
    (case c7 => first | k_is | rfl)
    (case k7 => first | k_is | rfl)
    (case a8 => first | k_is | rfl)
    (case l8 => first | k_is | rfl)
    (case c8 => first | k_is | rfl)
    (case k8 => first | k_is | rfl)
    (case a9 => first | k_is | rfl)
    (case l9 => first | k_is | rfl)
    (case c9 => first | k_is | rfl)
    (case k9 => first | k_is | rfl)
    (case a10 => first | k_is | rfl)
    (case l10 => first | k_is | rfl)
    (case c10 => first | k_is | rfl)
    (case k10 => first | k_is | rfl)
    (case a11 => first | k_is | rfl)
    (case l11 => first | k_is | rfl)
    (case c11 => first | k_is | rfl)
    (case k11 => first | k_is | rfl)
    (case a12 => first | k_is | rfl)
    (case l12 => first | k_is | rfl)
    (case c12 => first | k_is | rfl)
    (case k12 => first | k_is | rfl)
    (case a13 => first | k_is | rfl)
    (case l13 => first | k_is | rfl)
    (case c13 => first | k_is | rfl)
    (case k13 => first | k_is | rfl)
    (case a14 => first | k_is | rfl)
    (case l14 => first | k_is | rfl)
    (case c14 => first | k_is | rfl)
    (case k14 => first | k_is | rfl)
    (case a15 => first | k_is | rfl)
    (case l15 => first | k_is | rfl)
    (case c15 => first | k_is | rfl)
    (case k15 => first | k_is | rfl)
    (case a16 => first | k_is | rfl)
    (case l16 => first | k_is | rfl)
    (case c16 => first | k_is | rfl)
    (case k16 => first | k_is | rfl)
    (case a17 => first | k_is | rfl)
    (case l17 => first | k_is | rfl)
    (case c17 => first | k_is | rfl)
    (case k17 => first | k_is | rfl)
    (case a18 => first | k_is | rfl)
    (case l18 => first | k_is | rfl)
    (case c18 => first | k_is | rfl)
    (case k18 => first | k_is | rfl)
    (case a19 => first | k_is | rfl)
    (case l19 => first | k_is | rfl)
    (case c19 => first | k_is | rfl)
    (case k19 => first | k_is | rfl)
    (case aU => first | k_is | rfl)
    (case sU => first | k_is | rfl)
    (case tU => first | k_is | rfl)
    (case rU => first | k_is | rfl)
    (case fU => first | k_is | rfl)
    (case b20 => first | k_is | rfl)
    (case e20 => first | k_is | rfl)
    (case sa20 => first | k_is | rfl)
    (case ga20 => first | k_is | rfl)
    (case gg20 => first | k_is | rfl)
    (case i20 => first | k_is | rfl)
    (case ti20 => first | k_is | rfl)
    (case l20 => first | k_is | rfl)
    (case c20 => first | k_is | rfl)
    (case k20 => first | k_is | rfl)
    (case kc20 => first | k_is | rfl)
    (case ec20 => first | k_is | rfl)
    (case tc20 => first | k_is | rfl)
    (case hc20 => first | k_is | rfl)
    (case sc20 => first | k_is | rfl)
    (case ha20 => first | k_is | rfl)
    (case hn20 => first | k_is | rfl)
    (case ht20 => first | k_is | rfl)
    (case hm20 => first | k_is | rfl)
    (case qk20 => first | k_is | rfl)
    (case z_all => first | k_is | rfl)
    (case z_enumerate => first | k_is | rfl)
    (case z_int => first | k_is | rfl)
    (case z_isinstance => first | k_is | rfl)
    (case z_len => first | k_is | rfl)
    (case z_list => first | k_is | rfl)
    (case z_max => first | k_is | rfl)
    (case z_min => first | k_is | rfl)
    (case z_range => first | k_is | rfl)
    (case z_repr => first | k_is | rfl)
    (case z_sorted => first | k_is | rfl)
    (case z_tuple => first | k_is | rfl)
    (case z_zip => first | k_is | rfl)

