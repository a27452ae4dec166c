import PyProof.Rows.All
import Wide.All
import OpenK.AllK
import Wide.FinOn
import PyProof.ReprRoads
import HandS.ForMost
import HandS.Wide
import HandS.EndBits
import HandS.Defaults
import HandS.More
import HandS.WordsExc
import HandS.Head0
import HandS.Head1
import HandS.Head2
import HandS.HeadEnd
import HandS.HeadHook1
import HandS.HeadHook2
import PyProof.AttrMissHeap
import HandS.Style
import HandS.TupAny
import HandS.Exc
import HandS.ExcInit
import HandS.ExcField
import HandS.ExcIs
import HandS.ExcValue
import HandS.ClsMeth
import KE.KExcIs
import HandS.HeadHook4
import HandS.HeadNt
import PySem.Challenge.RW_tugline_k05_refusals_made
set_option Elab.async false
set_option linter.all false
set_option maxRecDepth 100000
set_option maxHeartbeats 4000000
/-! Tug, part A: rules that the layer lacks (powers of great ints, an index into a list or a tuple, repr of data, calls by
keywords alone, defs that lean on what runs around them), and the steps by which readings are read. -/
namespace Tug
open PySem PySem.Spec L2
open PyProof.Rows hiding St

/-! ### operators -/
section
variable {X : Cx}
def CPowW (i j : Int) : Prop := 0 ≤ j ∧ (Builtin.Int.intBits i : Int) * j ≤ 2 ^ 27
theorem op_powW : OpR X (binaryOp .Pow) (rI CPowW fun i j => .int (i ^ j.toNat)) :=
  opI fun _ _ _ _ _ _ _ hc q => pow_int hc.1 hc.2 q
/-- a cell of a list or of a tuple -/
def rIxA (K : PySem.W.Frag) : R2 := fun x y H Q => ∃ p xs i v, x = .ref p ∧ y = .int i ∧ (SqL K H p xs ∨ SqT K H p xs) ∧ atI xs i = some v ∧ Q v H
theorem ix_any : IxR X (rIxA X.K) := by
  intro value slice pins s σ H x y v u Q I rx ry h sub
  obtain ⟨p, xs, i, z, ex, ey, (hs | hs), hz, q⟩ := h
  · exact ix_list value slice pins s σ H x y v u Q I rx ry ⟨p, xs, i, z, ex, ey, hs, hz, q⟩ sub
  · exact ix_tup value slice pins s σ H x y v u Q I rx ry ⟨p, xs, i, z, ex, ey, hs, hz, q⟩ sub
end

/-! ### tuples whose object is known: it has no dict of its own (dict(t) looks there) -/
/-- a new tuple's object, known -/
def TupO (u : HO) (xs : List V) : Prop := ∃ o : Obj, u = .frz o (.tup xs) ∧ o.dict = none
/-- such a tuple stands at a -/
def Kt (H : Hp) (a : Addr) (xs : List V) : Prop := ∃ o : Obj, H a = some (.frz o (.tup xs)) ∧ o.dict = none
theorem Kt.new {H : Hp} {a : Addr} {u : HO} {xs : List V} (h : TupO u xs) : Kt (upd H a u) a xs := by
  obtain ⟨o, rfl, d⟩ := h
  exact ⟨o, upd_same, d⟩
theorem Kt.sq {K : PySem.W.Frag} {H : Hp} {a : Addr} {xs : List V} (h : Kt H a xs) : SqT K H a xs := by
  obtain ⟨o, h, _⟩ := h
  exact .inl (.inr ⟨o, h⟩)
section
variable {X : Cx} {es : List Expr} {t : TA} {pos : Pos}
def tTupF (t : TA) : TE := fun σ H Q => t σ H fun xs H1 => xs.length ≤ sizeLine ∧ ∀ p u, H1 p = none → TupO u xs → Q (.ref p) (upd H1 p u)
theorem pe_tupF {x1} (h : PA X es t) : PE X (.Tuple es x1 pos) (tTupF t) := by
  refine ⟨fun pins s σ H Q I hq => ?_⟩
  refine wpAny_Tuple_spliced (thn (h.run pos pins s σ H _ I hq) fun us s1 ⟨xs, H1, I1, r, z, q⟩ => ⟨by rw [← r.length]; exact z, ?_⟩)
  refine ⟨.ref s1.heap.objs.size, _, I1.laid (o := .frz { cls := .type "tuple", data := .seq us.toArray } (.tup xs)) (t' := s1.toks) (fun b u e => Heap.get?_push_of_some _ e) (Nat.le_refl _) ?_, rfl, q _ _ (I1.hok.fresh (Nat.le_refl _)) ⟨_, rfl, rfl⟩⟩
  exact ⟨Heap.get?_push_size _ rfl, z, us, r, _, Heap.get?_push_size _ rfl, rfl, _, rfl⟩
def rTupF (K : PySem.W.Frag) : List V → Hp → VK → Prop := fun xs H Q => ∃ p ys, xs = [.ref p] ∧ ((SqL K H p ys ∧ ∀ l u, H l = none → TupO u ys → Q (.ref l) (upd H l u)) ∨ (SqT K H p ys ∧ Q (.ref p) H))
theorem call_tupleF : CallR X (.type "tuple") (rTupF X.K) := by
  intro pins s σ H xs us Q I r h
  obtain ⟨p, ys, rfl, h⟩ := h
  obtain ⟨u, rfl, rx⟩ := vals1 r
  cases rx
  cases h with
  | inl h =>
    obtain ⟨hq, q⟩ := h
    obtain ⟨its, r', pl, hz⟩ := I.list hq
    have lens := r'.length
    refine call_tuple_list pl.isList (fun h' kp => ?_) (by simp only [List.size_toArray] <;> omega)
    have I1 : Inv X pins σ H { s with heap := h' } := I.kept (t' := s.toks) kp
    refine ⟨.ref h'.objs.size, _, I1.laid (o := .frz { cls := .type "tuple", data := .seq its.toArray } (.tup ys)) (t' := s.toks) (fun b o e => Heap.get?_push_of_some _ e) (Nat.le_refl _) ?_, rfl, q _ _ (I1.hok.fresh (Nat.le_refl _)) ⟨_, rfl, rfl⟩⟩
    exact ⟨Heap.get?_push_size _ rfl, hz, its, r', _, Heap.get?_push_size _ rfl, rfl, _, rfl⟩
  | inr h =>
    obtain ⟨hq, q⟩ := h
    obtain ⟨its, r', pl, hz⟩ := I.tuple hq
    exact call_tuple_same pl ⟨.ref p, H, I, rfl, q⟩
end

/-! ### repr of data -/
section
variable {X : Cx}
mutual
theorem dp_nodict {K : PySem.W.Frag} {H : Hp} : ∀ (d : PyData) (v : V), Dp K H v d → d.hasDict = false
  | .none, _, _ => by simp only [PyData.hasDict]
  | .bool _, _, _ => by simp only [PyData.hasDict]
  | .int _, _, _ => by simp only [PyData.hasDict]
  | .str _, _, _ => by simp only [PyData.hasDict]
  | .list ds, v, h => by
    simp only [PyData.hasDict]
    cases h with
    | lst _ ha => exact dp_nodictAll ds _ ha
  | .tuple ds, v, h => by
    simp only [PyData.hasDict]
    cases h with
    | tup _ ha => exact dp_nodictAll ds _ ha
  | .dict _, v, h => by cases h
theorem dp_nodictAll {K : PySem.W.Frag} {H : Hp} : ∀ (ds : List PyData) (vs : List V), DpAll K H vs ds → PyData.hasDictAll ds = false
  | [], _, _ => by simp only [PyData.hasDictAll]
  | d :: ds, vs, h => by
    cases h with
    | cons h1 h2 =>
      simp only [PyData.hasDictAll, dp_nodict d _ h1, dp_nodictAll ds _ h2, Bool.or_self]
end
def rRepr (K : PySem.W.Frag) : List V → Hp → VK → Prop := fun xs H Q => ∃ v d, xs = [v] ∧ Dp K H v d ∧ d.showable = true ∧ d.depth ≤ 20 ∧ d.shown.length ≤ sizeLine ∧ Q (.str d.shown) H
theorem call_repr_D (hg : X.A.guards = some []) (hu : X.A.units + 64 < cLine) : CallR X (.builtin "repr") (rRepr X.K) := by
  intro pins s σ H xs us Q I r h
  obtain ⟨v, d, rfl, hd, hs, hdp, hz, q⟩ := h
  obtain ⟨u, rfl, ru⟩ := vals1 r
  obtain ⟨as, rd⟩ := Dp.reads I d v u hd ru
  have nd := dp_nodict d v hd
  have go : ∀ a : Addr, u = .ref a → wpAny (model X.prog X.w) X.A (call (.builtin "repr") [u]) (EP X pins σ Q) X.xe s := by
    intro a e
    subst e
    refine repr_of_reads' rd hs (fun hh => ?_) hg (by omega) (fun _ _ e => e) (fun h' t tk k => ?_) hz
    · rw [nd] at hh
      cases hh
    · exact ⟨.str _, H, I.kept k, ⟨_, rfl⟩, q⟩
  cases hd with
  | non =>
    have e : u = Value.none := ru
    subst e
    exact PySem.P.repr_of_none ⟨.str _, H, I.tok _, ⟨_, rfl⟩, q⟩
  | bl b =>
    have e : u = Value.bool b := ru
    subst e
    exact PySem.P.repr_of_bool ⟨.str _, H, I.tok _, ⟨_, by cases b <;> rfl⟩, q⟩
  | int i =>
    obtain ⟨t, rfl⟩ := ru
    exact PySem.P.repr_of_int (by simpa [PyData.showable] using hs) ⟨.str _, H, I.tok _, ⟨_, rfl⟩, q⟩
  | str x =>
    obtain ⟨t, rfl⟩ := ru
    exact PySem.P.repr_of_str ⟨.str _, H, I.tok _, ⟨_, rfl⟩, q⟩ hz
  | lst a b =>
    exact go _ ru
  | tup a b =>
    exact go _ ru
end

/-! ### defs that know that nothing is being shown around them -/
/-- as the layer's contract of a def, for calls around which no repr runs -/
structure FnG (P : Program) (w : World) (K : PySem.W.Frag) (mg : Str → Option Value) (base : Heap) (CX : CXT) (k : Nat) (f : Addr) (fd : FuncData) (ps : List Str) (sp : Sp) : Prop where
  len : ∀ vs H Q E, sp vs H Q E → vs.length = ps.length
  run : ∀ (A : Around) (outer : List Env) (s : Shared) (H : Hp) (args : Args) (us : List Value) (vs : List V) (Q : VK) (E : XK), A.guards = some [] → Room k A →
    Env0 P w K mg base A outer s H → BindsTo s fd args (ps.zip us) → Vals vs us → sp vs H Q E → codeAny (model P w) A (.call (.ref f) args) (CR CX outer P w H s Q E) s
section
variable {P : Program} {w : World} {K : PySem.W.Frag} {mg : Str → Option Value} {base : Heap} {CX : CXT}
theorem FnG.of {k : Nat} {f : Addr} {fd : FuncData} {ps : List Str} {sp : Sp} (F : FnOk P w K mg base CX k f fd ps sp) : FnG P w K mg base CX k f fd ps sp :=
  ⟨F.len, fun A outer s H args us vs Q E _ hr he hb hv hs => F.run A outer s H args us vs Q E hr he hb hv hs⟩
theorem FnG.mono {j k : Nat} {f : Addr} {fd : FuncData} {ps : List Str} {sp : Sp} (F : FnG P w K mg base CX j f fd ps sp) (h : j ≤ k) : FnG P w K mg base CX k f fd ps sp :=
  ⟨F.len, fun A outer s H args us vs Q E hg hr => F.run A outer s H args us vs Q E hg (hr.mono h)⟩
theorem guards_deeper {A : Around} {env : Env} (h : A.guards = some []) : (A.deeper env).guards = some [] := h
/-- a def of the text by its body, what runs around it known -/
theorem fnG {x qual : Str} {params : Arguments} {body : List Stmt} {scope : Scope} {dvs : List V} {kws : List (Str × V)} {f : Addr} {fd : FuncData} {N ps : List Str} {k : Nat} {sp : Sp}
    (F : FunD K x qual params body scope dvs kws f fd) (S : FnScope N ps scope) (len : ∀ vs H Q E, sp vs H Q E → vs.length = ps.length)
    (walk : ∀ (cdv : Value) (A : Around) (outer : List Env) (s : Shared) (H : Hp) (vs : List V) (Q : VK) (E : XK),
      (A.deeper (envOfC qual scope s.heap.objs.size f cdv)).guards = some [] → Room k (A.deeper (envOfC qual scope s.heap.objs.size f cdv)) → sp vs H Q E →
      ∃ t, PSs (cxOf CX P w K mg base N qual scope f cdv A outer s H E) body t ∧ t { nx := fun _ H' => Q .non H', rt := Q } (start N vs) H) :
    FnG P w K mg base CX (k + 1) f fd ps sp := by
  obtain ⟨oc, od, dV, kV, doc, pm, an, cdv, ct, osl, rfl, lk, hcd, _, _⟩ := F.ex
  refine ⟨len, ?_⟩
  intro A outer s H args us vs Q E hg hr e0 hb r hsp
  have hlen := len _ _ _ _ hsp
  have inK : K.In s.heap := e0.mod.kin.keeps fun b o e => (e0.bs b o e).1
  have nolim : s.heap.NoLimit := e0.mod.nolimit.keeps fun b o e => (e0.bs b o e).1
  have kinds : ∀ y ∈ ps.zip us, scope.names.lookup y.1 = some .local ∨
      (scope.names.lookup y.1 = some .cell ∧ ((cellsFrom (s.heap.objs.size + 1) scope.names []).lookup y.1).isSome = true) := by
    intro y hy
    obtain ⟨n, v⟩ := y
    cases S.par n (List.of_mem_zip hy).1 with
    | inl q => exact Or.inl q
    | inr q => exact Or.inr ⟨q, PySem.W.cellsFrom_some _ _ _ (Or.inl q)⟩
  refine codeAny_call_function hr.depth (inK _ _ lk) rfl S.co S.gen rfl (PySem.W.codeRec_of inK hcd) (hb _ _ _ _ ?_)
  refine wpAny_newFunctionEnv_cells S.kind kinds fun env he s1 z => ?_
  subst he
  refine ⟨nolim.keeps z.toInCall.keep, codeAny_func ?_⟩
  obtain ⟨t, ht, hq⟩ := walk cdv A outer s H vs Q E (guards_deeper hg) (hr.deeper _) hsp
  have J : Inv (cxOf CX P w K mg base N qual scope f cdv A outer s H E) [] (start N vs) H s1 := inv_start S hr.hd e0 hlen r z
  have ends : ∀ {σ' : St} {H' : Hp} {v : V} {u : Value} {s' : Shared}, Inv (cxOf CX P w K mg base N qual scope f cdv A outer s H E) [] σ' H' s' → RelV v u → Q v H' → CE outer P w H s Q u s' := by
    intro σ' H' v u s' J' rv q
    exact ⟨v, H', J'.os, J'.bare, J'.base, J'.hok, rv, q⟩
  refine wpAny_mono (ht.run [] s1 (start N vs) H _ J hq) (fun fl s' hs => ?_) fun e s' hs => hs
  cases fl with
  | ret u =>
    obtain ⟨v, σ', H', J', rv, q⟩ := hs
    exact ends J' rv q
  | next =>
    obtain ⟨σ', H', J', q⟩ := hs
    exact ends (v := V.non) (u := Value.none) J' rfl q
  | brk =>
    obtain ⟨_, _, _, q⟩ := hs
    cases q
  | cont =>
    obtain ⟨_, _, _, q⟩ := hs
    cases q
end

/-! ### calls -/
/-- a def of the module that a name stands for, with its promise; ds: the defaults that fill up -/
structure Cal (P : Program) (w : World) (K : PySem.W.Frag) (mg : Str → Option Value) (base : Heap) (CX : CXT) (x : Str) (k : Nat) (ps : List Str) (dvs : List V) (sp : Sp) : Prop where
  ex : ∃ (f : Addr) (fd : FuncData) (ds : List Value), mg x = some (.ref f) ∧ PySem.W.keepIn K (.ref f) = true ∧ Binds K fd ps ds ∧ Vals dvs ds ∧ FnG P w K mg base CX k f fd ps sp
section
variable {X : Cx} {CX : CXT} {k n : Nat} {f : Addr} {fd : FuncData} {ps ks : List Str} {sp : Sp} {dvs : List V} {ds : List Value} {E : XK} {x : Str} {p pos : Pos} {e : Expr} {es : List Expr} {kws : List Keyword} {t tk : TA}
  {g : List Value → List Value → List Value} {gV : List V → List V → List V}
theorem run_fnG {pins : List (Addr × Obj)} {σ : St} {H : Hp} {s : Shared} {Q : VK} {us : List Value} {vs : List V} {args : Args} (F : FnG X.prog X.w X.K X.mg X.base CX k f fd ps sp) (hg : X.A.guards = some []) (hr : Room k X.A) (hx : Passes CX X E)
    (I : Inv X pins σ H s) (hb : BindsTo s fd args (ps.zip us)) (r : Vals vs us) (h : sp vs H Q E) : wpAny (model X.prog X.w) X.A (call (.ref f) args.pos args.kw) (EP X pins σ Q) X.xe s := by
  refine wpAny_call (codeAny_mono (F.run X.A X.stack s H args us vs Q E hg hr I.env0 hb r h) fun r s' hq => ?_)
  cases r with
  | error e => exact hx pins σ H s e s' I hq
  | ok fl =>
    cases fl with
    | ret u => exact I.after hq
    | next => cases hq
    | brk => cases hq
    | cont => cases hq
/-- f(e, ..) -/
theorem pe_cal (C : Cal X.prog X.w X.K X.mg X.base CX x k ps dvs sp) (hG : X.A.guards = some []) (hr : Room n X.A) (hx : Passes CX X E) (hg : Gl X x) (ha : PA X (e :: es) t) (hn : k ≤ n := by decide)
    (hdb : (x == ("__debug__" : Str)) = false := by decide) (he : starEach (e :: es) X.env = (false, eval e X.env) :: starEach es X.env := by rfl) (hpl : (backTo pos (starEach es X.env)).any (·.1) = false := by rfl) :
    PE X (.Call (.Name x p) (e :: es) [] pos) (tCall sp dvs E t) := by
  obtain ⟨f, fd, ds, hm, hk, hb, hd, F⟩ := C.ex
  refine ⟨fun pins s σ H Q I h => ?_⟩
  refine wpAny_Call_Name_kw (ld_glob I hg hm ?_ hdb)
  refine PySem.W.callWith_K (h₀ := X.base) I.ok.mod.kin hk (thn (ha.run pos pins s σ H _ I h) fun us s1 ⟨vs, H1, I1, r, q⟩ => ⟨I1.kIn, ?_⟩) he hpl
  have r2 : Vals (vs ++ dvs) (us ++ ds) := r.append hd
  have hl : (us ++ ds).length = ps.length := by
    rw [← r2.length]
    exact F.len _ _ _ _ q
  exact run_fnG (args := ⟨us, []⟩) F hG (hr.mono hn) hx I1 (hb s1 us I1.kIn hl) r2 q
theorem pe_cal0 (C : Cal X.prog X.w X.K X.mg X.base CX x k ps dvs sp) (hG : X.A.guards = some []) (hr : Room n X.A) (hx : Passes CX X E) (hg : Gl X x) (hn : k ≤ n := by decide)
    (hdb : (x == ("__debug__" : Str)) = false := by decide) : PE X (.Call (.Name x p) [] [] pos) (tCall sp dvs E tNil) := by
  obtain ⟨f, fd, ds, hm, hk, hb, hd, F⟩ := C.ex
  refine ⟨fun pins s σ H Q I h => ?_⟩
  refine wpAny_Call_Name_kw (ld_glob I hg hm ?_ hdb)
  refine PySem.W.callWith_K0 I.kIn hk ?_
  have hl : ([] ++ ds : List Value).length = ps.length := by
    rw [List.nil_append, ← hd.length]
    exact F.len _ _ _ _ h
  exact run_fnG (args := ⟨[], []⟩) F hG (hr.mono hn) hx I (hb s [] I.kIn hl) hd h
/-- a def of the module that a name stands for, called by keywords ks -/
structure CalK (P : Program) (w : World) (K : PySem.W.Frag) (mg : Str → Option Value) (base : Heap) (CX : CXT) (x : Str) (k : Nat) (ps : List Str) (m : Nat) (ks : List Str) (gV : List V → List V → List V) (sp : Sp) : Prop where
  ex : ∃ (f : Addr) (fd : FuncData) (g : List Value → List Value → List Value), mg x = some (.ref f) ∧ PySem.W.keepIn K (.ref f) = true ∧ KBn K fd ps m ks g gV ∧ FnG P w K mg base CX k f fd ps sp
/-- f(k = v, ..), keywords alone -/
theorem pe_calK {nm : Nat} (C : CalK X.prog X.w X.K X.mg X.base CX x k ps 0 ks gV sp) (hG : X.A.guards = some []) (hr : Room n X.A) (hx : Passes CX X E) (hg : Gl X x) (hkw : PK X kws tk) (hn : k ≤ n := by decide)
    (hall : (backToKw pos (keywordEach kws X.env)).all (·.1.isSome) = true := by rfl) (hks : (backToKw pos (keywordEach kws X.env)).filterMap (·.1) = ks := by rfl)
    (hdb : (x == ("__debug__" : Str)) = false := by decide)
    (hpl : ((backTo pos (starEach [] X.env)).any (·.1) || (backToKw pos (keywordEach kws X.env)).any (·.1.isNone)) = false := by rfl) :
    PE X (.Call (.Name x p) [] kws pos) (tCallN 0 ks.length sp gV E tNil tk) := by
  obtain ⟨f, fd, g, hm, hk, hb, F⟩ := C.ex
  refine ⟨fun pins s σ H Q I h => ?_⟩
  refine wpAny_Call_Name_kw (ld_glob I hg hm ?_ hdb)
  refine PySem.W.callWith_KW0 (h₀ := X.base) I.ok.mod.kin hk hall (thn (hkw.run pos pins s σ H _ I h) fun ws s2 ⟨zs, H2, I2, rz, q2⟩ => ⟨I2.kIn, ?_⟩) hpl
  rw [hks]
  obtain ⟨_, l2, q3⟩ := q2
  have r2 := hb.rel (vs := []) (us := []) .nil rz
  exact run_fnG (args := ⟨[], ks.zip ws⟩) F hG (hr.mono hn) hx I2 (hb.to s2 [] ws I2.kIn rfl (rz.length.symm.trans l2)) r2 q3
end

/-! ### heaps -/
/-- all that was tracked but w is as it was -/
def Frm (w : Addr) (H H' : Hp) : Prop := ∀ b o, b ≠ w → H b = some o → H' b = some o
theorem Frm.refl (w : Addr) (H : Hp) : Frm w H H := fun _ _ _ h => h
theorem Frm.trans {w : Addr} {H H1 H2 : Hp} (a : Frm w H H1) (b : Frm w H1 H2) : Frm w H H2 := fun c o n h => b c o n (a c o n h)
theorem Frm.of {w : Addr} {H H' : Hp} (s : Same H H') : Frm w H H' := fun b o _ h => s b o h
theorem Frm.upd {w : Addr} {H : Hp} {o : HO} : Frm w H (upd H w o) := fun b u n h => by rw [upd_ne n]; exact h
theorem Frm.new {w p : Addr} {H : Hp} {o : HO} (hp : H p = none) : Frm w H (L2.upd H p o) := fun b u _ h => by rw [upd_ne (ne_of_none h hp)]; exact h
theorem same_new {p : Addr} {H : Hp} {o : HO} (hp : H p = none) : Same H (upd H p o) := fun b u h => by rw [upd_ne (ne_of_none h hp)]; exact h
/-- the known tuples stay -/
def TS (H H' : Hp) : Prop := ∀ b o u, H b = some (.frz o u) → H' b = some (.frz o u)
theorem TS.refl (H : Hp) : TS H H := fun _ _ _ h => h
theorem TS.trans {H H1 H2 : Hp} (a : TS H H1) (b : TS H1 H2) : TS H H2 := fun c o u h => b c o u (a c o u h)
theorem TS.of {H H' : Hp} (s : Same H H') : TS H H' := fun b o u h => s b _ h
theorem Frm.ts {w : Addr} {H H' : Hp} {ys : List V} (f : Frm w H H') (h : H w = some (.lst ys)) : TS H H' := fun b o u q =>
  f b _ (ne_of q h (by intro z; cases z)) q
theorem Kt.mono {H H' : Hp} {a : Addr} {xs : List V} (h : Kt H a xs) (t : TS H H') : Kt H' a xs := by
  obtain ⟨o, h, d⟩ := h
  exact ⟨o, t _ _ _ h, d⟩
theorem Kt.ne {H : Hp} {a l : Addr} {xs ys : List V} (h : Kt H a xs) (g : H l = some (.lst ys)) : a ≠ l := by
  obtain ⟨o, h, _⟩ := h
  exact ne_of h g (by intro z; cases z)

/-! ### reading step by step: one rule a reading's head -/
section
variable {σ : St} {H : Hp} {Q : VK} {K : PySem.W.Frag}
theorem r_var {i : Nat} {v : V} (h : σ[i]? = some (some v)) (q : Q v H) : tVar i σ H Q := ⟨v, h, q⟩
theorem r_c {v : V} (q : Q v H) : tC v σ H Q := q
theorem r_op {r : R2} {ta tb : TE} (h : ta σ H fun x H1 => tb σ H1 fun y H2 => r x y H2 Q) : tOp r ta tb σ H Q := h
theorem r_i0 {g : Int → Int → V} {i j : Int} (q : Q (g i j) H) : rI0 g (.int i) (.int j) H Q := ⟨i, j, rfl, rfl, q⟩
theorem r_i1 {C : Int → Int → Prop} {g : Int → Int → V} {i j : Int} (c : C i j) (q : Q (g i j) H) : rI C g (.int i) (.int j) H Q := ⟨i, j, rfl, rfl, c, q⟩
theorem r_ix {p : Addr} {xs : List V} {i : Int} {v : V} (h : SqL K H p xs ∨ SqT K H p xs) (a : atI xs i = some v) (q : Q v H) : rIxA K (.ref p) (.int i) H Q := ⟨p, xs, i, v, rfl, rfl, h, a, q⟩
theorem r_test {t : TE} {R : Bool → Hp → Prop} (h : t σ H fun x H' => ∃ k, x = .bl k ∧ R k H') : tTest t σ H R := h
theorem r_tb {t : TE} {R : Bool → Hp → Prop} (h : t σ H fun x H' => ∃ k, x = .bl k ∧ R k H') : tB t σ H R := h
theorem r_bl {b : Bool} {R : Bool → Prop} (q : R b) : ∃ k, V.bl b = .bl k ∧ R k := ⟨b, rfl, q⟩
theorem r_eq {x y : V} (h : scal x y = true) (q : Q (.bl (decide (x = y))) H) : rEq x y H Q := ⟨h, q⟩
theorem r_ne {x y : V} (h : scal x y = true) (q : Q (.bl (!decide (x = y))) H) : rNe x y H Q := ⟨h, q⟩
theorem r_call {sp : Sp} {dvs : List V} {E : XK} {t : TA} (h : t σ H fun vs H1 => sp (vs ++ dvs) H1 Q E) : tCall sp dvs E t σ H Q := h
theorem r_cons {ta : TE} {tr : TA} {R : List V → Hp → Prop} (h : ta σ H fun x H1 => tr σ H1 fun xs H2 => R (x :: xs) H2) : tCons ta tr σ H R := h
theorem r_nil {R : List V → Hp → Prop} (q : R [] H) : tNil σ H R := q
theorem r_cb {r : List V → Hp → VK → Prop} {t : TA} (h : t σ H fun vs H1 => r vs H1 Q) : tCB r t σ H Q := h
theorem r_lst {t : TA} (h : t σ H fun xs H1 => xs.length ≤ sizeLine ∧ ∀ p, H1 p = none → Q (.ref p) (upd H1 p (.lst xs))) : tLst t σ H Q := h
theorem r_tup {t : TA} (h : t σ H fun xs H1 => xs.length ≤ sizeLine ∧ ∀ p, H1 p = none → Q (.ref p) (upd H1 p (.tup xs))) : tTup t σ H Q := h
theorem r_tupF {t : TA} (h : t σ H fun xs H1 => xs.length ≤ sizeLine ∧ ∀ p u, H1 p = none → TupO u xs → Q (.ref p) (upd H1 p u)) : tTupF t σ H Q := h
theorem r_if {t : TT} {ta tb : TE} (h : t σ H fun c H1 => if c = true then ta σ H1 Q else tb σ H1 Q) : tIf t ta tb σ H Q := h
theorem r_and {t u : TT} {R : Bool → Hp → Prop} (h : t σ H fun c H1 => if c = true then u σ H1 R else R false H1) : tAnd t u σ H R := h
theorem r_or {t u : TT} {R : Bool → Hp → Prop} (h : t σ H fun c H1 => if c = true then R true H1 else u σ H1 R) : tOr t u σ H R := h
theorem r_not {t : TT} {R : Bool → Hp → Prop} (h : t σ H fun c H1 => R (!c) H1) : tNot t σ H R := h
variable {D : Ends} {t u : L2.TS}
theorem r_seq (h : t { D with nx := u D } σ H) : tSeq t u D σ H := h
theorem r_asg {te : TE} {g : TG} (h : te σ H fun x H1 => g x σ H1 D.nx) : tAsg te g D σ H := h
theorem r_name {i : Nat} {v : V} {R : St → Hp → Prop} (q : R (σ.set i (some v)) H) : gName i v σ H R := q
theorem r_drop {te : TE} (h : te σ H fun _ H1 => D.nx σ H1) : tDrop te D σ H := h
theorem r_ret {te : TE} (h : te σ H D.rt) : tRet te D σ H := h
theorem r_ifs {c : TT} (h : c σ H fun b H1 => if b = true then t D σ H1 else u D σ H1) : tIfS c t u D σ H := h
theorem r_next (q : D.nx σ H) : tNext D σ H := q
theorem r_gsub {to ti : TE} {s : TSet} {v : V} {R : St → Hp → Prop} (h : to σ H fun o H1 => ti σ H1 fun i H2 => s o i v H2 fun H3 => R σ H3) : gSub to ti s v σ H R := h
theorem r_setL {p : Addr} {xs : List V} {k : Int} {j : Nat} {v : V} {R : Hp → Prop} (h : H p = some (.lst xs)) (e : ixN xs.length k = some j) (q : R (upd H p (.lst (xs.set j v)))) : rSetL (.ref p) (.int k) v H R := ⟨p, xs, k, j, rfl, rfl, h, e, q⟩
theorem ifD {p : Prop} [Decidable p] {A B : Prop} (h1 : p → A) (h2 : ¬ p → B) : if decide p = true then A else B := by
  by_cases h : p
  · rw [if_pos (decide_eq_true h)]
    exact h1 h
  · rw [if_neg (by rw [decide_eq_false h]; exact Bool.false_ne_true)]
    exact h2 h
theorem ifN {p : Prop} [Decidable p] {A B : Prop} (h1 : ¬ p → A) (h2 : p → B) : if (!decide p) = true then A else B := by
  by_cases h : p
  · rw [decide_eq_true h, if_neg (by decide)]
    exact h2 h
  · rw [decide_eq_false h, if_pos (by decide)]
    exact h1 h
theorem r_for {wi : TI} {g : TG} {tb : L2.TS} (h : wi σ H fun J H1 => ∃ W : Nat → Nat → St → Hp → Prop, (∃ m, W 0 m σ H1) ∧ ∀ i m σ H, W i m σ H →
    (J.stop i H ∧ D.nx σ H) ∨ (J.go i H ∧ ∃ N : St → Hp → Prop, (∀ σ' H', N σ' H' → ∃ m', m' < m ∧ W (i + 1) m' σ' H') ∧ ∀ x H', J.yld i H x H' → g x σ H' fun σ2 H2 => tb { D with nx := N, ct := N, bk := D.nx } σ2 H2)) : tFor wi g tb D σ H := h
theorem r_ilist {tl : TE} {R : It → Hp → Prop} (h : tl σ H fun x H1 => ∃ a, x = .ref a ∧ (∃ xs, SqL K H1 a xs) ∧ R (Itl K a) H1) : iList K tl σ H R := h
theorem r_itup {tl : TE} {R : It → Hp → Prop} (h : tl σ H fun x H1 => ∃ a, x = .ref a ∧ (∃ xs, SqT K H1 a xs) ∧ R (Itt K a) H1) : iTup K tl σ H R := h
theorem r_irng {ta : TA} {R : It → Hp → Prop} (h : ta σ H fun vs H1 => ∃ j : Int, vs = [.int j] ∧ -(2 ^ 62) ≤ j ∧ j < 2 ^ 62 ∧ R (Itr 0 j.toNat) H1) : iRng1 ta σ H R := h
theorem r_lc {wi : TI} {g : TG} {tt : TT} {te : TE} {vs : List Nat} (h : wi σ H fun J H1 => ∀ D, H1 D = none → ∃ W : Nat → Nat → Hp → Prop, (∃ m, W 0 m (upd H1 D (.lst []))) ∧ ∀ i m H, W i m H →
    (J.stop i H ∧ Q (.ref D) H) ∨ (J.go i H ∧ ∃ Nx : Hp → Prop, (∀ H', Nx H' → ∃ m', m' < m ∧ W (i + 1) m' H') ∧ ∀ x H', J.yld i H x H' → g x (wipe σ vs) H' fun σ2 H2 => wipe σ2 vs = wipe σ vs ∧ tt σ2 H2 fun b H3 =>
      if b = true then te σ2 H3 fun y H4 => ∃ acc, H4 D = some (.lst acc) ∧ acc.length < sizeLine ∧ Nx (upd H4 D (.lst (acc ++ [y]))) else Nx H3)) : tLc wi g tt te vs σ H Q := h
theorem r_yes {R : Bool → Hp → Prop} (q : R true H) : tYes σ H R := q
theorem r_true {A B : Prop} (h : A) : if true = true then A else B := iteT h
theorem r_false {A B : Prop} (h : B) : if false = true then A else B := iteF h
theorem r_bm {T : String} {r : V → List V → Hp → VK → Prop} {to : TE} {t : TA} (h : to σ H fun x H1 => tyV K T x H1 ∧ t σ H1 fun xs H2 => r x xs H2 Q) : tBM K T r to t σ H Q := h
theorem r_app {l : Addr} {xs : List V} {y : V} (h : H l = some (.lst xs)) (z : xs.length < sizeLine) (q : Q .non (upd H l (.lst (xs ++ [y])))) : rAppend (.ref l) [y] H Q := ⟨l, xs, y, rfl, rfl, h, z, q⟩
theorem r_par {i j : Nat} {ta : TA} (h : ta σ H fun vs H1 => ∃ v w, vs = [v, w] ∧ D.nx ((σ.set i (some v)).set j (some w)) H1) : tPar i j ta D σ H := h
theorem r_gtup {n : Nat} {t : TGs} {a : Addr} {xs : List V} {R : St → Hp → Prop} (h : SqT K H a xs) (e : xs.length = n) (q : t xs σ H R) : gTup K n t (.ref a) σ H R := ⟨a, xs, rfl, h, e, q⟩
theorem r_gcons {t : TG} {u : TGs} {v : V} {r : List V} {R : St → Hp → Prop} (q : t v σ H fun σ' H' => u r σ' H' R) : gCons t u (v :: r) σ H R := ⟨v, r, rfl, q⟩
theorem r_gnil {R : St → Hp → Prop} (q : R σ H) : gNil [] σ H R := ⟨rfl, q⟩
theorem tyL {l : Addr} {xs : List V} (h : H l = some (.lst xs)) : tyV K "list" (.ref l) H := .inl ⟨rfl, _, SqL.of h⟩
end

theorem at_int {α : Type} {xs : List α} {i : Int} {v : α} (h0 : 0 ≤ i) (h : xs[i.toNat]? = some v) : atI xs i = some v := by
  have q := atI_nat h
  rw [show ((i.toNat : Nat) : Int) = i by omega] at q
  exact q
theorem get_int {ns : List Int} {j : Nat} {n : Int} (h : ns[j]? = some n) : (ns.map V.int)[j]? = some (.int n) := by
  rw [List.getElem?_map, h] <;> rfl
/-! ### sizes of ints -/
theorem bits_of_lt {a : Int} {n : Nat} (h : a.natAbs < 2 ^ n) : Builtin.Int.intBits a ≤ n := by
  unfold Builtin.Int.intBits
  split
  · exact Nat.zero_le _
  · rename_i e
    have n0 : a.natAbs ≠ 0 := fun q => e (by simp [Int.natAbs_eq_zero.mp q])
    exact (Nat.log2_lt n0).mpr h
theorem lt_of_bits (a : Int) : a.natAbs < 2 ^ Builtin.Int.intBits a := by
  unfold Builtin.Int.intBits
  split
  · rename_i e
    have e1 : a = 0 := by simpa using e
    subst e1
    decide
  · exact Nat.lt_log2_self
theorem bits_mono {a b : Int} (h : a.natAbs ≤ b.natAbs) : Builtin.Int.intBits a ≤ Builtin.Int.intBits b := bits_of_lt (Nat.lt_of_le_of_lt h (lt_of_bits b))
theorem pow_ok {a j : Int} {n : Nat} (h : a.natAbs < 2 ^ n) (h0 : 0 ≤ j) (hz : (n : Int) * j ≤ 2 ^ 27) : CPowW a j := by
  refine ⟨h0, Int.le_trans (Int.mul_le_mul_of_nonneg_right ?_ h0) hz⟩
  exact Int.ofNat_le.mpr (bits_of_lt h)
theorem pow_bits {a j : Int} {n : Nat} (h : Builtin.Int.intBits a ≤ n) (h0 : 0 ≤ j) (hz : (n : Int) * j ≤ 2 ^ 27) : CPowW a j := by
  refine ⟨h0, Int.le_trans (Int.mul_le_mul_of_nonneg_right ?_ h0) hz⟩
  exact Int.ofNat_le.mpr h
end Tug
set_option Elab.async false
set_option linter.all false
set_option maxRecDepth 100000
set_option maxHeartbeats 4000000
/-! Tug, part B: data of tuples, and what the laws' own drawing defs promise. -/
namespace Tug
open PySem PySem.Spec L2
open PyProof.Rows hiding St

/-! ### data without lists: no run changes it -/
mutual
inductive Tp (H : Hp) : V → PyData → Prop
  | non : Tp H .non .none
  | bl (b : Bool) : Tp H (.bl b) (.bool b)
  | int (i : Int) : Tp H (.int i) (.int i)
  | str (x : Str) : Tp H (.str x) (.str x)
  | tup {a : Addr} {xs : List V} {ds : List PyData} : Kt H a xs → TpAll H xs ds → Tp H (.ref a) (.tuple ds)
inductive TpAll (H : Hp) : List V → List PyData → Prop
  | nil : TpAll H [] []
  | cons {v : V} {vs : List V} {d : PyData} {ds : List PyData} : Tp H v d → TpAll H vs ds → TpAll H (v :: vs) (d :: ds)
end
section
variable {H H' : Hp} {K : PySem.W.Frag}
mutual
theorem Tp.mono (t : TS H H') : ∀ (d : PyData) (v : V), Tp H v d → Tp H' v d
  | .none, v, h => by cases h; exact .non
  | .bool b, v, h => by cases h; exact .bl b
  | .int i, v, h => by cases h; exact .int i
  | .str x, v, h => by cases h; exact .str x
  | .list ds, v, h => by cases h
  | .dict ds, v, h => by cases h
  | .tuple ds, v, h => by
    cases h with
    | tup ha hs => exact .tup (ha.mono t) (Tp.monoAll t ds _ hs)
theorem Tp.monoAll (t : TS H H') : ∀ (ds : List PyData) (vs : List V), TpAll H vs ds → TpAll H' vs ds
  | [], vs, h => by cases h; exact .nil
  | d :: ds, vs, h => by
    cases h with
    | cons h1 h2 => exact .cons (Tp.mono t d _ h1) (Tp.monoAll t ds _ h2)
end
mutual
theorem Tp.dp : ∀ (d : PyData) (v : V), Tp H v d → Dp K H v d
  | .none, v, h => by cases h; exact .non
  | .bool b, v, h => by cases h; exact .bl b
  | .int i, v, h => by cases h; exact .int i
  | .str x, v, h => by cases h; exact .str x
  | .list ds, v, h => by cases h
  | .dict ds, v, h => by cases h
  | .tuple ds, v, h => by
    cases h with
    | tup ha hs => exact .tup ha.sq (Tp.dpAll ds _ hs)
theorem Tp.dpAll : ∀ (ds : List PyData) (vs : List V), TpAll H vs ds → DpAll K H vs ds
  | [], vs, h => by cases h; exact .nil
  | d :: ds, vs, h => by
    cases h with
    | cons h1 h2 => exact .cons (Tp.dp d _ h1) (Tp.dpAll ds _ h2)
end
theorem TpAll.append : ∀ {xs ys : List V} {ds es : List PyData}, TpAll H xs ds → TpAll H ys es → TpAll H (xs ++ ys) (ds ++ es)
  | [], ys, ds, es, h, g => by cases h; exact g
  | x :: xs, ys, ds, es, h, g => by
    cases h with
    | cons h1 h2 => exact .cons h1 (TpAll.append h2 g)
theorem TpAll.length : ∀ {xs : List V} {ds : List PyData}, TpAll H xs ds → xs.length = ds.length
  | [], ds, h => by cases h; rfl
  | x :: xs, ds, h => by
    cases h with
    | cons h1 h2 => rw [List.length_cons, List.length_cons, TpAll.length h2]
theorem TpAll.get : ∀ {xs : List V} {ds : List PyData} {i : Nat} {x : V}, TpAll H xs ds → xs[i]? = some x → ∃ d, ds[i]? = some d ∧ Tp H x d
  | [], ds, i, x, h, e => by simp at e
  | y :: xs, ds, 0, x, h, e => by
    cases h with
    | cons h1 h2 =>
      simp at e
      subst e
      exact ⟨_, rfl, h1⟩
  | y :: xs, ds, i + 1, x, h, e => by
    cases h with
    | cons h1 h2 =>
      obtain ⟨d, e1, e2⟩ := TpAll.get h2 (show xs[i]? = some x by simpa using e)
      exact ⟨d, by simpa using e1, e2⟩
theorem TpAll.snoc {xs : List V} {ds : List PyData} {x : V} {d : PyData} (h : TpAll H xs ds) (g : Tp H x d) : TpAll H (xs ++ [x]) (ds ++ [d]) := h.append (.cons g .nil)
theorem Tp.of_tuple {v : V} {ds : List PyData} (h : Tp H v (.tuple ds)) : ∃ a xs, v = .ref a ∧ Kt H a xs ∧ TpAll H xs ds := by
  cases h with
  | tup ha hs => exact ⟨_, _, rfl, ha, hs⟩
theorem Tp.of_int {v : V} {i : Int} (h : Tp H v (.int i)) : v = .int i := by cases h; rfl
theorem TpAll.of_cons {vs : List V} {d : PyData} {ds : List PyData} (h : TpAll H vs (d :: ds)) : ∃ x r, vs = x :: r ∧ Tp H x d ∧ TpAll H r ds := by
  cases h with
  | cons h1 h2 => exact ⟨_, _, rfl, h1, h2⟩
theorem TpAll.of_nil {vs : List V} (h : TpAll H vs []) : vs = [] := by cases h; rfl
/-- a tuple of two -/
theorem Tp.pair {v : V} {d e : PyData} (h : Tp H v (.tuple [d, e])) : ∃ a x y, v = .ref a ∧ Kt H a [x, y] ∧ Tp H x d ∧ Tp H y e := by
  obtain ⟨a, xs, rfl, ha, hs⟩ := h.of_tuple
  obtain ⟨x, r, rfl, hx, hr⟩ := hs.of_cons
  obtain ⟨y, r2, rfl, hy, hr2⟩ := hr.of_cons
  obtain rfl := hr2.of_nil
  exact ⟨a, x, y, rfl, ha, hx, hy⟩
theorem TpAll.ints : ∀ ns : List Int, TpAll H (ns.map V.int) (ns.map PyData.int)
  | [] => .nil
  | n :: ns => .cons (.int n) (TpAll.ints ns)
end

/-! ### the drawing defs of the laws -/
/-- a well stands at w -/
def Wl (w : Addr) (H : Hp) : Prop := ∃ o s : Int, H w = some (.lst [.int o, .int s]) ∧ 0 ≤ o ∧ Builtin.Int.intBits o ≤ 1048577 ∧ 0 ≤ s ∧ s < 2147483648
theorem Wl.ts {w : Addr} {H H' : Hp} (h : Wl w H) (f : Frm w H H') : TS H H' := by
  obtain ⟨o, s, h, _⟩ := h
  exact f.ts h
/-- all else stays, the well is one again -/
structure Drawn (w : Addr) (H H' : Hp) : Prop where
  frm : Frm w H H'
  wl : Wl w H'
theorem Drawn.trans {w : Addr} {H H1 H2 : Hp} (a : Drawn w H H1) (b : Drawn w H1 H2) : Drawn w H H2 := ⟨a.frm.trans b.frm, b.wl⟩
theorem Wl.there {w : Addr} {H : Hp} (h : Wl w H) : ∃ u, H w = some u := by
  obtain ⟨o, s, h, _⟩ := h
  exact ⟨_, h⟩
theorem Wl.ne {w p : Addr} {H : Hp} (h : Wl w H) (hp : H p = none) : p ≠ w := by
  obtain ⟨u, h⟩ := h.there
  exact (ne_of_none h hp).symm
theorem Wl.upd {w p : Addr} {H : Hp} {o : HO} (h : Wl w H) (n : p ≠ w) : Wl w (L2.upd H p o) := by
  obtain ⟨o, s, h, r⟩ := h
  exact ⟨o, s, by rw [upd_ne n.symm]; exact h, r⟩
theorem Wl.new {w p : Addr} {H : Hp} {o : HO} (h : Wl w H) (hp : H p = none) : Wl w (L2.upd H p o) := h.upd (h.ne hp)
theorem Drawn.refl {w : Addr} {H : Hp} (h : Wl w H) : Drawn w H H := ⟨Frm.refl w H, h⟩
theorem Drawn.new {w p : Addr} {H : Hp} {o : HO} (h : Wl w H) (hp : H p = none) : Drawn w H (upd H p o) := ⟨Frm.new hp, h.new hp⟩
/-- what was new may change -/
theorem Drawn.mut {w p : Addr} {H H' : Hp} {o : HO} (d : Drawn w H H') (hp : H p = none) (n : p ≠ w) : Drawn w H (upd H' p o) :=
  ⟨fun b u hb e => by rw [upd_ne (ne_of_none e hp)]; exact d.frm b u hb e, d.wl.upd n⟩
theorem Drawn.more {w p : Addr} {H H' : Hp} {o : HO} (d : Drawn w H H') (hp : H' p = none) : Drawn w H (upd H' p o) := d.trans (Drawn.new d.wl hp)
/-- what is new behind was new ahead -/
theorem Drawn.free {w p : Addr} {H H' : Hp} (d : Drawn w H H') (h : Wl w H) (hp : H' p = none) : H p = none := by
  cases q : H p with
  | none => rfl
  | some u =>
    by_cases e : p = w
    · subst e
      obtain ⟨u, hu⟩ := d.wl.there
      rw [hp] at hu
      cases hu
    · rw [d.frm _ _ e q] at hp
      cases hp
def spWell (K : PySem.W.Frag) : Sp := fun vs H Q _ => ∃ (a : Addr) (ns : List Int) (k : Int), vs = [.ref a, .int k] ∧ SqL K H a (ns.map V.int) ∧ ns.length ≤ 63 ∧ (∀ z ∈ ns, Builtin.Int.intBits z ≤ 1048576) ∧ 0 ≤ k ∧ k ≤ 5 ∧
  ∀ w H', H w = none → Same H H' → Wl w H' → Q (.ref w) H'
def spDraw : Sp := fun vs H Q _ => ∃ (w : Addr) (m : Int), vs = [.ref w, .int m] ∧ Wl w H ∧ 0 < m ∧ m ≤ 10 ^ 70 ∧ ∀ (r : Int) H', 0 ≤ r → r < m → Drawn w H H' → Q (.int r) H'
def spPick (K : PySem.W.Frag) : Sp := fun vs H Q _ => ∃ (w l : Addr) (xs : List V), vs = [.ref w, .ref l] ∧ Wl w H ∧ l ≠ w ∧ (SqL K H l xs ∨ SqT K H l xs) ∧ xs ≠ [] ∧ xs.length ≤ 1000 ∧
  ∀ x H', x ∈ xs → Drawn w H H' → Q x H'
/-- a number of some sixty figures -/
def Nm (i : Int) : Prop := -(2 * 10 ^ 59) ≤ i ∧ i ≤ 2 * 10 ^ 59
def spNumber : Sp := fun vs H Q _ => ∃ w : Addr, vs = [.ref w] ∧ Wl w H ∧ ∀ (i : Int) H', Nm i → Drawn w H H' → Q (.int i) H'

/-! ### forms -/
def prD (p : Int × Int) : PyData := .tuple [.int p.1, .int p.2]
def fmD (n : Int) (ps : List (Int × Int)) : PyData := .tuple [.int n, .tuple (ps.map prD)]
/-- the pairs of a form of the first so many knobs: rising, none of 0, none too great -/
structure PsOk (many : Int) (ps : List (Int × Int)) : Prop where
  rise : (ps.map (·.1)).Pairwise (· < ·)
  at_ : ∀ p ∈ ps, 0 ≤ p.1 ∧ p.1 < many ∧ p.2 ≠ 0 ∧ Nm p.2
theorem PsOk.mono {m n : Int} {ps : List (Int × Int)} (h : PsOk m ps) (e : m ≤ n) : PsOk n ps :=
  ⟨h.rise, fun p hp => let ⟨a, b, c, d⟩ := h.at_ p hp; ⟨a, by omega, c, d⟩⟩
theorem PsOk.snoc {m k : Int} {ps : List (Int × Int)} (h : PsOk m ps) (h0 : 0 ≤ m) (hk : k ≠ 0) (hn : Nm k) : PsOk (m + 1) (ps ++ [(m, k)]) := by
  constructor
  · rw [List.map_append, List.pairwise_append]
    refine ⟨h.rise, by simp, fun a ha b hb => ?_⟩
    obtain ⟨p, hp, rfl⟩ := List.mem_map.mp ha
    have e : b = m := by simpa using hb
    subst e
    exact (h.at_ p hp).2.1
  · intro p hp
    rcases List.mem_append.mp hp with hp | hp
    · obtain ⟨a, b, c, d⟩ := h.at_ p hp
      exact ⟨a, by omega, c, d⟩
    · have e : p = (m, k) := by simpa using hp
      subst e
      exact ⟨h0, by show m < m + 1; omega, hk, hn⟩
theorem PsOk.nil (m : Int) : PsOk m [] := ⟨by simp, by simp⟩
def spForm : Sp := fun vs H Q _ => ∃ (w : Addr) (m : Int), vs = [.ref w, .int m] ∧ Wl w H ∧ 0 ≤ m ∧ m ≤ 30 ∧
  ∀ (v : V) (n : Int) (ps : List (Int × Int)) H', Nm n → PsOk m ps → (ps.length : Int) ≤ m → Tp H' v (fmD n ps) → Drawn w H H' → Q v H'
end Tug
set_option Elab.async false
set_option linter.all false
set_option maxRecDepth 100000
set_option maxHeartbeats 4000000
/-! Tug, part C: data that may be shown and compared; sizes. -/
namespace Tug
open PySem PySem.Spec L2
open PyProof.Rows hiding St

/-! ### sizes -/
/-- below so many bits -/
def Sz (k : Nat) (i : Int) : Prop := i.natAbs < 2 ^ k
theorem Sz.mono {j k : Nat} {i : Int} (h : Sz j i) (l : j ≤ k) : Sz k i := Nat.lt_of_lt_of_le h (Nat.pow_le_pow_right (by decide) l)
theorem Sz.mul {j k : Nat} {a b : Int} (h : Sz j a) (g : Sz k b) : Sz (j + k) (a * b) := wide_lt h g
theorem Sz.add {k : Nat} {a b : Int} (h : Sz k a) (g : Sz k b) : Sz (k + 1) (a + b) := by
  unfold Sz at *
  rw [Nat.pow_succ]
  omega
theorem Sz.sub {k : Nat} {a b : Int} (h : Sz k a) (g : Sz k b) : Sz (k + 1) (a - b) := by
  unfold Sz at *
  rw [Nat.pow_succ]
  omega
theorem Sz.neg {k : Nat} {a : Int} (h : Sz k a) : Sz k (-a) := by
  unfold Sz at *
  omega
theorem Sz.log {k : Nat} {a : Int} (h : Sz k a) (h0 : 0 < k) : a.natAbs.log2 < k := PySem.Flt.log2_lt_of h0 h
theorem Sz.zero {k : Nat} : Sz k 0 := by
  unfold Sz
  exact Nat.two_pow_pos k
/-- a sum of few -/
theorem Sz.sum {k : Nat} : ∀ {l : List Int} {m : Nat}, (∀ x ∈ l, Sz k x) → l.length < 2 ^ m → Sz (k + m) l.sum := by
  have go : ∀ l : List Int, (∀ x ∈ l, Sz k x) → l.sum.natAbs ≤ l.length * 2 ^ k := by
    intro l
    induction l with
    | nil => intro _; simp
    | cons a l ih =>
      intro h
      have h1 := ih fun x hx => h x (List.mem_cons_of_mem _ hx)
      have h2 : a.natAbs < 2 ^ k := h a List.mem_cons_self
      rw [List.sum_cons, List.length_cons, Nat.add_mul, Nat.one_mul]
      omega
  intro l m h hl
  unfold Sz
  refine Nat.lt_of_le_of_lt (go l h) ?_
  rw [Nat.pow_add, Nat.mul_comm]
  exact Nat.mul_lt_mul_of_pos_left hl (Nat.two_pow_pos k)
theorem Nm.sz {i : Int} (h : Nm i) : Sz 200 i := by
  unfold Nm at h
  unfold Sz
  omega
theorem sz_small {i : Int} (h : -1000000000000000000 ≤ i) (g : i ≤ 1000000000000000000) : Sz 64 i := by
  unfold Sz
  omega
theorem Sz.cmul {j k : Nat} {a b : Int} (h : Sz j a) (g : Sz k b) (h0 : 0 < j) (h1 : 0 < k) (h2 : j + k ≤ 1000000) : CMulW a b := wide_mul h g h0 h1 h2

/-! ### data that may be shown -/
mutual
def fine : PyData → Bool
  | .none | .bool _ => true
  | .int i => decide (i.natAbs.log2 < 1920)
  | .str x => PyData.strOk x && x.cps.toList.all fun c => decide (c < 16 ^ 8)
  | .list xs | .tuple xs => fineAll xs
  | .dict _ => false
def fineAll : List PyData → Bool
  | [] => true
  | x :: xs => fine x && fineAll xs
end
mutual
theorem fine_showable : ∀ d : PyData, fine d = true → d.showable = true
  | .none, _ => by simp only [PyData.showable]
  | .bool _, _ => by simp only [PyData.showable]
  | .int i, h => by simpa only [PyData.showable, fine] using h
  | .str _, _ => by simp only [PyData.showable]
  | .list xs, h => by
    simp only [PyData.showable]
    exact fine_showableAll xs (by simpa only [fine] using h)
  | .tuple xs, h => by
    simp only [PyData.showable]
    exact fine_showableAll xs (by simpa only [fine] using h)
  | .dict _, h => by simp [fine] at h
theorem fine_showableAll : ∀ xs : List PyData, fineAll xs = true → PyData.showableAll xs = true
  | [], _ => by simp only [PyData.showableAll]
  | x :: xs, h => by
    have h' : fine x = true ∧ fineAll xs = true := by simpa only [fineAll, Bool.and_eq_true] using h
    simp only [PyData.showableAll, fine_showable x h'.1, fine_showableAll xs h'.2, Bool.and_self]
end
mutual
theorem fine_lay : ∀ d : PyData, fine d = true → d.canLay0 = true
  | .none, _ => by simp only [PyData.canLay0]
  | .bool _, _ => by simp only [PyData.canLay0]
  | .int i, h => by simp only [PyData.canLay0]
  | .str x, h => by
    simp only [fine, Bool.and_eq_true] at h
    simpa only [PyData.canLay0] using h.1
  | .list xs, h => by
    simp only [PyData.canLay0]
    exact fine_layAll xs (by simpa only [fine] using h)
  | .tuple xs, h => by
    simp only [PyData.canLay0]
    exact fine_layAll xs (by simpa only [fine] using h)
  | .dict _, h => by simp [fine] at h
theorem fine_layAll : ∀ xs : List PyData, fineAll xs = true → PyData.canLayAll0 xs = true
  | [], _ => by simp only [PyData.canLayAll0]
  | x :: xs, h => by
    have h' : fine x = true ∧ fineAll xs = true := by simpa only [fineAll, Bool.and_eq_true] using h
    simp only [PyData.canLayAll0, fine_lay x h'.1, fine_layAll xs h'.2, Bool.and_self]
end
mutual
theorem fine_short : ∀ d : PyData, fine d = true → d.leavesShort 1921 = true
  | .none, _ => by simp only [PyData.leavesShort]
  | .bool _, _ => by simp only [PyData.leavesShort]
  | .int i, h => by
    simp only [PyData.leavesShort, decide_eq_true_eq]
    have h' : i.natAbs.log2 < 1920 := by simpa only [fine, decide_eq_true_eq] using h
    have e : PyData.shown (.int i) = Str.ofString (toString i) := by simp only [PyData.shown]
    rw [e]
    exact int_text_len_1921 h'
  | .str x, h => by
    simp only [fine, Bool.and_eq_true] at h
    simpa only [PyData.leavesShort] using h.2
  | .list xs, h => by
    simp only [PyData.leavesShort]
    exact fine_shortAll xs (by simpa only [fine] using h)
  | .tuple xs, h => by
    simp only [PyData.leavesShort]
    exact fine_shortAll xs (by simpa only [fine] using h)
  | .dict _, h => by simp [fine] at h
theorem fine_shortAll : ∀ xs : List PyData, fineAll xs = true → PyData.leavesShortAll 1921 xs = true
  | [], _ => by simp only [PyData.leavesShortAll]
  | x :: xs, h => by
    have h' : fine x = true ∧ fineAll xs = true := by simpa only [fineAll, Bool.and_eq_true] using h
    simp only [PyData.leavesShortAll, fine_short x h'.1, fine_shortAll xs h'.2, Bool.and_self]
end
mutual
theorem eqv_self : ∀ d : PyData, fine d = true → PyData.eqv d d = true
  | .none, _ => by simp only [PyData.eqv]
  | .bool _, _ => by simp [PyData.eqv]
  | .int i, h => by simp [PyData.eqv]
  | .str x, h => by simp [PyData.eqv]
  | .list xs, h => by
    simp only [PyData.eqv]
    exact eqv_selfAll xs (by simpa only [fine] using h)
  | .tuple xs, h => by
    simp only [PyData.eqv]
    exact eqv_selfAll xs (by simpa only [fine] using h)
  | .dict _, h => by simp [fine] at h
theorem eqv_selfAll : ∀ xs : List PyData, fineAll xs = true → PyData.eqvAll xs xs = true
  | [], _ => by simp only [PyData.eqvAll]
  | x :: xs, h => by
    have h' : fine x = true ∧ fineAll xs = true := by simpa only [fineAll, Bool.and_eq_true] using h
    simp only [PyData.eqvAll, eqv_self x h'.1, eqv_selfAll xs h'.2, Bool.and_self]
end
theorem neqv_self {d : PyData} (h : fine d = true) : (!PyData.eqv d d) = false := by
  rw [eqv_self d h] <;> rfl
/-- fine, so deep and so many at the most -/
structure Fd (d : PyData) (n b : Nat) : Prop where
  f : fine d = true
  dp : d.depth ≤ n
  bk : d.bulk ≤ b
structure FdA (ds : List PyData) (n b : Nat) : Prop where
  f : fineAll ds = true
  dp : PyData.depthAll ds ≤ n
  bk : PyData.bulkAll ds ≤ b
theorem Fd.mono {d : PyData} {n b m c : Nat} (h : Fd d n b) (h1 : n ≤ m) (h2 : b ≤ c) : Fd d m c := ⟨h.f, Nat.le_trans h.dp h1, Nat.le_trans h.bk h2⟩
theorem Fd.none : Fd .none 0 0 := ⟨rfl, by simp [PyData.depth], by simp [PyData.bulk]⟩
theorem Fd.bl {b : Bool} : Fd (.bool b) 0 0 := ⟨by simp [fine], by simp [PyData.depth], by simp [PyData.bulk]⟩
theorem Fd.int {i : Int} (h : Sz 1900 i) : Fd (.int i) 0 0 := ⟨by simpa [fine] using Nat.lt_of_lt_of_le (h.log (by decide)) (by decide : 1900 ≤ 1920), by simp [PyData.depth], by simp [PyData.bulk]⟩
theorem Fd.tup {ds : List PyData} {n b : Nat} (h : FdA ds n b) : Fd (.tuple ds) (n + 1) b := ⟨by simpa [fine] using h.f, by simpa [PyData.depth] using h.dp, by simpa [PyData.bulk] using h.bk⟩
theorem Fd.lst {ds : List PyData} {n b : Nat} (h : FdA ds n b) : Fd (.list ds) (n + 1) b := ⟨by simpa [fine] using h.f, by simpa [PyData.depth] using h.dp, by simpa [PyData.bulk] using h.bk⟩
theorem FdA.nil {n : Nat} : FdA [] n 0 := ⟨by simp [fineAll], by simp [PyData.depthAll], by simp [PyData.bulkAll]⟩
theorem FdA.cons {d : PyData} {ds : List PyData} {n b c : Nat} (h : Fd d n b) (g : FdA ds n c) : FdA (d :: ds) n (b + 1 + c) := by
  refine ⟨by simp [fineAll, h.f, g.f], ?_, ?_⟩
  · simp only [PyData.depthAll]
    have := h.dp
    have := g.dp
    omega
  · simp only [PyData.bulkAll]
    have := h.bk
    have := g.bk
    omega
theorem FdA.map {α : Type} {f : α → PyData} {n b : Nat} : ∀ {xs : List α}, (∀ x ∈ xs, Fd (f x) n b) → FdA (xs.map f) n (xs.length * (b + 1))
  | [], _ => by simpa using FdA.nil
  | x :: xs, h => by
    have h1 := FdA.cons (h x List.mem_cons_self) (FdA.map fun y hy => h y (List.mem_cons_of_mem _ hy))
    rw [List.map_cons, List.length_cons, Nat.add_mul, Nat.one_mul, Nat.add_comm (xs.length * (b + 1))]
    exact h1
theorem FdA.mono {ds : List PyData} {n b m c : Nat} (h : FdA ds n b) (h1 : n ≤ m) (h2 : b ≤ c) : FdA ds m c := ⟨h.f, Nat.le_trans h.dp h1, Nat.le_trans h.bk h2⟩

section
variable {X : Cx} {K : PySem.W.Frag} {H : Hp} {Q : VK}
def rRp (K : PySem.W.Frag) : List V → Hp → VK → Prop := fun xs H Q => ∃ v d, xs = [v] ∧ Dp K H v d ∧ Fd d 20 8000 ∧ Q (.str d.shown) H
theorem call_rp (hg : X.A.guards = some []) (hu : X.A.units + 64 < cLine) : CallR X (.builtin "repr") (rRp X.K) := by
  intro pins s σ H xs us Q I r h
  obtain ⟨v, d, rfl, hd, hf, q⟩ := h
  refine call_repr_D hg hu pins s σ H [v] us Q I r ⟨v, d, rfl, hd, fine_showable d hf.f, hf.dp, ?_, q⟩
  have h1 := PyData.shown_le_bulk 1921 (by decide) d (fine_short d hf.f)
  have h2 := hf.bk
  have e : sizeLine = 16777216 := by decide
  omega
theorem r_rp {v : V} {d : PyData} (h : Dp K H v d) (f : Fd d 20 8000) (q : Q (.str d.shown) H) : rRp K [v] H Q := ⟨v, d, rfl, h, f, q⟩
def rEqF (K : PySem.W.Frag) : R2 := fun x y H Q => ∃ d e, Dp K H x d ∧ Dp K H y e ∧ Fd d 60 8000 ∧ Fd e 60 8000 ∧ Q (.bl (PyData.eqv d e)) H
def rNeF (K : PySem.W.Frag) : R2 := fun x y H Q => ∃ d e, Dp K H x d ∧ Dp K H y e ∧ Fd d 60 8000 ∧ Fd e 60 8000 ∧ Q (.bl (!PyData.eqv d e)) H
theorem Fd.shaped {d : PyData} {b : Nat} (h : Fd d 60 b) : SeqAt.shaped d = true := by
  unfold SeqAt.shaped
  rw [fine_lay d h.f, Bool.true_and]
  have := h.dp
  exact decide_eq_true (by omega)
theorem op_eqF (hu : X.A.units + 64 < cLine) : OpR X (compareOp .Eq) (rEqF X.K) := by
  intro pins s σ H x y v u Q I rx ry h
  obtain ⟨d, e, hd, he, fd, fe, q⟩ := h
  exact op_eqD hu pins s σ H x y v u Q I rx ry ⟨d, e, hd, he, fd.shaped, fe.shaped, q⟩
theorem op_neF (hu : X.A.units + 64 < cLine) : OpR X (compareOp .NotEq) (rNeF X.K) := by
  intro pins s σ H x y v u Q I rx ry h
  obtain ⟨d, e, hd, he, fd, fe, q⟩ := h
  exact op_neD hu pins s σ H x y v u Q I rx ry ⟨d, e, hd, he, fd.shaped, fe.shaped, q⟩
theorem r_eqF {x y : V} {d e : PyData} (hd : Dp K H x d) (he : Dp K H y e) (fd : Fd d 60 8000) (fe : Fd e 60 8000) (q : Q (.bl (PyData.eqv d e)) H) : rEqF K x y H Q := ⟨d, e, hd, he, fd, fe, q⟩
theorem r_neF {x y : V} {d e : PyData} (hd : Dp K H x d) (he : Dp K H y e) (fd : Fd d 60 8000) (fe : Fd e 60 8000) (q : Q (.bl (!PyData.eqv d e)) H) : rNeF K x y H Q := ⟨d, e, hd, he, fd, fe, q⟩
theorem dec_same {x : V} : decide (x = x) = true := decide_eq_true rfl
end

/-! ### the rules that lean on the written part, told with it (so that a comprehension's block has the same readings) -/
section
variable {X : Cx} {tg l : Expr} {tl : TE}
theorem ixA (K : PySem.W.Frag) (h : X.K = K := by rfl) : IxR X (rIxA K) := h ▸ ix_any
theorem sumA (K : PySem.W.Frag) (hc : X.calm = true) (h : X.K = K := by rfl) : CallR X (.builtin "sum") (rSum K) := h ▸ cr_sum hc
def rLenA (K : PySem.W.Frag) : List V → Hp → VK → Prop := fun xs H Q => ∃ p ys, xs = [.ref p] ∧ (SqL K H p ys ∨ SqT K H p ys) ∧ Q (.int ys.length) H
theorem lenA (K : PySem.W.Frag) (h : X.K = K := by rfl) : CallR X (.builtin "len") (rLenA K) := h ▸ call_len_seq
theorem tupleA (K : PySem.W.Frag) (h : X.K = K := by rfl) : CallR X (.type "tuple") (rTupF K) := h ▸ call_tupleF
def rLstA (K : PySem.W.Frag) : List V → Hp → VK → Prop := fun xs H Q => ∃ p ys, xs = [.ref p] ∧ (SqL K H p ys ∨ SqT K H p ys) ∧ ∀ l, H l = none → Q (.ref l) (upd H l (.lst ys))
theorem listA (K : PySem.W.Frag) (h : X.K = K := by rfl) : CallR X (.type "list") (rLstA K) := h ▸ call_list_of
theorem eqA (K : PySem.W.Frag) (hu : X.A.units + 64 < cLine) (h : X.K = K := by rfl) : OpR X (compareOp .Eq) (rEqF K) := h ▸ op_eqF hu
theorem neA (K : PySem.W.Frag) (hu : X.A.units + 64 < cLine) (h : X.K = K := by rfl) : OpR X (compareOp .NotEq) (rNeF K) := h ▸ op_neF hu
theorem rpA (K : PySem.W.Frag) (hg : X.A.guards = some []) (hu : X.A.units + 64 < cLine) (h : X.K = K := by rfl) : CallR X (.builtin "repr") (rRp K) := h ▸ call_rp hg hu
theorem piL (K : PySem.W.Frag) (hl : PE X l tl) (h : X.K = K := by rfl) : PI X tg l (iList K tl) := h ▸ pi_list hl
theorem piT (K : PySem.W.Frag) (hl : PE X l tl) (h : X.K = K := by rfl) : PI X tg l (iTup K tl) := h ▸ pi_tup hl
end

/-! ### worths of forms -/
/-- the worth of a form for a setting -/
def wth (n : Int) (ps : List (Int × Int)) (ns : List Int) : Int := n + (ps.map fun p => p.2 * ns.getD p.1.toNat 0).sum
/-- the setting has all the form's knobs, nothing is too great -/
structure WOk (n : Int) (ps : List (Int × Int)) (ns : List Int) : Prop where
  at_ : ∀ p ∈ ps, 0 ≤ p.1 ∧ p.1 < ns.length
  sz : ∀ p ∈ ps, Sz 1000 p.2
  szn : ∀ z ∈ ns, Sz 1000 z
  len : ps.length ≤ 1000
/-- a condition: its turn, its form -/
abbrev Cond := Int × Int × List (Int × Int)
def cdD (c : Cond) : PyData := .tuple [.int c.1, fmD c.2.1 c.2.2]
def optV : Option Int → V
  | some i => .int i
  | none => .non
def fstBroken (cs : List Cond) (ns : List Int) : Option Int := ((cs.filter fun c => decide (wth c.2.1 c.2.2 ns < 0)).map (·.1)).head?
def spFirst (K : PySem.W.Frag) : Sp := fun vs H Q _ => ∃ (a l : Addr) (xs : List V) (cs : List Cond) (ns : List Int), vs = [.ref a, .ref l] ∧ SqL K H a xs ∧ TpAll H xs (cs.map cdD) ∧ cs.length ≤ 1000 ∧ SqL K H l (ns.map V.int) ∧
  (∀ c ∈ cs, WOk c.2.1 c.2.2 ns ∧ Sz 1000 c.1) ∧ ∀ H', Same H H' → Q (optV (fstBroken cs ns)) H'
theorem WOk.of {m n : Int} {ps : List (Int × Int)} {ns : List Int} (hp : PsOk m ps) (hl : (ps.length : Int) ≤ m) (h30 : m ≤ 100) (hm : m ≤ ns.length) (hs : ∀ z ∈ ns, Nm z) : WOk n ps ns := by
  refine ⟨fun p h => ?_, fun p h => ?_, fun z h => (hs z h).sz.mono (by decide), by omega⟩
  · have := hp.at_ p h
    omega
  · exact (hp.at_ p h).2.2.2.sz.mono (by decide)
theorem WOk.sz_wth {n : Int} {ps : List (Int × Int)} {ns : List Int} (h : WOk n ps ns) (hn : Sz 1000 n) : Sz 2016 (wth n ps ns) := by
  unfold wth
  refine (Sz.add (hn.mono (by decide : 1000 ≤ 2015)) ((Sz.sum (k := 2000) (m := 11) (fun x hx => ?_) ?_).mono (by decide))).mono (by decide)
  · obtain ⟨p, hp, rfl⟩ := List.mem_map.mp hx
    obtain ⟨h0, h1⟩ := h.at_ p hp
    have hg : ns.getD p.1.toNat 0 ∈ ns := by
      have hl : p.1.toNat < ns.length := by omega
      rw [List.getD_eq_getElem?_getD, List.getElem?_eq_getElem hl]
      exact List.getElem_mem hl
    exact (h.sz p hp).mul (h.szn _ hg)
  · rw [List.length_map]
    have := h.len
    omega
theorem Fd.form {n : Int} {ps : List (Int × Int)} (hn : Sz 1900 n) (hp : ∀ p ∈ ps, Sz 1900 p.1 ∧ Sz 1900 p.2) : Fd (fmD n ps) 3 (ps.length * 3 + 2) := by
  have h1 : FdA (ps.map prD) 1 (ps.length * (2 + 1)) := FdA.map fun p h => Fd.mono (Fd.tup (FdA.cons (Fd.int (hp p h).1) (FdA.cons (Fd.int (hp p h).2) FdA.nil))) (by decide) (by decide)
  have h2 := Fd.tup (FdA.cons ((Fd.int hn).mono (Nat.zero_le 2) (Nat.le_refl 0)) (FdA.cons (Fd.tup h1) FdA.nil))
  exact h2.mono (Nat.le_refl _) (by omega)
theorem Fd.cond {c : Cond} (ht : Sz 1900 c.1) (hn : Sz 1900 c.2.1) (hp : ∀ p ∈ c.2.2, Sz 1900 p.1 ∧ Sz 1900 p.2) : Fd (cdD c) 4 (c.2.2.length * 3 + 4) :=
  (Fd.tup (FdA.cons ((Fd.int ht).mono (Nat.zero_le 3) (Nat.le_refl 0)) (FdA.cons (Fd.form hn hp) FdA.nil))).mono (Nat.le_refl _) (by omega)
theorem Fd.ints {ns : List Int} (h : ∀ z ∈ ns, Sz 1900 z) : Fd (.list (ns.map .int)) 1 ns.length :=
  (Fd.lst (FdA.map (n := 0) (b := 0) fun z hz => Fd.int (h z hz))).mono (Nat.le_refl _) (by omega)
theorem wipe_at (σ : St) (j : Nat) : ∀ vs : List Nat, (wipe σ vs)[j]? = if j ∈ vs ∧ j < σ.length then some none else σ[j]?
  | [] => by simp [wipe]
  | v :: vs => by
    unfold wipe
    rw [List.getElem?_set, wipe_at σ j vs, wipe_length]
    by_cases e : v = j
    · subst e
      by_cases l : v < σ.length
      · simp [l]
      · simp [l]
    · have e' : ¬ j = v := fun q => e q.symm
      simp [e, e']
theorem wipe_wipe {σ : St} {vs : List Nat} : wipe (wipe σ vs) vs = wipe σ vs := by
  apply List.ext_getElem?
  intro j
  rw [wipe_at, wipe_at, wipe_length]
  split <;> rfl
theorem wipe_set {σ : St} {vs : List Nat} {i : Nat} {x : Option V} (h : i ∈ vs) : wipe (σ.set i x) vs = wipe σ vs := by
  apply List.ext_getElem?
  intro j
  rw [wipe_at, wipe_at, List.length_set, List.getElem?_set]
  by_cases e : i = j
  · subst e
    by_cases l : i < σ.length
    · simp [h, l]
    · simp [l]
  · simp [e]
/-- walked: a list or a tuple -/
def iSeq (K : PySem.W.Frag) (tl : TE) : TI := fun σ H R => tl σ H fun x H1 => ∃ a, x = .ref a ∧ (((∃ xs, SqL K H1 a xs) ∧ R (Itl K a) H1) ∨ ((∃ xs, SqT K H1 a xs) ∧ R (Itt K a) H1))
section
variable {X : Cx} {tg l : Expr} {tl : TE}
theorem pi_seq (hl : PE X l tl) : PI X tg l (iSeq X.K tl) := by
  refine ⟨fun pins s σ H R I h => ?_⟩
  refine thn (hl.run pins s σ H _ I h) fun v s1 ⟨x, H1, I1, r1, q1⟩ => ?_
  obtain ⟨a, e, q2⟩ := q1
  subst e
  cases r1
  have fresh : ∀ b ∈ [s1.heap.objs.size], FpOk X pins H1 b := by
    intro b hb
    have e : b = s1.heap.objs.size := List.mem_singleton.mp hb
    subst e
    exact I1.fpOk (Nat.le_refl _) (I1.hok.fresh (Nat.le_refl _))
  rcases q2 with ⟨⟨xs, hq⟩, q⟩ | ⟨⟨xs, hq⟩, q⟩
  · obtain ⟨its, rv, p, hz⟩ := I1.list hq
    refine wpAny_pyIter_list p.isList ?_
    exact ⟨s1.heap.objs.size, _, _, _, H1, rfl, I1.kept (t' := s1.toks) fun b o e => Heap.get?_push_of_some _ e, turn_list a _, ⟨_, Heap.get?_push_size _ rfl, rfl, rfl⟩, fresh, q⟩
  · obtain ⟨its, rv, p, hz⟩ := I1.tuple hq
    refine wpAny_pyIter_tuple (show s1.heap.IsTuple a its.toArray from p) ?_
    exact ⟨s1.heap.objs.size, _, _, _, H1, rfl, I1.kept (t' := s1.toks) fun b o e => Heap.get?_push_of_some _ e, turn_tuple a _, ⟨_, Heap.get?_push_size _ rfl, rfl, rfl⟩, fresh, q⟩
theorem piA (K : PySem.W.Frag) (hl : PE X l tl) (h : X.K = K := by rfl) : PI X tg l (iSeq K tl) := h ▸ pi_seq hl
end
/-- a list or a tuple of these stands at b, and stays -/
def Sq (K : PySem.W.Frag) (H : Hp) (b : Addr) (xs : List V) : Prop := SqL K H b xs ∨ SqT K H b xs
theorem seqT {K : PySem.W.Frag} {H H' : Hp} {a : Addr} {xs : List V} (e : Same H H') (h : SqT K H a xs) : SqT K H' a xs := by
  rcases h with (h | ⟨o, h⟩) | h
  · exact .inl (.inl (e _ _ h))
  · exact .inl (.inr ⟨o, e _ _ h⟩)
  · exact .inr h
theorem Sq.same {K : PySem.W.Frag} {H H' : Hp} {b : Addr} {xs : List V} (h : Sq K H b xs) (e : Same H H') : Sq K H' b xs := by
  rcases h with h | h
  · exact .inl (e.seq h)
  · exact .inr (seqT e h)
/-- a comprehension over a list or a tuple that stays: the reading of the walk, the turns said once -/
theorem lc_seq {K : PySem.W.Frag} {b : Addr} {xs : List V} {g : TG} {tt : TT} {te : TE} {vs : List Nat} {σ : St} {H1 : Hp} {Qd : Addr → Hp → Prop} (hb : Sq K H1 b xs) (Pv : Addr → Nat → Hp → Prop) (h0 : ∀ D, H1 D = none → Pv D 0 (upd H1 D (.lst [])))
    (hl : ∀ D, H1 D = none → ∀ i H, Pv D i H → Same H1 H)
    (hs : ∀ D, H1 D = none → ∀ i x H, xs[i]? = some x → Pv D i H → g x (wipe σ vs) H fun σ2 H2 => wipe σ2 vs = wipe σ vs ∧ tt σ2 H2 fun b H3 =>
      if b = true then te σ2 H3 fun y H4 => ∃ acc, H4 D = some (.lst acc) ∧ acc.length < sizeLine ∧ Pv D (i + 1) (upd H4 D (.lst (acc ++ [y]))) else Pv D (i + 1) H3) (hd : ∀ D, H1 D = none → ∀ H, Pv D xs.length H → Qd D H) :
    ∃ a, V.ref b = V.ref a ∧ (((∃ xs, SqL K H1 a xs) ∧ ∀ D, H1 D = none → ∃ W : Nat → Nat → Hp → Prop, (∃ m, W 0 m (upd H1 D (.lst []))) ∧ ∀ i m H, W i m H →
        ((Itl K a).stop i H ∧ Qd D H) ∨ ((Itl K a).go i H ∧ ∃ Nx : Hp → Prop, (∀ H', Nx H' → ∃ m', m' < m ∧ W (i + 1) m' H') ∧ ∀ x H', (Itl K a).yld i H x H' → g x (wipe σ vs) H' fun σ2 H2 => wipe σ2 vs = wipe σ vs ∧ tt σ2 H2 fun b H3 =>
          if b = true then te σ2 H3 fun y H4 => ∃ acc, H4 D = some (.lst acc) ∧ acc.length < sizeLine ∧ Nx (upd H4 D (.lst (acc ++ [y]))) else Nx H3)) ∨
      ((∃ xs, SqT K H1 a xs) ∧ ∀ D, H1 D = none → ∃ W : Nat → Nat → Hp → Prop, (∃ m, W 0 m (upd H1 D (.lst []))) ∧ ∀ i m H, W i m H →
        ((Itt K a).stop i H ∧ Qd D H) ∨ ((Itt K a).go i H ∧ ∃ Nx : Hp → Prop, (∀ H', Nx H' → ∃ m', m' < m ∧ W (i + 1) m' H') ∧ ∀ x H', (Itt K a).yld i H x H' → g x (wipe σ vs) H' fun σ2 H2 => wipe σ2 vs = wipe σ vs ∧ tt σ2 H2 fun b H3 =>
          if b = true then te σ2 H3 fun y H4 => ∃ acc, H4 D = some (.lst acc) ∧ acc.length < sizeLine ∧ Nx (upd H4 D (.lst (acc ++ [y]))) else Nx H3))) := by
  refine ⟨b, rfl, ?_⟩
  rcases hb with hb | hb
  · exact .inl ⟨⟨xs, hb⟩, fun D hD => lc_list (Pv D) (h0 D hD) (fun i H _ p => (hl D hD i H p).seq hb) (hs D hD) (hd D hD)⟩
  · exact .inr ⟨⟨xs, hb⟩, fun D hD => lc_tup (Pv D) (h0 D hD) (fun i H _ p => seqT (hl D hD i H p) hb) (hs D hD) (hd D hD)⟩
/-- what a form is read as: its number, its pairs in a list or a tuple -/
def FormIs (K : PySem.W.Frag) (H : Hp) (v : V) (n : Int) (ps : List (Int × Int)) : Prop := ∃ a b xs, v = .ref a ∧ SqT K H a [V.int n, V.ref b] ∧ Sq K H b xs ∧ TpAll H xs (ps.map prD)
theorem FormIs.of {K : PySem.W.Frag} {H : Hp} {v : V} {n : Int} {ps : List (Int × Int)} (h : Tp H v (fmD n ps)) : FormIs K H v n ps := by
  obtain ⟨a, x, y, rfl, ha, hx, hy⟩ := h.pair
  obtain rfl := hx.of_int
  obtain ⟨b, xs, rfl, hb, hxs⟩ := hy.of_tuple
  exact ⟨a, b, xs, rfl, ha.sq, .inr hb.sq, hxs⟩
def spWorth (K : PySem.W.Frag) : Sp := fun vs H Q _ => ∃ (v : V) (l : Addr) (n : Int) (ps : List (Int × Int)) (ns : List Int), vs = [v, .ref l] ∧ FormIs K H v n ps ∧ SqL K H l (ns.map V.int) ∧ WOk n ps ns ∧
  ∀ H', Same H H' → Q (.int (wth n ps ns)) H'
/-- the worths of pairs, summed -/
def smo (ps : List (Int × Int)) (ns : List Int) : Int := (ps.map fun p => p.2 * ns.getD p.1.toNat 0).sum
/-- sum([much * setting[knob] for knob, much in PAIRS]), whatever the names' places -/
theorem rd_sum {σ : St} {H : Hp} {Q : VK} {K : PySem.W.Frag} {s ik im : Nat} {b l : Addr} {n : Int} {ps : List (Int × Int)} {ns : List Int} {xs : List V} {ti : TE} (hti : ∀ R : VK, R (.ref b) H → ti σ H R) (hb : Sq K H b xs) (hxs : TpAll H xs (ps.map prD))
    (hs : σ[s]? = some (some (.ref l))) (hS : SqL K H l (ns.map V.int)) (ok : WOk n ps ns) (hk : ik < σ.length) (hm : im < σ.length) (e1 : ik ≠ im) (e2 : ik ≠ s) (e3 : im ≠ s) (q : ∀ H', Same H H' → Q (.int (smo ps ns)) H') :
    tCB (rSum K) (tCons (tLc (iSeq K ti) (gTup K 2 (gCons (gName ik) (gCons (gName im) gNil))) tYes (tOp (rI CMulW fun i j => .int (i * j)) (tVar im) (tOp (rIxA K) (tVar s) (tVar ik))) [ik, im]) tNil) σ H Q := by
  have hlen : xs.length = ps.length := by
    rw [hxs.length, List.length_map]
  refine hti _ ?_
  refine lc_seq hb (fun D i H' => Same H H' ∧ H' D = some (.lst (((ps.take i).map fun p => p.2 * ns.getD p.1.toNat 0).map V.int))) (fun D hD => ⟨same_new hD, upd_same⟩) (fun _ _ _ _ h => h.1) ?_ ?_
  · rintro D hD i z H' hz ⟨sm, hL⟩
    obtain ⟨d, hd, hT'⟩ := hxs.get hz
    rw [List.getElem?_map, Option.map_eq_some_iff] at hd
    obtain ⟨p, hp, rfl⟩ := hd
    obtain ⟨c, x, y, rfl, hc, hx, hy⟩ := hT'.pair
    obtain rfl := hx.of_int
    obtain rfl := hy.of_int
    have hmem : p ∈ ps := List.mem_of_getElem? hp
    obtain ⟨p0, p1⟩ := ok.at_ p hmem
    have pl : p.1.toNat < ns.length := by omega
    have eg : ns.getD p.1.toNat 0 = ns[p.1.toNat] := by rw [List.getD_eq_getElem?_getD, List.getElem?_eq_getElem pl] <;> rfl
    have lw : ∀ vs : List Nat, (wipe σ vs).length = σ.length := wipe_length σ
    refine ⟨c, _, rfl, (hc.mono (TS.of sm)).sq, rfl, _, _, rfl, _, _, rfl, rfl, ?_, ?_⟩
    · show wipe _ [ik, im] = wipe σ [ik, im]
      rw [wipe_set (by simp), wipe_set (by simp), wipe_wipe]
    · have gm : (((wipe σ [ik, im]).set ik (some (V.int p.1))).set im (some (V.int p.2)))[im]? = some (some (V.int p.2)) := by
        rw [List.getElem?_set_self]
        rw [List.length_set, lw]
        exact hm
      have gk : (((wipe σ [ik, im]).set ik (some (V.int p.1))).set im (some (V.int p.2)))[ik]? = some (some (V.int p.1)) := by
        rw [List.getElem?_set_ne (Ne.symm e1), List.getElem?_set_self]
        rw [lw]
        exact hk
      have gs : (((wipe σ [ik, im]).set ik (some (V.int p.1))).set im (some (V.int p.2)))[s]? = some (some (V.ref l)) := by
        rw [List.getElem?_set_ne e3, List.getElem?_set_ne e2]
        unfold wipe wipe wipe
        rw [List.getElem?_set_ne e2, List.getElem?_set_ne e3]
        exact hs
      refine r_yes ?_
      refine r_true ?_
      refine ⟨_, gm, _, gs, _, gk, l, _, p.1, _, rfl, rfl, .inl (sm.seq hS), at_int p0 (get_int (List.getElem?_eq_getElem pl)), p.2, ns[p.1.toNat], rfl, rfl, ?_, ?_⟩
      · exact Sz.cmul (ok.sz p hmem) (ok.szn _ (List.getElem_mem pl)) (by decide) (by decide) (by decide)
      · refine ⟨_, hL, ?_, ?_, ?_⟩
        · rw [List.length_map, List.length_map, List.length_take]
          have := ok.len
          exact Nat.lt_of_le_of_lt (Nat.le_trans (Nat.min_le_right _ _) this) (by decide)
        · intro b' o h
          rw [upd_ne (fun e => by rw [e, hD] at h; cases h)]
          exact sm _ _ h
        · rw [upd_same]
          have ep : ps.take (i + 1) = ps.take i ++ [p] := by
            rw [List.take_add_one, hp] <;> rfl
          rw [ep, List.map_append, List.map_append, List.map_singleton, List.map_singleton, eg]
  · rintro D hD H' ⟨sm, hL⟩
    rw [hlen, List.take_length] at hL
    exact ⟨D, _, rfl, SqL.of hL, q H' sm⟩
/-- form[0] + sum([much * setting[knob] for knob, much in form[1]]), whatever the names' places -/
theorem rd_wth {σ : St} {H : Hp} {Q : VK} {K : PySem.W.Frag} {f s ik im : Nat} {v : V} {l : Addr} {n : Int} {ps : List (Int × Int)} {ns : List Int} (hf : σ[f]? = some (some v)) (hs : σ[s]? = some (some (.ref l)))
    (hT : FormIs K H v n ps) (hS : SqL K H l (ns.map V.int)) (ok : WOk n ps ns) (hk : ik < σ.length) (hm : im < σ.length) (e1 : ik ≠ im) (e2 : ik ≠ s) (e3 : im ≠ s) (q : ∀ H', Same H H' → Q (.int (wth n ps ns)) H') :
    tOp (rI0 fun i j => .int (i + j)) (tOp (rIxA K) (tVar f) (tC (.int 0))) (tCB (rSum K) (tCons (tLc (iSeq K (tOp (rIxA K) (tVar f) (tC (.int 1)))) (gTup K 2 (gCons (gName ik) (gCons (gName im) gNil))) tYes
      (tOp (rI CMulW fun i j => .int (i * j)) (tVar im) (tOp (rIxA K) (tVar s) (tVar ik))) [ik, im]) tNil)) σ H Q := by
  obtain ⟨a, b, xs, rfl, ha, hb, hxs⟩ := hT
  refine ⟨_, hf, a, _, 0, _, rfl, rfl, .inr ha, rfl, ?_⟩
  exact rd_sum (n := n) (fun R r => ⟨_, hf, a, _, 1, _, rfl, rfl, .inr ha, rfl, r⟩) hb hxs hs hS ok hk hm e1 e2 e3 fun H' sm => ⟨_, _, rfl, rfl, q H' sm⟩
theorem Wl.same {w : Addr} {H H' : Hp} (h : Wl w H) (s : Same H H') : Wl w H' := by
  obtain ⟨o, z, h, r⟩ := h
  exact ⟨o, z, s _ _ h, r⟩
theorem sz_wth200 {n : Int} {ps : List (Int × Int)} {ns : List Int} (h : WOk n ps ns) (hn : Nm n) (hp : ∀ p ∈ ps, Nm p.2) (hz : ∀ z ∈ ns, Nm z) : Sz 420 (wth n ps ns) := by
  unfold wth
  refine (Sz.add (hn.sz.mono (by decide : 200 ≤ 411)) ((Sz.sum (k := 400) (m := 11) (fun x hx => ?_) ?_).mono (by decide))).mono (by decide)
  · obtain ⟨p, hp', rfl⟩ := List.mem_map.mp hx
    obtain ⟨h0, h1⟩ := h.at_ p hp'
    have hg : ns.getD p.1.toNat 0 ∈ ns := by
      have hl : p.1.toNat < ns.length := by omega
      rw [List.getD_eq_getElem?_getD, List.getElem?_eq_getElem hl]
      exact List.getElem_mem hl
    exact ((hp p hp').sz).mul ((hz _ hg).sz)
  · rw [List.length_map]
    have := h.len
    omega
def optD : Option Int → PyData
  | some i => .int i
  | none => .none
theorem opt_dp {K : PySem.W.Frag} {H : Hp} : ∀ o : Option Int, Dp K H (optV o) (optD o)
  | some i => .int i
  | none => .non
theorem opt_fd {o : Option Int} (h : ∀ i, o = some i → Sz 1900 i) : Fd (optD o) 0 0 := by
  cases o with
  | none => exact Fd.none
  | some i => exact Fd.int (h i rfl)
theorem opt_scal (o : Option Int) : scal (optV o) (optV o) = true := by cases o <;> rfl
section
variable {σ : St} {H : Hp} {Q : VK}
theorem r_calln {n m : Nat} {sp : Sp} {gV : List V → List V → List V} {E : XK} {t tk : TA} (h : t σ H fun vs H1 => tk σ H1 fun zs H2 => vs.length = n ∧ zs.length = m ∧ sp (gV vs zs) H2 Q E) : tCallN n m sp gV E t tk σ H Q := h
/-- the rest of a block by what it asks -/
theorem r_seqJ {t u : L2.TS} {D : Ends} (M : St → Hp → Prop) (k : ∀ σ' H', M σ' H' → u D σ' H') (h : (∀ σ' H', M σ' H' → u D σ' H') → t { D with nx := u D } σ H) : tSeq t u D σ H := h k
end
/-- what law(script) promises -/
def spLaw (K : PySem.W.Frag) : Sp := fun vs H Q _ => ∃ (a : Addr) (ns : List Int), vs = [.ref a] ∧ SqL K H a (ns.map V.int) ∧ ns.length ≤ 63 ∧ (∀ z ∈ ns, Builtin.Int.intBits z ≤ 1048576) ∧ ∀ H', Q (.bl true) H'
end Tug
set_option Elab.async false
set_option linter.all false
set_option maxRecDepth 100000
set_option maxHeartbeats 4000000
/-! Tug, part D: the law's own call, around which nothing is shown; how the text's defs are bound. -/
namespace Tug
open PySem PySem.Spec L2
open PyProof.Rows hiding St

/-- the call of the law: its def's promise over every base gives True and leaves all as it was -/
theorem law_end {P : Program} {w : World} {K : PySem.W.Frag} {mg mb : Str → Option Value} {CX : CXT} {k : Nat} {f a : Addr} {fd : FuncData} {x : Str} {sp : Sp} {st : Shared} {us : List Value} {ns : List Int}
    (inK : K.In st.heap) (gl : st.heap.Ns mainGlobals mg) (bl : st.heap.Ns builtinsNs mb) (bt : ∀ y : Str, y ≠ "__name__" → mb y = bootBuiltins y) (nolim : st.heap.NoLimit) (nogen : st.gens = #[])
    (obj : st.heap.get? a = some { cls := .type "list", data := .seq us.toArray }) (hints : IntsAre us ns) (few : ns.length ≤ sizeLine) (room : Room k callerA)
    (F : ∀ base : Heap, K.In base → base.Ns mainGlobals mg → FnG P w K mg base CX k f fd [x] sp) (bind : ∀ (s : Shared) (u : Value), BindsTo s fd ⟨[u], []⟩ [(x, u)])
    (ask : ∀ H : Hp, Only H → SqL K H a (ns.map V.int) → sp [.ref a] H (fun v _ => v = .bl true) fun _ _ _ => False)
    (noX : ∀ H e s', CX [] H st (fun _ _ _ => False) e s' → False) :
    codeAny (model P w) callerA (.call (.ref f) ⟨[.ref a], []⟩) (fun r s' => r = .ok (.ret (.bool true)) ∧ OldK st.heap s'.heap ∧ s'.os = st.os ∧ AllBare s'.gens) st := by
  have rel := vals_ints hints
  have lens := hints.length
  have go : ∀ H : Hp, Only H → SqL K H a (ns.map V.int) → HOk P w H st.heap → (∀ b, H b ≠ none → b = a) → (H a ≠ none → K.lookup a = none) →
      codeAny (model P w) callerA (.call (.ref f) ⟨[.ref a], []⟩) (fun r s' => r = .ok (.ret (.bool true)) ∧ OldK st.heap s'.heap ∧ s'.os = st.os ∧ AllBare s'.gens) st := by
    intro H only sq hok alone notK
    have eq_a : ∀ {b : Addr} {u : HO}, H b = some u → b = a := fun {b u} e => alone b fun z => by
      rw [z] at e
      cases e
    have low : ∀ {b : Addr} {o : Obj}, st.heap.get? b = some o → H b = none → (hidT st.heap H).get? b = some o := fun e z => hidT_get e z
    have dicts : ∀ {b : Addr} {o : Obj} {es : Array DictEntry} {ep : Nat}, st.heap.get? b = some o → o.data = .dict es ep → H b = none := by
      intro b o es ep e d
      cases q : H b with
      | none => rfl
      | some u =>
        have := eq_a q
        subst this
        rw [obj] at e
        cases e
        exact absurd (show Data.seq us.toArray _ = Data.dict es ep from d) (fun z => nomatch z)
    have names : ∀ {b : Addr} {m : Str → Option Value}, st.heap.Ns b m → (hidT st.heap H).Ns b m := by
      intro b m z
      obtain ⟨o, es, ep, e, d, r⟩ := z
      exact ⟨o, es, ep, low e (dicts e d), d, r⟩
    have inB : K.In (hidT st.heap H) := by
      intro b o e
      refine low (inK b o e) ?_
      cases q : H b with
      | none => rfl
      | some u =>
        have := eq_a q
        subst this
        have z := notK (by rw [q]; exact fun z => nomatch z)
        rw [z] at e
        cases e
    have md : Mod K mg (hidT st.heap H) := by
      obtain ⟨mc, l1, l2⟩ := nolim
      exact ⟨inB, names gl, ⟨mb, names bl, bt⟩, mc, names l1, l2⟩
    have env : Env0 P w K mg (hidT st.heap H) callerA [] st H :=
      ⟨rfl, md, fun b o e => of_hidT e, Nat.le_of_eq (hidT_size _ _), trivial, fun b hb => absurd (show b ∈ ([] : List Addr) from hb) List.not_mem_nil, hok, .of_eq nogen⟩
    refine codeAny_mono ((F _ inB (names gl)).run callerA [] st H ⟨[.ref a], []⟩ [.ref a] [.ref a] _ _ rfl room env (bind st (.ref a)) (.cons rfl .nil) (ask H only sq)) fun r s' h => ?_
    cases r with
    | error e => exact (noX H e s' h).elim
    | ok fl =>
      cases fl with
      | next => cases h
      | brk => cases h
      | cont => cases h
      | ret u =>
        obtain ⟨v, H', os, bare, un, hok', rv, q⟩ := h
        have ev : v = .bl true := q
        subst ev
        have eu : u = Value.bool true := rv
        subst eu
        refine ⟨rfl, OldK.of_keep fun b o e => ?_, os, bare⟩
        cases qb : H b with
        | none => exact un.keep b o e qb List.not_mem_nil List.not_mem_nil
        | some u =>
          rcases only b with z | ⟨ob, xs, z⟩
          · rw [qb] at z
            cases z
          · obtain ⟨e1, _⟩ := hok b _ z
            obtain ⟨e2, _⟩ := hok' b _ (un.frzs b ob _ z)
            rw [e] at e1
            cases e1
            exact e2
  cases kl : K.lookup a with
  | some o =>
    have e := inK a o kl
    rw [obj] at e
    cases e
    refine go (fun _ => none) (fun _ => .inl rfl) ?_ (fun b u z => nomatch (show (none : Option HO) = some u from z)) (fun b z => absurd rfl z) fun z => absurd rfl z
    exact .inr ⟨_, us.toArray, _, kl, rfl, rfl, rfl, by rw [List.size_toArray, lens]; exact few, by simpa using rel⟩
  | none =>
    refine go (fun b => if b = a then some (.frz { cls := .type "list", data := .seq us.toArray } (.lst (ns.map V.int))) else none) ?_ ?_ ?_ ?_ fun _ => kl
    · intro b
      by_cases hb : b = a
      · exact .inr ⟨_, _, if_pos hb⟩
      · exact .inl (if_neg hb)
    · exact .inl (.inr ⟨_, if_pos rfl⟩)
    · intro b u z
      by_cases hb : b = a
      · have e := (if_pos hb).symm.trans z
        cases e
        subst hb
        refine ⟨obj, ?_, us, _, rel, obj⟩
        rw [List.length_map]
        exact few
      · have e := (if_neg hb).symm.trans z
        cases e
    · intro b z
      by_cases hb : b = a
      · exact hb
      · exact absurd (if_neg hb) z

/-- a law's row from its def's promise, its bits told, what the Hook says at hand -/
theorem walk_end {l : PySem.W.OpenLaw} {n k : Nat} {q : Program} {loose : List Str} {XP : (Str → Option Value) → Heap → Prop} {YP : World → Heap → Prop} {d : DefRec} {CX : CXT} {x : Str}
    (hn : l.most = some n) (hn2 : n ≤ sizeLine) (hdf : d.params.defaults = []) (hr : Room k callerA)
    (F : ∀ (w : World) (mg : Str → Option Value) (f : Addr) (h : Heap), YP w h → h.Ns mainGlobals mg → mg d.name = some (.ref f) →
      ∃ (K : PySem.W.Frag) (fd : FuncData) (sp : Sp), K.In h ∧ (∀ (s : Shared) (u : Value), BindsTo s fd ⟨[u], []⟩ [(x, u)]) ∧
        (∀ (H : Hp) (a : Addr) (ns : List Int), ns.length ≤ n → (∀ z ∈ ns, Builtin.Int.intBits z ≤ 1048576) → Only H → SqL K H a (ns.map V.int) → sp [.ref a] H (fun v _ => v = .bl true) fun _ _ _ => False) ∧
        ∀ base : Heap, K.In base → base.Ns mainGlobals mg → FnG l.prog w K mg base CX k f fd [x] sp)
    (hCX : ∀ (H : Hp) (s : Shared) (e : Value) (s' : Shared), CX [] H s (fun _ _ _ => False) e s' → False) :
    PySem.W.WalkO q loose XP YP l.row.toRowW d [] (fun f vs => PySem.call f vs) := by
  refine Att.attach_callB hn hdf ?_
  intro w s₀ st mg mb f o pm cd doc a us ns G Y _ _ _ hmg hobj hints hlen hbits hg
  obtain ⟨K, fd, sp, inK, hb, ask, hF⟩ := F w mg f _ Y G.T.g hmg
  exact law_end inK G.T.g G.T.b G.T.builtins G.T.nolimit hg hobj hints (Nat.le_trans hlen hn2) hr hF hb (fun H hH hS => ask H a ns hlen hbits hH hS) fun H e s' => hCX H st e s'

section
variable {P : Program} {w : World} {K : PySem.W.Frag} {mg : Str → Option Value} {base : Heap} {CX : CXT}
/-- a def of the text, called by its name -/
theorem cal_of {x qual : Str} {params : Arguments} {body : List Stmt} {scope : Scope} {kws : List (Str × V)} {f : Addr} {fd : FuncData} {k : Nat} {ps : List Str} {sp : Sp} (F : FunD K x qual params body scope [] kws f fd) (hm : mg x = some (.ref f))
    (hb : ∀ (kV doc pm : Value) (an : Option Addr) (cdv ct : Value) (us : List Value), us.length = ps.length → bindArgs (PySem.W.fnOf x qual params body scope .none kV doc pm an cdv ct) ⟨us, []⟩ = pure (ps.zip us))
    (G : FnG P w K mg base CX k f fd ps sp) : Cal P w K mg base CX x k ps [] sp := ⟨f, fd, [], hm, F.kp, F.bindsN hb, .nil, G⟩
/-- .. by keywords -/
theorem calK_of {x qual : Str} {params : Arguments} {body : List Stmt} {scope : Scope} {kws : List (Str × V)} {f : Addr} {fd : FuncData} {k m : Nat} {ps ks : List Str} {sp : Sp} {gV : List V → List V → List V} (F : FunD K x qual params body scope [] kws f fd) (hm : mg x = some (.ref f))
    (g : List Value → List Value → List Value) (rel : ∀ {vs : List V} {us : List Value} {zs : List V} {ws : List Value}, Vals vs us → Vals zs ws → Vals (gV vs zs) (g us ws))
    (hb : ∀ (kV doc pm : Value) (an : Option Addr) (cdv ct : Value) (us ws : List Value), us.length = m → ws.length = ks.length → bindArgs (PySem.W.fnOf x qual params body scope .none kV doc pm an cdv ct) ⟨us, ks.zip ws⟩ = pure (ps.zip (g us ws)))
    (G : FnG P w K mg base CX k f fd ps sp) : CalK P w K mg base CX x k ps m ks gV sp := by
  refine ⟨f, fd, g, hm, F.kp, ⟨?_, rel⟩, G⟩
  obtain ⟨oc, od, dV, kV, doc, pm, an, cdv, ct, osl, rfl, lk, hcd, hD, hK⟩ := F.ex
  intro s us ws _ l1 l2
  rcases hD with ⟨_, rfl⟩ | ⟨e, _⟩
  · exact .of_eq (hb kV doc pm an cdv ct us ws l1 l2)
  · exact absurd rfl e
end
end Tug
set_option Elab.async false
set_option linter.all false
set_option maxRecDepth 100000
set_option maxHeartbeats 4000000
/-! Tug, part E: dict(a tuple of pairs), what such a dict holds; sorted(that dict). -/
namespace Tug
open PySem PySem.Spec L2
open PyProof.Rows hiding St

theorem tup_keys : typeLookup (.type "tuple") "keys" = pure none := am_miss_of_fast (by first | decide +kernel | rfl)
section
variable {prog : Program} {w : World} {A : Around} {E : Value → Shared → Prop}
/-- a tuple without a dict of its own has no attribute 'keys' -/
theorem tup_miss {st : Shared} {t : Addr} {ob : Obj} {vs : Array Value} {n : Nat} {Q : Option Value → Shared → Prop} (at_ : st.heap.get? t = some ob) (cl : ob.cls = .type "tuple") (sq : ob.data = .seq vs n) (nod : ob.dict = none) (calm : A.handled = none)
    (k : ∀ h' tk, (∀ b o, st.heap.get? b = some o → h'.get? b = some o) → Q none { st with heap := h', toks := tk }) : wpAny (model prog w) A (getAttr? (.ref t) "keys") Q E st := by
  obtain ⟨c, di, da, sl⟩ := ob
  simp only at cl sq nod
  subst cl sq nod
  obtain ⟨hp, gn, dr, tk, os⟩ := st
  have ty : ∀ tk', (⟨hp, gn, dr, tk', os⟩ : Shared).TypeIs (.ref t) "tuple" := fun _ => ⟨_, at_, rfl⟩
  have none_ := tup_keys
  have plain : (["__module__", "__name__", "__qualname__", "__doc__", "__annotations__"] : List Str).contains "keys" = false := by decide +kernel
  have small : ("keys" : Str).length + 100 ≤ sizeLine := by first | size_fits | decide +kernel
  have g1 := sub_AttributeError
  have g3 := PySem.F.slot_tuple_getattribute.lookup
  have g4 := PySem.F.slot_tuple_getattribute.bind (.ref t)
  have g5 := am_tuple_getattr_none
  unfold getAttr? getAttrBy? getAttrBy
  repeat (any_goals (first | assumption | exact ty _ | ((with_reducible show wpAny _ _ (call (Value.builtin "tuple.__getattribute__") _ _) _ _ _); refine call_meets PySem.F.slot_tuple_getattribute (ty _) am_entry_tuple_getattribute (PySem.F.args_tuple_getattribute_2 _ _) (meets_getattribute_miss_tuple t vs n sl "keys" _ none_ plain small) ⟨at_, calm, fun h' tk' e there => ?_⟩) | wp_step))
  obtain ⟨t', u', he⟩ := there.there
  show wpAny _ _ (getattributeRaised _ _ _ _ _ _ _) _ _ _
  unfold getattributeRaised
  repeat (any_goals (first | assumption | wp_step))
  all_goals first | exact k _ _ there.keeps | (dsimp only; repeat (any_goals (first | assumption | exact k _ _ there.keeps | wp_step)))
/-- the walk over a tuple's pairs -/
theorem tup_loop {R : Result → Shared → Prop} {D I t : Addr} {vs : Array Value} {res : Value} (calm : A.handled = none) (tI : t ≠ I) (DI : D ≠ I) (Dt : D ≠ t) :
    ∀ (more : List (Key × Value)) (i : Nat) (got : List (Key × Value)) (ix : Int) (tk : Tok) (st : Shared), vs.size = i + more.length → got.length + more.length ≤ sizeLine →
      (∀ (j : Nat) (q : Key × Value), more[j]? = some q → ∃ (b : Addr) (u : Value), vs[i + j]? = some (.ref b) ∧ b ≠ D ∧ b ≠ I ∧ IsTup st.heap b #[u, q.2] ∧ keyIs q.1 u = true) →
      st.heap.IsTupleIter I t i → st.heap.IsTuple t vs → st.heap.DictOf (mixKind prog w) D got →
      (∀ h' tk', h'.DictOf (mixKind prog w) D (merged got more) → (∀ b o, b ≠ D → b ≠ I → st.heap.get? b = some o → h'.get? b = some o) → R (.ok (.ret res)) { st with heap := h', toks := tk' }) →
      codeAny (model prog w) A (.builtin "dict.update.loop" ⟨[.ref D, .ref I, .int ix tk, res], []⟩) R st
  | [], i, got, ix, tk, st, size, room, pairs, it, tup, dict, k => by
    refine codeAny_builtin ud_entry ?_
    rw [Around.under_plainId ud_plain _]
    show wpAny _ A.in1 (pyNext (.ref I) >>= _) _ _ st
    refine wpAny_bind (wpAny_pyNext_tuple_end (A := A.in1) calm it tup (by first | exact Array.getElem?_eq_none (Nat.le_of_eq size) | (simp at size; simp; omega)) fun h' ext => ?_)
    show wpAny _ A.in1 (Builtin.Dict.addKeywords D [] >>= _) _ _ _
    refine wpAny_bind (wpAny_pure (wpAny_pure ?_))
    exact k h' st.toks (dict.extBut ext DI) fun b o _ hb e => ext b o hb e
  | q :: more, i, got, ix, tk, st, size, room, pairs, it, tup, dict, k => by
    obtain ⟨b, u, hb, bD, bI, pair, key⟩ := pairs 0 q rfl
    rw [List.length_cons] at size room
    refine codeAny_builtin ud_entry ?_
    rw [Around.under_plainId ud_plain _]
    show wpAny _ A.in1 (pyNext (.ref I) >>= _) _ _ st
    refine wpAny_bind (wpAny_pyNext_tuple_item (x := .ref b) it tup (by simpa using hb) fun h1 it1 s1 => ?_)
    have pair1 : IsTup h1 b #[u, q.2] := pair.extBut s1.extBut bI
    have tup1 : h1.IsTuple t vs := by
      obtain ⟨o, e, c⟩ := tup
      exact ⟨o, s1.extBut t o tI e, c⟩
    have dict1 : h1.DictOf (mixKind prog w) D got := dict.extBut s1.extBut DI
    obtain ⟨o, ho, hc, n, hd⟩ := id pair1
    show wpAny _ A.in1 (holding [Value.ref b] _ >>= _) _ _ _
    refine wpAny_bind (wpAny_holding ?_)
    refine wpAny_bind (wpAny_tryCatch ?_)
    unfold Builtin.Dict.pairItems
    refine wpAny_bind (wpAny_typeOf (T := "tuple") ⟨o, ho, hc⟩ ?_)
    rw [if_pos (by first | decide | rfl | simp)]
    refine wpAny_bind (wpAny_seqItems ho hd (wpAny_pure ?_))
    show wpAny _ A.in1 (holding [u, q.2] (dictSet D u q.2)) _ _ _
    refine wpAny_holding (wpAny_dictSet_pairs (knd := mixKind prog w) (k := q.1) key dict1 (fun h2 dict2 s2 => ?_) (by omega))
    refine wpAny_pure ⟨plainId_quiet ud_plain _, tup_loop (vs := vs) calm tI DI Dt more (i + 1) (stored got q.1 q.2) (ix + 1) 0 _ (by omega) ?_ ?_ ?_ ?_ dict2 ?_⟩
    · have := stored_length_le got q.1 q.2
      omega
    · intro j q' e
      obtain ⟨b', u', e1, e2, e3, e4, e5⟩ := pairs (j + 1) q' (by simpa using e)
      refine ⟨b', u', ?_, e2, e3, (e4.extBut s1.extBut e3).extBut s2.extBut e2, e5⟩
      rw [Nat.add_assoc, Nat.add_comm 1 j]
      exact e1
    · obtain ⟨o', e1, e2, e3⟩ := it1
      exact ⟨o', s2.extBut I o' (Ne.symm DI) e1, e2, e3⟩
    · obtain ⟨o', e1, e2⟩ := tup1
      exact ⟨o', s2.extBut t o' (Ne.symm Dt) e1, e2⟩
    · intro h' tk' hd' kp
      exact k h' tk' hd' fun c oc n1 n2 e => kp c oc n1 n2 (s2.extBut c oc n1 (s1.extBut c oc n2 e))
/-- dict(t), t a tuple of pairs -/
theorem tup_dict {st : Shared} {t : Addr} {ob : Obj} {vs : Array Value} {n : Nat} {prs : List (Key × Value)} {Q : Value → Shared → Prop} (calm : A.handled = none) (at_ : st.heap.get? t = some ob) (cl : ob.cls = .type "tuple") (nod : ob.dict = none)
    (sq : ob.data = .seq vs n) (size : vs.size = prs.length) (room : prs.length ≤ sizeLine)
    (pairs : ∀ (j : Nat) (q : Key × Value), prs[j]? = some q → ∃ (b : Addr) (u : Value), vs[j]? = some (.ref b) ∧ IsTup st.heap b #[u, q.2] ∧ keyIs q.1 u = true)
    (k : ∀ h' tk, h'.DictOf (mixKind prog w) st.heap.objs.size (merged [] prs) → (∀ b o, st.heap.get? b = some o → h'.get? b = some o) → Q (.ref st.heap.objs.size) { st with heap := h', toks := tk }) :
    wpAny (model prog w) A (call (.type "dict") [.ref t]) Q E st := by
  refine callType_codes (Q₁ := fun obj s₁ => obj = .ref st.heap.objs.size ∧ s₁ = { st with heap := st.heap.push { cls := .type "dict", data := .dict #[] } }) PySem.F.kt_called_dict (PySem.F.kt_typeCall_dict_1 _) PySem.F.entry_dict_init (kt_code_dict_new _ ⟨rfl, rfl⟩) ?_
  rintro obj s₁ ⟨rfl, rfl⟩
  have fresh : (st.heap.push { cls := .type "dict", data := .dict #[] }).DictOf (mixKind prog w) st.heap.objs.size [] := Heap.DictOf.new st.heap
  have k0 : ∀ b o, st.heap.get? b = some o → (st.heap.push { cls := .type "dict", data := .dict #[] }).get? b = some o := fun b o e => Heap.get?_push_of_some _ e
  refine ⟨fresh.typeIs, PySem.F.args_dict_init_2 _ _, ?_⟩
  unfold Builtin.«dict.__init__»
  refine wpAny_bind ?_
  unfold Builtin.Dict.selfAndRest
  refine wpAny_bind (wpAny_notOrdered_dict fresh.typeIs ?_)
  show wpAny _ _ (pure (st.heap.objs.size, [Value.ref t])) _ _ _
  refine wpAny_pure ?_
  show wpAny _ _ (Builtin.Dict.updateFrom "dict.__init__" st.heap.objs.size (.ref t) [] .none) _ _ _
  unfold Builtin.Dict.updateFrom
  refine wpAny_bind (wpAny_typeOf (T := "tuple") ⟨ob, k0 _ _ at_, cl⟩ ?_)
  rw [if_pos (by first | decide | rfl | simp)]
  refine wpAny_bind (tup_miss (k0 _ _ at_) cl sq nod calm fun h1 tk1 k1 => ?_)
  rw [if_pos (show (none : Option Value).isNone = true from rfl)]
  refine wpAny_bind (wpAny_rule ?_)
  have tup1 : h1.IsTuple t vs := ⟨ob, k1 _ _ (k0 _ _ at_), cl, n, sq⟩
  have big : st.heap.objs.size < h1.objs.size := by
    have e : (st.heap.push { cls := .type "dict", data := .dict #[] }).get? st.heap.objs.size = some { cls := .type "dict", data := .dict #[] } := Heap.get?_push_size _ rfl
    exact Heap.lt_size (k1 _ _ e)
  refine wpAny_bind (wpAny_pyIter_tuple tup1 ?_)
  have k2 : ∀ b o, h1.get? b = some o → (h1.push { cls := .type "tuple_iterator", data := .fields #[.ref t, .int 0 0] }).get? b = some o := fun b o e => Heap.get?_push_of_some _ e
  have low : t < st.heap.objs.size := Heap.lt_size at_
  have loop := tup_loop (prog := prog) (w := w) (A := A.in1) (R := wants (fun r s₂ => r = .none ∧ Q (.ref st.heap.objs.size) s₂) E) (D := st.heap.objs.size) (I := h1.objs.size) (t := t) (vs := vs) (res := Value.none) calm
    (Nat.ne_of_lt (Nat.lt_trans low big)) (Nat.ne_of_lt big) (Nat.ne_of_gt low) prs 0 [] 0 0
    { st with heap := h1.push { cls := .type "tuple_iterator", data := .fields #[.ref t, .int 0 0] }, toks := tk1 } (by rw [size, Nat.zero_add]) (by rw [List.length_nil, Nat.zero_add]; exact room)
    (fun j q e => by
      obtain ⟨b, u, e1, e2, e3⟩ := pairs j q e
      have lb : b < st.heap.objs.size := e2.lt
      exact ⟨b, u, by rw [Nat.zero_add]; exact e1, Nat.ne_of_lt lb, Nat.ne_of_lt (Nat.lt_trans lb big), e2.keeps fun c o z => k2 _ _ (k1 _ _ (k0 _ _ z)), e3⟩)
    ⟨_, Heap.get?_push_size _ rfl, rfl, rfl⟩
    (by
      obtain ⟨o, e1, e2⟩ := tup1
      exact ⟨o, k2 _ _ e1, e2⟩)
    ((fresh.at fun o e => k1 _ _ e).at fun o e => k2 _ _ e)
    (fun h' tk hd' kp => ⟨rfl, k h' tk hd' fun b o e => kp b o (Nat.ne_of_lt (Heap.lt_size e)) (Nat.ne_of_lt (Nat.lt_trans (Heap.lt_size e) big)) (k2 _ _ (k1 _ _ (k0 _ _ e)))⟩)
  first
    | exact wpAny_pure ⟨plainId_quiet ud_plain _, loop⟩
    | exact wpAny_bind (wpAny_pure (wpAny_pure ⟨plainId_quiet ud_plain _, loop⟩))
end
section
variable {X : Cx}
/-- a form's pairs as a dict's -/
def kvs (ps : List (Int × Int)) : List (Key × V) := ps.map fun p => (Sum.inl p.1, V.int p.2)
theorem pairs_at {pins : List (Addr × Obj)} {σ : St} {H : Hp} {s : Shared} (I : Inv X pins σ H s) : ∀ {xs : List V} {ps : List (Int × Int)} {us : List Value}, TpAll H xs (ps.map prD) → Vals xs us →
    ∃ prs : List (Key × Value), KV (kvs ps) prs ∧ prs.length = us.length ∧ ∀ (j : Nat) (q : Key × Value), prs[j]? = some q → ∃ (b : Addr) (u : Value), us[j]? = some (.ref b) ∧ IsTup s.heap b #[u, q.2] ∧ keyIs q.1 u = true
  | xs, [], us, h, r => by
    obtain rfl := TpAll.of_nil h
    cases r
    exact ⟨[], .nil, rfl, fun j q e => by simp at e⟩
  | xs, p :: ps, us, h, r => by
    rw [List.map_cons] at h
    obtain ⟨x, rest, rfl, hx, hr⟩ := h.of_cons
    obtain ⟨a, y, z, rfl, ha, hy, hz⟩ := hx.pair
    obtain rfl := hy.of_int
    obtain rfl := hz.of_int
    cases r with
    | cons r1 r2 =>
      have e1 : _ = Value.ref a := r1
      subst e1
      obtain ⟨prs, rel, hl, at_⟩ := pairs_at I hr r2
      obtain ⟨its, rv, ht, _⟩ := I.tuple (ha.sq (K := X.K))
      obtain ⟨u, v, ei, ru, rv'⟩ := vals2 rv
      subst ei
      refine ⟨(Sum.inl p.1, v) :: prs, .cons ⟨rfl, rv'⟩ rel, by rw [List.length_cons, List.length_cons, hl], ?_⟩
      intro j q e
      cases j with
      | zero =>
        have e' : ((Sum.inl p.1 : Key), v) = q := Option.some.inj e
        subst e'
        obtain ⟨t, rfl⟩ := ru
        exact ⟨a, _, rfl, ht, keyIs_int p.1 t⟩
      | succ j =>
        obtain ⟨b, u', e1, e2, e3⟩ := at_ j q (by simpa using e)
        exact ⟨b, u', by simpa using e1, e2, e3⟩
def rDictT : List V → Hp → VK → Prop := fun vs H Q => ∃ (a : Addr) (xs : List V) (ps : List (Int × Int)), vs = [.ref a] ∧ Kt H a xs ∧ TpAll H xs (ps.map prD) ∧ ∀ p, H p = none → Q (.ref p) (upd H p (.dK (mergeK [] (kvs ps))))
theorem call_dictT (hc : X.calm = true) : CallR X (.type "dict") rDictT := by
  intro pins s σ H vs us Q I r h
  obtain ⟨a, xs, ps, rfl, ha, hx, q⟩ := h
  obtain ⟨u, rfl, ru⟩ := vals1 r
  cases ru
  obtain ⟨o, hf, nod⟩ := ha
  obtain ⟨ho, hz, its, rv, hT⟩ := I.hok a _ hf
  obtain ⟨o', ho', hcl, n, hdat⟩ := hT
  rw [ho] at ho'
  cases ho'
  obtain ⟨prs, rel, hl, at_⟩ := pairs_at I hx rv
  have lens := rv.length
  refine tup_dict (prs := prs) (I.ok.hd hc) ho hcl nod hdat (by simp [hl]) (by omega) (fun j q' e => ?_) fun h' tk hd' k => ?_
  · obtain ⟨b, u, e1, e2, e3⟩ := at_ j q' e
    exact ⟨b, u, by simp [e1], e2, e3⟩
  · have notSys : (s.heap.objs.size == sysModules) = false := beq_eq_false_iff_ne.mpr (Nat.ne_of_gt I.big)
    have small : (mergeK [] (kvs ps)).length ≤ sizeLine := by
      refine Nat.le_trans (length_mergeK (kvs ps) []) ?_
      have := rel.length
      rw [List.length_nil]
      omega
    exact ⟨.ref s.heap.objs.size, _, I.laid (o := .dK (mergeK [] (kvs ps))) (t' := tk) k (Nat.le_refl _) ⟨small, notSys, merged [] prs, KV.merge rel .nil, hd'⟩, rfl, q _ (I.hok.fresh (Nat.le_refl _))⟩
end
end Tug
set_option Elab.async false
set_option linter.all false
set_option maxRecDepth 100000
set_option maxHeartbeats 4000000
/-! Tug, part F: forms: how often a knob goes in; the defs of forms, what they promise. -/
namespace Tug
open PySem PySem.Spec L2
open PyProof.Rows hiding St

/-- how often a knob goes into pairs -/
def cofO (ps : List (Int × Int)) (k : Int) : Option Int := (ps.find? fun p => decide (p.1 = k)).map (·.2)
def cof (ps : List (Int × Int)) (k : Int) : Int := (cofO ps k).getD 0
theorem kvs_val (ps : List (Int × Int)) (k : Int) : valV (kvs ps) (Sum.inl k) = (cofO ps k).map V.int := by
  unfold cofO
  induction ps with
  | nil => rfl
  | cons p r ih =>
    show valV ((Sum.inl p.1, V.int p.2) :: kvs r) (Sum.inl k) = _
    by_cases e : p.1 = k
    · rw [valV_pos (by rw [e]), List.find?_cons_of_pos (by simpa using e)] <;> rfl
    · rw [valV_neg (fun z => e (Sum.inl.inj z)), List.find?_cons_of_neg (by simpa using e)]
      exact ih
theorem merge_kvs : ∀ {ps acc : List (Int × Int)}, ((acc ++ ps).map (·.1)).Nodup → mergeK (kvs acc) (kvs ps) = kvs (acc ++ ps)
  | [], acc, _ => by
    rw [List.append_nil] <;> rfl
  | p :: ps, acc, h => by
    have hn : valV (kvs acc) (Sum.inl p.1) = none := by
      rw [kvs_val]
      unfold cofO
      have : (acc.find? fun q => decide (q.1 = p.1)) = none := by
        rw [List.find?_eq_none]
        intro q hq e
        have e' : q.1 = p.1 := by simpa using e
        rw [List.map_append, List.nodup_append] at h
        exact h.2.2 q.1 (List.mem_map_of_mem hq) p.1 (by simp) e'
      rw [this] <;> rfl
    show mergeK (putK (kvs acc) (Sum.inl p.1) (V.int p.2)) (kvs ps) = _
    rw [putK_new _ hn]
    have e : kvs acc ++ [((Sum.inl p.1 : Key), V.int p.2)] = kvs (acc ++ [p]) := by
      unfold kvs
      rw [List.map_append] <;> rfl
    rw [e, merge_kvs (by rw [List.append_assoc]; exact h), List.append_assoc] <;> rfl
theorem merge_nil {ps : List (Int × Int)} (h : (ps.map (·.1)).Nodup) : mergeK [] (kvs ps) = kvs ps := merge_kvs (acc := []) (by simpa using h)
theorem PsOk.nodup {m : Int} {ps : List (Int × Int)} (h : PsOk m ps) : (ps.map (·.1)).Nodup := h.rise.imp fun h => Int.ne_of_lt h
/-- dict(pairs).get(k, 0) -/
theorem get_cof {H : Hp} {d : Addr} {ps : List (Int × Int)} (k : Int) (hd : H d = some (.dK (mergeK [] (kvs ps)))) (h : (ps.map (·.1)).Nodup) : ∃ o, DGet H d (.int k) o ∧ o.getD (.int 0) = .int (cof ps k) := by
  refine ⟨_, DGet.k (k := Sum.inl k) hd, ?_⟩
  rw [merge_nil h, kvs_val]
  unfold cof
  cases e : cofO ps k <;> rfl
/-- the pairs but one knob's -/
def but (ps : List (Int × Int)) (k : Int) : List (Int × Int) := ps.filter fun p => !decide (p.1 = k)
theorem but_nil (k : Int) : but [] k = [] := rfl
theorem but_pos {p : Int × Int} {ps : List (Int × Int)} {k : Int} (e : p.1 = k) : but (p :: ps) k = but ps k := by
  unfold but
  rw [List.filter_cons, decide_eq_true e] <;> rfl
theorem but_neg {p : Int × Int} {ps : List (Int × Int)} {k : Int} (e : ¬ p.1 = k) : but (p :: ps) k = p :: but ps k := by
  unfold but
  rw [List.filter_cons, decide_eq_false e] <;> rfl
theorem cof_pos {p : Int × Int} {ps : List (Int × Int)} {k : Int} (e : p.1 = k) : cof (p :: ps) k = p.2 := by
  unfold cof cofO
  rw [List.find?_cons_of_pos (by simpa using e)] <;> rfl
theorem cof_neg {p : Int × Int} {ps : List (Int × Int)} {k : Int} (e : ¬ p.1 = k) : cof (p :: ps) k = cof ps k := by
  unfold cof cofO
  rw [List.find?_cons_of_neg (by simpa using e)]
theorem cof_not {ps : List (Int × Int)} {k : Int} (h : k ∉ ps.map (·.1)) : cof ps k = 0 := by
  induction ps with
  | nil => rfl
  | cons p r ih =>
    rw [List.map_cons, List.mem_cons, not_or] at h
    rw [cof_neg (fun e => h.1 e.symm), ih h.2]
theorem but_not {ps : List (Int × Int)} {k : Int} (h : k ∉ ps.map (·.1)) : but ps k = ps := by
  induction ps with
  | nil => rfl
  | cons p r ih =>
    rw [List.map_cons, List.mem_cons, not_or] at h
    rw [but_neg (fun e => h.1 e.symm), ih h.2]
theorem but_mem {ps : List (Int × Int)} {k : Int} {p : Int × Int} (h : p ∈ but ps k) : p ∈ ps ∧ p.1 ≠ k := by
  unfold but at h
  obtain ⟨h1, h2⟩ := List.mem_filter.mp h
  exact ⟨h1, by simpa using h2⟩
theorem smo_cons (p : Int × Int) (ps : List (Int × Int)) (ns : List Int) : smo (p :: ps) ns = p.2 * ns.getD p.1.toNat 0 + smo ps ns := by
  unfold smo
  rw [List.map_cons, List.sum_cons]
theorem smo_nil (ns : List Int) : smo [] ns = 0 := rfl
theorem wth_smo (n : Int) (ps : List (Int × Int)) (ns : List Int) : wth n ps ns = n + smo ps ns := rfl
/-- by one knob alone -/
theorem smo_but {ns : List Int} {k : Int} (k0 : 0 ≤ k) : ∀ {ps : List (Int × Int)}, (ps.map (·.1)).Nodup → smo ps ns = smo (but ps k) ns + cof ps k * ns.getD k.toNat 0
  | [], _ => by rw [but_nil, smo_nil]; show (0 : Int) = 0 + 0 * _; rw [Int.zero_mul] <;> rfl
  | p :: ps, h => by
    rw [List.map_cons, List.nodup_cons] at h
    by_cases e : p.1 = k
    · rw [but_pos e, cof_pos e, smo_cons, but_not (by rw [← e]; exact h.1), e]
      omega
    · rw [but_neg e, cof_neg e, smo_cons, smo_cons, smo_but k0 h.2]
      omega
/-- pairs that lack a knob don't see it -/
theorem smo_set {ns : List Int} {k : Int} {z : Int} (k0 : 0 ≤ k) : ∀ {ps : List (Int × Int)}, (∀ p ∈ ps, 0 ≤ p.1 ∧ p.1 ≠ k) → smo ps (ns.set k.toNat z) = smo ps ns
  | [], _ => rfl
  | p :: ps, h => by
    obtain ⟨p0, p1⟩ := h p List.mem_cons_self
    have ne : k.toNat ≠ p.1.toNat := fun e => p1 (by omega)
    rw [smo_cons, smo_cons, smo_set k0 fun q hq => h q (List.mem_cons_of_mem _ hq), List.getD_eq_getElem?_getD, List.getElem?_set_ne ne, ← List.getD_eq_getElem?_getD]
/-- the worth where one knob is moved -/
theorem wth_set {n : Int} {ps : List (Int × Int)} {ns : List Int} {k z : Int} (k0 : 0 ≤ k) (k1 : k < ns.length) (hp : ∀ p ∈ ps, 0 ≤ p.1) (h : (ps.map (·.1)).Nodup) : wth n ps (ns.set k.toNat z) = wth n (but ps k) ns + cof ps k * z := by
  rw [wth_smo, wth_smo, smo_but k0 h, smo_set k0 fun p q => ⟨hp p (but_mem q).1, (but_mem q).2⟩]
  have e : (ns.set k.toNat z).getD k.toNat 0 = z := by
    rw [List.getD_eq_getElem?_getD, List.getElem?_set_self (by omega)] <;> rfl
  rw [e]
  omega
theorem WOk.but {n : Int} {ps : List (Int × Int)} {ns : List Int} {k : Int} (h : WOk n ps ns) : WOk n (but ps k) ns := by
  refine ⟨fun p q => h.at_ p (but_mem q).1, fun p q => h.sz p (but_mem q).1, h.szn, ?_⟩
  exact Nat.le_trans (List.length_filter_le _ _) h.len
theorem cof_sz {ps : List (Int × Int)} {k : Int} {j : Nat} (h : ∀ p ∈ ps, Sz j p.2) : Sz j (cof ps k) := by
  unfold cof cofO
  cases e : ps.find? fun p => decide (p.1 = k) with
  | none => exact Sz.zero
  | some p => exact h p (List.mem_of_find?_eq_some e)
section
variable {σ : St} {H : Hp} {Q : VK} {K : PySem.W.Frag}
theorem r_get2 {td ty tx : TE} (h : td σ H fun x H1 => ∃ a, x = .ref a ∧ IsD H1 a ∧ ty σ H1 fun y H2 => tx σ H2 fun z H3 => ∃ o, DGet H3 a y o ∧ Q (o.getD z) H3) : tDGet2 td ty tx σ H Q := h
theorem r_iseq {tl : TE} {R : It → Hp → Prop} (h : tl σ H fun x H1 => ∃ a, x = .ref a ∧ (((∃ xs, SqL K H1 a xs) ∧ R (Itl K a) H1) ∨ ((∃ xs, SqT K H1 a xs) ∧ R (Itt K a) H1))) : iSeq K tl σ H R := h
theorem r_sl {r : V → Option Int → Option Int → Hp → VK → Prop} {te : TE} {tl th : TO} (h : te σ H fun x H1 => tl σ H1 fun l H2 => th σ H2 fun u H3 => r x l u H3 Q) : tSl r te tl th σ H Q := h
theorem r_nopart {R : Option Int → Hp → Prop} (q : R none H) : tNoPart σ H R := q
theorem r_part {t : TE} {R : Option Int → Hp → Prop} (h : t σ H fun x H1 => ∃ i, x = .int i ∧ R (some i) H1) : tPart t σ H R := h
theorem r_pint {i : Int} {R : Int → Prop} (q : R i) : ∃ j, V.int i = V.int j ∧ R j := ⟨i, rfl, q⟩
theorem r_cut {a : Addr} {xs : List V} {lo hi : Option Int} (h : SqL K H a xs) (q : ∀ p, H p = none → Q (.ref p) (upd H p (.lst (cutV xs lo hi)))) : rSlL K (.ref a) lo hi H Q := ⟨a, xs, rfl, h, q⟩
theorem r_cat {l b : Addr} {xs zs : List V} (h : H l = some (.lst xs)) (h2 : H b = some (.lst zs)) (z : xs.length + zs.length ≤ sizeLine) (q : ∀ p, H p = none → Q (.ref p) (upd H p (.lst (xs ++ zs)))) : rCat (.ref l) (.ref b) H Q := ⟨l, b, xs, zs, rfl, rfl, h, h2, z, q⟩
theorem isD_of {d : Addr} {kv : List (Key × V)} (h : H d = some (.dK kv)) : IsD H d := .inl ⟨kv, .inl h⟩
end
theorem cut_to (xs : List V) {k : Int} (k0 : 0 ≤ k) (k1 : k ≤ xs.length) : cutV xs none (some k) = xs.take k.toNat := by
  unfold cutV
  rw [show k = ((k.toNat : Nat) : Int) by omega, HT.sIx_none, HT.sIx_nat]
  rw [List.drop_zero, Nat.sub_zero, Nat.min_eq_left (by omega)]
  rw [show ((k.toNat : Nat) : Int).toNat = k.toNat by omega]
theorem cut_from (xs : List V) {k : Int} (k0 : 0 ≤ k) (k1 : k ≤ xs.length) : cutV xs (some k) none = xs.drop k.toNat := by
  unfold cutV
  rw [show k = ((k.toNat : Nat) : Int) by omega, HT.sIx_none, HT.sIx_nat]
  rw [Nat.min_eq_left (by omega)]
  rw [show ((k.toNat : Nat) : Int).toNat = k.toNat by omega]
  apply List.take_of_length_le
  rw [List.length_drop]
  exact Nat.le_refl _
/-- numbers[:k] + [z] + numbers[k + 1:] -/
theorem cut_set (ns : List Int) {k z : Int} (k0 : 0 ≤ k) (k1 : k < ns.length) : cutV (ns.map V.int) none (some k) ++ [V.int z] ++ cutV (ns.map V.int) (some (k + 1)) none = (ns.set k.toNat z).map V.int := by
  rw [cut_to _ k0 (by rw [List.length_map]; omega), cut_from _ (by omega) (by rw [List.length_map]; omega)]
  rw [List.set_eq_take_append_cons_drop, if_pos (by omega)]
  rw [List.map_append, List.map_cons, List.map_take, List.map_drop, List.append_assoc]
  rw [show (k + 1).toNat = k.toNat + 1 by omega] <;> rfl
def spAlong (K : PySem.W.Frag) : Sp := fun vs H Q _ => ∃ (v : V) (k : Int) (l : Addr) (n : Int) (ps : List (Int × Int)) (ns : List Int), vs = [v, .int k, .ref l] ∧ Tp H v (fmD n ps) ∧ SqL K H l (ns.map V.int) ∧ WOk n ps ns ∧ (ps.map (·.1)).Nodup ∧
  ∀ v' H', Same H H' → Tp H' v' (.tuple [.int (wth n (but ps k) ns), .int (cof ps k)]) → Q v' H'
end Tug
set_option Elab.async false
set_option linter.all false
set_option maxRecDepth 100000
set_option maxHeartbeats 4000000
/-! Tug, part G: sorted(a dict of numbers); two forms put together. -/
namespace Tug
open PySem PySem.Spec L2
open PyProof.Rows hiding St

/-! ### sorted(d), d's keys whole numbers, fewer than 64 -/
theorem ints_at' : ∀ {us : List Value} {ns : List Int}, us.length = ns.length → (∀ (j : Nat) (v : Value), us[j]? = some v → ∃ (x : Int) (t : Tok), ns[j]? = some x ∧ v = Value.int x t) → IntsAre us ns
  | [], [], _, _ => .nil
  | u :: us, n :: ns, hl, h => by
    obtain ⟨x, t, e1, e2⟩ := h 0 u rfl
    have e3 : n = x := Option.some.inj e1
    subst e3
    subst e2
    refine .cons _ _ (ints_at' (by simpa using hl) fun j v e => ?_)
    obtain ⟨x, t, a, b⟩ := h (j + 1) v (by simpa using e)
    exact ⟨x, t, by simpa using a, b⟩
  | [], _ :: _, hl, _ => by simp at hl
  | _ :: _, [], hl, _ => by simp at hl
section
variable {X : Cx}
def rSortZ : List V → Hp → VK → Prop := fun vs H Q => ∃ (a : Addr) (rs : List (Int × Int)), vs = [.ref a] ∧ H a = some (.dK (kvs rs)) ∧ rs.length < 64 ∧
  ∀ (ns : List Int) (p : Addr), ns.Perm (rs.map (·.1)) → ns.Pairwise (· ≤ ·) → H p = none → Q (.ref p) (upd H p (.lst (ns.map V.int)))
theorem call_sortZ (calm : X.calm = true) : CallR X (.builtin "sorted") rSortZ := by
  intro pins s σ H vs us Q I r h
  obtain ⟨a, rs, rfl, hd, few, q⟩ := h
  obtain ⟨u, rfl, ru⟩ := vals1 r
  cases ru
  obtain ⟨z, lo, es, rel, dd⟩ := dk_rd I.hok (.inl hd)
  obtain ⟨ep, at_⟩ := dd.dictAt
  have keys : es.map (·.1) = (rs.map (·.1)).map Sum.inl := by
    rw [← rel.keys]
    unfold kvs
    rw [List.map_map, List.map_map] <;> rfl
  have len : es.length = rs.length := by
    have e := congrArg List.length keys
    simpa using e
  have room : es.length ≤ sizeLine := by rw [len, sizeLine_eq]; omega
  refine Calls.call_function_entry PyProof.Rows.kind_sorted PyProof.Rows.plain_sorted PyProof.Rows.entry_sorted (PyProof.Rows.args_sorted1 _) ?_
  unfold Builtin.«sorted»
  refine wpAny_bind (m := checkCount "sorted" 1 1 _) (wpAny_pure ?_)
  refine wpAny_bind (PySem.W.kdu_collect (A := X.A.in1) (PySem.W.kdl_dict (knd := mixKind X.prog X.w) (kvs := es) (ep := ep) lo) (I.ok.hd calm) at_ room fun h' tk acc kp got => ?_)
  have alen : acc.toList.length = (rs.map (·.1)).length := by rw [Array.length_toList, got.1, len, List.length_map]
  have hI : IntsAre acc.toList (rs.map (·.1)) := by
    refine ints_at' alen fun j v e => ?_
    obtain ⟨k, x, e1, e2⟩ := got.2 j v (by rw [← Array.getElem?_toList]; exact e)
    have e3 : (es.map (·.1))[j]? = some k := by
      rw [List.getElem?_map, e1] <;> rfl
    rw [keys, List.getElem?_map, Option.map_eq_some_iff] at e3
    obtain ⟨y, e4, e5⟩ := e3
    subst e5
    obtain ⟨t, ev⟩ := Value.isInt_shape (k := y) (v := v) e2
    exact ⟨y, t, e4, ev⟩
  have J : Inv X pins σ H { s with heap := h', toks := tk } := I.kept kp
  have few' : acc.toList.length < 64 := by rw [alen, List.length_map]; exact few
  refine wpAny_bind (wpAny_newList ?_ (by rw [sizeLine_eq]; omega))
  have here : (h'.push (seqObj "list" acc.toList.toArray 0)).get? h'.objs.size = some (seqObj "list" acc.toList.toArray 0) := Heap.get?_push_size _ rfl
  show wpAny _ _ _ _ _ { s with heap := h'.push (seqObj "list" acc.toList.toArray 0), toks := tk }
  refine wpAny_bind (wpAny_holding (wpAny_call_entry PyProof.Rows.slot_list_sort ⟨_, here, rfl⟩ PyProof.Rows.entry_list_sort
    (list_sort_tree (s := { s with heap := h'.push (seqObj "list" acc.toList.toArray 0), toks := tk }) here hI few' fun out ns a1 a2 a3 => ⟨_, rfl, ?_⟩) (PyProof.Rows.args_list_sort _)))
  obtain ⟨e', he'⟩ := PyProof.Rows.sortedHeap_at (vs := acc.toList) (out := out) here
  have size : (ns.map V.int).length ≤ sizeLine := by
    rw [List.length_map, a2.length_eq, List.length_map, sizeLine_eq]
    omega
  refine wpAny_pure ⟨_, rfl, .ref h'.objs.size, upd H h'.objs.size (.lst (ns.map V.int)), J.laid (t' := tk) (fun b u e => ?_) (Nat.le_refl _)
    (show ObjOk X.prog X.w _ _ _ (.lst (ns.map V.int)) from ⟨size, out.toList, e', vals_of_ints a1, by rw [Array.toArray_toList]; exact he'⟩), rfl, q ns _ a2 a3 (J.hok.fresh (Nat.le_refl _))⟩
  have hb : b < h'.objs.size := Heap.lt_size e
  rw [PyProof.Rows.sortedHeap_old (Nat.ne_of_lt hb) (by rw [size_push']; exact Nat.lt_succ_of_lt hb)]
  exact Heap.get?_push_of_some _ e
end

/-! ### pairs as a dict, changed -/
def ups : List (Int × Int) → Int → Int → List (Int × Int)
  | [], k, z => [(k, z)]
  | p :: r, k, z => if p.1 = k then (k, z) :: r else p :: ups r k z
theorem ups_keys {k z : Int} : ∀ (rs : List (Int × Int)) (j : Int), j ∈ (ups rs k z).map (·.1) ↔ j = k ∨ j ∈ rs.map (·.1)
  | [], j => by simp [ups]
  | p :: r, j => by
    unfold ups
    by_cases e : p.1 = k
    · rw [if_pos e, List.map_cons, List.mem_cons, List.map_cons, List.mem_cons, e]
      constructor
      · rintro (h | h)
        · exact .inl h
        · exact .inr (.inr h)
      · rintro (h | h | h)
        · exact .inl h
        · exact .inl h
        · exact .inr h
    · rw [if_neg e, List.map_cons, List.mem_cons, ups_keys r j, List.map_cons, List.mem_cons]
      constructor
      · rintro (h | h | h)
        · exact .inr (.inl h)
        · exact .inl h
        · exact .inr (.inr h)
      · rintro (h | h | h)
        · exact .inr (.inl h)
        · exact .inl h
        · exact .inr (.inr h)
theorem ups_nodup {k z : Int} : ∀ {rs : List (Int × Int)}, (rs.map (·.1)).Nodup → ((ups rs k z).map (·.1)).Nodup
  | [], _ => by simp [ups]
  | p :: r, h => by
    rw [List.map_cons, List.nodup_cons] at h
    unfold ups
    by_cases e : p.1 = k
    · rw [if_pos e, List.map_cons, List.nodup_cons]
      refine ⟨?_, h.2⟩
      show k ∉ _
      rw [← e]
      exact h.1
    · rw [if_neg e, List.map_cons, List.nodup_cons]
      refine ⟨fun m => ?_, ups_nodup h.2⟩
      rcases (ups_keys r p.1).mp m with q | q
      · exact e q
      · exact h.1 q
theorem ups_cof {k z : Int} : ∀ (rs : List (Int × Int)) (j : Int), cof (ups rs k z) j = if j = k then z else cof rs j
  | [], j => by
    unfold ups
    by_cases e : k = j
    · rw [cof_pos e, if_pos e.symm]
    · rw [cof_neg e, if_neg fun q => e q.symm]
  | p :: r, j => by
    unfold ups
    by_cases e : p.1 = k
    · rw [if_pos e]
      by_cases q : k = j
      · rw [cof_pos q, if_pos q.symm]
      · rw [cof_neg q, if_neg fun z => q z.symm, cof_neg fun z => q (e.symm.trans z)]
    · rw [if_neg e]
      by_cases q : p.1 = j
      · rw [cof_pos q, cof_pos q, if_neg fun z => e (q.trans z)]
      · rw [cof_neg q, cof_neg q, ups_cof r j]
theorem ups_length {k z : Int} : ∀ rs : List (Int × Int), (ups rs k z).length ≤ rs.length + 1
  | [] => by simp [ups]
  | p :: r => by
    unfold ups
    by_cases e : p.1 = k
    · rw [if_pos e]
      simp
    · rw [if_neg e, List.length_cons, List.length_cons]
      have := ups_length (k := k) (z := z) r
      omega
theorem kvs_any (rs : List (Int × Int)) (k : Int) : ((kvs rs).any fun kv => decide (kv.1 = (Sum.inl k : Key))) = decide (k ∈ rs.map (·.1)) := by
  induction rs with
  | nil => simp [kvs]
  | cons p r ih =>
    show ((Sum.inl p.1, V.int p.2) :: kvs r).any _ = _
    rw [List.any_cons, ih, List.map_cons]
    by_cases e : p.1 = k
    · simp [e]
    · have e2 : ¬ k = p.1 := fun q => e q.symm
      have e3 : ¬ (Sum.inl p.1 : Key) = Sum.inl k := fun q => e (Sum.inl.inj q)
      simp [e3, e2]
theorem kvs_map_not {k z : Int} : ∀ {rs : List (Int × Int)}, k ∉ rs.map (·.1) → ((kvs rs).map fun kv => if kv.1 = (Sum.inl k : Key) then (kv.1, V.int z) else kv) = kvs rs
  | [], _ => rfl
  | p :: r, h => by
    rw [List.map_cons, List.mem_cons, not_or] at h
    show (if (Sum.inl p.1 : Key) = Sum.inl k then _ else _) :: ((kvs r).map _) = _
    rw [if_neg fun q => h.1 (Sum.inl.inj q).symm, kvs_map_not h.2] <;> rfl
theorem ups_not {k z : Int} : ∀ {rs : List (Int × Int)}, k ∉ rs.map (·.1) → ups rs k z = rs ++ [(k, z)]
  | [], _ => rfl
  | p :: r, h => by
    rw [List.map_cons, List.mem_cons, not_or] at h
    unfold ups
    rw [if_neg fun q => h.1 q.symm, ups_not h.2] <;> rfl
theorem put_kvs {k z : Int} {rs : List (Int × Int)} (h : (rs.map (·.1)).Nodup) : putK (kvs rs) (Sum.inl k) (V.int z) = kvs (ups rs k z) := by
  unfold putK
  rw [kvs_any]
  by_cases m : k ∈ rs.map (·.1)
  · rw [if_pos (decide_eq_true m)]
    induction rs with
    | nil => simp at m
    | cons p r ih =>
      rw [List.map_cons, List.nodup_cons] at h
      show (if (Sum.inl p.1 : Key) = Sum.inl k then ((Sum.inl p.1 : Key), V.int z) else _) :: ((kvs r).map _) = _
      unfold ups
      by_cases e : p.1 = k
      · rw [if_pos (by rw [e]), if_pos e, kvs_map_not (by rw [← e]; exact h.1), e] <;> rfl
      · rw [if_neg fun q => e (Sum.inl.inj q), if_neg e]
        rw [List.map_cons, List.mem_cons] at m
        rw [ih h.2 (m.resolve_left fun q => e q.symm)] <;> rfl
  · rw [if_neg (by rw [decide_eq_false m]; exact Bool.false_ne_true), ups_not m]
    unfold kvs
    rw [List.map_append] <;> rfl

/-! ### canonical pairs -/
/-- by rising knobs, none of 0 -/
structure Can (ps : List (Int × Int)) : Prop where
  rise : (ps.map (·.1)).Pairwise (· < ·)
  nz : ∀ p ∈ ps, p.2 ≠ 0
theorem Can.nodup {ps : List (Int × Int)} (h : Can ps) : (ps.map (·.1)).Nodup := h.rise.imp fun h => Int.ne_of_lt h
theorem PsOk.can {m : Int} {ps : List (Int × Int)} (h : PsOk m ps) : Can ps := ⟨h.rise, fun p hp => (h.at_ p hp).2.2.1⟩
theorem cof_mem {ps : List (Int × Int)} (h : (ps.map (·.1)).Nodup) {p : Int × Int} (hp : p ∈ ps) : cof ps p.1 = p.2 := by
  induction ps with
  | nil => cases hp
  | cons q r ih =>
    rw [List.map_cons, List.nodup_cons] at h
    rcases List.mem_cons.mp hp with e | e
    · rw [e, cof_pos rfl]
    · rw [cof_neg fun z => h.1 (by rw [z]; exact List.mem_map_of_mem e), ih h.2 e]
theorem cof_key {ps : List (Int × Int)} {k : Int} (h : cof ps k ≠ 0) : k ∈ ps.map (·.1) := by
  by_cases m : k ∈ ps.map (·.1)
  · exact m
  · exact absurd (cof_not m) h
/-- two canonical rows of pairs are one where each knob goes in as often -/
theorem Can.ext : ∀ {ps qs : List (Int × Int)}, Can ps → Can qs → (∀ k, cof ps k = cof qs k) → ps = qs
  | [], [], _, _, _ => rfl
  | [], q :: qs, _, hq, h => by
    have e := h q.1
    rw [cof_pos rfl] at e
    exact absurd e.symm (hq.nz q List.mem_cons_self)
  | p :: ps, [], hp, _, h => by
    have e := h p.1
    rw [cof_pos rfl] at e
    exact absurd e (hp.nz p List.mem_cons_self)
  | p :: ps, q :: qs, hp, hq, h => by
    have rp := hp.rise
    have rq := hq.rise
    rw [List.map_cons, List.pairwise_cons] at rp rq
    have np := hp.nodup
    have nq := hq.nodup
    rw [List.map_cons, List.nodup_cons] at np nq
    have kp : q.1 ∈ (p :: ps).map (·.1) := cof_key (by rw [h, cof_pos rfl]; exact hq.nz q List.mem_cons_self)
    have kq : p.1 ∈ (q :: qs).map (·.1) := cof_key (by rw [← h, cof_pos rfl]; exact hp.nz p List.mem_cons_self)
    rw [List.map_cons, List.mem_cons] at kp kq
    have e1 : p.1 = q.1 := by
      rcases kp with e | e
      · exact e.symm
      · rcases kq with e' | e'
        · exact e'
        · have l1 := rp.1 _ e
          have l2 := rq.1 _ e'
          omega
    have e2 : p.2 = q.2 := by
      have := h p.1
      rw [cof_pos rfl, cof_pos e1.symm] at this
      exact this
    have e3 : p = q := Prod.ext e1 e2
    subst e3
    have e4 : ps = qs := by
      refine Can.ext ⟨rp.2, fun x hx => hp.nz x (List.mem_cons_of_mem _ hx)⟩ ⟨rq.2, fun x hx => hq.nz x (List.mem_cons_of_mem _ hx)⟩ fun k => ?_
      by_cases ek : p.1 = k
      · rw [← ek, cof_not np.1, cof_not nq.1]
      · have := h k
        rw [cof_neg ek, cof_neg ek] at this
        exact this
    rw [e4]
/-- one form's pairs and so many times another one's -/
structure Put (ps qs : List (Int × Int)) (m : Int) (rs : List (Int × Int)) : Prop where
  can : Can rs
  cof : ∀ k, cof rs k = Tug.cof ps k + m * Tug.cof qs k
theorem get_kvs {H : Hp} {d : Addr} {rs : List (Int × Int)} (k : Int) (hd : H d = some (.dK (kvs rs))) : ∃ o, DGet H d (.int k) o ∧ o.getD (.int 0) = .int (cof rs k) := by
  refine ⟨_, DGet.k (k := Sum.inl k) hd, ?_⟩
  rw [kvs_val]
  unfold cof
  cases e : cofO rs k <;> rfl
theorem at_kvs {H : Hp} {d : Addr} {rs : List (Int × Int)} {k : Int} (hd : H d = some (.dK (kvs rs))) (m : k ∈ rs.map (·.1)) : DGet H d (.int k) (some (.int (cof rs k))) := by
  have e : valV (kvs rs) (Sum.inl k) = some (.int (cof rs k)) := by
    rw [kvs_val]
    unfold cof
    cases e : cofO rs k with
    | some z => rfl
    | none =>
      exfalso
      unfold cofO at e
      rw [Option.map_eq_none_iff, List.find?_eq_none] at e
      obtain ⟨p, hp, e2⟩ := List.mem_map.mp m
      exact e p hp (by simpa using e2)
  rw [← e]
  exact DGet.k (k := Sum.inl k) hd
theorem cof_snoc {ps : List (Int × Int)} {q : Int × Int} (h : q.1 ∉ ps.map (·.1)) (k : Int) : cof (ps ++ [q]) k = if k = q.1 then q.2 else cof ps k := by
  induction ps with
  | nil =>
    show cof [q] k = _
    by_cases e : q.1 = k
    · rw [cof_pos e, if_pos e.symm]
    · rw [cof_neg e, if_neg fun z => e z.symm]
  | cons p r ih =>
    rw [List.map_cons, List.mem_cons, not_or] at h
    rw [List.cons_append]
    by_cases e : p.1 = k
    · rw [cof_pos e, cof_pos e, if_neg fun z => h.1 (z.symm.trans e.symm)]
    · rw [cof_neg e, cof_neg e, ih h.2]
/-- the pairs told of a dict -/
def outP (rs : List (Int × Int)) (ks : List Int) : List (Int × Int) := (ks.filter fun k => !decide (cof rs k = 0)).map fun k => (k, cof rs k)
theorem outP_keys (rs : List (Int × Int)) (ks : List Int) : (outP rs ks).map (·.1) = ks.filter fun k => !decide (cof rs k = 0) := by
  unfold outP
  rw [List.map_map]
  exact List.map_id' _
theorem outP_cof {rs : List (Int × Int)} : ∀ {ks : List Int}, ks.Nodup → ∀ k, cof (outP rs ks) k = if k ∈ ks then cof rs k else 0
  | [], _, k => by simp [outP, cof, cofO]
  | j :: ks, h, k => by
    rw [List.nodup_cons] at h
    have ih := outP_cof (rs := rs) h.2 k
    unfold outP at *
    rw [List.filter_cons]
    by_cases z : cof rs j = 0
    · rw [decide_eq_true z]
      rw [if_neg (by decide), ih]
      by_cases e : k = j
      · subst e
        rw [if_neg h.1, if_pos List.mem_cons_self, z]
      · have e2 : k ∈ j :: ks ↔ k ∈ ks := by simp [e]
        simp only [e2]
    · rw [decide_eq_false z]
      rw [if_pos (by decide), List.map_cons]
      by_cases e : j = k
      · subst e
        rw [cof_pos rfl, if_pos List.mem_cons_self]
      · rw [cof_neg e, ih]
        have e2 : k ∈ j :: ks ↔ k ∈ ks := by
          rw [List.mem_cons]
          constructor
          · rintro (q | q)
            · exact absurd q.symm e
            · exact q
          · exact .inr
        simp only [e2]
theorem outP_can {rs : List (Int × Int)} {ks : List Int} (h : ks.Pairwise (· ≤ ·)) (n : ks.Nodup) : Can (outP rs ks) := by
  constructor
  · rw [outP_keys]
    refine List.Pairwise.filter _ ?_
    exact (List.pairwise_and_iff.mpr ⟨h, n⟩).imp fun ⟨a, b⟩ => by omega
  · intro p hp
    unfold outP at hp
    obtain ⟨k, hk, rfl⟩ := List.mem_map.mp hp
    have := (List.mem_filter.mp hk).2
    simpa using this
theorem outP_snoc (rs : List (Int × Int)) (ks : List Int) (k : Int) : outP rs (ks ++ [k]) = if cof rs k = 0 then outP rs ks else outP rs ks ++ [(k, cof rs k)] := by
  unfold outP
  rw [List.filter_append, List.map_append]
  by_cases z : cof rs k = 0
  · simp [z]
  · simp [z]
section
variable {σ : St} {H : Hp} {Q : VK}
theorem r_dput {D : Ends} {td ty tv : TE} (h : tv σ H fun v H1 => td σ H1 fun x H2 => ty σ H2 fun y H3 => ∃ a H4, x = .ref a ∧ DPut H3 a y v H4 ∧ D.nx σ H4) : sDPut td ty tv D σ H := h
theorem r_dget {td ty : TE} (h : td σ H fun x H1 => ty σ H1 fun y H2 => ∃ a v, x = .ref a ∧ DGet H2 a y (some v) ∧ Q v H2) : tDGet td ty σ H Q := h
theorem r_un {r : V → Hp → VK → Prop} {ta : TE} (h : ta σ H fun x H1 => r x H1 Q) : tUn r ta σ H Q := h
theorem r_rU {g : Int → V} {i : Int} (q : Q (g i) H) : rU g (.int i) H Q := ⟨i, rfl, q⟩
end
end Tug
set_option Elab.async false
set_option linter.all false
set_option maxRecDepth 100000
set_option maxHeartbeats 4000000
/-! Tug, part H: forms put together: their knobs, their worths; what the defs of forms promise. -/
namespace Tug
open PySem PySem.Spec L2
open PyProof.Rows hiding St

/-- the knobs are below sixty -/
def Kb (ps : List (Int × Int)) : Prop := ∀ p ∈ ps, 0 ≤ p.1 ∧ p.1 < 60
theorem length_but {a : Int} : ∀ {l : List Int}, l.Nodup → l.length ≤ (l.filter fun x => !decide (x = a)).length + 1
  | [], _ => Nat.zero_le _
  | x :: l, h => by
    rw [List.nodup_cons] at h
    rw [List.filter_cons]
    by_cases e : x = a
    · have e2 : l.filter (fun x => !decide (x = a)) = l := by
        rw [List.filter_eq_self]
        intro y hy
        have : y ≠ a := fun q => h.1 (by rw [e, ← q]; exact hy)
        simp [this]
      rw [if_neg (by simp [e]), e2, List.length_cons]
      exact Nat.le_refl _
    · rw [if_pos (by simp [e]), List.length_cons, List.length_cons]
      have := length_but (a := a) h.2
      omega
theorem few_of : ∀ (b : Nat) (l : List Int), l.Nodup → (∀ x ∈ l, 0 ≤ x ∧ x < b) → l.length ≤ b
  | 0, l, _, h => by
    cases l with
    | nil => exact Nat.le_refl _
    | cons x l =>
      have := h x List.mem_cons_self
      omega
  | b + 1, l, n, h => by
    have h1 := length_but (a := (b : Int)) n
    have h2 := few_of b (l.filter fun x => !decide (x = (b : Int))) (n.sublist List.filter_sublist) fun x hx => by
      obtain ⟨m, ne⟩ := List.mem_filter.mp hx
      have := h x m
      have ne' : x ≠ (b : Int) := by simpa using ne
      omega
    omega
theorem Kb.few {ps : List (Int × Int)} (h : Kb ps) (n : (ps.map (·.1)).Nodup) : ps.length ≤ 60 := by
  have := few_of 60 (ps.map (·.1)) n fun x hx => by
    obtain ⟨p, hp, rfl⟩ := List.mem_map.mp hx
    exact h p hp
  rw [List.length_map] at this
  exact this
theorem Put.keys {ps qs rs : List (Int × Int)} {m : Int} (h : Put ps qs m rs) {p : Int × Int} (hp : p ∈ rs) : p.1 ∈ ps.map (·.1) ∨ p.1 ∈ qs.map (·.1) := by
  have e := h.cof p.1
  rw [cof_mem h.can.nodup hp] at e
  by_cases a : Tug.cof ps p.1 = 0
  · by_cases b : Tug.cof qs p.1 = 0
    · rw [a, b, Int.mul_zero] at e
      exact absurd e (h.can.nz p hp)
    · exact .inr (cof_key b)
  · exact .inl (cof_key a)
theorem Put.all {ps qs rs : List (Int × Int)} {m : Int} {A : Int → Prop} (h : Put ps qs m rs) (a : ∀ p ∈ ps, A p.1) (b : ∀ p ∈ qs, A p.1) : ∀ p ∈ rs, A p.1 := by
  intro p hp
  rcases h.keys hp with q | q
  · obtain ⟨x, hx, e⟩ := List.mem_map.mp q
    rw [← e]
    exact a x hx
  · obtain ⟨x, hx, e⟩ := List.mem_map.mp q
    rw [← e]
    exact b x hx
theorem Put.kb {ps qs rs : List (Int × Int)} {m : Int} (h : Put ps qs m rs) (a : Kb ps) (b : Kb qs) : Kb rs := h.all (A := fun k => 0 ≤ k ∧ k < 60) a b
theorem cof_cons {p : Int × Int} {ps : List (Int × Int)} (h : p.1 ∉ ps.map (·.1)) (k : Int) : cof (p :: ps) k = (if k = p.1 then p.2 else 0) + cof ps k := by
  by_cases e : p.1 = k
  · rw [cof_pos e, if_pos e.symm, ← e, cof_not h, Int.add_zero]
  · rw [cof_neg e, if_neg fun q => e q.symm, Int.zero_add]
theorem sum_add (f g : Nat → Int) : ∀ l : List Nat, (l.map fun k => f k + g k).sum = (l.map f).sum + (l.map g).sum
  | [] => rfl
  | a :: l => by
    rw [List.map_cons, List.map_cons, List.map_cons, List.sum_cons, List.sum_cons, List.sum_cons, sum_add f g l]
    omega
theorem sum_mul (m : Int) (f : Nat → Int) : ∀ l : List Nat, (l.map fun k => m * f k).sum = m * (l.map f).sum
  | [] => by simp
  | a :: l => by
    rw [List.map_cons, List.map_cons, List.sum_cons, List.sum_cons, sum_mul m f l, Int.mul_add]
theorem sum_zero (f : Nat → Int) : ∀ {l : List Nat}, (∀ k ∈ l, f k = 0) → (l.map f).sum = 0
  | [], _ => rfl
  | a :: l, h => by
    rw [List.map_cons, List.sum_cons, h a List.mem_cons_self, sum_zero f fun k hk => h k (List.mem_cons_of_mem _ hk)] <;> rfl
theorem sum_one (z : Int) {j : Nat} : ∀ {l : List Nat}, l.Nodup → j ∈ l → (l.map fun k => if k = j then z else 0).sum = z
  | [], _, h => by cases h
  | a :: l, n, h => by
    rw [List.nodup_cons] at n
    rw [List.map_cons, List.sum_cons]
    by_cases e : a = j
    · subst e
      rw [if_pos rfl, sum_zero _ fun k hk => if_neg fun q => n.1 (by rw [← q]; exact hk), Int.add_zero]
    · rw [if_neg e, sum_one z n.2 ((List.mem_cons.mp h).resolve_left fun q => e q.symm), Int.zero_add]
/-- the sum, knob by knob -/
theorem smo_range {ns : List Int} : ∀ {ps : List (Int × Int)}, (ps.map (·.1)).Nodup → (∀ p ∈ ps, 0 ≤ p.1 ∧ p.1 < ns.length) → smo ps ns = ((List.range ns.length).map fun (k : Nat) => cof ps (k : Int) * ns.getD k 0).sum
  | [], _, _ => by
    rw [sum_zero _ fun (k : Nat) _ => by rw [show cof [] (k : Int) = 0 from rfl, Int.zero_mul]] <;> rfl
  | p :: ps, n, h => by
    rw [List.map_cons, List.nodup_cons] at n
    obtain ⟨p0, p1⟩ := h p List.mem_cons_self
    rw [smo_cons, smo_range n.2 fun q hq => h q (List.mem_cons_of_mem _ hq)]
    have e : (fun (k : Nat) => cof (p :: ps) (k : Int) * ns.getD k 0) = fun (k : Nat) => (if k = p.1.toNat then p.2 * ns.getD p.1.toNat 0 else 0) + cof ps (k : Int) * ns.getD k 0 := by
      funext k
      rw [cof_cons n.1, Int.add_mul]
      by_cases q : (k : Int) = p.1
      · have q2 : k = p.1.toNat := by omega
        rw [if_pos q, if_pos q2, ← q2]
      · have q2 : ¬ k = p.1.toNat := by omega
        rw [if_neg q, if_neg q2, Int.zero_mul]
    rw [e, sum_add, sum_one _ List.nodup_range (List.mem_range.mpr (by omega))]
/-- the worth of forms put together -/
theorem Put.wth {ps qs rs : List (Int × Int)} {m : Int} {ns : List Int} (n n' : Int) (h : Put ps qs m rs) (np : (ps.map (·.1)).Nodup) (nq : (qs.map (·.1)).Nodup) (hp : ∀ p ∈ ps, 0 ≤ p.1 ∧ p.1 < ns.length) (hq : ∀ p ∈ qs, 0 ≤ p.1 ∧ p.1 < ns.length) :
    Tug.wth (n + m * n') rs ns = Tug.wth n ps ns + m * Tug.wth n' qs ns := by
  have hr : ∀ p ∈ rs, 0 ≤ p.1 ∧ p.1 < ns.length := h.all (A := fun k => 0 ≤ k ∧ k < ns.length) hp hq
  rw [wth_smo, wth_smo, wth_smo, smo_range h.can.nodup hr, smo_range np hp, smo_range nq hq]
  have e : (fun (k : Nat) => Tug.cof rs (k : Int) * ns.getD k 0) = fun (k : Nat) => Tug.cof ps (k : Int) * ns.getD k 0 + m * (Tug.cof qs (k : Int) * ns.getD k 0) := by
    funext k
    rw [h.cof, Int.add_mul, Int.mul_assoc]
  rw [e, sum_add, sum_mul, Int.mul_add]
  omega
theorem Put.sz {ps qs rs : List (Int × Int)} {m : Int} {a b c : Nat} (h : Put ps qs m rs) (hp : ∀ p ∈ ps, Sz a p.2) (hq : ∀ q ∈ qs, Sz b q.2) (hm : Sz c m) : ∀ p ∈ rs, Sz (max a (c + b) + 1) p.2 := by
  intro p q
  rw [← cof_mem h.can.nodup q, h.cof]
  exact Sz.add ((cof_sz hp).mono (Nat.le_max_left _ _)) ((hm.mul (cof_sz hq)).mono (Nat.le_max_right _ _))

def spPut : Sp := fun vs H Q _ => ∃ (v u : V) (m n n' : Int) (ps qs : List (Int × Int)), vs = [v, u, .int m] ∧ Tp H v (fmD n ps) ∧ Tp H u (fmD n' qs) ∧ Sz 1000 m ∧ Sz 1000 n' ∧ (∀ q ∈ qs, Sz 1000 q.2) ∧
  (ps.map (·.1)).Nodup ∧ (qs.map (·.1)).Nodup ∧ Kb ps ∧ Kb qs ∧ ∀ r rs H', Same H H' → Put ps qs m rs → Tp H' r (fmD (n + m * n') rs) → Q r H'
/-- added, taken: the def of two forms that puts so many times the other to the one -/
def spAdd (m : Int) : Sp := fun vs H Q _ => ∃ (v u : V) (n n' : Int) (ps qs : List (Int × Int)), vs = [v, u] ∧ Tp H v (fmD n ps) ∧ Tp H u (fmD n' qs) ∧ Sz 1000 n' ∧ (∀ q ∈ qs, Sz 1000 q.2) ∧
  (ps.map (·.1)).Nodup ∧ (qs.map (·.1)).Nodup ∧ Kb ps ∧ Kb qs ∧ ∀ r rs H', Same H H' → Put ps qs m rs → Tp H' r (fmD (n + m * n') rs) → Q r H'
def spTimes : Sp := fun vs H Q _ => ∃ (v : V) (m n : Int) (ps : List (Int × Int)), vs = [v, .int m] ∧ Tp H v (fmD n ps) ∧ Sz 1000 m ∧ Sz 1000 n ∧ (∀ q ∈ ps, Sz 1000 q.2) ∧
  (ps.map (·.1)).Nodup ∧ Kb ps ∧ ∀ r rs H', Same H H' → Put [] ps m rs → Tp H' r (fmD (0 + m * n) rs) → Q r H'
def spForm1 : Sp := fun vs H Q _ => ∃ k : Int, vs = [.int k] ∧ ∀ r H', Same H H' → Tp H' r (fmD 0 [(k, 1)]) → Q r H'
def spPlain : Sp := fun vs H Q _ => ∃ k : Int, vs = [.int k] ∧ ∀ r H', Same H H' → Tp H' r (fmD k []) → Q r H'
theorem Put.wok {ps qs rs : List (Int × Int)} {m n n' n2 : Int} {ns : List Int} (h : Put ps qs m rs) (okp : WOk n ps ns) (okq : WOk n' qs ns) (kp : Kb ps) (kq : Kb qs) (hp : ∀ p ∈ ps, Sz 300 p.2) (hq : ∀ q ∈ qs, Sz 300 q.2) (hm : Sz 300 m) : WOk n2 rs ns :=
  ⟨h.all (A := fun k => 0 ≤ k ∧ k < ns.length) okp.at_ okq.at_, fun p q => (h.sz hp hq hm p q).mono (by decide), okp.szn, Nat.le_trans ((h.kb kp kq).few h.can.nodup) (by decide)⟩
theorem WOk.nil {n : Int} {ns : List Int} (h : ∀ z ∈ ns, Sz 1000 z) : WOk n [] ns := ⟨fun p q => absurd q List.not_mem_nil, fun p q => absurd q List.not_mem_nil, h, Nat.zero_le _⟩
theorem PsOk.kb {m : Int} {ps : List (Int × Int)} (h : PsOk m ps) (l : m ≤ 60) : Kb ps := fun p hp => by
  have := h.at_ p hp
  omega
theorem Kb.nil : Kb [] := fun p q => absurd q List.not_mem_nil
theorem Can.nil : Can [] := ⟨by simp, by simp⟩
theorem r_par3 {D : Ends} {σ : St} {H : Hp} {i j l : Nat} {ta : TA} (h : ta σ H fun vs H1 => ∃ u v w, vs = [u, v, w] ∧ D.nx (((σ.set i (some u)).set j (some v)).set l (some w)) H1) : tPar3 i j l ta D σ H := h
/-- a form that is shown and compared -/
theorem Fd.form60 {n : Int} {ps : List (Int × Int)} (hn : Sz 1900 n) (kb : Kb ps) (nd : (ps.map (·.1)).Nodup) (hp : ∀ p ∈ ps, Sz 1900 p.2) : Fd (fmD n ps) 60 8000 := by
  have := kb.few nd
  refine (Fd.form hn fun p q => ⟨(sz_small ?_ ?_).mono (by decide), hp p q⟩).mono (by decide) (by omega)
  · have := kb p q
    omega
  · have := kb p q
    omega
end Tug
set_option Elab.async false
set_option linter.all false
set_option maxRecDepth 100000
set_option maxHeartbeats 4000000
/-! Tug, part I: known tuples joined, and what forms put together stand for once. -/
namespace Tug
open PySem PySem.Spec L2
open PyProof.Rows hiding St
section
variable {X : Cx}
/-- t + u of known tuples: a known tuple -/
def rCatK : R2 := fun x y H Q => ∃ (a b : Addr) (xs ys : List V), x = .ref a ∧ y = .ref b ∧ Kt H a xs ∧ Kt H b ys ∧ xs.length + ys.length ≤ sizeLine ∧ ∀ p H', Same H H' → Kt H' p (xs ++ ys) → Q (.ref p) H'
theorem op_catK : OpR X (binaryOp .Add) rCatK := by
  intro pins s σ H x y v u Q I rx ry h
  obtain ⟨a, b, xs, ys, rfl, rfl, ha, hb, hz, q⟩ := h
  cases rx
  cases ry
  obtain ⟨its, r1, p1, _⟩ := I.tuple ha.sq
  obtain ⟨its2, r2, p2, _⟩ := I.tuple hb.sq
  by_cases hx : xs = []
  · subst hx
    cases r1
    exact L2.cat_tup0 p1 p2 ⟨.ref b, H, I, rfl, q b H (fun _ _ h => h) hb⟩
  refine HT.cat_tup p1 p2 (fun z => hx (r1.nil_iff.mp z)) (fun z => ⟨.ref a, H, I, rfl, q a H (fun _ _ h => h) ?_⟩) (fun z => ?_) (by rw [← r1.length, ← r2.length]; exact hz)
  · rw [r2.nil_iff.mp z, List.append_nil]
    exact ha
  · have hn := I.hok.fresh (Nat.le_refl _)
    refine ⟨.ref s.heap.objs.size, _, I.laid (t' := s.toks) (o := .frz { cls := .type "tuple", data := .seq (its ++ its2).toArray } (.tup (xs ++ ys))) (fun b ob q => Heap.get?_push_of_some _ q) (Nat.le_refl _) ?_, rfl, q _ _ (same_new hn) (Kt.new ⟨_, rfl, rfl⟩)⟩
    exact ⟨Heap.get?_push_size _ rfl, by rw [List.length_append]; exact hz, _, r1.append r2, IsTup.new _ _⟩
theorem r_catK {H : Hp} {a b : Addr} {xs ys : List V} {Q : VK} (ha : Kt H a xs) (hb : Kt H b ys) (z : xs.length + ys.length ≤ sizeLine) (q : ∀ p H', Same H H' → Kt H' p (xs ++ ys) → Q (.ref p) H') : rCatK (.ref a) (.ref b) H Q := ⟨a, b, xs, ys, rfl, rfl, ha, hb, z, q⟩
end
theorem r_irng2 {σ : St} {H : Hp} {ta : TA} {R : It → Hp → Prop} (h : ta σ H fun vs H1 => ∃ i j : Int, vs = [.int i, .int j] ∧ (-(2 ^ 62) ≤ i ∧ i < 2 ^ 62 ∧ -(2 ^ 62) ≤ j ∧ j < 2 ^ 62) ∧ R (Itr i (j - i).toNat) H1) : iRng2 ta σ H R := h
theorem Put.uniq {ps qs rs ts : List (Int × Int)} {m : Int} (h : Put ps qs m rs) (g : Put ps qs m ts) : rs = ts := Can.ext h.can g.can fun k => by rw [h.cof, g.cof]
theorem Can.snoc {rs : List (Int × Int)} {k z : Int} (h : Can rs) (lt : ∀ r ∈ rs, r.1 < k) (nz : z ≠ 0) : Can (rs ++ [(k, z)]) := by
  constructor
  · rw [List.map_append, List.pairwise_append]
    refine ⟨h.rise, by simp, fun a ha b hb => ?_⟩
    obtain ⟨r, hr, rfl⟩ := List.mem_map.mp ha
    have e : b = k := by simpa using hb
    rw [e]
    exact lt r hr
  · intro r hr
    rcases List.mem_append.mp hr with q | q
    · exact h.nz r q
    · rw [List.mem_singleton.mp q]
      exact nz
/-- a form that is shown -/
theorem Fd.form20 {n : Int} {ps : List (Int × Int)} (hn : Sz 1900 n) (kb : Kb ps) (nd : (ps.map (·.1)).Nodup) (hp : ∀ p ∈ ps, Sz 1900 p.2) : Fd (fmD n ps) 10 300 := by
  have := kb.few nd
  refine (Fd.form hn fun p q => ⟨(sz_small ?_ ?_).mono (by decide), hp p q⟩).mono (by decide) (by omega)
  · have := kb p q
    omega
  · have := kb p q
    omega
theorem Put.fd {n n' m : Int} {ps qs rs : List (Int × Int)} (h : Put ps qs m rs) (hn : Sz 300 n) (hn' : Sz 300 n') (hm : Sz 300 m) (kp : Kb ps) (kq : Kb qs) (hp : ∀ p ∈ ps, Sz 300 p.2) (hq : ∀ p ∈ qs, Sz 300 p.2) : Fd (fmD (n + m * n') rs) 20 8000 :=
  (Fd.form20 ((Sz.add (hn.mono (show 300 ≤ 600 by decide)) (Sz.mul hm hn')).mono (by decide)) (h.kb kp kq) h.can.nodup fun p q => (h.sz hp hq hm p q).mono (by decide)).mono (by decide) (by decide)
/-- the rest of a block by what it asks, not seen -/
theorem r_seqO {σ : St} {H : Hp} {t u : L2.TS} {D : Ends} (M : St → Hp → Prop) (k : ∀ σ' H', M σ' H' → u D σ' H') (h : ∀ U : St → Hp → Prop, (∀ σ' H', M σ' H' → U σ' H') → t { D with nx := U } σ H) : tSeq t u D σ H := h _ k
theorem Fd.pair {d e : PyData} {n b c : Nat} (h : Fd d n b) (g : Fd e n c) : Fd (.tuple [d, e]) (n + 1) (b + c + 2) := (Fd.tup (FdA.cons h (FdA.cons g FdA.nil))).mono (Nat.le_refl _) (by omega)
end Tug
set_option Elab.async false
set_option linter.all false
set_option maxRecDepth 100000
set_option maxHeartbeats 4000000
/-! Tug, part X: exceptions of one's own that are kept behind their except clause, made by a keyword, by a base's __init__. -/
namespace Tug
open PySem PySem.Spec L2
open PyProof.Rows hiding St

/-- an exception's object that is known: it is never changed again -/
def kpt (oe : Obj) : HO := .frz oe (.ext fun _ => True)
section
variable {X : Cx} {pins : List (Addr × Obj)} {σ : St} {H : Hp} {sI s s' : Shared} {B : Heap} {a : Addr} {oe : Obj}
theorem kpt_ok {P : Program} {w : World} {h : Heap} (e : h.get? a = some oe) : ObjOk P w H h a (kpt oe) := ⟨e, True.intro, ⟨_, e⟩, fun _ _ _ _ => True.intro⟩
theorem kpt_at {P : Program} {w : World} {h : Heap} (x : HOk P w H h) (e : H a = some (kpt oe)) : h.get? a = some oe := (x a _ e).1
/-- back on the ground, the exception's object known -/
theorem landedT (I : Inv X pins σ H sI) (nb : ∀ b o, sI.heap.get? b = some o → b ∉ frs X.stack → B.get? b = some o) (st : B.StaysIn s'.heap) (up : sI.heap.UpToSlots s'.heap) (os : s'.os = sI.os) (ag : AllBare s'.gens)
    (aB : B.get? a = none) (nfr : a ∉ frs X.stack) (na : H a = none) (ha : s'.heap.get? a = some oe) : Inv X pins σ (upd H a (kpt oe)) s' := by
  have nI : sI.heap.get? a = none := by
    cases e : sI.heap.get? a with
    | none => rfl
    | some o =>
      have := nb a o e nfr
      rw [aB] at this
      cases this
  have ne : ∀ {b : Addr} {o : Obj}, sI.heap.get? b = some o → b ≠ a := fun {b o} e z => by
    rw [z, nI] at e
    cases e
  have nf : ∀ b ∈ frs X.stack, ∀ o, sI.heap.get? b = some o → ∃ sl, s'.heap.get? b = some { o with slots := sl } := fun b hb o e => by
    obtain ⟨_, o', e', hd⟩ := I.stack.mem hb
    rw [e] at e'; cases e'
    exact up b o e hd
  have J := I.call (ch := []) (h' := s'.heap) (g' := s'.gens) (t' := s'.toks) (d' := s'.drawn) (H' := upd H a (kpt oe))
    ⟨fun b o e _ hb _ => st b o (nb b o e hb), fun b o e _ hb _ => nf b hb o e, fun b o e n _ => by rw [upd_ne (ne e)]; exact n, fun b o e _ => by
      by_cases hb : b ∈ frs X.stack
      · obtain ⟨sl, q⟩ := nf b hb o e
        exact ⟨_, q⟩
      · exact ⟨o, st b o (nb b o e hb)⟩, fun b xs e => by rw [upd_ne (ne_of_none e na)]; exact e, fun b o u e => by rw [upd_ne (ne_of_none e na)]; exact e, fun b ps e => ⟨#[], by rw [upd_ne (ne_of_none e na), e]; simp⟩⟩
    (HOk.laidN ((I.inGround nb).kept st) (fun _ _ q => q) na (kpt_ok ha)) ag (fun _ z => nomatch z)
  obtain ⟨a1, a2, a3, a4, a5⟩ := s'
  have e5 : a5 = sI.os := os
  subst e5
  exact J
end

/-! ### try: body, except x as n: suite, where all that the body lets out is caught, the exception kept -/
/-- what such a clause wishes: slot i is n's -/
def wKp (K : PySem.W.Frag) (c : Value) (i : Nat) (ts : L2.TS) (go : St → Hp → Prop) : WX := fun cls d σ H => PySem.W.exmOne K cls c = some true ∧
  ∀ a oe, H a = none → Zc cls d oe → (∃ vs, oe.data = .fields vs) → ts { nx := fun σ' H' => go (σ'.set i none) H', rt := fun _ _ => False, bk := fun _ _ => False, ct := fun _ _ => False } (σ.set i (some (.ref a))) (upd H a (kpt oe))
section
variable {X : Cx} {pins pn : List (Addr × Obj)} {σ : St} {H : Hp} {s s' : Shared} {x n : Str} {c : Value} {i : Nat} {body suite : List Stmt} {b₀ : Stmt} {np pos pos' : Pos} {ts : L2.TS} {D : Ends}
theorem toSuite (I : Inv X pins σ H s) (a : Addr) : Inv (X.suite a (X.pn ++ pins)) [] σ H s := { I with ok := I.ok.suite a _, pin := fun p hp => I.pin p (by simpa using hp) }
theorem ofSuite {a : Addr} (ok : X.Ok) (I : Inv (X.suite a (X.pn ++ pins)) [] σ H s) : Inv X pins σ H s := { I with ok := ok, pin := fun p hp => I.pin p (by simpa using hp) }
/-- an exception that is thrown out of the body comes to the clause's suite -/
theorem kp_catch {xe : Value → Shared → Prop} {u : Value} (ok : X.Ok) (hs : X.stack = X.env :: X.outer) (hf : X.env.frame = some X.env.locals) (hN : X.N.Nodup) (hi : X.N[i]? = some n) (hln : X.env.kindOf n = some .local) (hg : Gl X x) (hm : X.mg x = some c)
    (hdb : (x == ("__debug__" : Str)) = false) (hsu : ∀ (a : Addr) (pn : List (Addr × Obj)), PSs (X.suite a pn) (b₀ :: suite) ts) (air : XE (X.tr (X.pn ++ pins) xe) (wKp X.K c i ts D.nx) u s') :
    wpAny (model X.prog X.w) X.A (noteFrame u X.env) (fun _ s₂ => wpAny (model X.prog X.w) X.A (setFlight u none) (fun _ s₃ =>
      wpAny (model X.prog X.w) X.A (handleBy u X.env [.ExceptHandler (some (.Name x np)) (some n) (b₀ :: suite) pos']) (SP X pins D) X.xe s₃) X.xe s₂) X.xe s' := by
  obtain ⟨a, B, sI, _, σ', H', cls, d, rfl, J', nb, up, sky, na, os, ag, hk, go⟩ := air
  have J : Inv X pins σ' H' sI := J'.ofTry ok
  have frames : X.A.frames = some (X.env :: X.outer) := ok.frames.trans (congrArg some hs)
  have sky : Sky B (X.env :: X.outer) a (Zc cls d) X.env.locals s'.heap := hs ▸ sky
  refine Sky.land Zc.steady frames hf sky fun h1 f1 u1 => ?_
  have notFrame : ∀ {h : Heap}, HandSPX.FlyingZ B (X.env :: X.outer) a (Zc cls d) h → a ∉ frs X.stack := fun {h} f m => by
    obtain ⟨o, vs, e, _, dd⟩ := f.there
    obtain ⟨_, o', e', no⟩ := f.2.2.1.mem (show a ∈ frs (X.env :: X.outer) from hs ▸ m)
    cases e.symm.trans e'
    exact no _ dd
  obtain ⟨o1, v1, e1, z1, _⟩ := f1.there
  have J1 : Inv X pins σ' H' { s' with heap := h1 } := J.landed nb f1.1 (up.trans u1) os ag
  have isCls : PySem.W.Looks (model X.prog X.w) h1 (typeOf (.ref a)) cls := fun _ _ _ _ k q => wpAny_typeOf_ref (k _ _ e1) (z1.1.symm ▸ q)
  refine wpAny_handleBy_cons (codeAny_handlers_test (ld_glob (X := X.suite a (X.pn ++ pins)) (toSuite J1 a) hg hm ((PySem.W.exm_one J1.kIn isCls hk).here (codeAny_handlers_suite_as ?_)) hdb)) fun q => by cases q
  refine HandSPX.lands_againZ f1 fun h2 f2 u2 => ?_
  obtain ⟨o2, v2, e2, z2, d2⟩ := f2.there
  have J2 : Inv X pins σ' (upd H' a (kpt o2)) { s' with heap := h2 } := landedT (s' := { s' with heap := h2 }) J nb f2.1 ((up.trans u1).trans u2) os ag f2.2.1 (notFrame f2) na e2
  refine store_ok (X := X.suite a (X.pn ++ pins)) (v := .ref a) (toSuite J2 a) hN hi (.inl hln) rfl (fun s3 I3 => ?_) (.inr hln)
  refine wpAny_mono ((hsu a (X.pn ++ pins)).run [] s3 _ _ _ I3 (go a o2 na z2 ⟨_, d2⟩)) (fun f s4 q => ?_) fun _ _ z => z.elim
  cases f with
  | next =>
    obtain ⟨σ4, H4, I4, q4⟩ := q
    exact gone_ok (ofSuite ok I4) hN hi hln fun s5 I5 => ⟨_, _, I5, q4⟩
  | brk => exact (show False from let ⟨_, _, _, z⟩ := q; z).elim
  | cont => exact (show False from let ⟨_, _, _, z⟩ := q; z).elim
  | ret u => exact (show False from let ⟨_, _, _, _, _, z⟩ := q; z).elim
theorem ps_try_kp {tb : WX → L2.TS} (hs : X.stack = X.env :: X.outer) (hf : X.env.frame = some X.env.locals) (hN : X.N.Nodup) (hi : X.N[i]? = some n) (hln : X.env.kindOf n = some .local) (hg : Gl X x) (hm : X.mg x = some c) (hdb : (x == ("__debug__" : Str)) = false)
    (hb : ∀ (W : WX) (pn : List (Addr × Obj)) (xe : Value → Shared → Prop), Takes (X.tr pn xe) W → PassesOwn (model X.prog X.w) X.A X.env xe → PSs (X.tr pn xe) body (tb W)) (hsu : ∀ (a : Addr) (pn : List (Addr × Obj)), PSs (X.suite a pn) (b₀ :: suite) ts) :
    PS X (.Try body [.ExceptHandler (some (.Name x np)) (some n) (b₀ :: suite) pos'] [] [] pos) (fun D σ H => tb (wKp X.K c i ts D.nx) D σ H) := by
  refine ⟨fun pins s σ H D I h => wpAny_Try_except (wpAny_mono ((hb _ (X.pn ++ pins) _ (fun u s' air => kp_catch (D := D) I.ok hs hf hN hi hln hg hm hdb hsu air) PassesOwn.looking).run [] s σ H D (I.toTry _) h) (fun f s1 q => ?_) fun _ _ z => z)⟩
  cases f with
  | next =>
    obtain ⟨σ1, H1, I1, q1⟩ := q
    exact wpAny_execs_nil ⟨σ1, H1, I1.ofTry I.ok, q1⟩
  | brk =>
    obtain ⟨σ1, H1, I1, q1⟩ := q
    exact ⟨σ1, H1, I1.ofTry I.ok, q1⟩
  | cont =>
    obtain ⟨σ1, H1, I1, q1⟩ := q
    exact ⟨σ1, H1, I1.ofTry I.ok, q1⟩
  | ret u =>
    obtain ⟨v, σ1, H1, I1, r, q1⟩ := q
    exact ⟨v, σ1, H1, I1.ofTry I.ok, r, q1⟩
end

/-! ### B.__init__(self, ..), B a class of one's own whose __init__ is ValueError's -/
section
variable {X : Cx} {x : Str} {D : Addr} {e : Expr} {es : List Expr} {ta : TA} {p1 p2 pos : Pos}
structure BIn (K : PySem.W.Frag) (D : Addr) : Prop where
  rd : ClX.CRead K D (.type "type")
  at_ : PySem.W.findCls K (.ref D) (.type "type") "__init__" = some (.val (.builtin "ValueError.__init__"))
theorem pe_baseI {pl : Sem Bool} (hg : Gl X x) (hm : X.mg x = some (.ref D)) (B : BIn X.K D) (ha : PA X (e :: es) ta) (hdb : (x == ("__debug__" : Str)) = false)
    (hc : eval (.Call (.Attribute (.Name x p1) "__init__" p2) (e :: es) [] pos) X.env = (do
      let ov ← eval (.Name x p1) X.env
      standAt p2.atName
      let (f, first) ← holding [ov] (getMethod ov "__init__" pl)
      callWith pos f first (backTo pos (starEach (e :: es) X.env)) (backToKw pos (keywordEach [] X.env))) := by rfl)
    (he : starEach (e :: es) X.env = (false, eval e X.env) :: starEach es X.env := by rfl) (hpl : (backTo pos (starEach es X.env)).any (·.1) = false := by rfl) :
    PE X (.Call (.Attribute (.Name x p1) "__init__" p2) (e :: es) [] pos) (tVeI X.K ta) := by
  refine ⟨fun pins s σ H Q I h => PySem.W.methodCall_KW (ld_glob I hg hm ?_ hdb) hc⟩
  refine PySem.W.method_cls I.kIn B.rd.ga (PySem.W.cls_value I.kIn B.rd.rd B.at_ (by decide +kernel) ?_)
  refine PyProof.Rows.callWith_method1 (thn (ha.run pos pins _ σ H _ (I.tok _) h) fun us s1 ⟨vs, H1, I1, r1, a, C, ws, ev, hl, T, ea, q⟩ => ?_) he hpl
  subst ev
  obtain ⟨u0, ur, rfl, ra, rw'⟩ : ∃ u0 ur, us = u0 :: ur ∧ RelV (V.ref a) u0 ∧ Vals ws ur := by
    cases r1 with
    | cons r t => exact ⟨_, _, rfl, r, t⟩
  obtain rfl : u0 = Value.ref a := ra
  refine oinit_ok T I1 ea (Nat.le_trans (Nat.le_trans (Nat.le_of_eq (Paired.length rw').symm) hl) (by rw [sizeLine_eq]; omega)) fun s' J => ⟨.non, H1, J, rfl, q⟩
end

/-! ### fields and classes of a kept exception -/
/-- at a: a kept exception of the class at C with the fields fs -/
def KpE (H : Hp) (a C : Addr) (fs : List (Str × V)) : Prop := ∃ (oe : Obj) (dd : Addr), H a = some (kpt oe) ∧ Zc (.ref C) (some dd) oe ∧ (∃ vs, oe.data = .fields vs) ∧ H dd = some (.xd fs)
theorem KpE.inst {P : Program} {w : World} {H : Hp} {h : Heap} {a C : Addr} {fs : List (Str × V)} (k : KpE H a C fs) (ok : HOk P w H h) :
    ∃ (oe od : Obj) (mA : Str → Option Value), PySem.W.InstAt h a oe C (some od) ∧ (∀ f, RelO (fs.lookup f) (mA f)) ∧ (∀ f, PySem.W.lookIn f od = some (mA f)) := by
  obtain ⟨oe, dd, ha, ⟨hc, hd⟩, ⟨vs, hv⟩, hx⟩ := k
  have e : h.get? a = some oe := kpt_at ok ha
  obtain ⟨mA, hns, rel⟩ := (show ObjOk P w H h dd (.xd fs) from ok dd _ hx)
  obtain ⟨od, ho, hl⟩ := lookIn_ns hns
  refine ⟨oe, od, mA, ⟨e, hc, ?_, ?_⟩, rel, hl⟩
  · unfold PySem.W.notCls
    rw [hv] <;> rfl
  · rw [hd]
    exact ho
theorem KpE.mono {H H' : Hp} {a C : Addr} {fs : List (Str × V)} (k : KpE H a C fs) (s : ∀ b o, H b = some o → H' b = some o) : KpE H' a C fs := by
  obtain ⟨oe, dd, ha, z, f, hx⟩ := k
  exact ⟨oe, dd, s _ _ ha, z, f, s _ _ hx⟩
/-- e.f, e a kept exception -/
def tKf (K : PySem.W.Frag) (f : Str) (te : TE) : TE := fun σ H Q => te σ H fun x H1 => ∃ (a C : Addr) (fs : List (Str × V)) (v : V), x = .ref a ∧ KpE H1 a C fs ∧ XfC K C ∧ PySem.W.findIn K (.ref C) f = some none ∧ fs.lookup f = some v ∧ Q v H1
/-- isinstance(e, c), e a kept exception -/
def rIsK (K : PySem.W.Frag) : List V → Hp → VK → Prop := fun xs H Q => ∃ (a C : Addr) (fs : List (Str × V)) (c : V) (cv : Value) (b : Bool), xs = [.ref a, c] ∧ KpE H a C fs ∧ ExcC K C ∧ (∀ u, RelV c u → u = cv) ∧ PySem.W.kitOne K (.ref C) cv = some b ∧ Q (.bl b) H
section
variable {X : Cx} {e : Expr} {te : TE} {pos : Pos} {n : Str}
theorem pe_kf (he : PE X e te) (hb : attributeBase e n X.env (eval e X.env) = eval e X.env := by rfl) : PE X (.Attribute e n pos) (tKf X.K n te) := by
  refine ⟨fun pins s σ H Q I h => attr_of hb (thn (he.run pins s σ H _ I h) fun u s1 hh => ?_)⟩
  obtain ⟨x, H1, I1, rx, a, C, fs, v, rfl, k, T, hno, l, q⟩ := hh
  obtain rfl : u = Value.ref a := rx
  obtain ⟨oe, od, mA, J, rel, hl⟩ := k.inst I1.hok
  obtain ⟨u, hu, ru⟩ := RelO.some_of (v := v) (o := mA n) (by rw [← l]; exact rel n)
  exact HandSPX.exc_get I1.kIn J T.ga T.gg T.exC (PySem.W.findObj_own T.hdC hno rfl (by rw [hl, hu])) (handed_of ru) ⟨v, H1, I1.tok _, ru, q⟩
theorem call_isK : CallR X (.builtin "isinstance") (rIsK X.K) := by
  intro pins s σ H xs us Q I r h
  obtain ⟨a, C, fs, c, cv, b, rfl, k, T, hcv, e, q⟩ := h
  obtain ⟨u1, u2, rfl, r1, r2⟩ : ∃ u1 u2, us = [u1, u2] ∧ RelV (V.ref a) u1 ∧ RelV c u2 := by
    cases r with
    | cons r1 r => cases r with
      | cons r2 r => cases r; exact ⟨_, _, rfl, r1, r2⟩
  obtain rfl : u1 = Value.ref a := r1
  obtain rfl := hcv _ r2
  obtain ⟨oe, od, mA, J, _, _⟩ := k.inst I.hok
  obtain ⟨cd, hcd, _⟩ := PySem.W.any_some T.hd
  exact PySem.W.kia_one (PySem.W.kitx_exc (by rw [hcd] <;> rfl) T.hg T.hk T.hs T.ha T.hn T.ht T.hm) I.kIn J e (fun z => nomatch z) fun tk => ⟨.bl b, H, I.kept (t' := tk) fun _ _ z => z, rfl, q⟩
end
end Tug
set_option Elab.async false
set_option linter.all false
set_option maxRecDepth 100000
set_option maxHeartbeats 4000000
/-! Tug, part Y: an exception of one's own made by keywords alone. -/
namespace Tug
open PySem PySem.HandSPX
open PySem.Builtin PySem.Builtin.ObjectAttr
open PySem.W (Looks kdv_tup)
section
variable {prog : Program} {w : World} {A : Around} {E : Value → Shared → Prop} {R : Result → Shared → Prop} {h : Heap} {g : Array GenState} {d : PySem.Drawn} {t : Nat} {os : OsState}
variable {nm q : Str} {C N : Addr} {bs bm bmB : List Value} {hdct : Bool} {sn : List Str} {sub : List Value} {ab : Bool} {col : Option Bool} {dd : Option Addr} {k0 k1 k2 k3 k5 : Option Value} {B newId initId : String} {kw : List (Str × Value)}
theorem mro_hasB (F : ExcBaseFacts B newId initId bmB) (hT : ∀ X : String, bm.contains (.type X) = bmB.contains (.type X)) : (Value.ref C :: bm).contains (.type B) = true := by
  rw [List.contains_cons, hT, F.hasB, Bool.or_true]
theorem mro_noA (F : ExcBaseFacts B newId initId bmB) (hT : ∀ X : String, bm.contains (.type X) = bmB.contains (.type X)) : (Value.ref C :: bm).contains (.type "AttributeError") = false := by
  rw [List.contains_cons, hT, F.noAttr]
  rfl
theorem mro_noN (F : ExcBaseFacts B newId initId bmB) (hT : ∀ X : String, bm.contains (.type X) = bmB.contains (.type X)) : (Value.ref C :: bm).contains (.type "NameError") = false := by
  rw [List.contains_cons, hT, F.noName]
  rfl
theorem kw_check_new (F : ExcBaseFacts B newId initId bmB) (hT : ∀ X : String, bm.contains (.type X) = bmB.contains (.type X)) {Q : Unit → Shared → Prop}
    (hC : h.get? C = some (excClassObj nm q C N bs bm hdct sn sub ab col dd k0 k1 k2 k3 k5 newId)) (hq : Q () ⟨h, g, d, t, os⟩) : wpAny (model prog w) A (checkBuiltinCall newId ⟨[.ref C], kw⟩) Q E ⟨h, g, d, t, os⟩ := by
  have hB := mro_hasB (C := C) F hT
  have hstar := F.noStar
  simp only [checkBuiltinCall, F.newKind, F.newSplit, F.newRow]
  repeat (first | refine wpAny_loadPart_at hC ?_ | (refine wpAny_isSubtype_exc hC ?_; rw [hB]) | refine wpAny_staticBase_exc hC ?_ | refine wpAny_madeBy_exc hC ?_ | simp only [bne_self_eq_false, Bool.false_eq_true, if_false] | wp_step)
  exact hq
theorem kw_new (F : ExcBaseFacts B newId initId bmB) (hT : ∀ X : String, bm.contains (.type X) = bmB.contains (.type X)) (hC : h.get? C = some (excClassObj nm q C N bs bm hdct sn sub ab col dd k0 k1 k2 k3 k5 newId))
    (hq : R (.ok (.ret (.ref (h.objs.size + 1)))) ⟨(h.push (kdv_tup [])).push (excO C h.objs.size), g, d, t, os⟩) : codeAny (model prog w) A (.builtin newId ⟨[.ref C], kw⟩) R ⟨h, g, d, t, os⟩ := by
  have hends := F.ends
  have hB := mro_hasB (C := C) F hT
  have hA := mro_noA (C := C) F hT
  have hN := mro_noN (C := C) F hT
  refine codeAny_builtinAt F.entry ?_
  unfold Builtin.«BaseException.__new__»
  refine wpAt_bind ?_
  show wpAt _ _ _ (stack >>= _) _ _ _
  refine wpAt_bind (wpAt_stack fun p below => wpAt_of_wpAny ?_)
  wp_walk
  refine wpAt_of_wpAny ?_
  rw [F.owner]
  have z : ([] : List Value).length ≤ sizeLine := Nat.zero_le _
  repeat (first | with_reducible refine wpAny_madeHere_exc F.canon hC ?_ | with_reducible refine wpAny_loadPart_at hC ?_ | (with_reducible refine wpAny_isSubtype_exc hC ?_; first | rw [hB] | rw [hA] | rw [hN]) | wp_step)
  show R _ _
  rw [Heap.size_push]
  exact hq
theorem kw_type_call (F : ExcBaseFacts B newId initId bmB) (hT : ∀ X : String, bm.contains (.type X) = bmB.contains (.type X)) {fI : Addr} {Q : Fin → Shared → Prop} (hC : h.get? C = some (excClassObj nm q C N bs bm hdct sn sub ab col dd k0 k1 k2 k3 k5 newId))
    (hi : Looks (model prog w) h (typeLookup (.ref C) "__init__") (some (.ref fI))) (hb : ∀ self, Looks (model prog w) h (bindSpecial (.ref fI) self) (.ref fI, [self]))
    (hq : codeAny (model prog w) A (.call (.ref fI) ⟨[.ref (h.objs.size + 1)], kw⟩) (fun r s' => match r with | .ok (.ret v) => v = .none ∧ Q (.done (.ret (.ref (h.objs.size + 1)))) s' | .ok _ => False | .error e => E e s')
      ⟨(h.push (kdv_tup [])).push (excO C h.objs.size), g, d, t, os⟩) : wpAny (model prog w) A (Builtin.«type.__call__» ⟨[.ref C], kw⟩) Q E ⟨h, g, d, t, os⟩ := by
  repeat (first | with_reducible refine wpAny_loadPart_at hC ?_ | with_reducible refine wpAny_madeBy_exc hC ?_ | wp_step)
  refine codeAny_call_builtin_code (Code.quiet_builtin _ F.quiet) (kw_check_new F hT hC ?_)
  refine kw_new F hT hC ?_
  show wpAny _ _ _ _ _ _
  have k : ∀ b o, h.get? b = some o → ((h.push (kdv_tup [])).push (excO C h.objs.size)).get? b = some o := fun b o e => Heap.get?_push_of_some _ (Heap.get?_push_of_some _ e)
  have hC1 := k _ _ hC
  have hget : ((h.push (kdv_tup [])).push (excO C h.objs.size)).get? (h.objs.size + 1) = some (excO C h.objs.size) := by heap_get
  have hcC : (Value.ref C :: bm).contains (.ref C) = true := by simp
  have i1 := hi.keeps k
  have b1 := (hb (.ref (h.objs.size + 1))).keeps k
  unfold isInstance
  repeat (first | with_reducible refine wpAny_loadPart_at hget ?_ | (with_reducible refine wpAny_isSubtype_exc hC1 ?_; rw [hcC]) | wp_step)
  show wpAny _ _ (typeLookup (.ref C) _) _ _ _
  refine i1.at ?_
  refine wpAny_holding (wpAny_bind (b1.at (wpAny_bind (wpAny_call (codeAny_mono hq fun r s' z => ?_)))))
  rcases r with e | (v | _ | _ | _) <;> first | exact z | exact z.elim | skip
  obtain ⟨rfl, z⟩ := z
  first
    | exact wpAny_pure (wpAny_pure z)
    | (wp_walk; exact z)
theorem kw_check_call {Q : Unit → Shared → Prop} (hC : h.get? C = some (excClassObj nm q C N bs bm hdct sn sub ab col dd k0 k1 k2 k3 k5 newId)) (hq : Q () ⟨h, g, d, t, os⟩) :
    wpAny (model prog w) A (checkBuiltinCall "type.__call__" ⟨[.ref C], kw⟩) Q E ⟨h, g, d, t, os⟩ := by
  have f3 := tc_sub
  have hT : (⟨h, g, d, t, os⟩ : Shared).TypeIs (.ref C) "type" := ⟨_, hC, rfl⟩
  simp only [checkBuiltinCall, tc_kind, tc_split]
  repeat (any_goals (first | assumption | with_reducible refine wpAny_loadPart_at hC ?_ | with_reducible refine wpAny_onRaise ?_ | with_reducible refine wpAny_map ?_ | wp_step))
theorem kw_call (F : ExcBaseFacts B newId initId bmB) (hT : ∀ X : String, bm.contains (.type X) = bmB.contains (.type X)) {fI : Addr} (hC : h.get? C = some (excClassObj nm q C N bs bm hdct sn sub ab col dd k0 k1 k2 k3 k5 newId))
    (hi : Looks (model prog w) h (typeLookup (.ref C) "__init__") (some (.ref fI))) (hb : ∀ self, Looks (model prog w) h (bindSpecial (.ref fI) self) (.ref fI, [self]))
    (hq : codeAny (model prog w) (A.under (.builtin "type.__call__" ⟨[.ref C], kw⟩)) (.call (.ref fI) ⟨[.ref (h.objs.size + 1)], kw⟩) (PySem.W.InitBack (h.objs.size + 1) R) ⟨(h.push (kdv_tup [])).push (excO C h.objs.size), g, d, t, os⟩) :
    codeAny (model prog w) A (.call (.ref C) ⟨[], kw⟩) R ⟨h, g, d, t, os⟩ := by
  have f1 := tc_lookup
  have f2 := tc_bind (.ref C)
  have hTy : (⟨h, g, d, t, os⟩ : Shared).TypeIs (.ref C) "type" := ⟨_, hC, rfl⟩
  refine codeAny_of_tree ?_
  show wpAny _ _ (callAny (.ref C) _) _ _ _
  repeat (any_goals (first | assumption | with_reducible refine wpAny_loadPart_at hC ?_ | wp_step))
  refine ⟨rfl, codeAny_call_builtin_at (Code.quiet_builtin _ (by decide +kernel)) entry_typeCall (kw_check_call hC (kw_type_call F hT hC hi hb (codeAny_mono hq fun r s' z => ?_)))⟩
  rcases r with e | (v | _ | _ | _) <;> exact z
end
end Tug
namespace Tug
open PySem PySem.Spec L2
open PyProof.Rows hiding St
section
variable {X : Cx} {CX : CXT} {x : Str} {C fI : Addr} {k : Nat} {fd : FuncData} {ps ks : List Str} {sp : Sp} {kws : List Keyword} {tk : TA} {p pos : Pos} {g : List Value → List Value → List Value} {gV : List V → List V → List V}
/-- C(k = v, ..), C's own __init__ keeping sp -/
def tMkW (C : Addr) (m : Nat) (sp : Sp) (gV : List V → List V → List V) (tk : TA) : St → Hp → XK → Prop := fun σ H Q => tk σ H fun zs H1 => zs.length = m ∧ ∀ a, H1 a = none → sp (gV [.ref a] zs) (upd H1 a (exo a C none))
  (fun v H2 => v = .non ∧ ∃ (d : Addr) (fs : List (Str × V)), H2 a = some (exo a C (some d)) ∧ H2 d = some (exd d fs) ∧ H1 d = none ∧ Q (.ref C) (some d) (upd (del H2 a) d (.xd fs))) (fun _ _ _ => False)
theorem pmk_kw (T : OexC X.K C) (iC : PySem.W.findIn X.K (.ref C) "__init__" = some (some (.ref fI))) (tI : PySem.W.typeIn X.K (.ref fI) = some (.type "function")) (F1 : FnOk X.prog X.w X.K X.mg X.base CX k fI fd ps sp) (hr : Room (k + 1) X.A)
    (hb : KBn X.K fd ps 1 ks g gV) (hx : Passes CX X (fun _ _ _ => False)) (hg : Gl X x) (hm : X.mg x = some (.ref C)) (hkw : PK X kws tk) (hall : (backToKw pos (keywordEach kws X.env)).all (·.1.isSome) = true := by rfl)
    (hks : (backToKw pos (keywordEach kws X.env)).filterMap (·.1) = ks := by rfl) (hdb : (x == ("__debug__" : Str)) = false := by decide) (hpl : ((backTo pos (starEach [] X.env)).any (·.1) || (backToKw pos (keywordEach kws X.env)).any (·.1.isNone)) = false := by rfl) :
    PMk X (.Call (.Name x p) [] kws pos) (tMkW C ks.length sp gV tk) := by
  intro pins s σ H Q I h
  obtain ⟨nm, q, N, bs, bm, sn, sub, ab, col, dd, k0, k1, k2, k3, k5, hC, hbm⟩ := T.cls
  refine wpAny_Call_Name_kw (ld_glob I hg hm ?_ hdb)
  refine PySem.W.callWith_KW0 (h₀ := X.base) I.ok.mod.kin T.kC hall (thn (hkw.run pos pins s σ H _ I h) fun ws s1 ⟨zs, H1, I1, rz, lz, q1⟩ => ⟨I1.kIn, ?_⟩) hpl
  rw [hks]
  obtain ⟨hp, gs, dr, tkn, os⟩ := s1
  have hsz : hp.objs.size ≤ hp.objs.size + 1 := Nat.le_succ _
  have kk : ∀ b o, hp.get? b = some o → ((hp.push (PySem.W.kdv_tup [])).push (PySem.HandSPX.excO C hp.objs.size)).get? b = some o := fun b o e => Heap.get?_push_of_some _ (Heap.get?_push_of_some _ e)
  have hget : ((hp.push (PySem.W.kdv_tup [])).push (PySem.HandSPX.excO C hp.objs.size)).get? (hp.objs.size + 1) = some (PySem.HandSPX.excO C hp.objs.size) := by heap_get
  have I2 : Inv X pins σ (upd H1 (hp.objs.size + 1) (exo (hp.objs.size + 1) C none)) ⟨(hp.push (PySem.W.kdv_tup [])).push (PySem.HandSPX.excO C hp.objs.size), gs, dr, tkn, os⟩ :=
    I1.laid (t' := tkn) (a := hp.objs.size + 1) (o := exo (hp.objs.size + 1) C none) (h' := (hp.push (PySem.W.kdv_tup [])).push (PySem.HandSPX.excO C hp.objs.size)) kk hsz (exo_ok hget)
  have hq := q1 (hp.objs.size + 1) (I1.hok.fresh hsz)
  have r2 := hb.rel (vs := [V.ref (hp.objs.size + 1)]) (us := [Value.ref (hp.objs.size + 1)]) (.cons rfl .nil) rz
  refine wpAny_call (kw_call F.excBase_ValueError (fun Y => PySem.HandSPX.refsVE_contains Y bm hbm) (I1.kIn _ _ hC) (PySem.W.looks_findIn I1.kIn iC) (fun self => PySem.W.bind_fn I1.kIn self tI)
    (codeAny_mono (F1.run _ X.stack _ _ ⟨[Value.ref (hp.objs.size + 1)], ks.zip ws⟩ (g [Value.ref (hp.objs.size + 1)] ws) _ _ (fun _ _ _ => False) (hr.make C [] (ks.zip ws)) (I2.env0.make C [] (ks.zip ws)) (hb.to _ _ ws I2.kIn rfl (rz.length.symm.trans lz)) r2 hq) fun r s' hq' => ?_))
  cases r with
  | error er => exact hx pins σ _ _ er s' I2 hq'
  | ok fl =>
    cases fl with
    | ret u =>
      obtain ⟨v, H2, os2, bare2, un2, hok2, rv, ev, d, fs, ea, ed, hd1, q2⟩ := hq'
      subst ev
      obtain ⟨h2, g2, d2, t2, os'⟩ := s'
      exact ⟨rv, mk_end (raises_own T.exC T.tyC) I1 hsz kk un2 hok2 os2 bare2 ea ed hd1 q2⟩
    | next => exact False.elim hq'
    | brk => exact False.elim hq'
    | cont => exact False.elim hq'
end
end Tug
set_option Elab.async false
set_option linter.all false
set_option maxRecDepth 100000
set_option maxHeartbeats 4000000
/-! Tug, part Z: what the written part says of exception classes of one's own, and a head that looks there. -/
namespace Tug
open PySem PySem.Spec L2
open PyProof.Rows hiding St
open PySem.W (Frag)
/-- C's object: an exception class over ValueError, with a dict for its instances -/
def oexAt (K : Frag) (C : Addr) : Bool := match K.lookup C with
  | some o => (match o.cls, o.data with
    | .type ty, .cls cd => ty == "type" && (match cd.mro with
      | .ref c :: bm => c == C && (HandSPX.refsVE bm && (cd.hasDict && !cd.hasDel))
      | _ => false) && (match o.slots.toList with
      | [_, _, _, _, some (.builtin n), _] => n == "ValueError.__new__"
      | _ => false)
    | _, _ => false)
  | none => false
theorem oexAt_ok {K : Frag} {C : Addr} (h : oexAt K C = true) :
    ∃ nm q N bs bm sn sub ab col dd k0 k1 k2 k3 k5, K.lookup C = some (excClassObj nm q C N bs bm true sn sub ab col dd k0 k1 k2 k3 k5 "ValueError.__new__") ∧ HandSPX.refsVE bm = true := by
  unfold oexAt at h
  split at h
  · rename_i o ho
    obtain ⟨oc, od, da, sl⟩ := o
    dsimp only at h
    split at h
    · rename_i ty cd
      simp only [Bool.and_eq_true] at h
      obtain ⟨⟨h1, h2⟩, h3⟩ := h
      split at h2
      · rename_i c bm hm
        split at h3
        · rename_i k0 k1 k2 k3 n k5 hs
          simp only [Bool.and_eq_true, beq_iff_eq, Bool.not_eq_true'] at h1 h2 h3
          obtain ⟨hc, hr, hd, hl⟩ := h2
          obtain ⟨nm, bs, mro, ns, qn, hdi, sn, sub, ab, col, del⟩ := cd
          try dsimp only at hm hd hl
          obtain ⟨l⟩ := sl
          try simp only at hs
          subst h1 h3 hc
          subst hm hd hl hs
          exact ⟨nm, qn, ns, bs, bm, sn, sub, ab, col, od, k0, k1, k2, k3, k5, ho, hr⟩
        · cases h3
      · cases h2
    · cases h
  · cases h
/-- all that is asked of an exception class C with the field f, under the class T -/
structure ExF (K : Frag) (C T : Addr) (f : Str) : Prop where
  o : OexC K C
  ini : PySem.W.findIn K (.ref C) "__init__" = some (some (.ref (He.ma K C "__init__")))
  fn : PySem.W.typeIn K (.ref (He.ma K C "__init__")) = some (.type "function")
  x : XfC K C
  no : PySem.W.findIn K (.ref C) f = some none
  e : ExcC K C
  m : PySem.W.exmOne K (.ref C) (.ref T) = some true
  ve : PySem.W.kitOne K (.ref C) (.type "ValueError") = some true
def exB (K : Frag) (C T : Addr) (f : Str) : Bool := oexAt K C && (decide (PySem.W.findIn K (.ref C) "__setattr__" = some (some (.builtin "object.__setattr__"))) && (decide (PySem.W.subIn K (.ref C) (.type "BaseException") = some true) && (decide (PySem.W.typeIn K (.ref C) = some (.type "type")) && (PySem.W.keepIn K (.ref C) &&
  (decide (PySem.W.findIn K (.ref C) "__init__" = some (some (.ref (He.ma K C "__init__")))) && (decide (PySem.W.typeIn K (.ref (He.ma K C "__init__")) = some (.type "function")) && (xfB K C && (decide (PySem.W.findIn K (.ref C) f = some none) &&
  (decide (PySem.W.findIn K (.ref C) "__class__" = some (some (.builtin "object.__class__"))) && (decide (PySem.W.specialIn K (.builtin "object.__class__") "__get__" = some (some (.builtin "getset_descriptor.__get__"))) && (decide (PySem.W.takesIn K (.builtin "object.__class__") = some true) && (decide (PySem.W.mroIn K C (.type "object") = some true) &&
  (decide (PySem.W.exmOne K (.ref C) (.ref T) = some true) && decide (PySem.W.kitOne K (.ref C) (.type "ValueError") = some true))))))))))))))
theorem exB_ok {K : Frag} {C T : Addr} {f : Str} (h : exB K C T f = true) : ExF K C T f := by
  unfold exB at h
  simp only [Bool.and_eq_true, decide_eq_true_eq] at h
  obtain ⟨h1, h2, h3, h4, h5, h6, h7, h8, h9, h10, h11, h12, h13, h14, h15⟩ := h
  have x := xfB_ok h8
  exact ⟨⟨oexAt_ok h1, h2, h3, h4, h5⟩, h6, h7, x, h9, ⟨x.ga, x.gg, x.exC, x.hdC, h10, h11, h12, h13⟩, h14, h15⟩
/-- the base class T: its __init__ is ValueError's -/
def binB (K : Frag) (T : Addr) : Bool := PySem.W.readsIn K T (.type "type") && (decide (PySem.W.specialIn K (.ref T) "__getattribute__" = some (some (.builtin "type.__getattribute__"))) &&
  (match PySem.W.findCls K (.ref T) (.type "type") "__init__" with
    | some (.val (.builtin n)) => n == "ValueError.__init__"
    | _ => false))
theorem binB_ok {K : Frag} {T : Addr} (h : binB K T = true) : BIn K T := by
  unfold binB at h
  simp only [Bool.and_eq_true, decide_eq_true_eq] at h
  obtain ⟨h1, h2, h3⟩ := h
  split at h3
  · rename_i n e
    rw [beq_iff_eq.mp h3] at e
    exact ⟨⟨h1, h2⟩, e⟩
  · cases h3
/-! ### the head: He's facts, and one Bool more; the interpreter's own statics are looked at too -/
def asE (g : Addr → Option Obj) (n : Nat) : List Addr := He.asD g n ++ [cStatics]
def obsE (fa : List He.Fa) (fn : List He.DefD) (ex : Frag → Bool) (K : Frag) : He.AlD × Bool := (He.obsD fa fn K, ex K)
def obsEG (n : Nat) (fa : List He.Fa) (fn : List He.DefD) (ex : Frag → Bool) (g : Addr → Option Obj) : He.AlD × Bool := obsE fa fn ex (He.frG g (asE g n))
def hookE (n : Nat) (fa : List He.Fa) (fn : List He.DefD) (ex : Frag → Bool) : PySem.W.Hook where
  α := He.AlD × Bool
  obs := fun s => obsEG n fa fn ex s.heap.get?
  val := fun _ => (He.valD fn, true)
  says := fun _ h => ∃ K : Frag, K.In h ∧ He.SaysD fa fn K ∧ ex K = true
  of := fun _ _ e => ⟨_, He.frG_in, congrArg (fun z : He.AlD × Bool => z.1) e, congrArg (fun z : He.AlD × Bool => z.2) e⟩
  keeps := fun _ _ _ ⟨K, hK, c⟩ k => ⟨K, PySem.W.Frag.In.keeps hK k, c⟩
theorem obsEG_eq {n : Nat} {fa : List He.Fa} {fn : List He.DefD} {ex : Frag → Bool} {g : Addr → Option Obj} {s : Shared} (h : ∀ a, g a = s.heap.get? a) : obsEG n fa fn ex g = (hookE n fa fn ex).obs s := by
  have e : g = s.heap.get? := funext h
  rw [e] <;> rfl
end Tug
set_option Elab.async false
set_option linter.all false
set_option maxRecDepth 100000
set_option maxHeartbeats 4000000
/-! Tug, part W: data with lists that no well is part of; the exception classes as they are called. -/
namespace Tug
open PySem PySem.Spec L2
open PyProof.Rows hiding St
/-! ### data beside the well -/
mutual
inductive Dw (N : Addr → Prop) (H : Hp) : V → PyData → Prop
  | non : Dw N H .non .none
  | bl (b : Bool) : Dw N H (.bl b) (.bool b)
  | int (i : Int) : Dw N H (.int i) (.int i)
  | str (x : Str) : Dw N H (.str x) (.str x)
  | lst {a : Addr} {xs : List V} {ds : List PyData} : ¬ N a → H a = some (.lst xs) → DwAll N H xs ds → Dw N H (.ref a) (.list ds)
  | tup {a : Addr} {xs : List V} {ds : List PyData} : Kt H a xs → DwAll N H xs ds → Dw N H (.ref a) (.tuple ds)
inductive DwAll (N : Addr → Prop) (H : Hp) : List V → List PyData → Prop
  | nil : DwAll N H [] []
  | cons {v : V} {vs : List V} {d : PyData} {ds : List PyData} : Dw N H v d → DwAll N H vs ds → DwAll N H (v :: vs) (d :: ds)
end
section
variable {N N' : Addr → Prop} {w : Addr} {H H' : Hp} {K : PySem.W.Frag}
mutual
theorem Dw.mono (m : ∀ a, N' a → N a) (f : ∀ b o, ¬ N b → H b = some o → H' b = some o) (t : TS H H') : ∀ (d : PyData) (v : V), Dw N H v d → Dw N' H' v d
  | .none, v, h => by cases h; exact .non
  | .bool b, v, h => by cases h; exact .bl b
  | .int i, v, h => by cases h; exact .int i
  | .str x, v, h => by cases h; exact .str x
  | .dict ds, v, h => by cases h
  | .list ds, v, h => by
    cases h with
    | lst n ha hs => exact .lst (fun z => n (m _ z)) (f _ _ n ha) (Dw.monoAll m f t ds _ hs)
  | .tuple ds, v, h => by
    cases h with
    | tup ha hs => exact .tup (ha.mono t) (Dw.monoAll m f t ds _ hs)
theorem Dw.monoAll (m : ∀ a, N' a → N a) (f : ∀ b o, ¬ N b → H b = some o → H' b = some o) (t : TS H H') : ∀ (ds : List PyData) (vs : List V), DwAll N H vs ds → DwAll N' H' vs ds
  | [], vs, h => by cases h; exact .nil
  | d :: ds, vs, h => by
    cases h with
    | cons h1 h2 => exact .cons (Dw.mono m f t d _ h1) (Dw.monoAll m f t ds _ h2)
end
mutual
theorem Dw.dp : ∀ (d : PyData) (v : V), Dw N H v d → Dp K H v d
  | .none, v, h => by cases h; exact .non
  | .bool b, v, h => by cases h; exact .bl b
  | .int i, v, h => by cases h; exact .int i
  | .str x, v, h => by cases h; exact .str x
  | .dict ds, v, h => by cases h
  | .list ds, v, h => by
    cases h with
    | lst _ ha hs => exact .lst (SqL.of ha) (Dw.dpAll ds _ hs)
  | .tuple ds, v, h => by
    cases h with
    | tup ha hs => exact .tup ha.sq (Dw.dpAll ds _ hs)
theorem Dw.dpAll : ∀ (ds : List PyData) (vs : List V), DwAll N H vs ds → DpAll K H vs ds
  | [], vs, h => by cases h; exact .nil
  | d :: ds, vs, h => by
    cases h with
    | cons h1 h2 => exact .cons (Dw.dp d _ h1) (Dw.dpAll ds _ h2)
end
theorem Dw.drawn {v : V} {d : PyData} (h : Dw N H v d) (hN : N w) (hW : Wl w H) (g : Drawn w H H') : Dw N H' v d := Dw.mono (fun _ z => z) (fun b o n e => g.frm b o (fun z => n (z ▸ hN)) e) (hW.ts g.frm) _ _ h
theorem Dw.same {v : V} {d : PyData} (h : Dw N H v d) (s : Same H H') : Dw N H' v d := Dw.mono (fun _ z => z) (fun b o _ e => s b o e) (TS.of s) _ _ h
theorem DwAll.drawn {vs : List V} {ds : List PyData} (h : DwAll N H vs ds) (hN : N w) (hW : Wl w H) (g : Drawn w H H') : DwAll N H' vs ds := Dw.monoAll (fun _ z => z) (fun b o n e => g.frm b o (fun z => n (z ▸ hN)) e) (hW.ts g.frm) _ _ h
theorem DwAll.same {vs : List V} {ds : List PyData} (h : DwAll N H vs ds) (s : Same H H') : DwAll N H' vs ds := Dw.monoAll (fun _ z => z) (fun b o _ e => s b o e) (TS.of s) _ _ h
theorem Dw.less {v : V} {d : PyData} (h : Dw N H v d) (m : ∀ a, N' a → N a) : Dw N' H v d := Dw.mono m (fun _ _ _ e => e) (TS.refl H) _ _ h
theorem DwAll.less {vs : List V} {ds : List PyData} (h : DwAll N H vs ds) (m : ∀ a, N' a → N a) : DwAll N' H vs ds := Dw.monoAll m (fun _ _ _ e => e) (TS.refl H) _ _ h
/-- what stands already -/
def Tk (H : Hp) (a : Addr) : Prop := ∃ o, H a = some o
theorem Tk.none {a : Addr} (h : H a = none) : ¬ Tk H a := fun ⟨o, e⟩ => by
  rw [h] at e
  cases e
theorem DwAll.append {vs us : List V} {ds es : List PyData} (h : DwAll N H vs ds) (g : DwAll N H us es) : DwAll N H (vs ++ us) (ds ++ es) := by
  induction ds generalizing vs with
  | nil =>
    cases h
    exact g
  | cons d ds ih =>
    cases h with
    | cons h1 h2 => exact .cons h1 (ih h2)
theorem DwAll.mem : ∀ {ds : List PyData} {vs : List V}, DwAll N H vs ds → ∀ {v : V}, v ∈ vs → ∃ d ∈ ds, Dw N H v d
  | [], vs, h, v, m => by
    cases h
    cases m
  | d :: ds, vs, h, v, m => by
    cases h with
    | cons h1 h2 =>
      rcases List.mem_cons.mp m with rfl | m
      · exact ⟨d, List.mem_cons_self, h1⟩
      · obtain ⟨e, he, q⟩ := DwAll.mem h2 m
        exact ⟨e, List.mem_cons_of_mem _ he, q⟩
end
/-! ### the classes, called -/
/-- __init__(self, f): TugError.__init__(self, ..); self.f = f -/
def spInit (K : PySem.W.Frag) (C : Addr) (f : Str) : Sp := fun vs H Q _ => ∃ (a : Addr) (v : V), vs = [.ref a, v] ∧ H a = some (exo a C none) ∧ ∀ dx, H dx = none → dx ≠ a → Q .non (upd (upd H dx (exd dx [(f, v)])) a (exo a C (some dx)))
structure CalE (P : Program) (w : World) (K : PySem.W.Frag) (mg : Str → Option Value) (base : Heap) (x f : Str) : Prop where
  hm : mg x = some (.ref (He.ga K x))
  ex : ExF K (He.ga K x) (He.ga K "TugError") f
  ini : ∃ (fd : FuncData) (g : List Value → List Value → List Value), FnOk P w K mg base CX0 1 (He.ma K (He.ga K x) "__init__") fd ["self", f] (spInit K (He.ga K x) f) ∧ Binds K fd ["self", f] [] ∧ KBn K fd ["self", f] 1 [f] g (fun vs zs => vs ++ zs)
/-- x(v): an exception of the class x with the field v -/
def tRz (K : PySem.W.Frag) (x f : Str) (ta : TA) : St → Hp → XK → Prop := fun σ H Q => ta σ H fun vs H1 => ∃ v, vs = [v] ∧ ∀ d, H1 d = none → Q (.ref (He.ga K x)) (some d) (upd H1 d (.xd [(f, v)]))
theorem rz_heap {H : Hp} {a d : Addr} {C : Addr} {f : Str} {v : V} (ha : H a = none) (n : d ≠ a) (hd : H d = none) :
    upd (del (upd (upd (upd H a (exo a C none)) d (exd d [(f, v)])) a (exo a C (some d))) a) d (.xd [(f, v)]) = upd H d (.xd [(f, v)]) := by
  funext b
  by_cases e : b = d
  · rw [e, upd_same, upd_same]
  · rw [upd_ne e, upd_ne e]
    by_cases e2 : b = a
    · rw [e2, del_same, ha]
    · rw [del_ne e2, upd_ne e2, upd_ne e, upd_ne e2]
section
variable {X : Cx} {es : List Expr} {kws : List Keyword} {t : TA}
/-- a reading with its end weakened -/
def tWk (t : TA) : TA := fun σ H Q => ∃ R : List V → Hp → Prop, t σ H R ∧ ∀ vs H1, R vs H1 → Q vs H1
theorem pa_wk (h : PA X es t) : PA X es (tWk t) := ⟨fun pos pins s σ H Q I ⟨R, q, i⟩ => wpAny_mono (h.run pos pins s σ H R I q) (fun us s1 ⟨vs, H1, I1, r, z⟩ => ⟨vs, H1, I1, r, i _ _ z⟩) fun _ _ z => z⟩
theorem pk_wk (h : PK X kws t) : PK X kws (tWk t) := ⟨fun pos pins s σ H Q I ⟨R, q, i⟩ => wpAny_mono (h.run pos pins s σ H R I q) (fun us s1 ⟨vs, H1, I1, r, z⟩ => ⟨vs, H1, I1, r, i _ _ z⟩) fun _ _ z => z⟩
end
section
variable {X : Cx} {x f : Str} {e : Expr} {ta : TA} {p pos : Pos} {n : Nat} {kws : List Keyword}
theorem pmk_pos (C : CalE X.prog X.w X.K X.mg X.base x f) (hr : Room n X.A) (hg : Gl X x) (ha : PA X [e] ta) (hn : 2 ≤ n := by decide) (hdb : (x == ("__debug__" : Str)) = false := by decide)
    (he : starEach [e] X.env = (false, eval e X.env) :: starEach [] X.env := by rfl) (hpl : (backTo pos (starEach [] X.env)).any (·.1) = false := by rfl) : PMk X (.Call (.Name x p) [e] [] pos) (tRz X.K x f ta) := by
  obtain ⟨fd, g, F, hb, _⟩ := C.ini
  intro pins s σ H Q I h
  refine pmk_oex C.ex.o C.ex.ini C.ex.fn F (hr.mono hn) hb .nil pass0 hg C.hm (pa_wk ha) hdb he hpl pins s σ H Q I ⟨_, h, fun vs H1 q => ?_⟩
  obtain ⟨v, rfl, q⟩ := q
  refine ⟨by show 1 ≤ 1000; decide, fun a hn => ⟨a, v, rfl, upd_same, fun dx hd ne => ⟨rfl, dx, [(f, v)], upd_same, ?_, ?_, ?_⟩⟩⟩
  · rw [upd_ne ne, upd_same]
  · rwa [upd_ne ne] at hd
  · rw [upd_ne ne] at hd
    rw [rz_heap hn ne hd]
    exact q dx hd
theorem pmk_key (C : CalE X.prog X.w X.K X.mg X.base x f) (hr : Room n X.A) (hg : Gl X x) (hkw : PK X kws ta) (hn : 2 ≤ n := by decide) (hall : (backToKw pos (keywordEach kws X.env)).all (·.1.isSome) = true := by rfl)
    (hks : (backToKw pos (keywordEach kws X.env)).filterMap (·.1) = [f] := by rfl) (hdb : (x == ("__debug__" : Str)) = false := by decide) (hpl : ((backTo pos (starEach [] X.env)).any (·.1) || (backToKw pos (keywordEach kws X.env)).any (·.1.isNone)) = false := by rfl) :
    PMk X (.Call (.Name x p) [] kws pos) (tRz X.K x f ta) := by
  obtain ⟨fd, g, F, _, hb⟩ := C.ini
  intro pins s σ H Q I h
  refine pmk_kw C.ex.o C.ex.ini C.ex.fn F (hr.mono hn) hb pass0 hg C.hm (pk_wk hkw) hall hks hdb hpl pins s σ H Q I ⟨_, h, fun vs H1 q => ?_⟩
  obtain ⟨v, rfl, q⟩ := q
  refine ⟨rfl, fun a hn => ⟨a, v, rfl, upd_same, fun dx hd ne => ⟨rfl, dx, [(f, v)], upd_same, ?_, ?_, ?_⟩⟩⟩
  · rw [upd_ne ne, upd_same]
  · rwa [upd_ne ne] at hd
  · rw [upd_ne ne] at hd
    rw [rz_heap hn ne hd]
    exact q dx hd
end
/-! ### named readings -/
def tTryK (K : PySem.W.Frag) (c : Value) (i : Nat) (ts : L2.TS) (tb : WX → L2.TS) : L2.TS := fun D σ H => tb (wKp K c i ts D.nx) D σ H
def tRai (t : St → Hp → XK → Prop) (W : WX) : L2.TS := fun _ σ H => t σ H fun cls d H' => W cls d σ H'
section
variable {X : Cx} {x n : Str} {c : Value} {i : Nat} {body suite : List Stmt} {b₀ : Stmt} {np pos pos' : Pos} {ts : L2.TS} {tb : WX → L2.TS} {D : Ends} {σ : St} {H : Hp} {K : PySem.W.Frag} {W : WX} {t : St → Hp → XK → Prop} {e : Expr} {f : Str} {ta : TA} {te : TE} {Q : VK} {XQ : XK}
theorem ps_tryK (hs : X.stack = X.env :: X.outer) (hf : X.env.frame = some X.env.locals) (hN : X.N.Nodup) (hi : X.N[i]? = some n) (hln : X.env.kindOf n = some .local) (hg : Gl X x) (hm : X.mg x = some c)
    (hb : ∀ (W : WX) (pn : List (Addr × Obj)) (xe : Value → Shared → Prop), Takes (X.tr pn xe) W → PSs (X.tr pn xe) body (tb W)) (hsu : ∀ (a : Addr) (pn : List (Addr × Obj)), PSs (X.suite a pn) (b₀ :: suite) ts) (hdb : (x == ("__debug__" : Str)) = false := by decide) :
    PS X (.Try body [.ExceptHandler (some (.Name x np)) (some n) (b₀ :: suite) pos'] [] [] pos) (tTryK X.K c i ts tb) := ps_try_kp hs hf hN hi hln hg hm hdb (fun W pn xe tk _ => hb W pn xe tk) hsu
theorem ps_rai (hc : X.calm = true) (tk : Takes X W) (he : PMk X e t) : PS X (.Raise (some e) none pos) (tRai t W) := ps_raise hc tk he
theorem r_try (h : tb (wKp K c i ts D.nx) D σ H) : tTryK K c i ts tb D σ H := h
theorem r_rai (h : t σ H fun cls d H' => W cls d σ H') : tRai t W D σ H := h
theorem r_rz (h : ta σ H fun vs H1 => ∃ v, vs = [v] ∧ ∀ d, H1 d = none → XQ (.ref (He.ga K x)) (some d) (upd H1 d (.xd [(f, v)]))) : tRz K x f ta σ H XQ := h
theorem r_kf (h : te σ H fun y H1 => ∃ (a C : Addr) (fs : List (Str × V)) (v : V), y = .ref a ∧ KpE H1 a C fs ∧ XfC K C ∧ PySem.W.findIn K (.ref C) f = some none ∧ fs.lookup f = some v ∧ Q v H1) : tKf K f te σ H Q := h
theorem r_ost {to : TE} (h : te σ H fun y H1 => to σ H1 fun z H2 => ∃ a C : Addr, z = .ref a ∧ OexC K C ∧ PySem.W.findIn K (.ref C) f = some none ∧
  ((H2 a = some (exo a C none) ∧ ∀ dx, H2 dx = none → dx ≠ a → D.nx σ (upd (upd H2 dx (exd dx [(f, y)])) a (exo a C (some dx)))) ∨
    ∃ (dx : Addr) (fs : List (Str × V)), H2 a = some (exo a C (some dx)) ∧ H2 dx = some (exd dx fs) ∧ fs.length ≤ 900 ∧ D.nx σ (upd H2 dx (exd dx ((f, y) :: fs))))) : tOst K f to te D σ H := h
theorem r_vei (h : ta σ H fun vs H1 => ∃ (a C : Addr) (ws : List V), vs = .ref a :: ws ∧ ws.length ≤ 1000 ∧ OexC K C ∧ H1 a = some (exo a C none) ∧ Q .non H1) : tVeI K ta σ H Q := h
end
end Tug
set_option Elab.async false
set_option linter.all false
set_option maxRecDepth 100000
set_option maxHeartbeats 4000000
namespace Tug
open PySem PySem.Spec L2
open PyProof.Rows hiding St
def top (i : Nat) : Stmt := PySem.Challenge.pw_tugline_k05_refusals_made.main.body.getD i (.Pass ⟨0, 0, 0, 0⟩)
abbrev s_NoText_init : Stmt := inClass (top 2) 0
abbrev N_NoText_init : List Str := ["self", "line"]
abbrev P_NoText_init : List Str := ["self", "line"]
theorem sc_NoText_init : FnScope N_NoText_init P_NoText_init (defScope s_NoText_init) := ⟨rfl, rfl, rfl, by decide +kernel, rfl, by decide +kernel, by decide +kernel⟩
abbrev s_NoKnob_init : Stmt := inClass (top 3) 0
abbrev N_NoKnob_init : List Str := ["self", "number"]
abbrev P_NoKnob_init : List Str := ["self", "number"]
theorem sc_NoKnob_init : FnScope N_NoKnob_init P_NoKnob_init (defScope s_NoKnob_init) := ⟨rfl, rfl, rfl, by decide +kernel, rfl, by decide +kernel, by decide +kernel⟩
abbrev s_TooMany_init : Stmt := inClass (top 4) 0
abbrev N_TooMany_init : List Str := ["self", "most"]
abbrev P_TooMany_init : List Str := ["self", "most"]
theorem sc_TooMany_init : FnScope N_TooMany_init P_TooMany_init (defScope s_TooMany_init) := ⟨rfl, rfl, rfl, by decide +kernel, rfl, by decide +kernel, by decide +kernel⟩
abbrev s_NoPull_init : Stmt := inClass (top 5) 0
abbrev N_NoPull_init : List Str := ["self", "worth"]
abbrev P_NoPull_init : List Str := ["self", "worth"]
theorem sc_NoPull_init : FnScope N_NoPull_init P_NoPull_init (defScope s_NoPull_init) := ⟨rfl, rfl, rfl, by decide +kernel, rfl, by decide +kernel, by decide +kernel⟩
abbrev s_Nothing_init : Stmt := inClass (top 6) 0
abbrev N_Nothing_init : List Str := ["self", "word"]
abbrev P_Nothing_init : List Str := ["self", "word"]
theorem sc_Nothing_init : FnScope N_Nothing_init P_Nothing_init (defScope s_Nothing_init) := ⟨rfl, rfl, rfl, by decide +kernel, rfl, by decide +kernel, by decide +kernel⟩
abbrev s_NoPlace_init : Stmt := inClass (top 7) 0
abbrev N_NoPlace_init : List Str := ["self", "place"]
abbrev P_NoPlace_init : List Str := ["self", "place"]
theorem sc_NoPlace_init : FnScope N_NoPlace_init P_NoPlace_init (defScope s_NoPlace_init) := ⟨rfl, rfl, rfl, by decide +kernel, rfl, by decide +kernel, by decide +kernel⟩
abbrev s_NoRow_init : Stmt := inClass (top 8) 0
abbrev N_NoRow_init : List Str := ["self", "row"]
abbrev P_NoRow_init : List Str := ["self", "row"]
theorem sc_NoRow_init : FnScope N_NoRow_init P_NoRow_init (defScope s_NoRow_init) := ⟨rfl, rfl, rfl, by decide +kernel, rfl, by decide +kernel, by decide +kernel⟩
abbrev s_well : Stmt := top 10
abbrev N_well : List Str := ["script", "k", "seed", "cell", "own"]
abbrev P_well : List Str := ["script", "k"]
theorem sc_well : FnScope N_well P_well (defScope s_well) := ⟨rfl, rfl, rfl, by decide +kernel, rfl, by decide +kernel, by decide +kernel⟩
abbrev s_draw : Stmt := top 11
abbrev N_draw : List Str := ["well", "many", "found"]
abbrev P_draw : List Str := ["well", "many"]
theorem sc_draw : FnScope N_draw P_draw (defScope s_draw) := ⟨rfl, rfl, rfl, by decide +kernel, rfl, by decide +kernel, by decide +kernel⟩
abbrev s_pick : Stmt := top 12
abbrev N_pick : List Str := ["well", "some"]
abbrev P_pick : List Str := ["well", "some"]
theorem sc_pick : FnScope N_pick P_pick (defScope s_pick) := ⟨rfl, rfl, rfl, by decide +kernel, rfl, by decide +kernel, by decide +kernel⟩
abbrev s_thing : Stmt := top 13
abbrev N_thing : List Str := ["well", "deep", "some", "inner", "turn"]
abbrev P_thing : List Str := ["well", "deep"]
theorem sc_thing : FnScope N_thing P_thing (defScope s_thing) := ⟨rfl, rfl, rfl, by decide +kernel, rfl, by decide +kernel, by decide +kernel⟩
abbrev s_field : Stmt := top 14
abbrev N_field : List Str := ["caught", "at"]
abbrev P_field : List Str := ["caught", "at"]
theorem sc_field : FnScope N_field P_field (defScope s_field) := ⟨rfl, rfl, rfl, by decide +kernel, rfl, by decide +kernel, by decide +kernel⟩
abbrev s_named : Stmt := top 15
abbrev N_named : List Str := ["at", "thing", "caught", "e"]
abbrev P_named : List Str := ["at", "thing"]
theorem sc_named : FnScope N_named P_named (defScope s_named) := ⟨rfl, rfl, rfl, by decide +kernel, rfl, by decide +kernel, by decide +kernel⟩
abbrev s_made : Stmt := top 16
abbrev N_made : List Str := ["at", "thing", "caught", "e"]
abbrev P_made : List Str := ["at", "thing"]
theorem sc_made : FnScope N_made P_made (defScope s_made) := ⟨rfl, rfl, rfl, by decide +kernel, rfl, by decide +kernel, by decide +kernel⟩
abbrev s_sorts : Stmt := top 17
abbrev N_sorts : List Str := ["caught", "some"]
abbrev P_sorts : List Str := ["caught"]
theorem sc_sorts : FnScope N_sorts P_sorts (defScope s_sorts) := ⟨rfl, rfl, rfl, by decide +kernel, rfl, by decide +kernel, by decide +kernel⟩
abbrev s_law : Stmt := top 18
abbrev N_law : List Str := ["script", "k", "well", "at", "one", "other", "first", "second", "caught", "thing", "spot"]
abbrev P_law : List Str := ["script"]
theorem sc_law : FnScope N_law P_law (defScope s_law) := ⟨rfl, rfl, rfl, by decide +kernel, rfl, by decide +kernel, by decide +kernel⟩
local macro_rules | `(tactic| walk_at "rd1") => `(tactic| first
  | (with_reducible first
  | refine Tug.r_seq ?_ | refine Tug.r_asg ?_ | refine Tug.r_op ?_ | refine Tug.r_c ?_ | refine Tug.r_i0 ?_ | refine Tug.r_name ?_ | refine Tug.r_call ?_ | refine Tug.r_cons ?_ | refine Tug.r_nil ?_ | refine Tug.r_cb ?_
  | refine Tug.r_ifs ?_ | refine Tug.r_test ?_ | refine Tug.r_bl ?_ | refine Tug.r_ret ?_ | refine Tug.r_drop ?_ | refine Tug.r_next ?_ | refine Tug.r_gsub ?_ | refine Tug.r_lst ?_ | refine Tug.r_tup ?_ | refine Tug.r_if ?_ | refine Tug.r_and ?_
  | refine Tug.r_or ?_ | refine Tug.r_not ?_ | refine Tug.r_tb ?_ | refine Tug.r_for ?_ | refine Tug.r_ilist ?_ | refine Tug.r_itup ?_ | refine Tug.r_irng ?_ | refine Tug.r_lc ?_ | refine Tug.r_yes ?_ | refine Tug.r_true ?_ | refine Tug.r_false ?_
  | refine Tug.r_bm ?_ | refine Tug.r_par ?_ | refine Tug.r_gcons ?_ | refine Tug.r_gnil ?_ | refine Tug.r_calln ?_ | refine Tug.r_tupF ?_ | refine Tug.r_get2 ?_ | refine Tug.r_iseq ?_ | refine Tug.r_sl ?_ | refine Tug.r_nopart ?_ | refine Tug.r_part ?_ | refine Tug.r_pint ?_ | refine Tug.r_dput ?_ | refine Tug.r_dget ?_ | refine Tug.r_un ?_ | refine Tug.r_rU ?_ | refine Tug.r_par3 ?_)
  | ((with_reducible show L2.tVar _ _ _ _); refine Tug.r_var rfl ?_))
local macro_rules | `(tactic| walk_at "rd") => `(tactic| repeat (walk_at "rd1"))
/-- the classes, each with its field -/
def clsF : List (Str × Str) := [("NoText", "line"), ("NoKnob", "number"), ("TooMany", "most"), ("NoPull", "worth"), ("Nothing", "word"), ("NoPlace", "place"), ("NoRow", "row")]
/-- an exception of the i-th class made of v, kept -/
def spMade (K : PySem.W.Frag) : Sp := fun vs H Q _ => ∃ (i : Nat) (v : V) (p : Str × Str), vs = [.int i, v] ∧ clsF[i]? = some p ∧ ∀ a H', Same H H' → KpE H' a (He.ga K p.1) [(p.2, v)] → Q (.ref a) H'
def spField (K : PySem.W.Frag) : Sp := fun vs H Q _ => ∃ (a : Addr) (i : Nat) (v : V) (p : Str × Str), vs = [.ref a, .int i] ∧ clsF[i]? = some p ∧ KpE H a (He.ga K p.1) [(p.2, v)] ∧ Q v H
theorem int_nat {i j : Nat} (h : V.int (i : Int) = V.int (j : Int)) : i = j := by
  injection h with h
  omega
theorem six {i : Nat} {p : Str × Str} (h : clsF[i]? = some p) (h0 : i ≠ 0) (h1 : i ≠ 1) (h2 : i ≠ 2) (h3 : i ≠ 3) (h4 : i ≠ 4) (h5 : i ≠ 5) : i = 6 := by
  have := (List.getElem?_eq_some_iff.mp h).1
  have e : clsF.length = 7 := rfl
  omega
theorem mk_same {H : Hp} {d a : Addr} {u o : HO} (hd : H d = none) (ha : upd H d u a = none) : Same H (upd (upd H d u) a o) := (same_new hd).trans (same_new ha)
theorem mk_kpt {H : Hp} {d a C : Addr} {fs : List (Str × V)} {oe : Obj} (ha : upd H d (.xd fs) a = none) (hz : Zc (.ref C) (some d) oe) (hf : ∃ vs, oe.data = .fields vs) : KpE (upd (upd H d (.xd fs)) a (kpt oe)) a C fs := by
  refine ⟨oe, d, upd_same, hz, hf, ?_⟩
  rw [upd_ne (fun e => by rw [← e, upd_same] at ha; cases ha), upd_same]
section
variable {P : Program} {w : World} {K : PySem.W.Frag} {mg : Str → Option Value} {base : Heap} {f : Addr} {fd : FuncData}
abbrev FnP (K : PySem.W.Frag) (x : Str) (st : Stmt) (f : Addr) (fd : FuncData) : Prop := FunD K x x (defArgs st) (defBody st) (defScope st) [] [] f fd
theorem ok_well (F : FnP K "_law_well" s_well f fd) (z_len : mg "len" = none) : FnG P w K mg base CX0 1 f fd P_well (spWell K) := by
  refine fnG F sc_well (fun vs H Q E h => ?_) (fun cdv A outer s H vs Q E hG hr h => ?_)
  · obtain ⟨a, ns, k, rfl, _⟩ := h
    rfl
  obtain ⟨a, ns, k, rfl, hS, hl, hb, h0, h5, q⟩ := h
  refine ⟨_, PSs.nox (pss_cons (ps_set (i := 2) sc_well.nd rfl (Or.inl rfl) (pe_op op_add pe_int (pv 1)))
  (pss_cons (ps_for PassesOwn.never rfl (piL K (pv 0)) (pg_name (i := 3) sc_well.nd rfl (Or.inl rfl))
  (pss_one (ps_set (i := 2) sc_well.nd rfl (Or.inl rfl) (pe_op op_add (pe_op op_mod (pe_op op_powW (pe_op op_add (pe_op op_mulW (pv 2) pe_int) (pv 3)) pe_int) pe_int) pe_int))))
  (pss_cons (ps_set (i := 4) sc_well.nd rfl (Or.inl rfl) pe_int)
  (pss_cons (ps_if (PW.pt (pw_and (pt_cmpR op_lt (pv 1) (pe_callB (lenA K) (by rfl) z_len (by decide +kernel) (pa_cons (pv 0) pa_nil)) (nomark _)) (pw_and1 (pt_cmpR op_ge (pe_ix (ixA K) (pv 0) (pv 1) (fun _ _ => rfl)) (pe_op op_powW pe_int pe_int) (nomark _)))))
  (pss_one (ps_set (i := 4) sc_well.nd rfl (Or.inl rfl) (pe_op op_sub (pe_ix (ixA K) (pv 0) (pv 1) (fun _ _ => rfl)) (pe_op op_powW pe_int pe_int)))) pss_nil)
  (pss_one (ps_ret (pe_lst (pa_cons (pv 4) (pa_cons (pv 2) pa_nil))))))))), ?_⟩
  rw [show start N_well [V.ref a, V.int k] = [some (V.ref a), some (V.int k), none, none, none] from rfl]
  walk_at "rd"
  refine ⟨a, rfl, ⟨_, hS⟩, for_list (K := K) (a := a) (xs := ns.map V.int) (fun i σ H' => H' = H ∧ ∃ (z : Int) (c : Option V), σ = [some (V.ref a), some (V.int k), some (V.int z), c, none] ∧ 0 ≤ z ∧ z < 2147483648) ?_ ?_ ?_ ?_⟩
  · exact ⟨rfl, _, _, rfl, by omega, by omega⟩
  · rintro i σ H' _ ⟨rfl, _⟩
    exact hS
  · rintro i x σ H' hx ⟨rfl, z, c, rfl, hz, hzb⟩
    obtain ⟨n, hn, rfl⟩ : ∃ n, n ∈ ns ∧ x = V.int n := by
      rw [List.getElem?_map, Option.map_eq_some_iff] at hx
      obtain ⟨n, hn, e⟩ := hx
      exact ⟨n, List.mem_of_getElem? hn, e.symm⟩
    walk_at "rd"
    refine r_i1 (wide_mul (a := 32) (b := 32) (by omega) (by decide) (by decide) (by decide) (by decide)) ?_
    walk_at "rd"
    refine r_i1 (pow_bits (n := 1048577) ?_ (by decide) (by decide)) ?_
    · refine bits_of_lt ?_
      have h1 := lt_of_bits n
      have h2 : 2 ^ Builtin.Int.intBits n ≤ 2 ^ 1048576 := Nat.pow_le_pow_right (by decide) (hb n hn)
      have h3 : (2 : Nat) ^ 1048577 = 2 ^ 1048576 + 2 ^ 1048576 := by rw [show 1048577 = 1048576 + 1 from rfl, Nat.pow_succ, Nat.mul_two]
      have h4 : (2 : Nat) ^ 64 ≤ 2 ^ 1048576 := Nat.pow_le_pow_right (by decide) (by decide)
      generalize (2 : Nat) ^ 1048576 = B at *
      rw [h3]
      have h5 : (2 : Nat) ^ 64 = 18446744073709551616 := by decide
      omega
    walk_at "rd"
    refine r_i1 (show (0 : Int) < 2147483629 by decide) ?_
    walk_at "rd"
    refine ⟨rfl, _, _, rfl, ?_, ?_⟩
    · have := Int.emod_nonneg ((z * 50021 + n) ^ (3 : Int).toNat) (show (2147483629 : Int) ≠ 0 by decide)
      omega
    · have := Int.emod_lt_of_pos ((z * 50021 + n) ^ (3 : Int).toNat) (show (0 : Int) < 2147483629 by decide)
      omega
  · rintro σ H' ⟨rfl, z, c, rfl, hz, hzb⟩
    walk_at "rd"
    have fin : ∀ o : Int, 0 ≤ o → Builtin.Int.intBits o ≤ 1048577 → ∀ p, H' p = none → Q (V.ref p) (upd H' p (.lst [V.int o, V.int z])) := by
      intro o ho hob p hp
      exact q p _ hp (same_new hp) ⟨o, z, upd_same, ho, hob, hz, hzb⟩
    refine ⟨a, _, rfl, .inl hS, ?_⟩
    walk_at "rd"
    refine ifD (fun hk => ?_) (fun hk => ?_)
    · have hk' : k.toNat < ns.length := by
        rw [List.length_map] at hk
        omega
      obtain ⟨n, hn⟩ : ∃ n, ns[k.toNat]? = some n := ⟨_, List.getElem?_eq_getElem hk'⟩
      have ha : atI (ns.map V.int) k = some (V.int n) := at_int h0 (get_int hn)
      walk_at "rd"
      refine r_ix (.inl hS) ha ?_
      walk_at "rd"
      refine r_i1 (pow_ok (n := 4) (by decide) (by decide) (by decide)) ?_
      walk_at "rd"
      refine ifD (fun hv => ?_) (fun hv => ?_)
      · walk_at "rd"
        refine r_ix (.inl hS) ha ?_
        walk_at "rd"
        refine r_i1 (pow_ok (n := 4) (by decide) (by decide) (by decide)) ?_
        walk_at "rd"
        refine ⟨by show 2 ≤ sizeLine; decide, fin _ ?_ ?_⟩
        · have e : (10 : Int) ^ (18 : Int).toNat = 1000000000000000000 := by decide
          omega
        · refine Nat.le_trans (bits_mono (b := n) ?_) (Nat.le_trans (hb n (List.mem_of_getElem? hn)) (by decide))
          have e : (10 : Int) ^ (18 : Int).toNat = 1000000000000000000 := by decide
          omega
      · walk_at "rd"
        exact ⟨by show 2 ≤ sizeLine; decide, fin 0 (by decide) (by decide)⟩
    · walk_at "rd"
      exact ⟨by show 2 ≤ sizeLine; decide, fin 0 (by decide) (by decide)⟩
theorem ok_draw (F : FnP K "_law_draw" s_draw f fd) : FnG P w K mg base CX0 1 f fd P_draw spDraw := by
  refine fnG F sc_draw (fun vs H Q E h => ?_) (fun cdv A outer s H vs Q E hG hr h => ?_)
  · obtain ⟨w, m, rfl, _⟩ := h
    rfl
  obtain ⟨a, m, rfl, ⟨o, z, hw, ho, hob, hz, hzb⟩, h0, hm, k⟩ := h
  refine ⟨_, PSs.nox (pss_cons (ps_if (pt_cmpR op_ge (pe_ix (ixA K) (pv 0) pe_int (fun _ _ => rfl)) (pv 1) (nomark _))
  (pss_cons (ps_set (i := 2) sc_draw.nd rfl (Or.inl rfl) (pe_op op_mod (pe_ix (ixA K) (pv 0) pe_int (fun _ _ => rfl)) (pv 1)))
  (pss_cons (ps_asg (pe_op op_fdivW (pe_ix (ixA K) (pv 0) pe_int (fun _ _ => rfl)) (pv 1)) (pg_sub (pv 0) pe_int set_list))
  (pss_one (ps_ret (pv 2))))) pss_nil)
  (pss_cons (ps_asg (pe_op op_mod (pe_op op_add (pe_op op_mulW (pe_ix (ixA K) (pv 0) pe_int (fun _ _ => rfl)) pe_int) pe_int) pe_int) (pg_sub (pv 0) pe_int set_list))
  (pss_one (ps_ret (pe_op op_mod (pe_op op_fdivW (pe_op op_mod (pe_op op_powW (pe_op op_mod (pe_op op_powW (pe_ix (ixA K) (pv 0) pe_int (fun _ _ => rfl)) pe_int) pe_int) pe_int) pe_int) pe_int) (pv 1)))))), ?_⟩
  rw [show start N_draw [V.ref a, V.int m] = [some (V.ref a), some (V.int m), none] from rfl]
  walk_at "rd"
  refine r_ix (.inl (SqL.of hw)) rfl ?_
  walk_at "rd"
  refine ifD (fun hc => ?_) (fun hc => ?_)
  · walk_at "rd"
    refine r_ix (.inl (SqL.of hw)) rfl ?_
    walk_at "rd"
    refine r_i1 (show (0 : Int) < m from h0) ?_
    walk_at "rd"
    refine r_ix (.inl (SqL.of hw)) rfl ?_
    walk_at "rd"
    refine r_i1 (wide_div (b := 300) h0 ?_ (by decide) (by decide)) ?_
    · omega
    walk_at "rd"
    refine r_setL hw rfl ?_
    walk_at "rd"
    refine k _ _ (Int.emod_nonneg _ (by omega)) (Int.emod_lt_of_pos _ h0) ⟨Frm.upd, ?_⟩
    refine ⟨o / m, z, upd_same, Int.ediv_nonneg ho (by omega), Nat.le_trans (bits_mono ?_) hob, hz, hzb⟩
    have h1 : o / m ≤ o := Int.ediv_le_self m ho
    have h2 : 0 ≤ o / m := Int.ediv_nonneg ho (by omega)
    omega
  · walk_at "rd"
    refine r_ix (.inl (SqL.of hw)) rfl ?_
    walk_at "rd"
    refine r_i1 (wide_mul (a := 32) (b := 32) (by omega) (by decide) (by decide) (by decide) (by decide)) ?_
    walk_at "rd"
    refine r_i1 (show (0 : Int) < 2147483647 by decide) ?_
    walk_at "rd"
    refine r_setL hw rfl ?_
    walk_at "rd"
    have y0 : 0 ≤ (z * 48271 + 12345) % 2147483647 := Int.emod_nonneg _ (by decide)
    have y1 : (z * 48271 + 12345) % 2147483647 < 2147483647 := Int.emod_lt_of_pos _ (by decide)
    generalize (z * 48271 + 12345) % 2147483647 = y at *
    refine r_ix (xs := [V.int o, V.int y]) (.inl (SqL.of upd_same)) rfl ?_
    walk_at "rd"
    refine r_i1 (pow_ok (n := 32) (by omega) (by decide) (by decide)) ?_
    walk_at "rd"
    refine r_i1 (show (0 : Int) < 2147483629 by decide) ?_
    have x0 : 0 ≤ y ^ (3 : Int).toNat % 2147483629 := Int.emod_nonneg _ (by decide)
    have x1 : y ^ (3 : Int).toNat % 2147483629 < 2147483629 := Int.emod_lt_of_pos _ (by decide)
    generalize y ^ (3 : Int).toNat % 2147483629 = x at *
    walk_at "rd"
    refine r_i1 (pow_ok (n := 32) (by omega) (by decide) (by decide)) ?_
    walk_at "rd"
    refine r_i1 (show (0 : Int) < 1000000007 by decide) ?_
    walk_at "rd"
    refine r_i1 (wide_div (b := 300) (by decide) (by decide) (by decide) (by decide)) ?_
    walk_at "rd"
    refine r_i1 (show (0 : Int) < m from h0) ?_
    exact k _ _ (Int.emod_nonneg _ (by omega)) (Int.emod_lt_of_pos _ h0) ⟨Frm.upd, o, y, upd_same, ho, hob, by omega, by omega⟩
abbrev C_ (P : Program) (w : World) (K : PySem.W.Frag) (mg : Str → Option Value) (base : Heap) (x : Str) (k : Nat) (ps : List Str) (sp : Sp) : Prop := Cal P w K mg base CX0 x k ps [] sp
theorem ok_pick (F : FnP K "_law_pick" s_pick f fd) (z_len : mg "len" = none) (C_draw : C_ P w K mg base "_law_draw" 1 P_draw spDraw) : FnG P w K mg base CX0 2 f fd P_pick (spPick K) := by
  refine fnG F sc_pick (fun vs H Q E h => ?_) (fun cdv A outer s H vs Q E hG hr h => ?_)
  · obtain ⟨w, l, xs, rfl, _⟩ := h
    rfl
  obtain ⟨a, l, xs, rfl, hW, hl, hS, hne, hlen, k⟩ := h
  refine ⟨_, PSs.nox (pss_one (ps_ret (pe_ix (ixA K) (pv 1) (pe_cal C_draw hG hr pass0 rfl (pa_cons (pv 0) (pa_cons (pe_callB (lenA K) (by rfl) z_len (by decide +kernel) (pa_cons (pv 1) pa_nil)) pa_nil))) (fun _ _ => rfl)))), ?_⟩
  rw [show start N_pick [V.ref a, V.ref l] = [some (V.ref a), some (V.ref l)] from rfl]
  walk_at "rd"
  refine ⟨l, xs, rfl, hS, ?_⟩
  walk_at "rd"
  have hpos : 0 < xs.length := List.length_pos_iff.mpr hne
  refine ⟨a, _, rfl, hW, by omega, by omega, fun r H' h0 h1 d => ?_⟩
  walk_at "rd"
  have hr' : r.toNat < xs.length := by omega
  refine r_ix (v := xs[r.toNat]) (xs := xs) ?_ (at_int h0 (List.getElem?_eq_getElem hr')) ?_
  · obtain ⟨o, z, hw, _⟩ := hW
    rcases hS with (((h | ⟨ob, h⟩) | h) | ((h | ⟨ob, h⟩) | h))
    · exact .inl (.inl (.inl (d.frm _ _ hl h)))
    · exact .inl (.inl (.inr ⟨ob, d.frm _ _ hl h⟩))
    · exact .inl (.inr h)
    · exact .inr (.inl (.inl (d.frm _ _ hl h)))
    · exact .inr (.inl (.inr ⟨ob, d.frm _ _ hl h⟩))
    · exact .inr (.inr h)
  · exact k _ _ (List.getElem_mem hr') d
theorem ok_NoText_init {C : Addr} (T : OexC K C) (no : PySem.W.findIn K (.ref C) "line" = some none) (c_TugError : mg "TugError" = some (.ref (He.ga K "TugError"))) (B_TugError : BIn K (He.ga K "TugError")) {f : Addr} {fd : FuncData} (F : FunD K "__init__" "NoText.__init__" (defArgs s_NoText_init) (defBody s_NoText_init) (defScope s_NoText_init) [] [] f fd) :
    FnOk P w K mg base CX0 1 f fd P_NoText_init (spInit K C "line") := by
  refine F.ok sc_NoText_init (fun vs H Q E h => ?_) (fun cdv A outer s H vs Q E hr h => ?_)
  · obtain ⟨a, v, rfl, _⟩ := h
    rfl
  obtain ⟨a, v, rfl, ha, k⟩ := h
  refine ⟨_, PSs.nox (pss_cons (ps_expr (pe_baseI rfl c_TugError B_TugError (pa_cons (pv 0) (pa_cons pe_str pa_nil)) (by decide)))
  (pss_one (ps_ost (pv 0) (pv 1)))), ?_⟩
  rw [show start N_NoText_init [V.ref a, v] = [some (V.ref a), some v] from rfl]
  walk_at "rd"
  refine r_vei ?_
  walk_at "rd"
  refine ⟨a, C, _, rfl, by show 1 ≤ 1000; decide, T, ha, ?_⟩
  walk_at "rd"
  dsimp only
  refine r_ost ?_
  walk_at "rd"
  exact ⟨a, C, rfl, T, no, .inl ⟨ha, fun dx hd ne => k dx hd ne⟩⟩
theorem ok_NoKnob_init {C : Addr} (T : OexC K C) (no : PySem.W.findIn K (.ref C) "number" = some none) (c_TugError : mg "TugError" = some (.ref (He.ga K "TugError"))) (B_TugError : BIn K (He.ga K "TugError")) {f : Addr} {fd : FuncData} (F : FunD K "__init__" "NoKnob.__init__" (defArgs s_NoKnob_init) (defBody s_NoKnob_init) (defScope s_NoKnob_init) [] [] f fd) :
    FnOk P w K mg base CX0 1 f fd P_NoKnob_init (spInit K C "number") := by
  refine F.ok sc_NoKnob_init (fun vs H Q E h => ?_) (fun cdv A outer s H vs Q E hr h => ?_)
  · obtain ⟨a, v, rfl, _⟩ := h
    rfl
  obtain ⟨a, v, rfl, ha, k⟩ := h
  refine ⟨_, PSs.nox (pss_cons (ps_expr (pe_baseI rfl c_TugError B_TugError (pa_cons (pv 0) (pa_cons pe_str pa_nil)) (by decide)))
  (pss_one (ps_ost (pv 0) (pv 1)))), ?_⟩
  rw [show start N_NoKnob_init [V.ref a, v] = [some (V.ref a), some v] from rfl]
  walk_at "rd"
  refine r_vei ?_
  walk_at "rd"
  refine ⟨a, C, _, rfl, by show 1 ≤ 1000; decide, T, ha, ?_⟩
  walk_at "rd"
  dsimp only
  refine r_ost ?_
  walk_at "rd"
  exact ⟨a, C, rfl, T, no, .inl ⟨ha, fun dx hd ne => k dx hd ne⟩⟩
theorem ok_TooMany_init {C : Addr} (T : OexC K C) (no : PySem.W.findIn K (.ref C) "most" = some none) (c_TugError : mg "TugError" = some (.ref (He.ga K "TugError"))) (B_TugError : BIn K (He.ga K "TugError")) {f : Addr} {fd : FuncData} (F : FunD K "__init__" "TooMany.__init__" (defArgs s_TooMany_init) (defBody s_TooMany_init) (defScope s_TooMany_init) [] [] f fd) :
    FnOk P w K mg base CX0 1 f fd P_TooMany_init (spInit K C "most") := by
  refine F.ok sc_TooMany_init (fun vs H Q E h => ?_) (fun cdv A outer s H vs Q E hr h => ?_)
  · obtain ⟨a, v, rfl, _⟩ := h
    rfl
  obtain ⟨a, v, rfl, ha, k⟩ := h
  refine ⟨_, PSs.nox (pss_cons (ps_expr (pe_baseI rfl c_TugError B_TugError (pa_cons (pv 0) (pa_cons pe_str pa_nil)) (by decide)))
  (pss_one (ps_ost (pv 0) (pv 1)))), ?_⟩
  rw [show start N_TooMany_init [V.ref a, v] = [some (V.ref a), some v] from rfl]
  walk_at "rd"
  refine r_vei ?_
  walk_at "rd"
  refine ⟨a, C, _, rfl, by show 1 ≤ 1000; decide, T, ha, ?_⟩
  walk_at "rd"
  dsimp only
  refine r_ost ?_
  walk_at "rd"
  exact ⟨a, C, rfl, T, no, .inl ⟨ha, fun dx hd ne => k dx hd ne⟩⟩
theorem ok_NoPull_init {C : Addr} (T : OexC K C) (no : PySem.W.findIn K (.ref C) "worth" = some none) (c_TugError : mg "TugError" = some (.ref (He.ga K "TugError"))) (B_TugError : BIn K (He.ga K "TugError")) {f : Addr} {fd : FuncData} (F : FunD K "__init__" "NoPull.__init__" (defArgs s_NoPull_init) (defBody s_NoPull_init) (defScope s_NoPull_init) [] [] f fd) :
    FnOk P w K mg base CX0 1 f fd P_NoPull_init (spInit K C "worth") := by
  refine F.ok sc_NoPull_init (fun vs H Q E h => ?_) (fun cdv A outer s H vs Q E hr h => ?_)
  · obtain ⟨a, v, rfl, _⟩ := h
    rfl
  obtain ⟨a, v, rfl, ha, k⟩ := h
  refine ⟨_, PSs.nox (pss_cons (ps_expr (pe_baseI rfl c_TugError B_TugError (pa_cons (pv 0) (pa_cons pe_str pa_nil)) (by decide)))
  (pss_one (ps_ost (pv 0) (pv 1)))), ?_⟩
  rw [show start N_NoPull_init [V.ref a, v] = [some (V.ref a), some v] from rfl]
  walk_at "rd"
  refine r_vei ?_
  walk_at "rd"
  refine ⟨a, C, _, rfl, by show 1 ≤ 1000; decide, T, ha, ?_⟩
  walk_at "rd"
  dsimp only
  refine r_ost ?_
  walk_at "rd"
  exact ⟨a, C, rfl, T, no, .inl ⟨ha, fun dx hd ne => k dx hd ne⟩⟩
theorem ok_Nothing_init {C : Addr} (T : OexC K C) (no : PySem.W.findIn K (.ref C) "word" = some none) (c_TugError : mg "TugError" = some (.ref (He.ga K "TugError"))) (B_TugError : BIn K (He.ga K "TugError")) {f : Addr} {fd : FuncData} (F : FunD K "__init__" "Nothing.__init__" (defArgs s_Nothing_init) (defBody s_Nothing_init) (defScope s_Nothing_init) [] [] f fd) :
    FnOk P w K mg base CX0 1 f fd P_Nothing_init (spInit K C "word") := by
  refine F.ok sc_Nothing_init (fun vs H Q E h => ?_) (fun cdv A outer s H vs Q E hr h => ?_)
  · obtain ⟨a, v, rfl, _⟩ := h
    rfl
  obtain ⟨a, v, rfl, ha, k⟩ := h
  refine ⟨_, PSs.nox (pss_cons (ps_expr (pe_baseI rfl c_TugError B_TugError (pa_cons (pv 0) (pa_cons pe_str pa_nil)) (by decide)))
  (pss_one (ps_ost (pv 0) (pv 1)))), ?_⟩
  rw [show start N_Nothing_init [V.ref a, v] = [some (V.ref a), some v] from rfl]
  walk_at "rd"
  refine r_vei ?_
  walk_at "rd"
  refine ⟨a, C, _, rfl, by show 1 ≤ 1000; decide, T, ha, ?_⟩
  walk_at "rd"
  dsimp only
  refine r_ost ?_
  walk_at "rd"
  exact ⟨a, C, rfl, T, no, .inl ⟨ha, fun dx hd ne => k dx hd ne⟩⟩
theorem ok_NoPlace_init {C : Addr} (T : OexC K C) (no : PySem.W.findIn K (.ref C) "place" = some none) (c_TugError : mg "TugError" = some (.ref (He.ga K "TugError"))) (B_TugError : BIn K (He.ga K "TugError")) {f : Addr} {fd : FuncData} (F : FunD K "__init__" "NoPlace.__init__" (defArgs s_NoPlace_init) (defBody s_NoPlace_init) (defScope s_NoPlace_init) [] [] f fd) :
    FnOk P w K mg base CX0 1 f fd P_NoPlace_init (spInit K C "place") := by
  refine F.ok sc_NoPlace_init (fun vs H Q E h => ?_) (fun cdv A outer s H vs Q E hr h => ?_)
  · obtain ⟨a, v, rfl, _⟩ := h
    rfl
  obtain ⟨a, v, rfl, ha, k⟩ := h
  refine ⟨_, PSs.nox (pss_cons (ps_expr (pe_baseI rfl c_TugError B_TugError (pa_cons (pv 0) (pa_cons pe_str pa_nil)) (by decide)))
  (pss_one (ps_ost (pv 0) (pv 1)))), ?_⟩
  rw [show start N_NoPlace_init [V.ref a, v] = [some (V.ref a), some v] from rfl]
  walk_at "rd"
  refine r_vei ?_
  walk_at "rd"
  refine ⟨a, C, _, rfl, by show 1 ≤ 1000; decide, T, ha, ?_⟩
  walk_at "rd"
  dsimp only
  refine r_ost ?_
  walk_at "rd"
  exact ⟨a, C, rfl, T, no, .inl ⟨ha, fun dx hd ne => k dx hd ne⟩⟩
theorem ok_NoRow_init {C : Addr} (T : OexC K C) (no : PySem.W.findIn K (.ref C) "row" = some none) (c_TugError : mg "TugError" = some (.ref (He.ga K "TugError"))) (B_TugError : BIn K (He.ga K "TugError")) {f : Addr} {fd : FuncData} (F : FunD K "__init__" "NoRow.__init__" (defArgs s_NoRow_init) (defBody s_NoRow_init) (defScope s_NoRow_init) [] [] f fd) :
    FnOk P w K mg base CX0 1 f fd P_NoRow_init (spInit K C "row") := by
  refine F.ok sc_NoRow_init (fun vs H Q E h => ?_) (fun cdv A outer s H vs Q E hr h => ?_)
  · obtain ⟨a, v, rfl, _⟩ := h
    rfl
  obtain ⟨a, v, rfl, ha, k⟩ := h
  refine ⟨_, PSs.nox (pss_cons (ps_expr (pe_baseI rfl c_TugError B_TugError (pa_cons (pv 0) (pa_cons pe_str pa_nil)) (by decide)))
  (pss_one (ps_ost (pv 0) (pv 1)))), ?_⟩
  rw [show start N_NoRow_init [V.ref a, v] = [some (V.ref a), some v] from rfl]
  walk_at "rd"
  refine r_vei ?_
  walk_at "rd"
  refine ⟨a, C, _, rfl, by show 1 ≤ 1000; decide, T, ha, ?_⟩
  walk_at "rd"
  dsimp only
  refine r_ost ?_
  walk_at "rd"
  exact ⟨a, C, rfl, T, no, .inl ⟨ha, fun dx hd ne => k dx hd ne⟩⟩
theorem ok_made (F : FnP K "_law_made" s_made f fd) (c_TugError : mg "TugError" = some (.ref (He.ga K "TugError"))) (E_NoText : CalE P w K mg base "NoText" "line") (E_NoKnob : CalE P w K mg base "NoKnob" "number") (E_TooMany : CalE P w K mg base "TooMany" "most") (E_NoPull : CalE P w K mg base "NoPull" "worth") (E_Nothing : CalE P w K mg base "Nothing" "word") (E_NoPlace : CalE P w K mg base "NoPlace" "place") (E_NoRow : CalE P w K mg base "NoRow" "row") : FnG P w K mg base CX0 3 f fd P_made (spMade K) := by
  refine fnG F sc_made (fun vs H Q E h => ?_) (fun cdv A outer s H vs Q E hG hr h => ?_)
  · obtain ⟨i, v, p, rfl, _⟩ := h
    rfl
  obtain ⟨i, v, p, rfl, hp, k⟩ := h
  refine ⟨_, PSs.nox (pss_cons (ps_set (i := 2) sc_made.nd rfl (Or.inl rfl) pe_non)
  (pss_cons (ps_tryK (i := 3) rfl rfl sc_made.nd rfl rfl rfl c_TugError (fun W pn xe tk => (pss_cons (ps_if (pt_cmpR op_eq (pv 0) pe_int (nomark _))
  (pss_one (ps_rai rfl tk (show PMk _ _ (tRz K "NoText" _ _) from pmk_pos E_NoText hr rfl (pa_cons (pv 1) pa_nil)))) pss_nil)
  (pss_cons (ps_if (pt_cmpR op_eq (pv 0) pe_int (nomark _))
  (pss_one (ps_rai rfl tk (show PMk _ _ (tRz K "NoKnob" _ _) from pmk_pos E_NoKnob hr rfl (pa_cons (pv 1) pa_nil)))) pss_nil)
  (pss_cons (ps_if (pt_cmpR op_eq (pv 0) pe_int (nomark _))
  (pss_one (ps_rai rfl tk (show PMk _ _ (tRz K "TooMany" _ _) from pmk_pos E_TooMany hr rfl (pa_cons (pv 1) pa_nil)))) pss_nil)
  (pss_cons (ps_if (pt_cmpR op_eq (pv 0) pe_int (nomark _))
  (pss_one (ps_rai rfl tk (show PMk _ _ (tRz K "NoPull" _ _) from pmk_pos E_NoPull hr rfl (pa_cons (pv 1) pa_nil)))) pss_nil)
  (pss_cons (ps_if (pt_cmpR op_eq (pv 0) pe_int (nomark _))
  (pss_one (ps_rai rfl tk (show PMk _ _ (tRz K "Nothing" _ _) from pmk_pos E_Nothing hr rfl (pa_cons (pv 1) pa_nil)))) pss_nil)
  (pss_cons (ps_if (pt_cmpR op_eq (pv 0) pe_int (nomark _))
  (pss_one (ps_rai rfl tk (show PMk _ _ (tRz K "NoPlace" _ _) from pmk_pos E_NoPlace hr rfl (pa_cons (pv 1) pa_nil)))) pss_nil)
  (pss_one (ps_rai rfl tk (show PMk _ _ (tRz K "NoRow" _ _) from pmk_pos E_NoRow hr rfl (pa_cons (pv 1) pa_nil)))))))))))
  (fun a pn => (pss_one (ps_set (i := 2) sc_made.nd rfl (Or.inl rfl) (pv 3)))))
  (pss_one (ps_ret (pv 2))))), ?_⟩
  rw [show start N_made [V.int (i : Int), v] = [some (V.int (i : Int)), some v, none, none] from rfl]
  walk_at "rd"
  refine r_try ?_
  walk_at "rd"
  refine r_eq rfl ?_
  walk_at "rd"
  refine ifD (fun hy => ?_) (fun hy0 => ?_)
  · obtain rfl : i = 0 := int_nat hy
    cases (Option.some.inj hp : clsF[0] = p)
    refine r_rai ?_
    refine r_rz ?_
    walk_at "rd"
    refine ⟨v, rfl, fun d hd => ⟨E_NoText.ex.m, fun a oe ha hz hf => ?_⟩⟩
    walk_at "rd"
    exact k a _ (mk_same hd ha) (mk_kpt ha hz hf)
  walk_at "rd"
  refine r_eq rfl ?_
  walk_at "rd"
  refine ifD (fun hy => ?_) (fun hy1 => ?_)
  · obtain rfl : i = 1 := int_nat hy
    cases (Option.some.inj hp : clsF[1] = p)
    refine r_rai ?_
    refine r_rz ?_
    walk_at "rd"
    refine ⟨v, rfl, fun d hd => ⟨E_NoKnob.ex.m, fun a oe ha hz hf => ?_⟩⟩
    walk_at "rd"
    exact k a _ (mk_same hd ha) (mk_kpt ha hz hf)
  walk_at "rd"
  refine r_eq rfl ?_
  walk_at "rd"
  refine ifD (fun hy => ?_) (fun hy2 => ?_)
  · obtain rfl : i = 2 := int_nat hy
    cases (Option.some.inj hp : clsF[2] = p)
    refine r_rai ?_
    refine r_rz ?_
    walk_at "rd"
    refine ⟨v, rfl, fun d hd => ⟨E_TooMany.ex.m, fun a oe ha hz hf => ?_⟩⟩
    walk_at "rd"
    exact k a _ (mk_same hd ha) (mk_kpt ha hz hf)
  walk_at "rd"
  refine r_eq rfl ?_
  walk_at "rd"
  refine ifD (fun hy => ?_) (fun hy3 => ?_)
  · obtain rfl : i = 3 := int_nat hy
    cases (Option.some.inj hp : clsF[3] = p)
    refine r_rai ?_
    refine r_rz ?_
    walk_at "rd"
    refine ⟨v, rfl, fun d hd => ⟨E_NoPull.ex.m, fun a oe ha hz hf => ?_⟩⟩
    walk_at "rd"
    exact k a _ (mk_same hd ha) (mk_kpt ha hz hf)
  walk_at "rd"
  refine r_eq rfl ?_
  walk_at "rd"
  refine ifD (fun hy => ?_) (fun hy4 => ?_)
  · obtain rfl : i = 4 := int_nat hy
    cases (Option.some.inj hp : clsF[4] = p)
    refine r_rai ?_
    refine r_rz ?_
    walk_at "rd"
    refine ⟨v, rfl, fun d hd => ⟨E_Nothing.ex.m, fun a oe ha hz hf => ?_⟩⟩
    walk_at "rd"
    exact k a _ (mk_same hd ha) (mk_kpt ha hz hf)
  walk_at "rd"
  refine r_eq rfl ?_
  walk_at "rd"
  refine ifD (fun hy => ?_) (fun hy5 => ?_)
  · obtain rfl : i = 5 := int_nat hy
    cases (Option.some.inj hp : clsF[5] = p)
    refine r_rai ?_
    refine r_rz ?_
    walk_at "rd"
    refine ⟨v, rfl, fun d hd => ⟨E_NoPlace.ex.m, fun a oe ha hz hf => ?_⟩⟩
    walk_at "rd"
    exact k a _ (mk_same hd ha) (mk_kpt ha hz hf)
  walk_at "rd"
  obtain rfl : i = 6 := six hp (fun e => hy0 (by rw [e] <;> rfl)) (fun e => hy1 (by rw [e] <;> rfl)) (fun e => hy2 (by rw [e] <;> rfl)) (fun e => hy3 (by rw [e] <;> rfl)) (fun e => hy4 (by rw [e] <;> rfl)) (fun e => hy5 (by rw [e] <;> rfl))
  cases (Option.some.inj hp : clsF[6] = p)
  dsimp only
  refine r_rai ?_
  refine r_rz ?_
  walk_at "rd"
  refine ⟨v, rfl, fun d hd => ⟨E_NoRow.ex.m, fun a oe ha hz hf => ?_⟩⟩
  walk_at "rd"
  exact k a _ (mk_same hd ha) (mk_kpt ha hz hf)
theorem ok_named (F : FnP K "_law_named" s_named f fd) (c_TugError : mg "TugError" = some (.ref (He.ga K "TugError"))) (E_NoText : CalE P w K mg base "NoText" "line") (E_NoKnob : CalE P w K mg base "NoKnob" "number") (E_TooMany : CalE P w K mg base "TooMany" "most") (E_NoPull : CalE P w K mg base "NoPull" "worth") (E_Nothing : CalE P w K mg base "Nothing" "word") (E_NoPlace : CalE P w K mg base "NoPlace" "place") (E_NoRow : CalE P w K mg base "NoRow" "row") : FnG P w K mg base CX0 3 f fd P_named (spMade K) := by
  refine fnG F sc_named (fun vs H Q E h => ?_) (fun cdv A outer s H vs Q E hG hr h => ?_)
  · obtain ⟨i, v, p, rfl, _⟩ := h
    rfl
  obtain ⟨i, v, p, rfl, hp, k⟩ := h
  refine ⟨_, PSs.nox (pss_cons (ps_set (i := 2) sc_named.nd rfl (Or.inl rfl) pe_non)
  (pss_cons (ps_tryK (i := 3) rfl rfl sc_named.nd rfl rfl rfl c_TugError (fun W pn xe tk => (pss_cons (ps_if (pt_cmpR op_eq (pv 0) pe_int (nomark _))
  (pss_one (ps_rai rfl tk (show PMk _ _ (tRz K "NoText" _ _) from pmk_key E_NoText hr rfl (pk_cons (pv 1) pk_nil)))) pss_nil)
  (pss_cons (ps_if (pt_cmpR op_eq (pv 0) pe_int (nomark _))
  (pss_one (ps_rai rfl tk (show PMk _ _ (tRz K "NoKnob" _ _) from pmk_key E_NoKnob hr rfl (pk_cons (pv 1) pk_nil)))) pss_nil)
  (pss_cons (ps_if (pt_cmpR op_eq (pv 0) pe_int (nomark _))
  (pss_one (ps_rai rfl tk (show PMk _ _ (tRz K "TooMany" _ _) from pmk_key E_TooMany hr rfl (pk_cons (pv 1) pk_nil)))) pss_nil)
  (pss_cons (ps_if (pt_cmpR op_eq (pv 0) pe_int (nomark _))
  (pss_one (ps_rai rfl tk (show PMk _ _ (tRz K "NoPull" _ _) from pmk_key E_NoPull hr rfl (pk_cons (pv 1) pk_nil)))) pss_nil)
  (pss_cons (ps_if (pt_cmpR op_eq (pv 0) pe_int (nomark _))
  (pss_one (ps_rai rfl tk (show PMk _ _ (tRz K "Nothing" _ _) from pmk_key E_Nothing hr rfl (pk_cons (pv 1) pk_nil)))) pss_nil)
  (pss_cons (ps_if (pt_cmpR op_eq (pv 0) pe_int (nomark _))
  (pss_one (ps_rai rfl tk (show PMk _ _ (tRz K "NoPlace" _ _) from pmk_key E_NoPlace hr rfl (pk_cons (pv 1) pk_nil)))) pss_nil)
  (pss_one (ps_rai rfl tk (show PMk _ _ (tRz K "NoRow" _ _) from pmk_key E_NoRow hr rfl (pk_cons (pv 1) pk_nil)))))))))))
  (fun a pn => (pss_one (ps_set (i := 2) sc_named.nd rfl (Or.inl rfl) (pv 3)))))
  (pss_one (ps_ret (pv 2))))), ?_⟩
  rw [show start N_named [V.int (i : Int), v] = [some (V.int (i : Int)), some v, none, none] from rfl]
  walk_at "rd"
  refine r_try ?_
  walk_at "rd"
  refine r_eq rfl ?_
  walk_at "rd"
  refine ifD (fun hy => ?_) (fun hy0 => ?_)
  · obtain rfl : i = 0 := int_nat hy
    cases (Option.some.inj hp : clsF[0] = p)
    refine r_rai ?_
    refine r_rz ?_
    walk_at "rd"
    refine ⟨v, rfl, fun d hd => ⟨E_NoText.ex.m, fun a oe ha hz hf => ?_⟩⟩
    walk_at "rd"
    exact k a _ (mk_same hd ha) (mk_kpt ha hz hf)
  walk_at "rd"
  refine r_eq rfl ?_
  walk_at "rd"
  refine ifD (fun hy => ?_) (fun hy1 => ?_)
  · obtain rfl : i = 1 := int_nat hy
    cases (Option.some.inj hp : clsF[1] = p)
    refine r_rai ?_
    refine r_rz ?_
    walk_at "rd"
    refine ⟨v, rfl, fun d hd => ⟨E_NoKnob.ex.m, fun a oe ha hz hf => ?_⟩⟩
    walk_at "rd"
    exact k a _ (mk_same hd ha) (mk_kpt ha hz hf)
  walk_at "rd"
  refine r_eq rfl ?_
  walk_at "rd"
  refine ifD (fun hy => ?_) (fun hy2 => ?_)
  · obtain rfl : i = 2 := int_nat hy
    cases (Option.some.inj hp : clsF[2] = p)
    refine r_rai ?_
    refine r_rz ?_
    walk_at "rd"
    refine ⟨v, rfl, fun d hd => ⟨E_TooMany.ex.m, fun a oe ha hz hf => ?_⟩⟩
    walk_at "rd"
    exact k a _ (mk_same hd ha) (mk_kpt ha hz hf)
  walk_at "rd"
  refine r_eq rfl ?_
  walk_at "rd"
  refine ifD (fun hy => ?_) (fun hy3 => ?_)
  · obtain rfl : i = 3 := int_nat hy
    cases (Option.some.inj hp : clsF[3] = p)
    refine r_rai ?_
    refine r_rz ?_
    walk_at "rd"
    refine ⟨v, rfl, fun d hd => ⟨E_NoPull.ex.m, fun a oe ha hz hf => ?_⟩⟩
    walk_at "rd"
    exact k a _ (mk_same hd ha) (mk_kpt ha hz hf)
  walk_at "rd"
  refine r_eq rfl ?_
  walk_at "rd"
  refine ifD (fun hy => ?_) (fun hy4 => ?_)
  · obtain rfl : i = 4 := int_nat hy
    cases (Option.some.inj hp : clsF[4] = p)
    refine r_rai ?_
    refine r_rz ?_
    walk_at "rd"
    refine ⟨v, rfl, fun d hd => ⟨E_Nothing.ex.m, fun a oe ha hz hf => ?_⟩⟩
    walk_at "rd"
    exact k a _ (mk_same hd ha) (mk_kpt ha hz hf)
  walk_at "rd"
  refine r_eq rfl ?_
  walk_at "rd"
  refine ifD (fun hy => ?_) (fun hy5 => ?_)
  · obtain rfl : i = 5 := int_nat hy
    cases (Option.some.inj hp : clsF[5] = p)
    refine r_rai ?_
    refine r_rz ?_
    walk_at "rd"
    refine ⟨v, rfl, fun d hd => ⟨E_NoPlace.ex.m, fun a oe ha hz hf => ?_⟩⟩
    walk_at "rd"
    exact k a _ (mk_same hd ha) (mk_kpt ha hz hf)
  walk_at "rd"
  obtain rfl : i = 6 := six hp (fun e => hy0 (by rw [e] <;> rfl)) (fun e => hy1 (by rw [e] <;> rfl)) (fun e => hy2 (by rw [e] <;> rfl)) (fun e => hy3 (by rw [e] <;> rfl)) (fun e => hy4 (by rw [e] <;> rfl)) (fun e => hy5 (by rw [e] <;> rfl))
  cases (Option.some.inj hp : clsF[6] = p)
  dsimp only
  refine r_rai ?_
  refine r_rz ?_
  walk_at "rd"
  refine ⟨v, rfl, fun d hd => ⟨E_NoRow.ex.m, fun a oe ha hz hf => ?_⟩⟩
  walk_at "rd"
  exact k a _ (mk_same hd ha) (mk_kpt ha hz hf)
theorem ok_field (F : FnP K "_law_field" s_field f fd) (E_NoText : CalE P w K mg base "NoText" "line") (E_NoKnob : CalE P w K mg base "NoKnob" "number") (E_TooMany : CalE P w K mg base "TooMany" "most") (E_NoPull : CalE P w K mg base "NoPull" "worth") (E_Nothing : CalE P w K mg base "Nothing" "word") (E_NoPlace : CalE P w K mg base "NoPlace" "place") (E_NoRow : CalE P w K mg base "NoRow" "row") : FnG P w K mg base CX0 1 f fd P_field (spField K) := by
  refine fnG F sc_field (fun vs H Q E h => ?_) (fun cdv A outer s H vs Q E hG hr h => ?_)
  · obtain ⟨a, i, v, p, rfl, _⟩ := h
    rfl
  obtain ⟨a, i, v, p, rfl, hp, hk, k⟩ := h
  refine ⟨_, PSs.nox (pss_cons (ps_if (pt_cmpR op_eq (pv 1) pe_int (nomark _))
  (pss_one (ps_ret (pe_kf (pv 0)))) pss_nil)
  (pss_cons (ps_if (pt_cmpR op_eq (pv 1) pe_int (nomark _))
  (pss_one (ps_ret (pe_kf (pv 0)))) pss_nil)
  (pss_cons (ps_if (pt_cmpR op_eq (pv 1) pe_int (nomark _))
  (pss_one (ps_ret (pe_kf (pv 0)))) pss_nil)
  (pss_cons (ps_if (pt_cmpR op_eq (pv 1) pe_int (nomark _))
  (pss_one (ps_ret (pe_kf (pv 0)))) pss_nil)
  (pss_cons (ps_if (pt_cmpR op_eq (pv 1) pe_int (nomark _))
  (pss_one (ps_ret (pe_kf (pv 0)))) pss_nil)
  (pss_one (ps_ret (pe_ifExp (pt_cmpR op_eq (pv 1) pe_int (nomark _)) (pe_kf (pv 0)) (pe_kf (pv 0)))))))))), ?_⟩
  rw [show start N_field [V.ref a, V.int (i : Int)] = [some (V.ref a), some (V.int (i : Int))] from rfl]
  walk_at "rd"
  refine r_eq rfl ?_
  walk_at "rd"
  refine ifD (fun hy => ?_) (fun hy0 => ?_)
  · obtain rfl : i = 0 := int_nat hy
    cases (Option.some.inj hp : clsF[0] = p)
    walk_at "rd"
    refine r_kf ?_
    walk_at "rd"
    exact ⟨a, _, _, v, rfl, hk, E_NoText.ex.x, E_NoText.ex.no, rfl, k⟩
  walk_at "rd"
  refine r_eq rfl ?_
  walk_at "rd"
  refine ifD (fun hy => ?_) (fun hy1 => ?_)
  · obtain rfl : i = 1 := int_nat hy
    cases (Option.some.inj hp : clsF[1] = p)
    walk_at "rd"
    refine r_kf ?_
    walk_at "rd"
    exact ⟨a, _, _, v, rfl, hk, E_NoKnob.ex.x, E_NoKnob.ex.no, rfl, k⟩
  walk_at "rd"
  refine r_eq rfl ?_
  walk_at "rd"
  refine ifD (fun hy => ?_) (fun hy2 => ?_)
  · obtain rfl : i = 2 := int_nat hy
    cases (Option.some.inj hp : clsF[2] = p)
    walk_at "rd"
    refine r_kf ?_
    walk_at "rd"
    exact ⟨a, _, _, v, rfl, hk, E_TooMany.ex.x, E_TooMany.ex.no, rfl, k⟩
  walk_at "rd"
  refine r_eq rfl ?_
  walk_at "rd"
  refine ifD (fun hy => ?_) (fun hy3 => ?_)
  · obtain rfl : i = 3 := int_nat hy
    cases (Option.some.inj hp : clsF[3] = p)
    walk_at "rd"
    refine r_kf ?_
    walk_at "rd"
    exact ⟨a, _, _, v, rfl, hk, E_NoPull.ex.x, E_NoPull.ex.no, rfl, k⟩
  walk_at "rd"
  refine r_eq rfl ?_
  walk_at "rd"
  refine ifD (fun hy => ?_) (fun hy4 => ?_)
  · obtain rfl : i = 4 := int_nat hy
    cases (Option.some.inj hp : clsF[4] = p)
    walk_at "rd"
    refine r_kf ?_
    walk_at "rd"
    exact ⟨a, _, _, v, rfl, hk, E_Nothing.ex.x, E_Nothing.ex.no, rfl, k⟩
  walk_at "rd"
  refine r_eq rfl ?_
  walk_at "rd"
  refine ifD (fun hy => ?_) (fun hy5 => ?_)
  · obtain rfl : i = 5 := int_nat hy
    cases (Option.some.inj hp : clsF[5] = p)
    walk_at "rd"
    refine r_kf ?_
    walk_at "rd"
    exact ⟨a, _, _, v, rfl, hk, E_NoPlace.ex.x, E_NoPlace.ex.no, rfl, k⟩
  walk_at "rd"
  obtain rfl : i = 6 := six hp (fun e => hy0 (by rw [e] <;> rfl)) (fun e => hy1 (by rw [e] <;> rfl)) (fun e => hy2 (by rw [e] <;> rfl)) (fun e => hy3 (by rw [e] <;> rfl)) (fun e => hy4 (by rw [e] <;> rfl)) (fun e => hy5 (by rw [e] <;> rfl))
  cases (Option.some.inj hp : clsF[6] = p)
  refine r_kf ?_
  walk_at "rd"
  exact ⟨a, _, _, v, rfl, hk, E_NoRow.ex.x, E_NoRow.ex.no, rfl, k⟩
end
end Tug
set_option Elab.async false
set_option linter.all false
set_option maxRecDepth 100000
set_option maxHeartbeats 4000000
namespace Tug
open PySem PySem.Spec L2
open PyProof.Rows hiding St
local macro_rules | `(tactic| walk_at "rd1") => `(tactic| first
  | (with_reducible first
  | refine Tug.r_seq ?_ | refine Tug.r_asg ?_ | refine Tug.r_op ?_ | refine Tug.r_c ?_ | refine Tug.r_i0 ?_ | refine Tug.r_name ?_ | refine Tug.r_call ?_ | refine Tug.r_cons ?_ | refine Tug.r_nil ?_ | refine Tug.r_cb ?_
  | refine Tug.r_ifs ?_ | refine Tug.r_test ?_ | refine Tug.r_bl ?_ | refine Tug.r_ret ?_ | refine Tug.r_drop ?_ | refine Tug.r_next ?_ | refine Tug.r_gsub ?_ | refine Tug.r_lst ?_ | refine Tug.r_tup ?_ | refine Tug.r_if ?_ | refine Tug.r_and ?_
  | refine Tug.r_or ?_ | refine Tug.r_not ?_ | refine Tug.r_tb ?_ | refine Tug.r_for ?_ | refine Tug.r_ilist ?_ | refine Tug.r_itup ?_ | refine Tug.r_irng ?_ | refine Tug.r_lc ?_ | refine Tug.r_yes ?_ | refine Tug.r_true ?_ | refine Tug.r_false ?_
  | refine Tug.r_bm ?_ | refine Tug.r_par ?_ | refine Tug.r_gcons ?_ | refine Tug.r_gnil ?_ | refine Tug.r_calln ?_ | refine Tug.r_tupF ?_ | refine Tug.r_get2 ?_ | refine Tug.r_iseq ?_ | refine Tug.r_sl ?_ | refine Tug.r_nopart ?_ | refine Tug.r_part ?_ | refine Tug.r_pint ?_ | refine Tug.r_dput ?_ | refine Tug.r_dget ?_ | refine Tug.r_un ?_ | refine Tug.r_rU ?_ | refine Tug.r_par3 ?_)
  | ((with_reducible show L2.tVar _ _ _ _); refine Tug.r_var rfl ?_))
local macro_rules | `(tactic| walk_at "rd") => `(tactic| repeat (walk_at "rd1"))
def spSorts (K : PySem.W.Frag) : Sp := fun vs H Q _ => ∃ (a : Addr) (v : V) (p : Str × Str), vs = [.ref a] ∧ p ∈ clsF ∧ KpE H a (He.ga K p.1) [(p.2, v)] ∧ ∀ l H', Same H H' → H' l = some (.lst (clsF.map fun r => V.bl (decide (p = r)))) → Q (.ref l) H'
/-- so much is shown of a thing so deep at the most -/
def bd : Nat → Nat
  | 0 => 3
  | n + 1 => 2 * (bd n + 1)
/-- a thing of any kind: n what is one above its depth -/
def spT : Nat → Sp
  | 0 => fun _ _ _ _ => False
  | n + 1 => fun vs H Q _ => ∃ a : Addr, vs = [.ref a, .int (n : Int)] ∧ Wl a H ∧ ∀ v d H', Dw (Tk H) H' v d → Fd d n (bd n) → Drawn a H H' → Q v H'
theorem Tk.drawn {w b : Addr} {H H' : Hp} (h : Tk H b) (d : Drawn w H H') : Tk H' b := by
  by_cases e : b = w
  · rw [e]
    exact d.wl.there
  · obtain ⟨o, h⟩ := h
    exact ⟨o, d.frm _ _ e h⟩
/-- one of the few plain things -/
theorem some_ok (N : Addr → Prop) (H : Hp) (n : Nat) {r : Int} (r0 : 0 ≤ r) (r1 : r < 10 ^ (6 : Int).toNat) {x : V} (h : x ∈ [V.non, V.bl true, V.int 0, V.int (0 - 1), V.int (10 ^ (59 : Int).toNat), V.str "", V.str "x", V.str "a b", V.int r]) :
    ∃ d, Dw N H x d ∧ Fd d n (bd n) := by
  have b3 : 3 ≤ bd n := by
    induction n with
    | zero => exact Nat.le_refl _
    | succ n ih =>
      show 3 ≤ 2 * (bd n + 1)
      omega
  have i0 : ∀ {i : Int}, Sz 1900 i → Fd (.int i) n (bd n) := fun h => (Fd.int h).mono (Nat.zero_le _) (Nat.zero_le _)
  have s0 : ∀ {y : Str}, fine (.str y) = true → y.cps.size ≤ 3 → Fd (.str y) n (bd n) := fun {y} h g => ⟨h, by simp [PyData.depth], by simp only [PyData.bulk]; omega⟩
  simp only [List.mem_cons, List.not_mem_nil, or_false] at h
  rcases h with rfl | rfl | rfl | rfl | rfl | rfl | rfl | rfl | rfl
  · exact ⟨_, .non, Fd.none.mono (Nat.zero_le _) (Nat.zero_le _)⟩
  · exact ⟨_, .bl true, Fd.bl.mono (Nat.zero_le _) (Nat.zero_le _)⟩
  · exact ⟨_, .int _, i0 ((sz_small (by decide) (by decide)).mono (by decide))⟩
  · exact ⟨_, .int _, i0 ((sz_small (by decide) (by decide)).mono (by decide))⟩
  · exact ⟨_, .int _, i0 (show Sz 1900 (10 ^ 59 : Int) from Sz.mono (j := 200) (by unfold Sz; decide) (by decide))⟩
  · exact ⟨_, .str _, s0 (by decide +kernel) (by decide +kernel)⟩
  · exact ⟨_, .str _, s0 (by decide +kernel) (by decide +kernel)⟩
  · exact ⟨_, .str _, s0 (by decide +kernel) (by decide +kernel)⟩
  · refine ⟨_, .int _, i0 ((sz_small ?_ ?_).mono (by decide))⟩
    · omega
    · have e : (10 : Int) ^ (6 : Int).toNat = 1000000 := by decide
      omega
section
variable {P : Program} {w : World} {K : PySem.W.Frag} {mg : Str → Option Value} {base : Heap} {f : Addr} {fd : FuncData}
theorem ok_sorts (F : FnP K "_law_sorts" s_sorts f fd) (z_isinstance : mg "isinstance" = none) (E_NoText : CalE P w K mg base "NoText" "line") (E_NoKnob : CalE P w K mg base "NoKnob" "number") (E_TooMany : CalE P w K mg base "TooMany" "most") (E_NoPull : CalE P w K mg base "NoPull" "worth") (E_Nothing : CalE P w K mg base "Nothing" "word") (E_NoPlace : CalE P w K mg base "NoPlace" "place") (E_NoRow : CalE P w K mg base "NoRow" "row") (EX : ∀ p ∈ clsF, ExcC K (He.ga K p.1)) (KI : ∀ p ∈ clsF, ∀ r ∈ clsF, PySem.W.kitOne K (.ref (He.ga K p.1)) (.ref (He.ga K r.1)) = some (decide (p = r))) : FnG P w K mg base CX0 1 f fd P_sorts (spSorts K) := by
  refine fnG F sc_sorts (fun vs H Q E h => ?_) (fun cdv A outer s H vs Q E hG hr h => ?_)
  · obtain ⟨a, v, p, rfl, _⟩ := h
    rfl
  obtain ⟨a, v, p, rfl, pm, hk, k⟩ := h
  refine ⟨_, PSs.nox (pss_cons (ps_set (i := 1) sc_sorts.nd rfl (Or.inl rfl) (pe_lst (pa_cons (pe_callB call_isK (by rfl) z_isinstance (by decide +kernel) (pa_cons (pv 0) (pa_cons (pe_glob (v := V.ref (He.ga K "NoText")) rfl E_NoText.hm rfl) pa_nil))) (pa_cons (pe_callB call_isK (by rfl) z_isinstance (by decide +kernel) (pa_cons (pv 0) (pa_cons (pe_glob (v := V.ref (He.ga K "NoKnob")) rfl E_NoKnob.hm rfl) pa_nil))) (pa_cons (pe_callB call_isK (by rfl) z_isinstance (by decide +kernel) (pa_cons (pv 0) (pa_cons (pe_glob (v := V.ref (He.ga K "TooMany")) rfl E_TooMany.hm rfl) pa_nil))) pa_nil)))))
  (pss_cons (ps_set (i := 1) sc_sorts.nd rfl (Or.inl rfl) (pe_op op_cat (pv 1) (pe_lst (pa_cons (pe_callB call_isK (by rfl) z_isinstance (by decide +kernel) (pa_cons (pv 0) (pa_cons (pe_glob (v := V.ref (He.ga K "NoPull")) rfl E_NoPull.hm rfl) pa_nil))) (pa_cons (pe_callB call_isK (by rfl) z_isinstance (by decide +kernel) (pa_cons (pv 0) (pa_cons (pe_glob (v := V.ref (He.ga K "Nothing")) rfl E_Nothing.hm rfl) pa_nil))) (pa_cons (pe_callB call_isK (by rfl) z_isinstance (by decide +kernel) (pa_cons (pv 0) (pa_cons (pe_glob (v := V.ref (He.ga K "NoPlace")) rfl E_NoPlace.hm rfl) pa_nil))) pa_nil))))))
  (pss_one (ps_ret (pe_op op_cat (pv 1) (pe_lst (pa_cons (pe_callB call_isK (by rfl) z_isinstance (by decide +kernel) (pa_cons (pv 0) (pa_cons (pe_glob (v := V.ref (He.ga K "NoRow")) rfl E_NoRow.hm rfl) pa_nil))) pa_nil))))))), ?_⟩
  rw [show start N_sorts [V.ref a] = [some (V.ref a), none] from rfl]
  walk_at "rd"
  refine ⟨a, _, _, V.ref (He.ga K "NoText"), _, _, rfl, hk, EX p pm, fun u r => r, KI p pm ("NoText", "line") (by decide), ?_⟩
  walk_at "rd"
  refine ⟨a, _, _, V.ref (He.ga K "NoKnob"), _, _, rfl, hk, EX p pm, fun u r => r, KI p pm ("NoKnob", "number") (by decide), ?_⟩
  walk_at "rd"
  refine ⟨a, _, _, V.ref (He.ga K "TooMany"), _, _, rfl, hk, EX p pm, fun u r => r, KI p pm ("TooMany", "most") (by decide), ?_⟩
  walk_at "rd"
  refine ⟨by show 3 ≤ sizeLine; decide, fun l1 h1 => ?_⟩
  have L1 := upd_same (H := H) (a := l1) (o := .lst [V.bl (decide (p = (("NoText", "line") : Str × Str))), V.bl (decide (p = (("NoKnob", "number") : Str × Str))), V.bl (decide (p = (("TooMany", "most") : Str × Str)))])
  have s1 := same_new (o := .lst [V.bl (decide (p = (("NoText", "line") : Str × Str))), V.bl (decide (p = (("NoKnob", "number") : Str × Str))), V.bl (decide (p = (("TooMany", "most") : Str × Str)))]) h1
  generalize upd H l1 (.lst [V.bl (decide (p = (("NoText", "line") : Str × Str))), V.bl (decide (p = (("NoKnob", "number") : Str × Str))), V.bl (decide (p = (("TooMany", "most") : Str × Str)))]) = H1 at *
  walk_at "rd"
  refine ⟨a, _, _, V.ref (He.ga K "NoPull"), _, _, rfl, hk.mono s1, EX p pm, fun u r => r, KI p pm ("NoPull", "worth") (by decide), ?_⟩
  walk_at "rd"
  refine ⟨a, _, _, V.ref (He.ga K "Nothing"), _, _, rfl, hk.mono s1, EX p pm, fun u r => r, KI p pm ("Nothing", "word") (by decide), ?_⟩
  walk_at "rd"
  refine ⟨a, _, _, V.ref (He.ga K "NoPlace"), _, _, rfl, hk.mono s1, EX p pm, fun u r => r, KI p pm ("NoPlace", "place") (by decide), ?_⟩
  walk_at "rd"
  refine ⟨by show 3 ≤ sizeLine; decide, fun l2 h2 => ?_⟩
  have L2 := upd_same (H := H1) (a := l2) (o := .lst [V.bl (decide (p = (("NoPull", "worth") : Str × Str))), V.bl (decide (p = (("Nothing", "word") : Str × Str))), V.bl (decide (p = (("NoPlace", "place") : Str × Str)))])
  have s2 := same_new (o := .lst [V.bl (decide (p = (("NoPull", "worth") : Str × Str))), V.bl (decide (p = (("Nothing", "word") : Str × Str))), V.bl (decide (p = (("NoPlace", "place") : Str × Str)))]) h2
  have L1 := s2 _ _ L1
  have s12 := s1.trans s2
  generalize upd H1 l2 (.lst [V.bl (decide (p = (("NoPull", "worth") : Str × Str))), V.bl (decide (p = (("Nothing", "word") : Str × Str))), V.bl (decide (p = (("NoPlace", "place") : Str × Str)))]) = H2 at *
  walk_at "rd"
  refine r_cat L1 L2 (by show 6 ≤ sizeLine; decide) fun l3 h3 => ?_
  have L3 := upd_same (H := H2) (a := l3) (o := .lst [V.bl (decide (p = (("NoText", "line") : Str × Str))), V.bl (decide (p = (("NoKnob", "number") : Str × Str))), V.bl (decide (p = (("TooMany", "most") : Str × Str))), V.bl (decide (p = (("NoPull", "worth") : Str × Str))), V.bl (decide (p = (("Nothing", "word") : Str × Str))), V.bl (decide (p = (("NoPlace", "place") : Str × Str)))])
  have s3 := s12.trans (same_new (o := .lst [V.bl (decide (p = (("NoText", "line") : Str × Str))), V.bl (decide (p = (("NoKnob", "number") : Str × Str))), V.bl (decide (p = (("TooMany", "most") : Str × Str))), V.bl (decide (p = (("NoPull", "worth") : Str × Str))), V.bl (decide (p = (("Nothing", "word") : Str × Str))), V.bl (decide (p = (("NoPlace", "place") : Str × Str)))]) h3)
  show (gName 1 (V.ref l3) _ (upd H2 l3 (.lst [V.bl (decide (p = (("NoText", "line") : Str × Str))), V.bl (decide (p = (("NoKnob", "number") : Str × Str))), V.bl (decide (p = (("TooMany", "most") : Str × Str))), V.bl (decide (p = (("NoPull", "worth") : Str × Str))), V.bl (decide (p = (("Nothing", "word") : Str × Str))), V.bl (decide (p = (("NoPlace", "place") : Str × Str)))])) _)
  generalize upd H2 l3 (.lst [V.bl (decide (p = (("NoText", "line") : Str × Str))), V.bl (decide (p = (("NoKnob", "number") : Str × Str))), V.bl (decide (p = (("TooMany", "most") : Str × Str))), V.bl (decide (p = (("NoPull", "worth") : Str × Str))), V.bl (decide (p = (("Nothing", "word") : Str × Str))), V.bl (decide (p = (("NoPlace", "place") : Str × Str)))]) = H3 at *
  walk_at "rd"
  refine ⟨a, _, _, V.ref (He.ga K "NoRow"), _, _, rfl, hk.mono s3, EX p pm, fun u r => r, KI p pm ("NoRow", "row") (by decide), ?_⟩
  walk_at "rd"
  refine ⟨by show 1 ≤ sizeLine; decide, fun l4 h4 => ?_⟩
  have L4 := upd_same (H := H3) (a := l4) (o := .lst [V.bl (decide (p = (("NoRow", "row") : Str × Str)))])
  have s4 := same_new (o := .lst [V.bl (decide (p = (("NoRow", "row") : Str × Str)))]) h4
  have L3 := s4 _ _ L3
  have s34 := s3.trans s4
  generalize upd H3 l4 (.lst [V.bl (decide (p = (("NoRow", "row") : Str × Str)))]) = H4 at *
  walk_at "rd"
  refine r_cat L3 L4 (by show 7 ≤ sizeLine; decide) fun l5 h5 => ?_
  exact k _ _ (s34.trans (same_new h5)) upd_same
theorem ok_thing {n k : Nat} (h2k : 2 ≤ k) (F : FnP K "_law_thing" s_thing f fd) (z_range : mg "range" = none) (z_tuple : mg "tuple" = none) (C_draw : C_ P w K mg base "_law_draw" 1 P_draw spDraw) (C_pick : C_ P w K mg base "_law_pick" 2 P_pick (spPick K))
    (C_thing : C_ P w K mg base "_law_thing" k P_thing (spT n)) : FnG P w K mg base CX0 (k + 1) f fd P_thing (spT (n + 1)) := by
  refine fnG F sc_thing (fun vs H Q E h => ?_) (fun cdv A outer s H vs Q E hG hr h => ?_)
  · obtain ⟨a, rfl, _⟩ := h
    rfl
  obtain ⟨a, rfl, hW, q⟩ := h
  refine ⟨_, PSs.nox (pss_cons (ps_set (i := 2) sc_thing.nd rfl (Or.inl rfl) (pe_lst (pa_cons pe_non (pa_cons pe_bl (pa_cons pe_int (pa_cons (pe_op op_sub pe_int pe_int) (pa_cons (pe_op op_powW pe_int pe_int) (pa_cons pe_str (pa_cons pe_str (pa_cons pe_str (pa_cons (pe_cal C_draw hG hr pass0 rfl (pa_cons (pv 0) (pa_cons (pe_op op_powW pe_int pe_int) pa_nil)) (hn := (by omega))) pa_nil)))))))))))
  (pss_cons (ps_if (PW.pt (pw_or (pt_cmpR op_eq (pv 1) pe_int (nomark _)) (pw_or1 (pt_cmpR op_gt (pe_cal C_draw hG hr pass0 rfl (pa_cons (pv 0) (pa_cons pe_int pa_nil)) (hn := (by omega))) pe_int (nomark _)))))
  (pss_one (ps_ret (pe_cal C_pick hG hr pass0 rfl (pa_cons (pv 0) (pa_cons (pv 2) pa_nil)) (hn := (by omega))))) pss_nil)
  (pss_cons (ps_setLc (i := 3) (own := [("turn", 4)]) (g := gName 4) (tt := tYes) rfl sc_thing.nd rfl rfl (sw_true rfl rfl rfl (by decide +kernel)) (pi_range1 rfl z_range (pa_cons (pe_cal C_draw hG hr pass0 rfl (pa_cons (pv 0) (pa_cons pe_int pa_nil)) (hn := (by omega))) pa_nil)) (blkOk_by (own := [("turn", 4)]) (N := N_thing) (sc := defScope s_thing) (by decide +kernel)) (fun _ _ _ _ _ => (pg_name (i := 4) sc_thing.nd rfl (Or.inl rfl))) (fun _ _ _ _ _ => pts_nil) (fun _ _ _ _ _ => (pe_cal C_thing hG hr pass0 rfl (pa_cons (pv 0) (pa_cons (pe_op op_sub (pv 1) pe_int) pa_nil)) (hn := (by omega)))))
  (pss_one (ps_ret (pe_cal C_pick hG hr pass0 rfl (pa_cons (pv 0) (pa_cons (pe_lst (pa_cons (pv 3) (pa_cons (pe_callTy (tupleA K) (by rfl) z_tuple (by decide +kernel) (pa_cons (pv 3) pa_nil)) pa_nil))) pa_nil)) (hn := (by omega)))))))), ?_⟩
  rw [show start N_thing [V.ref a, V.int (n : Int)] = [some (V.ref a), some (V.int (n : Int)), none, none, none] from rfl]
  walk_at "rd"
  refine r_i1 (pow_ok (n := 4) (by decide) (by decide) (by decide)) ?_
  walk_at "rd"
  refine r_i1 (pow_ok (n := 4) (by decide) (by decide) (by decide)) ?_
  walk_at "rd"
  refine ⟨a, _, rfl, hW, by decide, by decide, fun r H1 r0 r1 d1 => ?_⟩
  walk_at "rd"
  refine ⟨by show 9 ≤ sizeLine; decide, fun p hp => ?_⟩
  have na := d1.wl.ne hp
  have W2 := d1.wl.new (o := .lst [V.non, V.bl true, V.int 0, V.int (0 - 1), V.int (10 ^ (59 : Int).toNat), V.str "", V.str "x", V.str "a b", V.int r]) hp
  have d2 := d1.more (o := .lst [V.non, V.bl true, V.int 0, V.int (0 - 1), V.int (10 ^ (59 : Int).toNat), V.str "", V.str "x", V.str "a b", V.int r]) hp
  have L := upd_same (H := H1) (a := p) (o := .lst [V.non, V.bl true, V.int 0, V.int (0 - 1), V.int (10 ^ (59 : Int).toNat), V.str "", V.str "x", V.str "a b", V.int r])
  generalize upd H1 p (.lst [V.non, V.bl true, V.int 0, V.int (0 - 1), V.int (10 ^ (59 : Int).toNat), V.str "", V.str "x", V.str "a b", V.int r]) = H2 at *
  have pick : ∀ H3, Wl a H3 → H3 p = some (.lst [V.non, V.bl true, V.int 0, V.int (0 - 1), V.int (10 ^ (59 : Int).toNat), V.str "", V.str "x", V.str "a b", V.int r]) → Drawn a H H3 → spPick K [V.ref a, V.ref p] H3 Q E0 := fun H3 W3 L3 d3 =>
    ⟨a, p, _, rfl, W3, na, .inl (SqL.of L3), by simp, by simp, fun x H4 hx d4 => let ⟨d, h1, h2⟩ := some_ok (Tk H) H4 n r0 r1 hx; q x d H4 h1 h2 (d3.trans d4)⟩
  walk_at "rd"
  refine r_eq rfl ?_
  walk_at "rd"
  refine ifD (fun hy => ?_) (fun hy => ?_)
  · walk_at "rd"
    exact pick H2 W2 L d2
  walk_at "rd"
  refine ⟨a, 3, rfl, W2, by decide, by decide, fun r2 H3 r20 r21 d3 => ?_⟩
  walk_at "rd"
  refine ifD (fun hz => ?_) (fun hz => ?_)
  · walk_at "rd"
    exact pick H3 d3.wl (d3.frm _ _ na L) (d2.trans d3)
  walk_at "rd"
  refine ⟨a, 3, rfl, d3.wl, by decide, by decide, fun r4 H4 r40 r41 d4 => ?_⟩
  walk_at "rd"
  obtain ⟨m, rfl⟩ : ∃ m, n = m + 1 := by
    cases n with
    | zero => exact absurd rfl hy
    | succ m => exact ⟨m, rfl⟩
  have d04 : Drawn a H H4 := (d2.trans d3).trans d4
  have tka : Tk H a := hW.there
  refine ⟨r4, rfl, by omega, by omega, fun D hD => lc_range (lo := 0) (n := r4.toNat) (fun i H' => Drawn a H4 H' ∧ ∃ zs ds, H' D = some (.lst zs) ∧ DwAll (fun b => Tk H b ∨ b = D) H' zs ds ∧ (∀ d ∈ ds, Fd d m (bd m)) ∧ zs.length = i ∧ ds.length = i) ?_ ?_ ?_⟩
  · exact ⟨Drawn.new d4.wl hD, [], [], upd_same, .nil, by simp, rfl, rfl⟩
  · rintro i H5 hi ⟨d5, zs, ds, hL, hz, hf, hl, hl2⟩
    have nD := d4.wl.ne hD
    walk_at "rd"
    refine ⟨rfl, ?_⟩
    walk_at "rd"
    refine ⟨a, ?_, d5.wl, fun v d H6 hv fd d6 => ?_⟩
    · rw [show ((m + 1 : Nat) : Int) - 1 = (m : Int) by omega] <;> rfl
    have hL6 := d6.frm _ _ nD hL
    refine ⟨zs, hL6, Nat.lt_of_lt_of_le (show zs.length < 100 by omega) (by decide), (d5.trans d6).mut hD nD, zs ++ [v], ds ++ [d], upd_same, ?_, ?_, ?_, ?_⟩
    · have h1 := hz.drawn (.inl tka) d5.wl d6
      have h2 := hv.less (N' := fun b => Tk H b ∨ b = D) fun b z => z.elim (fun z => z.drawn (d04.trans d5)) fun z => z ▸ ⟨_, hL⟩
      exact Dw.monoAll (fun _ z => z) (fun b o z e => by rw [upd_ne (fun y => z (.inr y))]; exact e) (Frm.upd.ts hL6) _ _ (h1.append (.cons h2 .nil))
    · intro e he
      rcases List.mem_append.mp he with z | z
      · exact hf e z
      · rw [List.mem_singleton.mp z]
        exact fd
    · rw [List.length_append, hl] <;> rfl
    · rw [List.length_append, hl2] <;> rfl
  rintro H5 ⟨d5, zs, ds, hL, hz, hf, hl, hl2⟩
  have nD := d4.wl.ne hD
  have hDn : H D = none := d04.free hW hD
  have fda : FdA ds m (bd (m + 1)) := by
    have e := FdA.map (f := id) hf
    rw [List.map_id] at e
    refine e.mono (Nat.le_refl _) ?_
    show ds.length * (bd m + 1) ≤ 2 * (bd m + 1)
    exact Nat.mul_le_mul_right _ (by omega)
  have hz := hz.less (N' := Tk H) fun b z => .inl z
  have W5 := d5.wl
  have d05 := d04.trans d5
  walk_at "rd"
  refine ⟨D, zs, rfl, .inl ⟨SqL.of hL, fun t u ht hu => ?_⟩⟩
  have s6 := same_new (o := u) ht
  have kt : Kt (upd H5 t u) t zs := Kt.new hu
  have hL := s6 _ _ hL
  have hz := hz.same s6
  have W6 := W5.same s6
  have d06 := d05.more (o := u) ht
  generalize upd H5 t u = H6 at *
  walk_at "rd"
  refine ⟨by show 2 ≤ sizeLine; decide, fun l hl => ?_⟩
  have s7 := same_new (o := .lst [V.ref D, V.ref t]) hl
  have Ll := upd_same (H := H6) (a := l) (o := .lst [V.ref D, V.ref t])
  have d07 := d06.more (o := .lst [V.ref D, V.ref t]) hl
  have nl := W6.ne hl
  have hL := s7 _ _ hL
  have hz := hz.same s7
  have kt := kt.mono (TS.of s7)
  have W7 := W6.same s7
  generalize upd H6 l (.lst [V.ref D, V.ref t]) = H7 at *
  refine ⟨a, l, [V.ref D, V.ref t], rfl, W7, nl, .inl (SqL.of Ll), by simp, by simp, fun x H8 hx d8 => ?_⟩
  have hz := hz.drawn tka W7 d8
  simp only [List.mem_cons, List.not_mem_nil, or_false] at hx
  rcases hx with rfl | rfl
  · exact q _ (.list ds) H8 (.lst (Tk.none hDn) (d8.frm _ _ nD hL) hz) (Fd.lst fda) (d07.trans d8)
  · exact q _ (.tuple ds) H8 (.tup (kt.mono (W7.ts d8.frm)) hz) (Fd.tup fda) (d07.trans d8)
end
end Tug
set_option Elab.async false
set_option linter.all false
set_option maxRecDepth 100000
set_option maxHeartbeats 4000000
namespace Tug
open PySem PySem.Spec L2
open PyProof.Rows hiding St
local macro_rules | `(tactic| walk_at "rd1") => `(tactic| first
  | (with_reducible first
  | refine Tug.r_seq ?_ | refine Tug.r_asg ?_ | refine Tug.r_op ?_ | refine Tug.r_c ?_ | refine Tug.r_i0 ?_ | refine Tug.r_name ?_ | refine Tug.r_call ?_ | refine Tug.r_cons ?_ | refine Tug.r_nil ?_ | refine Tug.r_cb ?_
  | refine Tug.r_ifs ?_ | refine Tug.r_test ?_ | refine Tug.r_bl ?_ | refine Tug.r_ret ?_ | refine Tug.r_drop ?_ | refine Tug.r_next ?_ | refine Tug.r_gsub ?_ | refine Tug.r_lst ?_ | refine Tug.r_tup ?_ | refine Tug.r_if ?_ | refine Tug.r_and ?_
  | refine Tug.r_or ?_ | refine Tug.r_not ?_ | refine Tug.r_tb ?_ | refine Tug.r_for ?_ | refine Tug.r_ilist ?_ | refine Tug.r_itup ?_ | refine Tug.r_irng ?_ | refine Tug.r_lc ?_ | refine Tug.r_yes ?_ | refine Tug.r_true ?_ | refine Tug.r_false ?_
  | refine Tug.r_bm ?_ | refine Tug.r_par ?_ | refine Tug.r_gcons ?_ | refine Tug.r_gnil ?_ | refine Tug.r_calln ?_ | refine Tug.r_tupF ?_ | refine Tug.r_get2 ?_ | refine Tug.r_iseq ?_ | refine Tug.r_sl ?_ | refine Tug.r_nopart ?_ | refine Tug.r_part ?_ | refine Tug.r_pint ?_ | refine Tug.r_dput ?_ | refine Tug.r_dget ?_ | refine Tug.r_un ?_ | refine Tug.r_rU ?_ | refine Tug.r_par3 ?_)
  | ((with_reducible show L2.tVar _ _ _ _); refine Tug.r_var rfl ?_))
local macro_rules | `(tactic| walk_at "rd") => `(tactic| repeat (walk_at "rd1"))
theorem SqL.stay {K : PySem.W.Frag} {H H' : Hp} {a : Addr} {xs : List V} (h : SqL K H a xs) (s : Same H H') : SqL K H' a xs := by
  rcases h with ((h | ⟨ob, h⟩) | h)
  · exact .inl (.inl (s _ _ h))
  · exact .inl (.inr ⟨ob, s _ _ h⟩)
  · exact .inr h
theorem Drawn.same {w : Addr} {H H1 H' : Hp} (s : Same H H1) (hw : H w = none) (d : Drawn w H1 H') : Same H H' := fun b o h => d.frm b o (fun e => by rw [e, hw] at h; cases h) (s b o h)
theorem bools_dp {K : PySem.W.Frag} {H : Hp} : ∀ bs : List Bool, DpAll K H (bs.map V.bl) (bs.map .bool)
  | [] => .nil
  | b :: bs => .cons (.bl b) (bools_dp bs)
theorem sorts_eq {j : Nat} {p : Str × Str} (h : clsF[j]? = some p) : (clsF.map fun r => decide (p = r)) = (List.range 7).map fun x => decide (x = j) := by
  match j, h with
  | 0, h => cases h; decide +kernel
  | 1, h => cases h; decide +kernel
  | 2, h => cases h; decide +kernel
  | 3, h => cases h; decide +kernel
  | 4, h => cases h; decide +kernel
  | 5, h => cases h; decide +kernel
  | 6, h => cases h; decide +kernel
  | _ + 7, h => cases h
section
variable {P : Program} {w : World} {K : PySem.W.Frag} {mg : Str → Option Value} {base : Heap} {f : Addr} {fd : FuncData}
theorem ok_law (F : FnP K "law" s_law f fd) (z_len : mg "len" = none) (z_max : mg "max" = none) (z_min : mg "min" = none) (z_range : mg "range" = none) (z_repr : mg "repr" = none) (z_isinstance : mg "isinstance" = none) (z_ValueError : mg "ValueError" = none)
    (EX : ∀ p ∈ clsF, ExcC K (He.ga K p.1)) (KV : ∀ p ∈ clsF, PySem.W.kitOne K (.ref (He.ga K p.1)) (.type "ValueError") = some true)
    (C_well : C_ P w K mg base "_law_well" 1 P_well (spWell K)) (C_thing : C_ P w K mg base "_law_thing" 6 P_thing (spT 4)) (C_made : C_ P w K mg base "_law_made" 3 P_made (spMade K)) (C_named : C_ P w K mg base "_law_named" 3 P_named (spMade K))
    (C_field : C_ P w K mg base "_law_field" 1 P_field (spField K)) (C_sorts : C_ P w K mg base "_law_sorts" 1 P_sorts (spSorts K)) : FnG P w K mg base CX0 7 f fd P_law (spLaw K) := by
  refine fnG F sc_law (fun vs H Q E h => ?_) (fun cdv A outer s H vs Q E hG hr h => ?_)
  · obtain ⟨a, ns, rfl, _⟩ := h
    rfl
  obtain ⟨a, ns, rfl, hS, hl, hb, kk⟩ := h
  refine ⟨_, PSs.nox (pss_cons (ps_for PassesOwn.never rfl (pi_range1 rfl z_range (pa_cons (pe_callB (call_max2 rfl) (by rfl) z_max (by decide +kernel) (pa_cons pe_int (pa_cons (pe_callB (call_min2 rfl) (by rfl) z_min (by decide +kernel) (pa_cons pe_int (pa_cons (pe_callB (lenA K) (by rfl) z_len (by decide +kernel) (pa_cons (pv 0) pa_nil)) pa_nil))) pa_nil))) pa_nil)) (pg_name (i := 1) sc_law.nd rfl (Or.inl rfl))
  (pss_cons (ps_set (i := 2) sc_law.nd rfl (Or.inl rfl) (pe_cal C_well hG hr pass0 rfl (pa_cons (pv 0) (pa_cons (pv 1) pa_nil))))
  (pss_one (ps_for PassesOwn.never rfl (pi_range1 rfl z_range (pa_cons pe_int pa_nil)) (pg_name (i := 3) sc_law.nd rfl (Or.inr rfl))
  (pss_cons (ps_par (i := 4) (j := 5) (by rfl) sc_law.nd rfl rfl (by decide) rfl rfl (pa_cons (pe_cal C_thing hG hr pass0 rfl (pa_cons (pv 2) (pa_cons pe_int pa_nil))) (pa_cons (pe_cal C_thing hG hr pass0 rfl (pa_cons (pv 2) (pa_cons pe_int pa_nil))) pa_nil)) (by rfl))
  (pss_cons (ps_par (i := 6) (j := 7) (by rfl) sc_law.nd rfl rfl (by decide) rfl rfl (pa_cons (pe_cal C_made hG hr pass0 rfl (pa_cons (pv 3) (pa_cons (pv 4) pa_nil))) (pa_cons (pe_cal C_named hG hr pass0 rfl (pa_cons (pv 3) (pa_cons (pv 5) pa_nil))) pa_nil)) (by rfl))
  (pss_one (ps_for PassesOwn.never rfl (piL K (pe_lst (pa_cons (pe_tupF (pa_cons (pv 6) (pa_cons (pv 4) pa_nil))) (pa_cons (pe_tupF (pa_cons (pv 7) (pa_cons (pv 5) pa_nil))) pa_nil)))) (pg_tup rfl (pgs_cons (pg_name (i := 8) sc_law.nd rfl (Or.inl rfl)) (pgs_cons (pg_name (i := 9) sc_law.nd rfl (Or.inl rfl)) pgs_nil)))
  (pss_cons (ps_if (pt_cmpR op_ne (pe_callB (rpA K hG hr.units) (by rfl) z_repr (by decide +kernel) (pa_cons (pe_cal C_field hG hr pass0 rfl (pa_cons (pv 8) (pa_cons (pv 3) pa_nil))) pa_nil)) (pe_callB (rpA K hG hr.units) (by rfl) z_repr (by decide +kernel) (pa_cons (pv 9) pa_nil)) (nomark _))
  (pss_one (ps_ret pe_bl)) pss_nil)
  (pss_one (ps_if (PW.pt (pw_or (pt_not (pt_val (pe_callB call_isK (by rfl) z_isinstance (by decide +kernel) (pa_cons (pv 8) (pa_cons (pe_bltn (v := V.ty "ValueError") rfl z_ValueError PyProof.Rows.Boot.«ValueError» rfl) pa_nil))))) (pw_or1 (pt_cmpR (neA K hr.units) (pe_cal C_sorts hG hr pass0 rfl (pa_cons (pv 8) pa_nil)) (pe_lc (own := [("spot", 10)]) (g := gName 10) (tt := tYes) rfl sc_law.nd (pi_range1 rfl z_range (pa_cons pe_int pa_nil)) (blkOk_by (own := [("spot", 10)]) (N := N_law) (sc := defScope s_law) (by decide +kernel)) (fun _ _ _ _ _ => (pg_name (i := 10) sc_law.nd rfl (Or.inl rfl))) (fun _ _ _ _ _ => pts_nil) (fun _ _ _ _ _ => (pe_cmpR op_eq (pv 10) (pv 3) (nomark _)))) (nomark _)))))
  (pss_one (ps_ret pe_bl)) pss_nil)))))))))))
  (pss_one (ps_ret pe_bl))), ?_⟩
  rw [show start N_law [V.ref a] = [some (V.ref a), none, none, none, none, none, none, none, none, none, none] from rfl]
  walk_at "rd"
  refine ⟨a, _, rfl, .inl hS, ?_⟩
  walk_at "rd"
  refine ⟨5, _, rfl, ?_⟩
  walk_at "rd"
  refine ⟨2, _, rfl, ?_⟩
  walk_at "rd"
  obtain ⟨M, hM, M0, M5⟩ : ∃ M : Int, (if (if ((ns.map V.int).length : Int) < 5 then ((ns.map V.int).length : Int) else 5) > 2 then (if ((ns.map V.int).length : Int) < 5 then ((ns.map V.int).length : Int) else 5) else 2) = M ∧ 0 ≤ M ∧ M ≤ 5 := ⟨_, rfl, by split <;> split <;> omega, by split <;> split <;> omega⟩
  rw [hM]
  refine ⟨M, rfl, by omega, by omega, for_range (lo := 0) (n := M.toNat) (fun i σ H' => ∃ c1 c2 c3 c4 c5 c6 c7 c8 c9 c10 : Option V, σ = [some (V.ref a), c1, c2, c3, c4, c5, c6, c7, c8, c9, c10] ∧ Same H H') ?_ ?_ ?_⟩
  · exact ⟨_, _, _, _, _, _, _, _, _, _, rfl, fun _ _ h => h⟩
  · rintro i σ H1 hi ⟨c1, c2, c3, c4, c5, c6, c7, c8, c9, c10, rfl, sm⟩
    walk_at "rd"
    refine ⟨a, ns, 0 + (i : Int), rfl, SqL.stay hS sm, hl, hb, by omega, by omega, fun wl H2 hwl s2 hW => ?_⟩
    walk_at "rd"
    refine ⟨7, rfl, by decide, by decide, for_range (lo := 0) (n := 7) (fun j σ H' => ∃ c3 c4 c5 c6 c7 c8 c9 c10 : Option V, σ = [some (V.ref a), some (V.int (0 + (i : Int))), some (V.ref wl), c3, c4, c5, c6, c7, c8, c9, c10] ∧ Wl wl H' ∧ Same H1 H') ?_ ?_ ?_⟩
    · exact ⟨_, _, _, _, _, _, _, _, rfl, hW, s2⟩
    · clear hW s2
      rintro j σ H3 hj ⟨c3, c4, c5, c6, c7, c8, c9, c10, rfl, hW, s3⟩
      obtain ⟨p, hp⟩ : ∃ p, clsF[j]? = some p := ⟨_, List.getElem?_eq_getElem (show j < clsF.length from hj)⟩
      have pm : p ∈ clsF := List.mem_of_getElem? hp
      walk_at "rd"
      refine ⟨wl, rfl, hW, fun v1 D1 H4 hv1 f1 d4 => ?_⟩
      walk_at "rd"
      refine ⟨wl, rfl, d4.wl, fun v2 D2 H5 hv2 f2 d5 => ?_⟩
      have hv1 := hv1.drawn hW.there d4.wl d5
      have hv2 := hv2.less (N' := Tk H3) fun b z => z.drawn d4
      have d35 := d4.trans d5
      have hW := d5.wl
      walk_at "rd"
      refine ⟨_, _, rfl, ?_⟩
      walk_at "rd"
      rw [Int.zero_add]
      refine ⟨j, v1, p, rfl, hp, fun e1 H6 s6 k1 => ?_⟩
      have hv1 := hv1.same s6
      have hv2 := hv2.same s6
      have hW := hW.same s6
      walk_at "rd"
      rw [Int.zero_add]
      refine ⟨j, v2, p, rfl, hp, fun e2 H7 s7 k2 => ?_⟩
      have hv1 := hv1.same s7
      have hv2 := hv2.same s7
      have hW := hW.same s7
      have k1 := k1.mono s7
      have sm7 : Same H1 H7 := ((Drawn.same s3 hwl d35).trans s6).trans s7
      walk_at "rd"
      refine ⟨_, _, rfl, ?_⟩
      walk_at "rd"
      refine ⟨by show 2 ≤ sizeLine; decide, fun t1 u1 ht1 hu1 => ?_⟩
      walk_at "rd"
      refine ⟨by show 2 ≤ sizeLine; decide, fun t2 u2 ht2 hu2 => ?_⟩
      walk_at "rd"
      refine ⟨by show 2 ≤ sizeLine; decide, fun l hl0 => ?_⟩
      have n1 := same_new (o := u1) ht1
      have n2 := same_new (o := u2) ht2
      have n3 := same_new (o := .lst [V.ref t1, V.ref t2]) hl0
      have s8 := (n1.trans n2).trans n3
      have kt1 := ((Kt.new (H := H7) (a := t1) hu1).mono (TS.of n2)).mono (TS.of n3)
      have kt2 := (Kt.new (H := upd H7 t1 u1) (a := t2) hu2).mono (TS.of n3)
      have Ll := upd_same (H := upd (upd H7 t1 u1) t2 u2) (a := l) (o := .lst [V.ref t1, V.ref t2])
      have hv1 := hv1.same s8
      have hv2 := hv2.same s8
      have hW := hW.same s8
      have k1 := k1.mono s8
      have k2 := k2.mono s8
      have sm8 := sm7.trans s8
      generalize upd (upd (upd H7 t1 u1) t2 u2) l (.lst [V.ref t1, V.ref t2]) = H8 at *
      refine ⟨l, rfl, ⟨_, SqL.of Ll⟩, for_list (K := K) (a := l) (xs := [V.ref t1, V.ref t2]) (fun n σ H' => ∃ c8 c9 c10 : Option V, σ = [some (V.ref a), some (V.int (i : Int)), some (V.ref wl), some (V.int (j : Int)), some v1, some v2, some (V.ref e1), some (V.ref e2), c8, c9, c10] ∧ Same H8 H') ?_ ?_ ?_ ?_⟩
      · exact ⟨_, _, _, rfl, fun _ _ h => h⟩
      · rintro n σ H9 _ ⟨c8, c9, c10, rfl, s9⟩
        exact SqL.of (s9 _ _ Ll)
      · rintro n x σ H9 hx ⟨c8, c9, c10, rfl, s9⟩
        obtain ⟨t, e, v, d, rfl, kt, ke, hv, fd⟩ : ∃ t e v d, x = V.ref t ∧ Kt H9 t [V.ref e, v] ∧ KpE H9 e (He.ga K p.1) [(p.2, v)] ∧ Dw (Tk H3) H9 v d ∧ Fd d 3 (bd 3) := by
          match n, hx with
          | 0, hx => exact ⟨t1, e1, v1, D1, (Option.some.inj hx).symm, kt1.mono (TS.of s9), k1.mono s9, hv1.same s9, f1⟩
          | 1, hx => exact ⟨t2, e2, v2, D2, (Option.some.inj hx).symm, kt2.mono (TS.of s9), k2.mono s9, hv2.same s9, f2⟩
          | _ + 2, hx => cases hx
        refine r_gtup kt.sq rfl ?_
        walk_at "rd"
        refine ⟨e, j, v, p, rfl, hp, ke, ?_⟩
        walk_at "rd"
        have fd20 := fd.mono (show 3 ≤ 20 by decide) (show bd 3 ≤ 8000 by decide)
        refine r_rp (Dw.dp _ _ hv) fd20 ?_
        walk_at "rd"
        refine r_rp (Dw.dp _ _ hv) fd20 ?_
        walk_at "rd"
        refine r_ne rfl ?_
        walk_at "rd"
        rw [dec_same, Bool.not_true]
        walk_at "rd"
        refine ⟨e, _, _, V.ty "ValueError", _, true, rfl, ke, EX p pm, fun u r => r, KV p pm, ?_⟩
        walk_at "rd"
        rw [Bool.not_true]
        walk_at "rd"
        refine ⟨e, v, p, rfl, pm, ke, fun ls H10 s10 Ls => ?_⟩
        walk_at "rd"
        refine ⟨7, rfl, by decide, by decide, fun D hD => lc_range (lo := 0) (n := 7) (fun i H' => Same H10 H' ∧ H' D = some (.lst (((List.range i).map fun x => decide (x = j)).map V.bl))) ?_ ?_ ?_⟩
        · exact ⟨same_new hD, upd_same⟩
        · rintro n H11 hn ⟨s11, hL⟩
          walk_at "rd"
          refine ⟨rfl, ?_⟩
          walk_at "rd"
          refine r_eq rfl ?_
          refine ⟨_, hL, ?_, ?_, ?_⟩
          · rw [List.length_map, List.length_map, List.length_range]
            exact Nat.lt_of_lt_of_le (show n < 7 from hn) (by decide)
          · intro b0 o0 h
            rw [upd_ne (fun z => by rw [z, hD] at h; cases h)]
            exact s11 _ _ h
          · rw [upd_same, List.range_succ, List.map_append, List.map_append]
            refine congrArg (fun z => some (HO.lst (_ ++ [V.bl z]))) (decide_eq_decide.mpr ⟨fun z => ?_, fun z => ?_⟩)
            · have := int_nat (i := n) (j := j) (by rw [← z, Int.zero_add])
              exact this
            · rw [z, Int.zero_add]
        · rintro H11 ⟨s11, hL⟩
          walk_at "rd"
          have fb : ∀ bs : List Bool, bs.length ≤ 7 → Fd (.list (bs.map .bool)) 60 8000 := fun bs h => (Fd.lst (FdA.map (n := 0) (b := 0) fun x _ => Fd.bl)).mono (by decide) (by omega)
          have Ls := s11 _ _ Ls
          rw [show (clsF.map fun r => V.bl (decide (p = r))) = (clsF.map fun r => decide (p = r)).map V.bl from rfl, sorts_eq hp] at Ls
          have fbb := fb ((List.range 7).map fun x => decide (x = j)) (by rw [List.length_map, List.length_range] <;> exact Nat.le_refl _)
          refine r_neF (.lst (SqL.of Ls) (bools_dp _)) (.lst (SqL.of hL) (bools_dp _)) fbb fbb ?_
          rw [neqv_self fbb.f]
          walk_at "rd"
          exact ⟨_, _, _, rfl, (s9.trans s10).trans s11⟩
      · rintro σ H9 ⟨c8, c9, c10, rfl, s9⟩
        walk_at "rd"
        exact ⟨_, _, _, _, _, _, _, _, rfl, hW.same s9, sm8.trans s9⟩
    · rintro σ H3 ⟨c3, c4, c5, c6, c7, c8, c9, c10, rfl, hW, s3⟩
      walk_at "rd"
      exact ⟨_, _, _, _, _, _, _, _, _, _, rfl, sm.trans s3⟩
  · rintro σ H' ⟨c1, c2, c3, c4, c5, c6, c7, c8, c9, c10, rfl, _⟩
    walk_at "rd"
    exact kk _
end
end Tug
set_option Elab.async false
set_option linter.all false
set_option maxRecDepth 100000
set_option maxHeartbeats 0
namespace Tug
open PySem PySem.Spec L2
open PyProof.Rows hiding St
theorem kbn_of {K : PySem.W.Frag} {x qual : Str} {params : Arguments} {body : List Stmt} {scope : Scope} {kws : List (Str × V)} {f : Addr} {fd : FuncData} {m : Nat} {ps ks : List Str} {gV : List V → List V → List V} (F : FunD K x qual params body scope [] kws f fd)
    (g : List Value → List Value → List Value) (rel : ∀ {vs : List V} {us : List Value} {zs : List V} {ws : List Value}, Vals vs us → Vals zs ws → Vals (gV vs zs) (g us ws))
    (hb : ∀ (kV doc pm : Value) (an : Option Addr) (cdv ct : Value) (us ws : List Value), us.length = m → ws.length = ks.length → bindArgs (PySem.W.fnOf x qual params body scope .none kV doc pm an cdv ct) ⟨us, ks.zip ws⟩ = pure (ps.zip (g us ws))) : KBn K fd ps m ks g gV := by
  refine ⟨?_, rel⟩
  obtain ⟨oc, od, dV, kV, doc, pm, an, cdv, ct, osl, rfl, lk, hcd, hD, hK⟩ := F.ex
  intro s us ws _ l1 l2
  rcases hD with ⟨_, rfl⟩ | ⟨e, _⟩
  · exact .of_eq (hb kV doc pm an cdv ct us ws l1 l2)
  · exact absurd rfl e
def ex (K : PySem.W.Frag) : Bool := binB K (He.ga K "TugError") && (clsF.all (fun p => exB K (He.ga K p.1) (He.ga K "TugError") p.2) && clsF.all fun p => clsF.all fun r => decide (PySem.W.kitOne K (.ref (He.ga K p.1)) (.ref (He.ga K r.1)) = some (decide (p = r))))
def d_NoText_init : He.DefD := ⟨("NoText", some "__init__"), "__init__", "NoText.__init__", defArgs s_NoText_init, defBody s_NoText_init, defScope s_NoText_init, [], []⟩
def d_NoKnob_init : He.DefD := ⟨("NoKnob", some "__init__"), "__init__", "NoKnob.__init__", defArgs s_NoKnob_init, defBody s_NoKnob_init, defScope s_NoKnob_init, [], []⟩
def d_TooMany_init : He.DefD := ⟨("TooMany", some "__init__"), "__init__", "TooMany.__init__", defArgs s_TooMany_init, defBody s_TooMany_init, defScope s_TooMany_init, [], []⟩
def d_NoPull_init : He.DefD := ⟨("NoPull", some "__init__"), "__init__", "NoPull.__init__", defArgs s_NoPull_init, defBody s_NoPull_init, defScope s_NoPull_init, [], []⟩
def d_Nothing_init : He.DefD := ⟨("Nothing", some "__init__"), "__init__", "Nothing.__init__", defArgs s_Nothing_init, defBody s_Nothing_init, defScope s_Nothing_init, [], []⟩
def d_NoPlace_init : He.DefD := ⟨("NoPlace", some "__init__"), "__init__", "NoPlace.__init__", defArgs s_NoPlace_init, defBody s_NoPlace_init, defScope s_NoPlace_init, [], []⟩
def d_NoRow_init : He.DefD := ⟨("NoRow", some "__init__"), "__init__", "NoRow.__init__", defArgs s_NoRow_init, defBody s_NoRow_init, defScope s_NoRow_init, [], []⟩
def d_well : He.DefD := ⟨("_law_well", none), "_law_well", "_law_well", defArgs s_well, defBody s_well, defScope s_well, [], []⟩
def d_draw : He.DefD := ⟨("_law_draw", none), "_law_draw", "_law_draw", defArgs s_draw, defBody s_draw, defScope s_draw, [], []⟩
def d_pick : He.DefD := ⟨("_law_pick", none), "_law_pick", "_law_pick", defArgs s_pick, defBody s_pick, defScope s_pick, [], []⟩
def d_thing : He.DefD := ⟨("_law_thing", none), "_law_thing", "_law_thing", defArgs s_thing, defBody s_thing, defScope s_thing, [], []⟩
def d_field : He.DefD := ⟨("_law_field", none), "_law_field", "_law_field", defArgs s_field, defBody s_field, defScope s_field, [], []⟩
def d_named : He.DefD := ⟨("_law_named", none), "_law_named", "_law_named", defArgs s_named, defBody s_named, defScope s_named, [], []⟩
def d_made : He.DefD := ⟨("_law_made", none), "_law_made", "_law_made", defArgs s_made, defBody s_made, defScope s_made, [], []⟩
def d_sorts : He.DefD := ⟨("_law_sorts", none), "_law_sorts", "_law_sorts", defArgs s_sorts, defBody s_sorts, defScope s_sorts, [], []⟩
def d_law : He.DefD := ⟨("law", none), "law", "law", defArgs s_law, defBody s_law, defScope s_law, [], []⟩
def fn : List He.DefD := [d_NoText_init, d_NoKnob_init, d_TooMany_init, d_NoPull_init, d_Nothing_init, d_NoPlace_init, d_NoRow_init, d_well, d_draw, d_pick, d_thing, d_field, d_named, d_made, d_sorts, d_law]
def fa : List He.Fa := [.glo "_law_well", .glo "_law_draw", .glo "_law_pick", .glo "_law_thing", .glo "_law_field", .glo "_law_named", .glo "_law_made", .glo "_law_sorts", .glo "law", .glo "TugError", .glo "NoText", .glo "NoKnob", .glo "TooMany", .glo "NoPull", .glo "Nothing", .glo "NoPlace", .glo "NoRow", .free "len", .free "range", .free "tuple", .free "repr", .free "isinstance", .free "max", .free "min", .free "ValueError"]
abbrev R : PySem.W.OpenRow := PySem.W.OpenLaw.row PySem.Challenge.rw_tugline_k05_refusals_made
abbrev hk : PySem.W.Hook := hookE 5 fa fn ex
def ob (s : PySem.W.SharedT) : He.AlD × Bool := obsEG 5 fa fn ex (HandSHeadRun.getT s)
theorem ob_eq (s : PySem.W.SharedT) : ob s = hk.obs s.abs := obsEG_eq (HandSHeadRun.getT_eq s)
abbrev loose : List PySem.Str := ["TugError", "NoText", "NoKnob", "TooMany", "NoPull", "Nothing", "NoPlace", "NoRow", "_law_well", "_law_draw", "_law_pick", "_law_thing", "_law_field", "_law_named", "_law_made", "_law_sorts"]
abbrev lawAt : Nat := 18
theorem run (w : World) : HandSHeadRun.RunEq R (PySem.W.view R.prog [lawAt]) hk ob 6000 loose w := by
  intro os
  kernel_rfl
theorem facts {P : Program} {w : World} {K : PySem.W.Frag} {h : Heap} {mg : Str → Option Value} {f : Addr} (X : K.In h) (G : h.Ns mainGlobals mg) (hf : mg ("law" : Str) = some (.ref f)) (c : He.SaysD fa fn K) (cx : ex K = true) :
    ∃ fd : FuncData, (∀ (s : Shared) (v : Value), BindsTo s fd ⟨[v], []⟩ [("script", v)]) ∧ ∀ base : Heap, K.In base → base.Ns mainGlobals mg → FnG P w K mg base CX0 7 f fd ["script"] (spLaw K) := by
  obtain ⟨fd_NoText_init, F_NoText_init⟩ := c.def_ 0 (d := d_NoText_init) rfl
  obtain ⟨fd_NoKnob_init, F_NoKnob_init⟩ := c.def_ 1 (d := d_NoKnob_init) rfl
  obtain ⟨fd_TooMany_init, F_TooMany_init⟩ := c.def_ 2 (d := d_TooMany_init) rfl
  obtain ⟨fd_NoPull_init, F_NoPull_init⟩ := c.def_ 3 (d := d_NoPull_init) rfl
  obtain ⟨fd_Nothing_init, F_Nothing_init⟩ := c.def_ 4 (d := d_Nothing_init) rfl
  obtain ⟨fd_NoPlace_init, F_NoPlace_init⟩ := c.def_ 5 (d := d_NoPlace_init) rfl
  obtain ⟨fd_NoRow_init, F_NoRow_init⟩ := c.def_ 6 (d := d_NoRow_init) rfl
  obtain ⟨fd_well, F_well⟩ := c.def_ 7 (d := d_well) rfl
  obtain ⟨fd_draw, F_draw⟩ := c.def_ 8 (d := d_draw) rfl
  obtain ⟨fd_pick, F_pick⟩ := c.def_ 9 (d := d_pick) rfl
  obtain ⟨fd_thing, F_thing⟩ := c.def_ 10 (d := d_thing) rfl
  obtain ⟨fd_field, F_field⟩ := c.def_ 11 (d := d_field) rfl
  obtain ⟨fd_named, F_named⟩ := c.def_ 12 (d := d_named) rfl
  obtain ⟨fd_made, F_made⟩ := c.def_ 13 (d := d_made) rfl
  obtain ⟨fd_sorts, F_sorts⟩ := c.def_ 14 (d := d_sorts) rfl
  obtain ⟨fd_law, F_law⟩ := c.def_ 15 (d := d_law) rfl
  have m_well := He.glo_ok X G (c.fact 0 (f := .glo "_law_well") rfl)
  have m_draw := He.glo_ok X G (c.fact 1 (f := .glo "_law_draw") rfl)
  have m_pick := He.glo_ok X G (c.fact 2 (f := .glo "_law_pick") rfl)
  have m_thing := He.glo_ok X G (c.fact 3 (f := .glo "_law_thing") rfl)
  have m_field := He.glo_ok X G (c.fact 4 (f := .glo "_law_field") rfl)
  have m_named := He.glo_ok X G (c.fact 5 (f := .glo "_law_named") rfl)
  have m_made := He.glo_ok X G (c.fact 6 (f := .glo "_law_made") rfl)
  have m_sorts := He.glo_ok X G (c.fact 7 (f := .glo "_law_sorts") rfl)
  have m_law := He.glo_ok X G (c.fact 8 (f := .glo "law") rfl)
  have c_TugError := He.glo_ok X G (c.fact 9 (f := .glo "TugError") rfl)
  have c_NoText := He.glo_ok X G (c.fact 10 (f := .glo "NoText") rfl)
  have c_NoKnob := He.glo_ok X G (c.fact 11 (f := .glo "NoKnob") rfl)
  have c_TooMany := He.glo_ok X G (c.fact 12 (f := .glo "TooMany") rfl)
  have c_NoPull := He.glo_ok X G (c.fact 13 (f := .glo "NoPull") rfl)
  have c_Nothing := He.glo_ok X G (c.fact 14 (f := .glo "Nothing") rfl)
  have c_NoPlace := He.glo_ok X G (c.fact 15 (f := .glo "NoPlace") rfl)
  have c_NoRow := He.glo_ok X G (c.fact 16 (f := .glo "NoRow") rfl)
  have z_len := He.free_ok X G (c.fact 17 (f := .free "len") rfl)
  have z_range := He.free_ok X G (c.fact 18 (f := .free "range") rfl)
  have z_tuple := He.free_ok X G (c.fact 19 (f := .free "tuple") rfl)
  have z_repr := He.free_ok X G (c.fact 20 (f := .free "repr") rfl)
  have z_isinstance := He.free_ok X G (c.fact 21 (f := .free "isinstance") rfl)
  have z_max := He.free_ok X G (c.fact 22 (f := .free "max") rfl)
  have z_min := He.free_ok X G (c.fact 23 (f := .free "min") rfl)
  have z_ValueError := He.free_ok X G (c.fact 24 (f := .free "ValueError") rfl)
  unfold ex at cx
  simp only [Bool.and_eq_true, List.all_eq_true, decide_eq_true_eq] at cx
  obtain ⟨cb, cf, ck⟩ := cx
  have B_TugError := binB_ok cb
  have XF : ∀ p ∈ clsF, ExF K (He.ga K p.1) (He.ga K "TugError") p.2 := fun p hp => exB_ok (cf p hp)
  have EX : ∀ p ∈ clsF, ExcC K (He.ga K p.1) := fun p hp => (XF p hp).e
  have KV : ∀ p ∈ clsF, PySem.W.kitOne K (.ref (He.ga K p.1)) (.type "ValueError") = some true := fun p hp => (XF p hp).ve
  have e := hf.symm.trans m_law
  cases e
  have b := FunD.bindsA (ps := ["script"]) F_law fun _ _ _ _ _ _ us hl => match us, hl with | [_], _ => rfl
  refine ⟨fd_law, fun s v => b s [v] rfl, fun base _ _ => ?_⟩
  have XF_NoText : ExF K (He.ga K "NoText") (He.ga K "TugError") "line" := XF ("NoText", "line") (by decide)
  have I_NoText := ok_NoText_init XF_NoText.o XF_NoText.no c_TugError B_TugError F_NoText_init (P := P) (w := w) (mg := mg) (base := base)
  have E_NoText : CalE P w K mg base "NoText" "line" := ⟨c_NoText, XF_NoText, fd_NoText_init, fun us ws => us ++ ws, I_NoText, F_NoText_init.bindsN (fun _ _ _ _ _ _ us hl => match us, hl with | [_, _], _ => rfl),
    kbn_of F_NoText_init (fun us ws => us ++ ws) (fun r q => r.append q) (fun _ _ _ _ _ _ us ws h1 h2 => match us, ws, h1, h2 with | [_], [_], _, _ => rfl)⟩
  have XF_NoKnob : ExF K (He.ga K "NoKnob") (He.ga K "TugError") "number" := XF ("NoKnob", "number") (by decide)
  have I_NoKnob := ok_NoKnob_init XF_NoKnob.o XF_NoKnob.no c_TugError B_TugError F_NoKnob_init (P := P) (w := w) (mg := mg) (base := base)
  have E_NoKnob : CalE P w K mg base "NoKnob" "number" := ⟨c_NoKnob, XF_NoKnob, fd_NoKnob_init, fun us ws => us ++ ws, I_NoKnob, F_NoKnob_init.bindsN (fun _ _ _ _ _ _ us hl => match us, hl with | [_, _], _ => rfl),
    kbn_of F_NoKnob_init (fun us ws => us ++ ws) (fun r q => r.append q) (fun _ _ _ _ _ _ us ws h1 h2 => match us, ws, h1, h2 with | [_], [_], _, _ => rfl)⟩
  have XF_TooMany : ExF K (He.ga K "TooMany") (He.ga K "TugError") "most" := XF ("TooMany", "most") (by decide)
  have I_TooMany := ok_TooMany_init XF_TooMany.o XF_TooMany.no c_TugError B_TugError F_TooMany_init (P := P) (w := w) (mg := mg) (base := base)
  have E_TooMany : CalE P w K mg base "TooMany" "most" := ⟨c_TooMany, XF_TooMany, fd_TooMany_init, fun us ws => us ++ ws, I_TooMany, F_TooMany_init.bindsN (fun _ _ _ _ _ _ us hl => match us, hl with | [_, _], _ => rfl),
    kbn_of F_TooMany_init (fun us ws => us ++ ws) (fun r q => r.append q) (fun _ _ _ _ _ _ us ws h1 h2 => match us, ws, h1, h2 with | [_], [_], _, _ => rfl)⟩
  have XF_NoPull : ExF K (He.ga K "NoPull") (He.ga K "TugError") "worth" := XF ("NoPull", "worth") (by decide)
  have I_NoPull := ok_NoPull_init XF_NoPull.o XF_NoPull.no c_TugError B_TugError F_NoPull_init (P := P) (w := w) (mg := mg) (base := base)
  have E_NoPull : CalE P w K mg base "NoPull" "worth" := ⟨c_NoPull, XF_NoPull, fd_NoPull_init, fun us ws => us ++ ws, I_NoPull, F_NoPull_init.bindsN (fun _ _ _ _ _ _ us hl => match us, hl with | [_, _], _ => rfl),
    kbn_of F_NoPull_init (fun us ws => us ++ ws) (fun r q => r.append q) (fun _ _ _ _ _ _ us ws h1 h2 => match us, ws, h1, h2 with | [_], [_], _, _ => rfl)⟩
  have XF_Nothing : ExF K (He.ga K "Nothing") (He.ga K "TugError") "word" := XF ("Nothing", "word") (by decide)
  have I_Nothing := ok_Nothing_init XF_Nothing.o XF_Nothing.no c_TugError B_TugError F_Nothing_init (P := P) (w := w) (mg := mg) (base := base)
  have E_Nothing : CalE P w K mg base "Nothing" "word" := ⟨c_Nothing, XF_Nothing, fd_Nothing_init, fun us ws => us ++ ws, I_Nothing, F_Nothing_init.bindsN (fun _ _ _ _ _ _ us hl => match us, hl with | [_, _], _ => rfl),
    kbn_of F_Nothing_init (fun us ws => us ++ ws) (fun r q => r.append q) (fun _ _ _ _ _ _ us ws h1 h2 => match us, ws, h1, h2 with | [_], [_], _, _ => rfl)⟩
  have XF_NoPlace : ExF K (He.ga K "NoPlace") (He.ga K "TugError") "place" := XF ("NoPlace", "place") (by decide)
  have I_NoPlace := ok_NoPlace_init XF_NoPlace.o XF_NoPlace.no c_TugError B_TugError F_NoPlace_init (P := P) (w := w) (mg := mg) (base := base)
  have E_NoPlace : CalE P w K mg base "NoPlace" "place" := ⟨c_NoPlace, XF_NoPlace, fd_NoPlace_init, fun us ws => us ++ ws, I_NoPlace, F_NoPlace_init.bindsN (fun _ _ _ _ _ _ us hl => match us, hl with | [_, _], _ => rfl),
    kbn_of F_NoPlace_init (fun us ws => us ++ ws) (fun r q => r.append q) (fun _ _ _ _ _ _ us ws h1 h2 => match us, ws, h1, h2 with | [_], [_], _, _ => rfl)⟩
  have XF_NoRow : ExF K (He.ga K "NoRow") (He.ga K "TugError") "row" := XF ("NoRow", "row") (by decide)
  have I_NoRow := ok_NoRow_init XF_NoRow.o XF_NoRow.no c_TugError B_TugError F_NoRow_init (P := P) (w := w) (mg := mg) (base := base)
  have E_NoRow : CalE P w K mg base "NoRow" "row" := ⟨c_NoRow, XF_NoRow, fd_NoRow_init, fun us ws => us ++ ws, I_NoRow, F_NoRow_init.bindsN (fun _ _ _ _ _ _ us hl => match us, hl with | [_, _], _ => rfl),
    kbn_of F_NoRow_init (fun us ws => us ++ ws) (fun r q => r.append q) (fun _ _ _ _ _ _ us ws h1 h2 => match us, ws, h1, h2 with | [_], [_], _, _ => rfl)⟩
  have C_well : C_ P w K mg base "_law_well" 1 P_well (spWell K) := cal_of F_well m_well (fun _ _ _ _ _ _ us hl => match us, hl with | [_, _], _ => rfl) (ok_well F_well z_len)
  have C_draw : C_ P w K mg base "_law_draw" 1 P_draw spDraw := cal_of F_draw m_draw (fun _ _ _ _ _ _ us hl => match us, hl with | [_, _], _ => rfl) (ok_draw F_draw )
  have C_pick : C_ P w K mg base "_law_pick" 2 P_pick (spPick K) := cal_of F_pick m_pick (fun _ _ _ _ _ _ us hl => match us, hl with | [_, _], _ => rfl) (ok_pick F_pick z_len C_draw)
  have T_0 : C_ P w K mg base "_law_thing" 2 P_thing (spT 0) := cal_of F_thing m_thing (fun _ _ _ _ _ _ us hl => match us, hl with | [_, _], _ => rfl) ⟨fun _ _ _ _ h => h.elim, fun _ _ _ _ _ _ _ _ _ _ _ _ _ _ h => h.elim⟩
  have T_1 : C_ P w K mg base "_law_thing" 3 P_thing (spT 1) := cal_of F_thing m_thing (fun _ _ _ _ _ _ us hl => match us, hl with | [_, _], _ => rfl) (ok_thing (by decide) F_thing z_range z_tuple C_draw C_pick T_0)
  have T_2 : C_ P w K mg base "_law_thing" 4 P_thing (spT 2) := cal_of F_thing m_thing (fun _ _ _ _ _ _ us hl => match us, hl with | [_, _], _ => rfl) (ok_thing (by decide) F_thing z_range z_tuple C_draw C_pick T_1)
  have T_3 : C_ P w K mg base "_law_thing" 5 P_thing (spT 3) := cal_of F_thing m_thing (fun _ _ _ _ _ _ us hl => match us, hl with | [_, _], _ => rfl) (ok_thing (by decide) F_thing z_range z_tuple C_draw C_pick T_2)
  have T_4 : C_ P w K mg base "_law_thing" 6 P_thing (spT 4) := cal_of F_thing m_thing (fun _ _ _ _ _ _ us hl => match us, hl with | [_, _], _ => rfl) (ok_thing (by decide) F_thing z_range z_tuple C_draw C_pick T_3)
  have C_made : C_ P w K mg base "_law_made" 3 P_made (spMade K) := cal_of F_made m_made (fun _ _ _ _ _ _ us hl => match us, hl with | [_, _], _ => rfl) (ok_made F_made c_TugError E_NoText E_NoKnob E_TooMany E_NoPull E_Nothing E_NoPlace E_NoRow)
  have C_named : C_ P w K mg base "_law_named" 3 P_named (spMade K) := cal_of F_named m_named (fun _ _ _ _ _ _ us hl => match us, hl with | [_, _], _ => rfl) (ok_named F_named c_TugError E_NoText E_NoKnob E_TooMany E_NoPull E_Nothing E_NoPlace E_NoRow)
  have C_field : C_ P w K mg base "_law_field" 1 P_field (spField K) := cal_of F_field m_field (fun _ _ _ _ _ _ us hl => match us, hl with | [_, _], _ => rfl) (ok_field F_field E_NoText E_NoKnob E_TooMany E_NoPull E_Nothing E_NoPlace E_NoRow)
  have C_sorts : C_ P w K mg base "_law_sorts" 1 P_sorts (spSorts K) := cal_of F_sorts m_sorts (fun _ _ _ _ _ _ us hl => match us, hl with | [_], _ => rfl) (ok_sorts F_sorts z_isinstance E_NoText E_NoKnob E_TooMany E_NoPull E_Nothing E_NoPlace E_NoRow EX ck)
  exact ok_law F_law z_len z_max z_min z_range z_repr z_isinstance z_ValueError EX KV C_well T_4 C_made C_named C_field C_sorts
end Tug
open PySem PySem.W PySem.Calls PyProof.Rows
theorem PySem.Challenge.cw_tugline_k05_refusals_made_holds : PySem.Challenge.rw_tugline_k05_refusals_made.Holds := by
  w_on; o_law
  refine HandSHeadRun.head_any (r := OpenLaw.row PySem.Challenge.rw_tugline_k05_refusals_made) (q := view (OpenLaw.row PySem.Challenge.rw_tugline_k05_refusals_made).prog [Tug.lawAt]) (H := Tug.hk) (ob := Tug.ob) (M := 6000) (loose := Tug.loose) (d := HandSHeadRun.topDef (OpenLaw.row PySem.Challenge.rw_tugline_k05_refusals_made).prog Tug.lawAt) (kwd := []) Tug.ob_eq
    (by kernel_rfl) (fun s => by kernel_rfl) Tug.run (by kernel_rfl) (by kernel_rfl) (by kernel_rfl) (by rfl) (by first | assumption | decide +kernel) (by decide +kernel) ⟨rfl, rfl, rfl, rfl, rfl, by decide +kernel⟩ ?hw ?hc
  case hw => w_witness2
  case hc =>
    refine Tug.walk_end (l := PySem.Challenge.rw_tugline_k05_refusals_made) (n := 63) (k := 7) (x := "script") (CX := L2.CX0) rfl (by decide) (by kernel_rfl) ⟨rfl, by decide, by decide⟩ ?F (fun _ _ _ _ z => z)
    intro w mg f h Y G hmg0
    obtain ⟨K, KX, c, cx⟩ := Y
    have hmg : mg ("law" : PySem.Str) = some (.ref f) := by
      have e : (HandSHeadRun.topDef (OpenLaw.row PySem.Challenge.rw_tugline_k05_refusals_made).prog Tug.lawAt).name = ("law" : PySem.Str) := by kernel_rfl
      rw [← e]
      exact hmg0
    obtain ⟨fd, hb, hF⟩ := Tug.facts (P := (PySem.Challenge.rw_tugline_k05_refusals_made).prog) (w := w) KX G hmg c cx
    exact ⟨K, fd, Tug.spLaw K, KX, hb, fun H a ns hl hbits _ hS => ⟨a, ns, rfl, hS, hl, hbits, fun _ => rfl⟩, hF⟩
