import PyProof.Rows.All
import Wide.All
import OpenK.AllK
import Wide.FinOn
import PyProof.ReprRoads
import HandS.ForMost
import HandS.Wide
import HandS.EndBits
import HandS.Defaults
import HandS.More
import HandS.WordsExc
import HandS.Head0
import HandS.Head1
import HandS.Head2
import HandS.HeadEnd
import HandS.HeadHook1
import HandS.HeadHook2
import PyProof.AttrMissHeap
import HandS.Style
import HandS.TupAny
import PySem.Challenge.RW_tugline_k19_forms_put_together
set_option Elab.async false
set_option linter.all false
set_option maxRecDepth 100000
set_option maxHeartbeats 4000000
/-! Tug, part A: rules that the layer lacks (powers of great ints, an index into a list or a tuple, repr of data, calls by
keywords alone, defs that lean on what runs around them), and the steps by which readings are read. -/
namespace Tug
open PySem PySem.Spec L2
open PyProof.Rows hiding St

/-! ### operators -/
section
variable {X : Cx}
def CPowW (i j : Int) : Prop := 0 ≤ j ∧ (Builtin.Int.intBits i : Int) * j ≤ 2 ^ 27
theorem op_powW : OpR X (binaryOp .Pow) (rI CPowW fun i j => .int (i ^ j.toNat)) :=
  opI fun _ _ _ _ _ _ _ hc q => pow_int hc.1 hc.2 q
/-- a cell of a list or of a tuple -/
def rIxA (K : PySem.W.Frag) : R2 := fun x y H Q => ∃ p xs i v, x = .ref p ∧ y = .int i ∧ (SqL K H p xs ∨ SqT K H p xs) ∧ atI xs i = some v ∧ Q v H
theorem ix_any : IxR X (rIxA X.K) := by
  intro value slice pins s σ H x y v u Q I rx ry h sub
  obtain ⟨p, xs, i, z, ex, ey, (hs | hs), hz, q⟩ := h
  · exact ix_list value slice pins s σ H x y v u Q I rx ry ⟨p, xs, i, z, ex, ey, hs, hz, q⟩ sub
  · exact ix_tup value slice pins s σ H x y v u Q I rx ry ⟨p, xs, i, z, ex, ey, hs, hz, q⟩ sub
end

/-! ### tuples whose object is known: it has no dict of its own (dict(t) looks there) -/
/-- a new tuple's object, known -/
def TupO (u : HO) (xs : List V) : Prop := ∃ o : Obj, u = .frz o (.tup xs) ∧ o.dict = none
/-- such a tuple stands at a -/
def Kt (H : Hp) (a : Addr) (xs : List V) : Prop := ∃ o : Obj, H a = some (.frz o (.tup xs)) ∧ o.dict = none
theorem Kt.new {H : Hp} {a : Addr} {u : HO} {xs : List V} (h : TupO u xs) : Kt (upd H a u) a xs := by
  obtain ⟨o, rfl, d⟩ := h
  exact ⟨o, upd_same, d⟩
theorem Kt.sq {K : PySem.W.Frag} {H : Hp} {a : Addr} {xs : List V} (h : Kt H a xs) : SqT K H a xs := by
  obtain ⟨o, h, _⟩ := h
  exact .inl (.inr ⟨o, h⟩)
section
variable {X : Cx} {es : List Expr} {t : TA} {pos : Pos}
def tTupF (t : TA) : TE := fun σ H Q => t σ H fun xs H1 => xs.length ≤ sizeLine ∧ ∀ p u, H1 p = none → TupO u xs → Q (.ref p) (upd H1 p u)
theorem pe_tupF {x1} (h : PA X es t) : PE X (.Tuple es x1 pos) (tTupF t) := by
  refine ⟨fun pins s σ H Q I hq => ?_⟩
  refine wpAny_Tuple_spliced (thn (h.run pos pins s σ H _ I hq) fun us s1 ⟨xs, H1, I1, r, z, q⟩ => ⟨by rw [← r.length]; exact z, ?_⟩)
  refine ⟨.ref s1.heap.objs.size, _, I1.laid (o := .frz { cls := .type "tuple", data := .seq us.toArray } (.tup xs)) (t' := s1.toks) (fun b u e => Heap.get?_push_of_some _ e) (Nat.le_refl _) ?_, rfl, q _ _ (I1.hok.fresh (Nat.le_refl _)) ⟨_, rfl, rfl⟩⟩
  exact ⟨Heap.get?_push_size _ rfl, z, us, r, _, Heap.get?_push_size _ rfl, rfl, _, rfl⟩
def rTupF (K : PySem.W.Frag) : List V → Hp → VK → Prop := fun xs H Q => ∃ p ys, xs = [.ref p] ∧ ((SqL K H p ys ∧ ∀ l u, H l = none → TupO u ys → Q (.ref l) (upd H l u)) ∨ (SqT K H p ys ∧ Q (.ref p) H))
theorem call_tupleF : CallR X (.type "tuple") (rTupF X.K) := by
  intro pins s σ H xs us Q I r h
  obtain ⟨p, ys, rfl, h⟩ := h
  obtain ⟨u, rfl, rx⟩ := vals1 r
  cases rx
  cases h with
  | inl h =>
    obtain ⟨hq, q⟩ := h
    obtain ⟨its, r', pl, hz⟩ := I.list hq
    have lens := r'.length
    refine call_tuple_list pl.isList (fun h' kp => ?_) (by simp only [List.size_toArray] <;> omega)
    have I1 : Inv X pins σ H { s with heap := h' } := I.kept (t' := s.toks) kp
    refine ⟨.ref h'.objs.size, _, I1.laid (o := .frz { cls := .type "tuple", data := .seq its.toArray } (.tup ys)) (t' := s.toks) (fun b o e => Heap.get?_push_of_some _ e) (Nat.le_refl _) ?_, rfl, q _ _ (I1.hok.fresh (Nat.le_refl _)) ⟨_, rfl, rfl⟩⟩
    exact ⟨Heap.get?_push_size _ rfl, hz, its, r', _, Heap.get?_push_size _ rfl, rfl, _, rfl⟩
  | inr h =>
    obtain ⟨hq, q⟩ := h
    obtain ⟨its, r', pl, hz⟩ := I.tuple hq
    exact call_tuple_same pl ⟨.ref p, H, I, rfl, q⟩
end

/-! ### repr of data -/
section
variable {X : Cx}
mutual
theorem dp_nodict {K : PySem.W.Frag} {H : Hp} : ∀ (d : PyData) (v : V), Dp K H v d → d.hasDict = false
  | .none, _, _ => by simp only [PyData.hasDict]
  | .bool _, _, _ => by simp only [PyData.hasDict]
  | .int _, _, _ => by simp only [PyData.hasDict]
  | .str _, _, _ => by simp only [PyData.hasDict]
  | .list ds, v, h => by
    simp only [PyData.hasDict]
    cases h with
    | lst _ ha => exact dp_nodictAll ds _ ha
  | .tuple ds, v, h => by
    simp only [PyData.hasDict]
    cases h with
    | tup _ ha => exact dp_nodictAll ds _ ha
  | .dict _, v, h => by cases h
theorem dp_nodictAll {K : PySem.W.Frag} {H : Hp} : ∀ (ds : List PyData) (vs : List V), DpAll K H vs ds → PyData.hasDictAll ds = false
  | [], _, _ => by simp only [PyData.hasDictAll]
  | d :: ds, vs, h => by
    cases h with
    | cons h1 h2 =>
      simp only [PyData.hasDictAll, dp_nodict d _ h1, dp_nodictAll ds _ h2, Bool.or_self]
end
def rRepr (K : PySem.W.Frag) : List V → Hp → VK → Prop := fun xs H Q => ∃ v d, xs = [v] ∧ Dp K H v d ∧ d.showable = true ∧ d.depth ≤ 20 ∧ d.shown.length ≤ sizeLine ∧ Q (.str d.shown) H
theorem call_repr_D (hg : X.A.guards = some []) (hu : X.A.units + 64 < cLine) : CallR X (.builtin "repr") (rRepr X.K) := by
  intro pins s σ H xs us Q I r h
  obtain ⟨v, d, rfl, hd, hs, hdp, hz, q⟩ := h
  obtain ⟨u, rfl, ru⟩ := vals1 r
  obtain ⟨as, rd⟩ := Dp.reads I d v u hd ru
  have nd := dp_nodict d v hd
  have go : ∀ a : Addr, u = .ref a → wpAny (model X.prog X.w) X.A (call (.builtin "repr") [u]) (EP X pins σ Q) X.xe s := by
    intro a e
    subst e
    refine repr_of_reads' rd hs (fun hh => ?_) hg (by omega) (fun _ _ e => e) (fun h' t tk k => ?_) hz
    · rw [nd] at hh
      cases hh
    · exact ⟨.str _, H, I.kept k, ⟨_, rfl⟩, q⟩
  cases hd with
  | non =>
    have e : u = Value.none := ru
    subst e
    exact PySem.P.repr_of_none ⟨.str _, H, I.tok _, ⟨_, rfl⟩, q⟩
  | bl b =>
    have e : u = Value.bool b := ru
    subst e
    exact PySem.P.repr_of_bool ⟨.str _, H, I.tok _, ⟨_, by cases b <;> rfl⟩, q⟩
  | int i =>
    obtain ⟨t, rfl⟩ := ru
    exact PySem.P.repr_of_int (by simpa [PyData.showable] using hs) ⟨.str _, H, I.tok _, ⟨_, rfl⟩, q⟩
  | str x =>
    obtain ⟨t, rfl⟩ := ru
    exact PySem.P.repr_of_str ⟨.str _, H, I.tok _, ⟨_, rfl⟩, q⟩ hz
  | lst a b =>
    exact go _ ru
  | tup a b =>
    exact go _ ru
end

/-! ### defs that know that nothing is being shown around them -/
/-- as the layer's contract of a def, for calls around which no repr runs -/
structure FnG (P : Program) (w : World) (K : PySem.W.Frag) (mg : Str → Option Value) (base : Heap) (CX : CXT) (k : Nat) (f : Addr) (fd : FuncData) (ps : List Str) (sp : Sp) : Prop where
  len : ∀ vs H Q E, sp vs H Q E → vs.length = ps.length
  run : ∀ (A : Around) (outer : List Env) (s : Shared) (H : Hp) (args : Args) (us : List Value) (vs : List V) (Q : VK) (E : XK), A.guards = some [] → Room k A →
    Env0 P w K mg base A outer s H → BindsTo s fd args (ps.zip us) → Vals vs us → sp vs H Q E → codeAny (model P w) A (.call (.ref f) args) (CR CX outer P w H s Q E) s
section
variable {P : Program} {w : World} {K : PySem.W.Frag} {mg : Str → Option Value} {base : Heap} {CX : CXT}
theorem FnG.of {k : Nat} {f : Addr} {fd : FuncData} {ps : List Str} {sp : Sp} (F : FnOk P w K mg base CX k f fd ps sp) : FnG P w K mg base CX k f fd ps sp :=
  ⟨F.len, fun A outer s H args us vs Q E _ hr he hb hv hs => F.run A outer s H args us vs Q E hr he hb hv hs⟩
theorem FnG.mono {j k : Nat} {f : Addr} {fd : FuncData} {ps : List Str} {sp : Sp} (F : FnG P w K mg base CX j f fd ps sp) (h : j ≤ k) : FnG P w K mg base CX k f fd ps sp :=
  ⟨F.len, fun A outer s H args us vs Q E hg hr => F.run A outer s H args us vs Q E hg (hr.mono h)⟩
theorem guards_deeper {A : Around} {env : Env} (h : A.guards = some []) : (A.deeper env).guards = some [] := h
/-- a def of the text by its body, what runs around it known -/
theorem fnG {x qual : Str} {params : Arguments} {body : List Stmt} {scope : Scope} {dvs : List V} {kws : List (Str × V)} {f : Addr} {fd : FuncData} {N ps : List Str} {k : Nat} {sp : Sp}
    (F : FunD K x qual params body scope dvs kws f fd) (S : FnScope N ps scope) (len : ∀ vs H Q E, sp vs H Q E → vs.length = ps.length)
    (walk : ∀ (cdv : Value) (A : Around) (outer : List Env) (s : Shared) (H : Hp) (vs : List V) (Q : VK) (E : XK),
      (A.deeper (envOfC qual scope s.heap.objs.size f cdv)).guards = some [] → Room k (A.deeper (envOfC qual scope s.heap.objs.size f cdv)) → sp vs H Q E →
      ∃ t, PSs (cxOf CX P w K mg base N qual scope f cdv A outer s H E) body t ∧ t { nx := fun _ H' => Q .non H', rt := Q } (start N vs) H) :
    FnG P w K mg base CX (k + 1) f fd ps sp := by
  obtain ⟨oc, od, dV, kV, doc, pm, an, cdv, ct, osl, rfl, lk, hcd, _, _⟩ := F.ex
  refine ⟨len, ?_⟩
  intro A outer s H args us vs Q E hg hr e0 hb r hsp
  have hlen := len _ _ _ _ hsp
  have inK : K.In s.heap := e0.mod.kin.keeps fun b o e => (e0.bs b o e).1
  have nolim : s.heap.NoLimit := e0.mod.nolimit.keeps fun b o e => (e0.bs b o e).1
  have kinds : ∀ y ∈ ps.zip us, scope.names.lookup y.1 = some .local ∨
      (scope.names.lookup y.1 = some .cell ∧ ((cellsFrom (s.heap.objs.size + 1) scope.names []).lookup y.1).isSome = true) := by
    intro y hy
    obtain ⟨n, v⟩ := y
    cases S.par n (List.of_mem_zip hy).1 with
    | inl q => exact Or.inl q
    | inr q => exact Or.inr ⟨q, PySem.W.cellsFrom_some _ _ _ (Or.inl q)⟩
  refine codeAny_call_function hr.depth (inK _ _ lk) rfl S.co S.gen rfl (PySem.W.codeRec_of inK hcd) (hb _ _ _ _ ?_)
  refine wpAny_newFunctionEnv_cells S.kind kinds fun env he s1 z => ?_
  subst he
  refine ⟨nolim.keeps z.toInCall.keep, codeAny_func ?_⟩
  obtain ⟨t, ht, hq⟩ := walk cdv A outer s H vs Q E (guards_deeper hg) (hr.deeper _) hsp
  have J : Inv (cxOf CX P w K mg base N qual scope f cdv A outer s H E) [] (start N vs) H s1 := inv_start S hr.hd e0 hlen r z
  have ends : ∀ {σ' : St} {H' : Hp} {v : V} {u : Value} {s' : Shared}, Inv (cxOf CX P w K mg base N qual scope f cdv A outer s H E) [] σ' H' s' → RelV v u → Q v H' → CE outer P w H s Q u s' := by
    intro σ' H' v u s' J' rv q
    exact ⟨v, H', J'.os, J'.bare, J'.base, J'.hok, rv, q⟩
  refine wpAny_mono (ht.run [] s1 (start N vs) H _ J hq) (fun fl s' hs => ?_) fun e s' hs => hs
  cases fl with
  | ret u =>
    obtain ⟨v, σ', H', J', rv, q⟩ := hs
    exact ends J' rv q
  | next =>
    obtain ⟨σ', H', J', q⟩ := hs
    exact ends (v := V.non) (u := Value.none) J' rfl q
  | brk =>
    obtain ⟨_, _, _, q⟩ := hs
    cases q
  | cont =>
    obtain ⟨_, _, _, q⟩ := hs
    cases q
end

/-! ### calls -/
/-- a def of the module that a name stands for, with its promise; ds: the defaults that fill up -/
structure Cal (P : Program) (w : World) (K : PySem.W.Frag) (mg : Str → Option Value) (base : Heap) (CX : CXT) (x : Str) (k : Nat) (ps : List Str) (dvs : List V) (sp : Sp) : Prop where
  ex : ∃ (f : Addr) (fd : FuncData) (ds : List Value), mg x = some (.ref f) ∧ PySem.W.keepIn K (.ref f) = true ∧ Binds K fd ps ds ∧ Vals dvs ds ∧ FnG P w K mg base CX k f fd ps sp
section
variable {X : Cx} {CX : CXT} {k n : Nat} {f : Addr} {fd : FuncData} {ps ks : List Str} {sp : Sp} {dvs : List V} {ds : List Value} {E : XK} {x : Str} {p pos : Pos} {e : Expr} {es : List Expr} {kws : List Keyword} {t tk : TA}
  {g : List Value → List Value → List Value} {gV : List V → List V → List V}
theorem run_fnG {pins : List (Addr × Obj)} {σ : St} {H : Hp} {s : Shared} {Q : VK} {us : List Value} {vs : List V} {args : Args} (F : FnG X.prog X.w X.K X.mg X.base CX k f fd ps sp) (hg : X.A.guards = some []) (hr : Room k X.A) (hx : Passes CX X E)
    (I : Inv X pins σ H s) (hb : BindsTo s fd args (ps.zip us)) (r : Vals vs us) (h : sp vs H Q E) : wpAny (model X.prog X.w) X.A (call (.ref f) args.pos args.kw) (EP X pins σ Q) X.xe s := by
  refine wpAny_call (codeAny_mono (F.run X.A X.stack s H args us vs Q E hg hr I.env0 hb r h) fun r s' hq => ?_)
  cases r with
  | error e => exact hx pins σ H s e s' I hq
  | ok fl =>
    cases fl with
    | ret u => exact I.after hq
    | next => cases hq
    | brk => cases hq
    | cont => cases hq
/-- f(e, ..) -/
theorem pe_cal (C : Cal X.prog X.w X.K X.mg X.base CX x k ps dvs sp) (hG : X.A.guards = some []) (hr : Room n X.A) (hx : Passes CX X E) (hg : Gl X x) (ha : PA X (e :: es) t) (hn : k ≤ n := by decide)
    (hdb : (x == ("__debug__" : Str)) = false := by decide) (he : starEach (e :: es) X.env = (false, eval e X.env) :: starEach es X.env := by rfl) (hpl : (backTo pos (starEach es X.env)).any (·.1) = false := by rfl) :
    PE X (.Call (.Name x p) (e :: es) [] pos) (tCall sp dvs E t) := by
  obtain ⟨f, fd, ds, hm, hk, hb, hd, F⟩ := C.ex
  refine ⟨fun pins s σ H Q I h => ?_⟩
  refine wpAny_Call_Name_kw (ld_glob I hg hm ?_ hdb)
  refine PySem.W.callWith_K (h₀ := X.base) I.ok.mod.kin hk (thn (ha.run pos pins s σ H _ I h) fun us s1 ⟨vs, H1, I1, r, q⟩ => ⟨I1.kIn, ?_⟩) he hpl
  have r2 : Vals (vs ++ dvs) (us ++ ds) := r.append hd
  have hl : (us ++ ds).length = ps.length := by
    rw [← r2.length]
    exact F.len _ _ _ _ q
  exact run_fnG (args := ⟨us, []⟩) F hG (hr.mono hn) hx I1 (hb s1 us I1.kIn hl) r2 q
theorem pe_cal0 (C : Cal X.prog X.w X.K X.mg X.base CX x k ps dvs sp) (hG : X.A.guards = some []) (hr : Room n X.A) (hx : Passes CX X E) (hg : Gl X x) (hn : k ≤ n := by decide)
    (hdb : (x == ("__debug__" : Str)) = false := by decide) : PE X (.Call (.Name x p) [] [] pos) (tCall sp dvs E tNil) := by
  obtain ⟨f, fd, ds, hm, hk, hb, hd, F⟩ := C.ex
  refine ⟨fun pins s σ H Q I h => ?_⟩
  refine wpAny_Call_Name_kw (ld_glob I hg hm ?_ hdb)
  refine PySem.W.callWith_K0 I.kIn hk ?_
  have hl : ([] ++ ds : List Value).length = ps.length := by
    rw [List.nil_append, ← hd.length]
    exact F.len _ _ _ _ h
  exact run_fnG (args := ⟨[], []⟩) F hG (hr.mono hn) hx I (hb s [] I.kIn hl) hd h
/-- a def of the module that a name stands for, called by keywords ks -/
structure CalK (P : Program) (w : World) (K : PySem.W.Frag) (mg : Str → Option Value) (base : Heap) (CX : CXT) (x : Str) (k : Nat) (ps : List Str) (m : Nat) (ks : List Str) (gV : List V → List V → List V) (sp : Sp) : Prop where
  ex : ∃ (f : Addr) (fd : FuncData) (g : List Value → List Value → List Value), mg x = some (.ref f) ∧ PySem.W.keepIn K (.ref f) = true ∧ KBn K fd ps m ks g gV ∧ FnG P w K mg base CX k f fd ps sp
/-- f(k = v, ..), keywords alone -/
theorem pe_calK {nm : Nat} (C : CalK X.prog X.w X.K X.mg X.base CX x k ps 0 ks gV sp) (hG : X.A.guards = some []) (hr : Room n X.A) (hx : Passes CX X E) (hg : Gl X x) (hkw : PK X kws tk) (hn : k ≤ n := by decide)
    (hall : (backToKw pos (keywordEach kws X.env)).all (·.1.isSome) = true := by rfl) (hks : (backToKw pos (keywordEach kws X.env)).filterMap (·.1) = ks := by rfl)
    (hdb : (x == ("__debug__" : Str)) = false := by decide)
    (hpl : ((backTo pos (starEach [] X.env)).any (·.1) || (backToKw pos (keywordEach kws X.env)).any (·.1.isNone)) = false := by rfl) :
    PE X (.Call (.Name x p) [] kws pos) (tCallN 0 ks.length sp gV E tNil tk) := by
  obtain ⟨f, fd, g, hm, hk, hb, F⟩ := C.ex
  refine ⟨fun pins s σ H Q I h => ?_⟩
  refine wpAny_Call_Name_kw (ld_glob I hg hm ?_ hdb)
  refine PySem.W.callWith_KW0 (h₀ := X.base) I.ok.mod.kin hk hall (thn (hkw.run pos pins s σ H _ I h) fun ws s2 ⟨zs, H2, I2, rz, q2⟩ => ⟨I2.kIn, ?_⟩) hpl
  rw [hks]
  obtain ⟨_, l2, q3⟩ := q2
  have r2 := hb.rel (vs := []) (us := []) .nil rz
  exact run_fnG (args := ⟨[], ks.zip ws⟩) F hG (hr.mono hn) hx I2 (hb.to s2 [] ws I2.kIn rfl (rz.length.symm.trans l2)) r2 q3
end

/-! ### heaps -/
/-- all that was tracked but w is as it was -/
def Frm (w : Addr) (H H' : Hp) : Prop := ∀ b o, b ≠ w → H b = some o → H' b = some o
theorem Frm.refl (w : Addr) (H : Hp) : Frm w H H := fun _ _ _ h => h
theorem Frm.trans {w : Addr} {H H1 H2 : Hp} (a : Frm w H H1) (b : Frm w H1 H2) : Frm w H H2 := fun c o n h => b c o n (a c o n h)
theorem Frm.of {w : Addr} {H H' : Hp} (s : Same H H') : Frm w H H' := fun b o _ h => s b o h
theorem Frm.upd {w : Addr} {H : Hp} {o : HO} : Frm w H (upd H w o) := fun b u n h => by rw [upd_ne n]; exact h
theorem Frm.new {w p : Addr} {H : Hp} {o : HO} (hp : H p = none) : Frm w H (L2.upd H p o) := fun b u _ h => by rw [upd_ne (ne_of_none h hp)]; exact h
theorem same_new {p : Addr} {H : Hp} {o : HO} (hp : H p = none) : Same H (upd H p o) := fun b u h => by rw [upd_ne (ne_of_none h hp)]; exact h
/-- the known tuples stay -/
def TS (H H' : Hp) : Prop := ∀ b o u, H b = some (.frz o u) → H' b = some (.frz o u)
theorem TS.refl (H : Hp) : TS H H := fun _ _ _ h => h
theorem TS.trans {H H1 H2 : Hp} (a : TS H H1) (b : TS H1 H2) : TS H H2 := fun c o u h => b c o u (a c o u h)
theorem TS.of {H H' : Hp} (s : Same H H') : TS H H' := fun b o u h => s b _ h
theorem Frm.ts {w : Addr} {H H' : Hp} {ys : List V} (f : Frm w H H') (h : H w = some (.lst ys)) : TS H H' := fun b o u q =>
  f b _ (ne_of q h (by intro z; cases z)) q
theorem Kt.mono {H H' : Hp} {a : Addr} {xs : List V} (h : Kt H a xs) (t : TS H H') : Kt H' a xs := by
  obtain ⟨o, h, d⟩ := h
  exact ⟨o, t _ _ _ h, d⟩
theorem Kt.ne {H : Hp} {a l : Addr} {xs ys : List V} (h : Kt H a xs) (g : H l = some (.lst ys)) : a ≠ l := by
  obtain ⟨o, h, _⟩ := h
  exact ne_of h g (by intro z; cases z)

/-! ### reading step by step: one rule a reading's head -/
section
variable {σ : St} {H : Hp} {Q : VK} {K : PySem.W.Frag}
theorem r_var {i : Nat} {v : V} (h : σ[i]? = some (some v)) (q : Q v H) : tVar i σ H Q := ⟨v, h, q⟩
theorem r_c {v : V} (q : Q v H) : tC v σ H Q := q
theorem r_op {r : R2} {ta tb : TE} (h : ta σ H fun x H1 => tb σ H1 fun y H2 => r x y H2 Q) : tOp r ta tb σ H Q := h
theorem r_i0 {g : Int → Int → V} {i j : Int} (q : Q (g i j) H) : rI0 g (.int i) (.int j) H Q := ⟨i, j, rfl, rfl, q⟩
theorem r_i1 {C : Int → Int → Prop} {g : Int → Int → V} {i j : Int} (c : C i j) (q : Q (g i j) H) : rI C g (.int i) (.int j) H Q := ⟨i, j, rfl, rfl, c, q⟩
theorem r_ix {p : Addr} {xs : List V} {i : Int} {v : V} (h : SqL K H p xs ∨ SqT K H p xs) (a : atI xs i = some v) (q : Q v H) : rIxA K (.ref p) (.int i) H Q := ⟨p, xs, i, v, rfl, rfl, h, a, q⟩
theorem r_test {t : TE} {R : Bool → Hp → Prop} (h : t σ H fun x H' => ∃ k, x = .bl k ∧ R k H') : tTest t σ H R := h
theorem r_tb {t : TE} {R : Bool → Hp → Prop} (h : t σ H fun x H' => ∃ k, x = .bl k ∧ R k H') : tB t σ H R := h
theorem r_bl {b : Bool} {R : Bool → Prop} (q : R b) : ∃ k, V.bl b = .bl k ∧ R k := ⟨b, rfl, q⟩
theorem r_eq {x y : V} (h : scal x y = true) (q : Q (.bl (decide (x = y))) H) : rEq x y H Q := ⟨h, q⟩
theorem r_ne {x y : V} (h : scal x y = true) (q : Q (.bl (!decide (x = y))) H) : rNe x y H Q := ⟨h, q⟩
theorem r_call {sp : Sp} {dvs : List V} {E : XK} {t : TA} (h : t σ H fun vs H1 => sp (vs ++ dvs) H1 Q E) : tCall sp dvs E t σ H Q := h
theorem r_cons {ta : TE} {tr : TA} {R : List V → Hp → Prop} (h : ta σ H fun x H1 => tr σ H1 fun xs H2 => R (x :: xs) H2) : tCons ta tr σ H R := h
theorem r_nil {R : List V → Hp → Prop} (q : R [] H) : tNil σ H R := q
theorem r_cb {r : List V → Hp → VK → Prop} {t : TA} (h : t σ H fun vs H1 => r vs H1 Q) : tCB r t σ H Q := h
theorem r_lst {t : TA} (h : t σ H fun xs H1 => xs.length ≤ sizeLine ∧ ∀ p, H1 p = none → Q (.ref p) (upd H1 p (.lst xs))) : tLst t σ H Q := h
theorem r_tup {t : TA} (h : t σ H fun xs H1 => xs.length ≤ sizeLine ∧ ∀ p, H1 p = none → Q (.ref p) (upd H1 p (.tup xs))) : tTup t σ H Q := h
theorem r_tupF {t : TA} (h : t σ H fun xs H1 => xs.length ≤ sizeLine ∧ ∀ p u, H1 p = none → TupO u xs → Q (.ref p) (upd H1 p u)) : tTupF t σ H Q := h
theorem r_if {t : TT} {ta tb : TE} (h : t σ H fun c H1 => if c = true then ta σ H1 Q else tb σ H1 Q) : tIf t ta tb σ H Q := h
theorem r_and {t u : TT} {R : Bool → Hp → Prop} (h : t σ H fun c H1 => if c = true then u σ H1 R else R false H1) : tAnd t u σ H R := h
theorem r_or {t u : TT} {R : Bool → Hp → Prop} (h : t σ H fun c H1 => if c = true then R true H1 else u σ H1 R) : tOr t u σ H R := h
theorem r_not {t : TT} {R : Bool → Hp → Prop} (h : t σ H fun c H1 => R (!c) H1) : tNot t σ H R := h
variable {D : Ends} {t u : L2.TS}
theorem r_seq (h : t { D with nx := u D } σ H) : tSeq t u D σ H := h
theorem r_asg {te : TE} {g : TG} (h : te σ H fun x H1 => g x σ H1 D.nx) : tAsg te g D σ H := h
theorem r_name {i : Nat} {v : V} {R : St → Hp → Prop} (q : R (σ.set i (some v)) H) : gName i v σ H R := q
theorem r_drop {te : TE} (h : te σ H fun _ H1 => D.nx σ H1) : tDrop te D σ H := h
theorem r_ret {te : TE} (h : te σ H D.rt) : tRet te D σ H := h
theorem r_ifs {c : TT} (h : c σ H fun b H1 => if b = true then t D σ H1 else u D σ H1) : tIfS c t u D σ H := h
theorem r_next (q : D.nx σ H) : tNext D σ H := q
theorem r_gsub {to ti : TE} {s : TSet} {v : V} {R : St → Hp → Prop} (h : to σ H fun o H1 => ti σ H1 fun i H2 => s o i v H2 fun H3 => R σ H3) : gSub to ti s v σ H R := h
theorem r_setL {p : Addr} {xs : List V} {k : Int} {j : Nat} {v : V} {R : Hp → Prop} (h : H p = some (.lst xs)) (e : ixN xs.length k = some j) (q : R (upd H p (.lst (xs.set j v)))) : rSetL (.ref p) (.int k) v H R := ⟨p, xs, k, j, rfl, rfl, h, e, q⟩
theorem ifD {p : Prop} [Decidable p] {A B : Prop} (h1 : p → A) (h2 : ¬ p → B) : if decide p = true then A else B := by
  by_cases h : p
  · rw [if_pos (decide_eq_true h)]
    exact h1 h
  · rw [if_neg (by rw [decide_eq_false h]; exact Bool.false_ne_true)]
    exact h2 h
theorem ifN {p : Prop} [Decidable p] {A B : Prop} (h1 : ¬ p → A) (h2 : p → B) : if (!decide p) = true then A else B := by
  by_cases h : p
  · rw [decide_eq_true h, if_neg (by decide)]
    exact h2 h
  · rw [decide_eq_false h, if_pos (by decide)]
    exact h1 h
theorem r_for {wi : TI} {g : TG} {tb : L2.TS} (h : wi σ H fun J H1 => ∃ W : Nat → Nat → St → Hp → Prop, (∃ m, W 0 m σ H1) ∧ ∀ i m σ H, W i m σ H →
    (J.stop i H ∧ D.nx σ H) ∨ (J.go i H ∧ ∃ N : St → Hp → Prop, (∀ σ' H', N σ' H' → ∃ m', m' < m ∧ W (i + 1) m' σ' H') ∧ ∀ x H', J.yld i H x H' → g x σ H' fun σ2 H2 => tb { D with nx := N, ct := N, bk := D.nx } σ2 H2)) : tFor wi g tb D σ H := h
theorem r_ilist {tl : TE} {R : It → Hp → Prop} (h : tl σ H fun x H1 => ∃ a, x = .ref a ∧ (∃ xs, SqL K H1 a xs) ∧ R (Itl K a) H1) : iList K tl σ H R := h
theorem r_itup {tl : TE} {R : It → Hp → Prop} (h : tl σ H fun x H1 => ∃ a, x = .ref a ∧ (∃ xs, SqT K H1 a xs) ∧ R (Itt K a) H1) : iTup K tl σ H R := h
theorem r_irng {ta : TA} {R : It → Hp → Prop} (h : ta σ H fun vs H1 => ∃ j : Int, vs = [.int j] ∧ -(2 ^ 62) ≤ j ∧ j < 2 ^ 62 ∧ R (Itr 0 j.toNat) H1) : iRng1 ta σ H R := h
theorem r_lc {wi : TI} {g : TG} {tt : TT} {te : TE} {vs : List Nat} (h : wi σ H fun J H1 => ∀ D, H1 D = none → ∃ W : Nat → Nat → Hp → Prop, (∃ m, W 0 m (upd H1 D (.lst []))) ∧ ∀ i m H, W i m H →
    (J.stop i H ∧ Q (.ref D) H) ∨ (J.go i H ∧ ∃ Nx : Hp → Prop, (∀ H', Nx H' → ∃ m', m' < m ∧ W (i + 1) m' H') ∧ ∀ x H', J.yld i H x H' → g x (wipe σ vs) H' fun σ2 H2 => wipe σ2 vs = wipe σ vs ∧ tt σ2 H2 fun b H3 =>
      if b = true then te σ2 H3 fun y H4 => ∃ acc, H4 D = some (.lst acc) ∧ acc.length < sizeLine ∧ Nx (upd H4 D (.lst (acc ++ [y]))) else Nx H3)) : tLc wi g tt te vs σ H Q := h
theorem r_yes {R : Bool → Hp → Prop} (q : R true H) : tYes σ H R := q
theorem r_true {A B : Prop} (h : A) : if true = true then A else B := iteT h
theorem r_false {A B : Prop} (h : B) : if false = true then A else B := iteF h
theorem r_bm {T : String} {r : V → List V → Hp → VK → Prop} {to : TE} {t : TA} (h : to σ H fun x H1 => tyV K T x H1 ∧ t σ H1 fun xs H2 => r x xs H2 Q) : tBM K T r to t σ H Q := h
theorem r_app {l : Addr} {xs : List V} {y : V} (h : H l = some (.lst xs)) (z : xs.length < sizeLine) (q : Q .non (upd H l (.lst (xs ++ [y])))) : rAppend (.ref l) [y] H Q := ⟨l, xs, y, rfl, rfl, h, z, q⟩
theorem r_par {i j : Nat} {ta : TA} (h : ta σ H fun vs H1 => ∃ v w, vs = [v, w] ∧ D.nx ((σ.set i (some v)).set j (some w)) H1) : tPar i j ta D σ H := h
theorem r_gtup {n : Nat} {t : TGs} {a : Addr} {xs : List V} {R : St → Hp → Prop} (h : SqT K H a xs) (e : xs.length = n) (q : t xs σ H R) : gTup K n t (.ref a) σ H R := ⟨a, xs, rfl, h, e, q⟩
theorem r_gcons {t : TG} {u : TGs} {v : V} {r : List V} {R : St → Hp → Prop} (q : t v σ H fun σ' H' => u r σ' H' R) : gCons t u (v :: r) σ H R := ⟨v, r, rfl, q⟩
theorem r_gnil {R : St → Hp → Prop} (q : R σ H) : gNil [] σ H R := ⟨rfl, q⟩
theorem tyL {l : Addr} {xs : List V} (h : H l = some (.lst xs)) : tyV K "list" (.ref l) H := .inl ⟨rfl, _, SqL.of h⟩
end

theorem at_int {α : Type} {xs : List α} {i : Int} {v : α} (h0 : 0 ≤ i) (h : xs[i.toNat]? = some v) : atI xs i = some v := by
  have q := atI_nat h
  rw [show ((i.toNat : Nat) : Int) = i by omega] at q
  exact q
theorem get_int {ns : List Int} {j : Nat} {n : Int} (h : ns[j]? = some n) : (ns.map V.int)[j]? = some (.int n) := by
  rw [List.getElem?_map, h] <;> rfl
/-! ### sizes of ints -/
theorem bits_of_lt {a : Int} {n : Nat} (h : a.natAbs < 2 ^ n) : Builtin.Int.intBits a ≤ n := by
  unfold Builtin.Int.intBits
  split
  · exact Nat.zero_le _
  · rename_i e
    have n0 : a.natAbs ≠ 0 := fun q => e (by simp [Int.natAbs_eq_zero.mp q])
    exact (Nat.log2_lt n0).mpr h
theorem lt_of_bits (a : Int) : a.natAbs < 2 ^ Builtin.Int.intBits a := by
  unfold Builtin.Int.intBits
  split
  · rename_i e
    have e1 : a = 0 := by simpa using e
    subst e1
    decide
  · exact Nat.lt_log2_self
theorem bits_mono {a b : Int} (h : a.natAbs ≤ b.natAbs) : Builtin.Int.intBits a ≤ Builtin.Int.intBits b := bits_of_lt (Nat.lt_of_le_of_lt h (lt_of_bits b))
theorem pow_ok {a j : Int} {n : Nat} (h : a.natAbs < 2 ^ n) (h0 : 0 ≤ j) (hz : (n : Int) * j ≤ 2 ^ 27) : CPowW a j := by
  refine ⟨h0, Int.le_trans (Int.mul_le_mul_of_nonneg_right ?_ h0) hz⟩
  exact Int.ofNat_le.mpr (bits_of_lt h)
theorem pow_bits {a j : Int} {n : Nat} (h : Builtin.Int.intBits a ≤ n) (h0 : 0 ≤ j) (hz : (n : Int) * j ≤ 2 ^ 27) : CPowW a j := by
  refine ⟨h0, Int.le_trans (Int.mul_le_mul_of_nonneg_right ?_ h0) hz⟩
  exact Int.ofNat_le.mpr h
end Tug
set_option Elab.async false
set_option linter.all false
set_option maxRecDepth 100000
set_option maxHeartbeats 4000000
/-! Tug, part B: data of tuples, and what the laws' own drawing defs promise. -/
namespace Tug
open PySem PySem.Spec L2
open PyProof.Rows hiding St

/-! ### data without lists: no run changes it -/
mutual
inductive Tp (H : Hp) : V → PyData → Prop
  | non : Tp H .non .none
  | bl (b : Bool) : Tp H (.bl b) (.bool b)
  | int (i : Int) : Tp H (.int i) (.int i)
  | str (x : Str) : Tp H (.str x) (.str x)
  | tup {a : Addr} {xs : List V} {ds : List PyData} : Kt H a xs → TpAll H xs ds → Tp H (.ref a) (.tuple ds)
inductive TpAll (H : Hp) : List V → List PyData → Prop
  | nil : TpAll H [] []
  | cons {v : V} {vs : List V} {d : PyData} {ds : List PyData} : Tp H v d → TpAll H vs ds → TpAll H (v :: vs) (d :: ds)
end
section
variable {H H' : Hp} {K : PySem.W.Frag}
mutual
theorem Tp.mono (t : TS H H') : ∀ (d : PyData) (v : V), Tp H v d → Tp H' v d
  | .none, v, h => by cases h; exact .non
  | .bool b, v, h => by cases h; exact .bl b
  | .int i, v, h => by cases h; exact .int i
  | .str x, v, h => by cases h; exact .str x
  | .list ds, v, h => by cases h
  | .dict ds, v, h => by cases h
  | .tuple ds, v, h => by
    cases h with
    | tup ha hs => exact .tup (ha.mono t) (Tp.monoAll t ds _ hs)
theorem Tp.monoAll (t : TS H H') : ∀ (ds : List PyData) (vs : List V), TpAll H vs ds → TpAll H' vs ds
  | [], vs, h => by cases h; exact .nil
  | d :: ds, vs, h => by
    cases h with
    | cons h1 h2 => exact .cons (Tp.mono t d _ h1) (Tp.monoAll t ds _ h2)
end
mutual
theorem Tp.dp : ∀ (d : PyData) (v : V), Tp H v d → Dp K H v d
  | .none, v, h => by cases h; exact .non
  | .bool b, v, h => by cases h; exact .bl b
  | .int i, v, h => by cases h; exact .int i
  | .str x, v, h => by cases h; exact .str x
  | .list ds, v, h => by cases h
  | .dict ds, v, h => by cases h
  | .tuple ds, v, h => by
    cases h with
    | tup ha hs => exact .tup ha.sq (Tp.dpAll ds _ hs)
theorem Tp.dpAll : ∀ (ds : List PyData) (vs : List V), TpAll H vs ds → DpAll K H vs ds
  | [], vs, h => by cases h; exact .nil
  | d :: ds, vs, h => by
    cases h with
    | cons h1 h2 => exact .cons (Tp.dp d _ h1) (Tp.dpAll ds _ h2)
end
theorem TpAll.append : ∀ {xs ys : List V} {ds es : List PyData}, TpAll H xs ds → TpAll H ys es → TpAll H (xs ++ ys) (ds ++ es)
  | [], ys, ds, es, h, g => by cases h; exact g
  | x :: xs, ys, ds, es, h, g => by
    cases h with
    | cons h1 h2 => exact .cons h1 (TpAll.append h2 g)
theorem TpAll.length : ∀ {xs : List V} {ds : List PyData}, TpAll H xs ds → xs.length = ds.length
  | [], ds, h => by cases h; rfl
  | x :: xs, ds, h => by
    cases h with
    | cons h1 h2 => rw [List.length_cons, List.length_cons, TpAll.length h2]
theorem TpAll.get : ∀ {xs : List V} {ds : List PyData} {i : Nat} {x : V}, TpAll H xs ds → xs[i]? = some x → ∃ d, ds[i]? = some d ∧ Tp H x d
  | [], ds, i, x, h, e => by simp at e
  | y :: xs, ds, 0, x, h, e => by
    cases h with
    | cons h1 h2 =>
      simp at e
      subst e
      exact ⟨_, rfl, h1⟩
  | y :: xs, ds, i + 1, x, h, e => by
    cases h with
    | cons h1 h2 =>
      obtain ⟨d, e1, e2⟩ := TpAll.get h2 (show xs[i]? = some x by simpa using e)
      exact ⟨d, by simpa using e1, e2⟩
theorem TpAll.snoc {xs : List V} {ds : List PyData} {x : V} {d : PyData} (h : TpAll H xs ds) (g : Tp H x d) : TpAll H (xs ++ [x]) (ds ++ [d]) := h.append (.cons g .nil)
theorem Tp.of_tuple {v : V} {ds : List PyData} (h : Tp H v (.tuple ds)) : ∃ a xs, v = .ref a ∧ Kt H a xs ∧ TpAll H xs ds := by
  cases h with
  | tup ha hs => exact ⟨_, _, rfl, ha, hs⟩
theorem Tp.of_int {v : V} {i : Int} (h : Tp H v (.int i)) : v = .int i := by cases h; rfl
theorem TpAll.of_cons {vs : List V} {d : PyData} {ds : List PyData} (h : TpAll H vs (d :: ds)) : ∃ x r, vs = x :: r ∧ Tp H x d ∧ TpAll H r ds := by
  cases h with
  | cons h1 h2 => exact ⟨_, _, rfl, h1, h2⟩
theorem TpAll.of_nil {vs : List V} (h : TpAll H vs []) : vs = [] := by cases h; rfl
/-- a tuple of two -/
theorem Tp.pair {v : V} {d e : PyData} (h : Tp H v (.tuple [d, e])) : ∃ a x y, v = .ref a ∧ Kt H a [x, y] ∧ Tp H x d ∧ Tp H y e := by
  obtain ⟨a, xs, rfl, ha, hs⟩ := h.of_tuple
  obtain ⟨x, r, rfl, hx, hr⟩ := hs.of_cons
  obtain ⟨y, r2, rfl, hy, hr2⟩ := hr.of_cons
  obtain rfl := hr2.of_nil
  exact ⟨a, x, y, rfl, ha, hx, hy⟩
theorem TpAll.ints : ∀ ns : List Int, TpAll H (ns.map V.int) (ns.map PyData.int)
  | [] => .nil
  | n :: ns => .cons (.int n) (TpAll.ints ns)
end

/-! ### the drawing defs of the laws -/
/-- a well stands at w -/
def Wl (w : Addr) (H : Hp) : Prop := ∃ o s : Int, H w = some (.lst [.int o, .int s]) ∧ 0 ≤ o ∧ Builtin.Int.intBits o ≤ 1048577 ∧ 0 ≤ s ∧ s < 2147483648
theorem Wl.ts {w : Addr} {H H' : Hp} (h : Wl w H) (f : Frm w H H') : TS H H' := by
  obtain ⟨o, s, h, _⟩ := h
  exact f.ts h
/-- all else stays, the well is one again -/
structure Drawn (w : Addr) (H H' : Hp) : Prop where
  frm : Frm w H H'
  wl : Wl w H'
theorem Drawn.trans {w : Addr} {H H1 H2 : Hp} (a : Drawn w H H1) (b : Drawn w H1 H2) : Drawn w H H2 := ⟨a.frm.trans b.frm, b.wl⟩
theorem Wl.there {w : Addr} {H : Hp} (h : Wl w H) : ∃ u, H w = some u := by
  obtain ⟨o, s, h, _⟩ := h
  exact ⟨_, h⟩
theorem Wl.ne {w p : Addr} {H : Hp} (h : Wl w H) (hp : H p = none) : p ≠ w := by
  obtain ⟨u, h⟩ := h.there
  exact (ne_of_none h hp).symm
theorem Wl.upd {w p : Addr} {H : Hp} {o : HO} (h : Wl w H) (n : p ≠ w) : Wl w (L2.upd H p o) := by
  obtain ⟨o, s, h, r⟩ := h
  exact ⟨o, s, by rw [upd_ne n.symm]; exact h, r⟩
theorem Wl.new {w p : Addr} {H : Hp} {o : HO} (h : Wl w H) (hp : H p = none) : Wl w (L2.upd H p o) := h.upd (h.ne hp)
theorem Drawn.refl {w : Addr} {H : Hp} (h : Wl w H) : Drawn w H H := ⟨Frm.refl w H, h⟩
theorem Drawn.new {w p : Addr} {H : Hp} {o : HO} (h : Wl w H) (hp : H p = none) : Drawn w H (upd H p o) := ⟨Frm.new hp, h.new hp⟩
/-- what was new may change -/
theorem Drawn.mut {w p : Addr} {H H' : Hp} {o : HO} (d : Drawn w H H') (hp : H p = none) (n : p ≠ w) : Drawn w H (upd H' p o) :=
  ⟨fun b u hb e => by rw [upd_ne (ne_of_none e hp)]; exact d.frm b u hb e, d.wl.upd n⟩
theorem Drawn.more {w p : Addr} {H H' : Hp} {o : HO} (d : Drawn w H H') (hp : H' p = none) : Drawn w H (upd H' p o) := d.trans (Drawn.new d.wl hp)
/-- what is new behind was new ahead -/
theorem Drawn.free {w p : Addr} {H H' : Hp} (d : Drawn w H H') (h : Wl w H) (hp : H' p = none) : H p = none := by
  cases q : H p with
  | none => rfl
  | some u =>
    by_cases e : p = w
    · subst e
      obtain ⟨u, hu⟩ := d.wl.there
      rw [hp] at hu
      cases hu
    · rw [d.frm _ _ e q] at hp
      cases hp
def spWell (K : PySem.W.Frag) : Sp := fun vs H Q _ => ∃ (a : Addr) (ns : List Int) (k : Int), vs = [.ref a, .int k] ∧ SqL K H a (ns.map V.int) ∧ ns.length ≤ 63 ∧ (∀ z ∈ ns, Builtin.Int.intBits z ≤ 1048576) ∧ 0 ≤ k ∧ k ≤ 5 ∧
  ∀ w H', H w = none → Same H H' → Wl w H' → Q (.ref w) H'
def spDraw : Sp := fun vs H Q _ => ∃ (w : Addr) (m : Int), vs = [.ref w, .int m] ∧ Wl w H ∧ 0 < m ∧ m ≤ 10 ^ 70 ∧ ∀ (r : Int) H', 0 ≤ r → r < m → Drawn w H H' → Q (.int r) H'
def spPick (K : PySem.W.Frag) : Sp := fun vs H Q _ => ∃ (w l : Addr) (xs : List V), vs = [.ref w, .ref l] ∧ Wl w H ∧ l ≠ w ∧ (SqL K H l xs ∨ SqT K H l xs) ∧ xs ≠ [] ∧ xs.length ≤ 1000 ∧
  ∀ x H', x ∈ xs → Drawn w H H' → Q x H'
/-- a number of some sixty figures -/
def Nm (i : Int) : Prop := -(2 * 10 ^ 59) ≤ i ∧ i ≤ 2 * 10 ^ 59
def spNumber : Sp := fun vs H Q _ => ∃ w : Addr, vs = [.ref w] ∧ Wl w H ∧ ∀ (i : Int) H', Nm i → Drawn w H H' → Q (.int i) H'

/-! ### forms -/
def prD (p : Int × Int) : PyData := .tuple [.int p.1, .int p.2]
def fmD (n : Int) (ps : List (Int × Int)) : PyData := .tuple [.int n, .tuple (ps.map prD)]
/-- the pairs of a form of the first so many knobs: rising, none of 0, none too great -/
structure PsOk (many : Int) (ps : List (Int × Int)) : Prop where
  rise : (ps.map (·.1)).Pairwise (· < ·)
  at_ : ∀ p ∈ ps, 0 ≤ p.1 ∧ p.1 < many ∧ p.2 ≠ 0 ∧ Nm p.2
theorem PsOk.mono {m n : Int} {ps : List (Int × Int)} (h : PsOk m ps) (e : m ≤ n) : PsOk n ps :=
  ⟨h.rise, fun p hp => let ⟨a, b, c, d⟩ := h.at_ p hp; ⟨a, by omega, c, d⟩⟩
theorem PsOk.snoc {m k : Int} {ps : List (Int × Int)} (h : PsOk m ps) (h0 : 0 ≤ m) (hk : k ≠ 0) (hn : Nm k) : PsOk (m + 1) (ps ++ [(m, k)]) := by
  constructor
  · rw [List.map_append, List.pairwise_append]
    refine ⟨h.rise, by simp, fun a ha b hb => ?_⟩
    obtain ⟨p, hp, rfl⟩ := List.mem_map.mp ha
    have e : b = m := by simpa using hb
    subst e
    exact (h.at_ p hp).2.1
  · intro p hp
    rcases List.mem_append.mp hp with hp | hp
    · obtain ⟨a, b, c, d⟩ := h.at_ p hp
      exact ⟨a, by omega, c, d⟩
    · have e : p = (m, k) := by simpa using hp
      subst e
      exact ⟨h0, by show m < m + 1; omega, hk, hn⟩
theorem PsOk.nil (m : Int) : PsOk m [] := ⟨by simp, by simp⟩
def spForm : Sp := fun vs H Q _ => ∃ (w : Addr) (m : Int), vs = [.ref w, .int m] ∧ Wl w H ∧ 0 ≤ m ∧ m ≤ 30 ∧
  ∀ (v : V) (n : Int) (ps : List (Int × Int)) H', Nm n → PsOk m ps → (ps.length : Int) ≤ m → Tp H' v (fmD n ps) → Drawn w H H' → Q v H'
end Tug
set_option Elab.async false
set_option linter.all false
set_option maxRecDepth 100000
set_option maxHeartbeats 4000000
/-! Tug, part C: data that may be shown and compared; sizes. -/
namespace Tug
open PySem PySem.Spec L2
open PyProof.Rows hiding St

/-! ### sizes -/
/-- below so many bits -/
def Sz (k : Nat) (i : Int) : Prop := i.natAbs < 2 ^ k
theorem Sz.mono {j k : Nat} {i : Int} (h : Sz j i) (l : j ≤ k) : Sz k i := Nat.lt_of_lt_of_le h (Nat.pow_le_pow_right (by decide) l)
theorem Sz.mul {j k : Nat} {a b : Int} (h : Sz j a) (g : Sz k b) : Sz (j + k) (a * b) := wide_lt h g
theorem Sz.add {k : Nat} {a b : Int} (h : Sz k a) (g : Sz k b) : Sz (k + 1) (a + b) := by
  unfold Sz at *
  rw [Nat.pow_succ]
  omega
theorem Sz.sub {k : Nat} {a b : Int} (h : Sz k a) (g : Sz k b) : Sz (k + 1) (a - b) := by
  unfold Sz at *
  rw [Nat.pow_succ]
  omega
theorem Sz.neg {k : Nat} {a : Int} (h : Sz k a) : Sz k (-a) := by
  unfold Sz at *
  omega
theorem Sz.log {k : Nat} {a : Int} (h : Sz k a) (h0 : 0 < k) : a.natAbs.log2 < k := PySem.Flt.log2_lt_of h0 h
theorem Sz.zero {k : Nat} : Sz k 0 := by
  unfold Sz
  exact Nat.two_pow_pos k
/-- a sum of few -/
theorem Sz.sum {k : Nat} : ∀ {l : List Int} {m : Nat}, (∀ x ∈ l, Sz k x) → l.length < 2 ^ m → Sz (k + m) l.sum := by
  have go : ∀ l : List Int, (∀ x ∈ l, Sz k x) → l.sum.natAbs ≤ l.length * 2 ^ k := by
    intro l
    induction l with
    | nil => intro _; simp
    | cons a l ih =>
      intro h
      have h1 := ih fun x hx => h x (List.mem_cons_of_mem _ hx)
      have h2 : a.natAbs < 2 ^ k := h a List.mem_cons_self
      rw [List.sum_cons, List.length_cons, Nat.add_mul, Nat.one_mul]
      omega
  intro l m h hl
  unfold Sz
  refine Nat.lt_of_le_of_lt (go l h) ?_
  rw [Nat.pow_add, Nat.mul_comm]
  exact Nat.mul_lt_mul_of_pos_left hl (Nat.two_pow_pos k)
theorem Nm.sz {i : Int} (h : Nm i) : Sz 200 i := by
  unfold Nm at h
  unfold Sz
  omega
theorem sz_small {i : Int} (h : -1000000000000000000 ≤ i) (g : i ≤ 1000000000000000000) : Sz 64 i := by
  unfold Sz
  omega
theorem Sz.cmul {j k : Nat} {a b : Int} (h : Sz j a) (g : Sz k b) (h0 : 0 < j) (h1 : 0 < k) (h2 : j + k ≤ 1000000) : CMulW a b := wide_mul h g h0 h1 h2

/-! ### data that may be shown -/
mutual
def fine : PyData → Bool
  | .none | .bool _ => true
  | .int i => decide (i.natAbs.log2 < 1920)
  | .str x => PyData.strOk x && x.cps.toList.all fun c => decide (c < 16 ^ 8)
  | .list xs | .tuple xs => fineAll xs
  | .dict _ => false
def fineAll : List PyData → Bool
  | [] => true
  | x :: xs => fine x && fineAll xs
end
mutual
theorem fine_showable : ∀ d : PyData, fine d = true → d.showable = true
  | .none, _ => by simp only [PyData.showable]
  | .bool _, _ => by simp only [PyData.showable]
  | .int i, h => by simpa only [PyData.showable, fine] using h
  | .str _, _ => by simp only [PyData.showable]
  | .list xs, h => by
    simp only [PyData.showable]
    exact fine_showableAll xs (by simpa only [fine] using h)
  | .tuple xs, h => by
    simp only [PyData.showable]
    exact fine_showableAll xs (by simpa only [fine] using h)
  | .dict _, h => by simp [fine] at h
theorem fine_showableAll : ∀ xs : List PyData, fineAll xs = true → PyData.showableAll xs = true
  | [], _ => by simp only [PyData.showableAll]
  | x :: xs, h => by
    have h' : fine x = true ∧ fineAll xs = true := by simpa only [fineAll, Bool.and_eq_true] using h
    simp only [PyData.showableAll, fine_showable x h'.1, fine_showableAll xs h'.2, Bool.and_self]
end
mutual
theorem fine_lay : ∀ d : PyData, fine d = true → d.canLay0 = true
  | .none, _ => by simp only [PyData.canLay0]
  | .bool _, _ => by simp only [PyData.canLay0]
  | .int i, h => by simp only [PyData.canLay0]
  | .str x, h => by
    simp only [fine, Bool.and_eq_true] at h
    simpa only [PyData.canLay0] using h.1
  | .list xs, h => by
    simp only [PyData.canLay0]
    exact fine_layAll xs (by simpa only [fine] using h)
  | .tuple xs, h => by
    simp only [PyData.canLay0]
    exact fine_layAll xs (by simpa only [fine] using h)
  | .dict _, h => by simp [fine] at h
theorem fine_layAll : ∀ xs : List PyData, fineAll xs = true → PyData.canLayAll0 xs = true
  | [], _ => by simp only [PyData.canLayAll0]
  | x :: xs, h => by
    have h' : fine x = true ∧ fineAll xs = true := by simpa only [fineAll, Bool.and_eq_true] using h
    simp only [PyData.canLayAll0, fine_lay x h'.1, fine_layAll xs h'.2, Bool.and_self]
end
mutual
theorem fine_short : ∀ d : PyData, fine d = true → d.leavesShort 1921 = true
  | .none, _ => by simp only [PyData.leavesShort]
  | .bool _, _ => by simp only [PyData.leavesShort]
  | .int i, h => by
    simp only [PyData.leavesShort, decide_eq_true_eq]
    have h' : i.natAbs.log2 < 1920 := by simpa only [fine, decide_eq_true_eq] using h
    have e : PyData.shown (.int i) = Str.ofString (toString i) := by simp only [PyData.shown]
    rw [e]
    exact int_text_len_1921 h'
  | .str x, h => by
    simp only [fine, Bool.and_eq_true] at h
    simpa only [PyData.leavesShort] using h.2
  | .list xs, h => by
    simp only [PyData.leavesShort]
    exact fine_shortAll xs (by simpa only [fine] using h)
  | .tuple xs, h => by
    simp only [PyData.leavesShort]
    exact fine_shortAll xs (by simpa only [fine] using h)
  | .dict _, h => by simp [fine] at h
theorem fine_shortAll : ∀ xs : List PyData, fineAll xs = true → PyData.leavesShortAll 1921 xs = true
  | [], _ => by simp only [PyData.leavesShortAll]
  | x :: xs, h => by
    have h' : fine x = true ∧ fineAll xs = true := by simpa only [fineAll, Bool.and_eq_true] using h
    simp only [PyData.leavesShortAll, fine_short x h'.1, fine_shortAll xs h'.2, Bool.and_self]
end
mutual
theorem eqv_self : ∀ d : PyData, fine d = true → PyData.eqv d d = true
  | .none, _ => by simp only [PyData.eqv]
  | .bool _, _ => by simp [PyData.eqv]
  | .int i, h => by simp [PyData.eqv]
  | .str x, h => by simp [PyData.eqv]
  | .list xs, h => by
    simp only [PyData.eqv]
    exact eqv_selfAll xs (by simpa only [fine] using h)
  | .tuple xs, h => by
    simp only [PyData.eqv]
    exact eqv_selfAll xs (by simpa only [fine] using h)
  | .dict _, h => by simp [fine] at h
theorem eqv_selfAll : ∀ xs : List PyData, fineAll xs = true → PyData.eqvAll xs xs = true
  | [], _ => by simp only [PyData.eqvAll]
  | x :: xs, h => by
    have h' : fine x = true ∧ fineAll xs = true := by simpa only [fineAll, Bool.and_eq_true] using h
    simp only [PyData.eqvAll, eqv_self x h'.1, eqv_selfAll xs h'.2, Bool.and_self]
end
theorem neqv_self {d : PyData} (h : fine d = true) : (!PyData.eqv d d) = false := by
  rw [eqv_self d h] <;> rfl
/-- fine, so deep and so many at the most -/
structure Fd (d : PyData) (n b : Nat) : Prop where
  f : fine d = true
  dp : d.depth ≤ n
  bk : d.bulk ≤ b
structure FdA (ds : List PyData) (n b : Nat) : Prop where
  f : fineAll ds = true
  dp : PyData.depthAll ds ≤ n
  bk : PyData.bulkAll ds ≤ b
theorem Fd.mono {d : PyData} {n b m c : Nat} (h : Fd d n b) (h1 : n ≤ m) (h2 : b ≤ c) : Fd d m c := ⟨h.f, Nat.le_trans h.dp h1, Nat.le_trans h.bk h2⟩
theorem Fd.none : Fd .none 0 0 := ⟨rfl, by simp [PyData.depth], by simp [PyData.bulk]⟩
theorem Fd.bl {b : Bool} : Fd (.bool b) 0 0 := ⟨by simp [fine], by simp [PyData.depth], by simp [PyData.bulk]⟩
theorem Fd.int {i : Int} (h : Sz 1900 i) : Fd (.int i) 0 0 := ⟨by simpa [fine] using Nat.lt_of_lt_of_le (h.log (by decide)) (by decide : 1900 ≤ 1920), by simp [PyData.depth], by simp [PyData.bulk]⟩
theorem Fd.tup {ds : List PyData} {n b : Nat} (h : FdA ds n b) : Fd (.tuple ds) (n + 1) b := ⟨by simpa [fine] using h.f, by simpa [PyData.depth] using h.dp, by simpa [PyData.bulk] using h.bk⟩
theorem Fd.lst {ds : List PyData} {n b : Nat} (h : FdA ds n b) : Fd (.list ds) (n + 1) b := ⟨by simpa [fine] using h.f, by simpa [PyData.depth] using h.dp, by simpa [PyData.bulk] using h.bk⟩
theorem FdA.nil {n : Nat} : FdA [] n 0 := ⟨by simp [fineAll], by simp [PyData.depthAll], by simp [PyData.bulkAll]⟩
theorem FdA.cons {d : PyData} {ds : List PyData} {n b c : Nat} (h : Fd d n b) (g : FdA ds n c) : FdA (d :: ds) n (b + 1 + c) := by
  refine ⟨by simp [fineAll, h.f, g.f], ?_, ?_⟩
  · simp only [PyData.depthAll]
    have := h.dp
    have := g.dp
    omega
  · simp only [PyData.bulkAll]
    have := h.bk
    have := g.bk
    omega
theorem FdA.map {α : Type} {f : α → PyData} {n b : Nat} : ∀ {xs : List α}, (∀ x ∈ xs, Fd (f x) n b) → FdA (xs.map f) n (xs.length * (b + 1))
  | [], _ => by simpa using FdA.nil
  | x :: xs, h => by
    have h1 := FdA.cons (h x List.mem_cons_self) (FdA.map fun y hy => h y (List.mem_cons_of_mem _ hy))
    rw [List.map_cons, List.length_cons, Nat.add_mul, Nat.one_mul, Nat.add_comm (xs.length * (b + 1))]
    exact h1
theorem FdA.mono {ds : List PyData} {n b m c : Nat} (h : FdA ds n b) (h1 : n ≤ m) (h2 : b ≤ c) : FdA ds m c := ⟨h.f, Nat.le_trans h.dp h1, Nat.le_trans h.bk h2⟩

section
variable {X : Cx} {K : PySem.W.Frag} {H : Hp} {Q : VK}
def rRp (K : PySem.W.Frag) : List V → Hp → VK → Prop := fun xs H Q => ∃ v d, xs = [v] ∧ Dp K H v d ∧ Fd d 20 8000 ∧ Q (.str d.shown) H
theorem call_rp (hg : X.A.guards = some []) (hu : X.A.units + 64 < cLine) : CallR X (.builtin "repr") (rRp X.K) := by
  intro pins s σ H xs us Q I r h
  obtain ⟨v, d, rfl, hd, hf, q⟩ := h
  refine call_repr_D hg hu pins s σ H [v] us Q I r ⟨v, d, rfl, hd, fine_showable d hf.f, hf.dp, ?_, q⟩
  have h1 := PyData.shown_le_bulk 1921 (by decide) d (fine_short d hf.f)
  have h2 := hf.bk
  have e : sizeLine = 16777216 := by decide
  omega
theorem r_rp {v : V} {d : PyData} (h : Dp K H v d) (f : Fd d 20 8000) (q : Q (.str d.shown) H) : rRp K [v] H Q := ⟨v, d, rfl, h, f, q⟩
def rEqF (K : PySem.W.Frag) : R2 := fun x y H Q => ∃ d e, Dp K H x d ∧ Dp K H y e ∧ Fd d 60 8000 ∧ Fd e 60 8000 ∧ Q (.bl (PyData.eqv d e)) H
def rNeF (K : PySem.W.Frag) : R2 := fun x y H Q => ∃ d e, Dp K H x d ∧ Dp K H y e ∧ Fd d 60 8000 ∧ Fd e 60 8000 ∧ Q (.bl (!PyData.eqv d e)) H
theorem Fd.shaped {d : PyData} {b : Nat} (h : Fd d 60 b) : SeqAt.shaped d = true := by
  unfold SeqAt.shaped
  rw [fine_lay d h.f, Bool.true_and]
  have := h.dp
  exact decide_eq_true (by omega)
theorem op_eqF (hu : X.A.units + 64 < cLine) : OpR X (compareOp .Eq) (rEqF X.K) := by
  intro pins s σ H x y v u Q I rx ry h
  obtain ⟨d, e, hd, he, fd, fe, q⟩ := h
  exact op_eqD hu pins s σ H x y v u Q I rx ry ⟨d, e, hd, he, fd.shaped, fe.shaped, q⟩
theorem op_neF (hu : X.A.units + 64 < cLine) : OpR X (compareOp .NotEq) (rNeF X.K) := by
  intro pins s σ H x y v u Q I rx ry h
  obtain ⟨d, e, hd, he, fd, fe, q⟩ := h
  exact op_neD hu pins s σ H x y v u Q I rx ry ⟨d, e, hd, he, fd.shaped, fe.shaped, q⟩
theorem r_eqF {x y : V} {d e : PyData} (hd : Dp K H x d) (he : Dp K H y e) (fd : Fd d 60 8000) (fe : Fd e 60 8000) (q : Q (.bl (PyData.eqv d e)) H) : rEqF K x y H Q := ⟨d, e, hd, he, fd, fe, q⟩
theorem r_neF {x y : V} {d e : PyData} (hd : Dp K H x d) (he : Dp K H y e) (fd : Fd d 60 8000) (fe : Fd e 60 8000) (q : Q (.bl (!PyData.eqv d e)) H) : rNeF K x y H Q := ⟨d, e, hd, he, fd, fe, q⟩
theorem dec_same {x : V} : decide (x = x) = true := decide_eq_true rfl
end

/-! ### the rules that lean on the written part, told with it (so that a comprehension's block has the same readings) -/
section
variable {X : Cx} {tg l : Expr} {tl : TE}
theorem ixA (K : PySem.W.Frag) (h : X.K = K := by rfl) : IxR X (rIxA K) := h ▸ ix_any
theorem sumA (K : PySem.W.Frag) (hc : X.calm = true) (h : X.K = K := by rfl) : CallR X (.builtin "sum") (rSum K) := h ▸ cr_sum hc
def rLenA (K : PySem.W.Frag) : List V → Hp → VK → Prop := fun xs H Q => ∃ p ys, xs = [.ref p] ∧ (SqL K H p ys ∨ SqT K H p ys) ∧ Q (.int ys.length) H
theorem lenA (K : PySem.W.Frag) (h : X.K = K := by rfl) : CallR X (.builtin "len") (rLenA K) := h ▸ call_len_seq
theorem tupleA (K : PySem.W.Frag) (h : X.K = K := by rfl) : CallR X (.type "tuple") (rTupF K) := h ▸ call_tupleF
def rLstA (K : PySem.W.Frag) : List V → Hp → VK → Prop := fun xs H Q => ∃ p ys, xs = [.ref p] ∧ (SqL K H p ys ∨ SqT K H p ys) ∧ ∀ l, H l = none → Q (.ref l) (upd H l (.lst ys))
theorem listA (K : PySem.W.Frag) (h : X.K = K := by rfl) : CallR X (.type "list") (rLstA K) := h ▸ call_list_of
theorem eqA (K : PySem.W.Frag) (hu : X.A.units + 64 < cLine) (h : X.K = K := by rfl) : OpR X (compareOp .Eq) (rEqF K) := h ▸ op_eqF hu
theorem neA (K : PySem.W.Frag) (hu : X.A.units + 64 < cLine) (h : X.K = K := by rfl) : OpR X (compareOp .NotEq) (rNeF K) := h ▸ op_neF hu
theorem rpA (K : PySem.W.Frag) (hg : X.A.guards = some []) (hu : X.A.units + 64 < cLine) (h : X.K = K := by rfl) : CallR X (.builtin "repr") (rRp K) := h ▸ call_rp hg hu
theorem piL (K : PySem.W.Frag) (hl : PE X l tl) (h : X.K = K := by rfl) : PI X tg l (iList K tl) := h ▸ pi_list hl
theorem piT (K : PySem.W.Frag) (hl : PE X l tl) (h : X.K = K := by rfl) : PI X tg l (iTup K tl) := h ▸ pi_tup hl
end

/-! ### worths of forms -/
/-- the worth of a form for a setting -/
def wth (n : Int) (ps : List (Int × Int)) (ns : List Int) : Int := n + (ps.map fun p => p.2 * ns.getD p.1.toNat 0).sum
/-- the setting has all the form's knobs, nothing is too great -/
structure WOk (n : Int) (ps : List (Int × Int)) (ns : List Int) : Prop where
  at_ : ∀ p ∈ ps, 0 ≤ p.1 ∧ p.1 < ns.length
  sz : ∀ p ∈ ps, Sz 1000 p.2
  szn : ∀ z ∈ ns, Sz 1000 z
  len : ps.length ≤ 1000
/-- a condition: its turn, its form -/
abbrev Cond := Int × Int × List (Int × Int)
def cdD (c : Cond) : PyData := .tuple [.int c.1, fmD c.2.1 c.2.2]
def optV : Option Int → V
  | some i => .int i
  | none => .non
def fstBroken (cs : List Cond) (ns : List Int) : Option Int := ((cs.filter fun c => decide (wth c.2.1 c.2.2 ns < 0)).map (·.1)).head?
def spFirst (K : PySem.W.Frag) : Sp := fun vs H Q _ => ∃ (a l : Addr) (xs : List V) (cs : List Cond) (ns : List Int), vs = [.ref a, .ref l] ∧ SqL K H a xs ∧ TpAll H xs (cs.map cdD) ∧ cs.length ≤ 1000 ∧ SqL K H l (ns.map V.int) ∧
  (∀ c ∈ cs, WOk c.2.1 c.2.2 ns ∧ Sz 1000 c.1) ∧ ∀ H', Same H H' → Q (optV (fstBroken cs ns)) H'
theorem WOk.of {m n : Int} {ps : List (Int × Int)} {ns : List Int} (hp : PsOk m ps) (hl : (ps.length : Int) ≤ m) (h30 : m ≤ 100) (hm : m ≤ ns.length) (hs : ∀ z ∈ ns, Nm z) : WOk n ps ns := by
  refine ⟨fun p h => ?_, fun p h => ?_, fun z h => (hs z h).sz.mono (by decide), by omega⟩
  · have := hp.at_ p h
    omega
  · exact (hp.at_ p h).2.2.2.sz.mono (by decide)
theorem WOk.sz_wth {n : Int} {ps : List (Int × Int)} {ns : List Int} (h : WOk n ps ns) (hn : Sz 1000 n) : Sz 2016 (wth n ps ns) := by
  unfold wth
  refine (Sz.add (hn.mono (by decide : 1000 ≤ 2015)) ((Sz.sum (k := 2000) (m := 11) (fun x hx => ?_) ?_).mono (by decide))).mono (by decide)
  · obtain ⟨p, hp, rfl⟩ := List.mem_map.mp hx
    obtain ⟨h0, h1⟩ := h.at_ p hp
    have hg : ns.getD p.1.toNat 0 ∈ ns := by
      have hl : p.1.toNat < ns.length := by omega
      rw [List.getD_eq_getElem?_getD, List.getElem?_eq_getElem hl]
      exact List.getElem_mem hl
    exact (h.sz p hp).mul (h.szn _ hg)
  · rw [List.length_map]
    have := h.len
    omega
theorem Fd.form {n : Int} {ps : List (Int × Int)} (hn : Sz 1900 n) (hp : ∀ p ∈ ps, Sz 1900 p.1 ∧ Sz 1900 p.2) : Fd (fmD n ps) 3 (ps.length * 3 + 2) := by
  have h1 : FdA (ps.map prD) 1 (ps.length * (2 + 1)) := FdA.map fun p h => Fd.mono (Fd.tup (FdA.cons (Fd.int (hp p h).1) (FdA.cons (Fd.int (hp p h).2) FdA.nil))) (by decide) (by decide)
  have h2 := Fd.tup (FdA.cons ((Fd.int hn).mono (Nat.zero_le 2) (Nat.le_refl 0)) (FdA.cons (Fd.tup h1) FdA.nil))
  exact h2.mono (Nat.le_refl _) (by omega)
theorem Fd.cond {c : Cond} (ht : Sz 1900 c.1) (hn : Sz 1900 c.2.1) (hp : ∀ p ∈ c.2.2, Sz 1900 p.1 ∧ Sz 1900 p.2) : Fd (cdD c) 4 (c.2.2.length * 3 + 4) :=
  (Fd.tup (FdA.cons ((Fd.int ht).mono (Nat.zero_le 3) (Nat.le_refl 0)) (FdA.cons (Fd.form hn hp) FdA.nil))).mono (Nat.le_refl _) (by omega)
theorem Fd.ints {ns : List Int} (h : ∀ z ∈ ns, Sz 1900 z) : Fd (.list (ns.map .int)) 1 ns.length :=
  (Fd.lst (FdA.map (n := 0) (b := 0) fun z hz => Fd.int (h z hz))).mono (Nat.le_refl _) (by omega)
theorem wipe_at (σ : St) (j : Nat) : ∀ vs : List Nat, (wipe σ vs)[j]? = if j ∈ vs ∧ j < σ.length then some none else σ[j]?
  | [] => by simp [wipe]
  | v :: vs => by
    unfold wipe
    rw [List.getElem?_set, wipe_at σ j vs, wipe_length]
    by_cases e : v = j
    · subst e
      by_cases l : v < σ.length
      · simp [l]
      · simp [l]
    · have e' : ¬ j = v := fun q => e q.symm
      simp [e, e']
theorem wipe_wipe {σ : St} {vs : List Nat} : wipe (wipe σ vs) vs = wipe σ vs := by
  apply List.ext_getElem?
  intro j
  rw [wipe_at, wipe_at, wipe_length]
  split <;> rfl
theorem wipe_set {σ : St} {vs : List Nat} {i : Nat} {x : Option V} (h : i ∈ vs) : wipe (σ.set i x) vs = wipe σ vs := by
  apply List.ext_getElem?
  intro j
  rw [wipe_at, wipe_at, List.length_set, List.getElem?_set]
  by_cases e : i = j
  · subst e
    by_cases l : i < σ.length
    · simp [h, l]
    · simp [l]
  · simp [e]
/-- walked: a list or a tuple -/
def iSeq (K : PySem.W.Frag) (tl : TE) : TI := fun σ H R => tl σ H fun x H1 => ∃ a, x = .ref a ∧ (((∃ xs, SqL K H1 a xs) ∧ R (Itl K a) H1) ∨ ((∃ xs, SqT K H1 a xs) ∧ R (Itt K a) H1))
section
variable {X : Cx} {tg l : Expr} {tl : TE}
theorem pi_seq (hl : PE X l tl) : PI X tg l (iSeq X.K tl) := by
  refine ⟨fun pins s σ H R I h => ?_⟩
  refine thn (hl.run pins s σ H _ I h) fun v s1 ⟨x, H1, I1, r1, q1⟩ => ?_
  obtain ⟨a, e, q2⟩ := q1
  subst e
  cases r1
  have fresh : ∀ b ∈ [s1.heap.objs.size], FpOk X pins H1 b := by
    intro b hb
    have e : b = s1.heap.objs.size := List.mem_singleton.mp hb
    subst e
    exact I1.fpOk (Nat.le_refl _) (I1.hok.fresh (Nat.le_refl _))
  rcases q2 with ⟨⟨xs, hq⟩, q⟩ | ⟨⟨xs, hq⟩, q⟩
  · obtain ⟨its, rv, p, hz⟩ := I1.list hq
    refine wpAny_pyIter_list p.isList ?_
    exact ⟨s1.heap.objs.size, _, _, _, H1, rfl, I1.kept (t' := s1.toks) fun b o e => Heap.get?_push_of_some _ e, turn_list a _, ⟨_, Heap.get?_push_size _ rfl, rfl, rfl⟩, fresh, q⟩
  · obtain ⟨its, rv, p, hz⟩ := I1.tuple hq
    refine wpAny_pyIter_tuple (show s1.heap.IsTuple a its.toArray from p) ?_
    exact ⟨s1.heap.objs.size, _, _, _, H1, rfl, I1.kept (t' := s1.toks) fun b o e => Heap.get?_push_of_some _ e, turn_tuple a _, ⟨_, Heap.get?_push_size _ rfl, rfl, rfl⟩, fresh, q⟩
theorem piA (K : PySem.W.Frag) (hl : PE X l tl) (h : X.K = K := by rfl) : PI X tg l (iSeq K tl) := h ▸ pi_seq hl
end
/-- a list or a tuple of these stands at b, and stays -/
def Sq (K : PySem.W.Frag) (H : Hp) (b : Addr) (xs : List V) : Prop := SqL K H b xs ∨ SqT K H b xs
theorem seqT {K : PySem.W.Frag} {H H' : Hp} {a : Addr} {xs : List V} (e : Same H H') (h : SqT K H a xs) : SqT K H' a xs := by
  rcases h with (h | ⟨o, h⟩) | h
  · exact .inl (.inl (e _ _ h))
  · exact .inl (.inr ⟨o, e _ _ h⟩)
  · exact .inr h
theorem Sq.same {K : PySem.W.Frag} {H H' : Hp} {b : Addr} {xs : List V} (h : Sq K H b xs) (e : Same H H') : Sq K H' b xs := by
  rcases h with h | h
  · exact .inl (e.seq h)
  · exact .inr (seqT e h)
/-- a comprehension over a list or a tuple that stays: the reading of the walk, the turns said once -/
theorem lc_seq {K : PySem.W.Frag} {b : Addr} {xs : List V} {g : TG} {tt : TT} {te : TE} {vs : List Nat} {σ : St} {H1 : Hp} {Qd : Addr → Hp → Prop} (hb : Sq K H1 b xs) (Pv : Addr → Nat → Hp → Prop) (h0 : ∀ D, H1 D = none → Pv D 0 (upd H1 D (.lst [])))
    (hl : ∀ D, H1 D = none → ∀ i H, Pv D i H → Same H1 H)
    (hs : ∀ D, H1 D = none → ∀ i x H, xs[i]? = some x → Pv D i H → g x (wipe σ vs) H fun σ2 H2 => wipe σ2 vs = wipe σ vs ∧ tt σ2 H2 fun b H3 =>
      if b = true then te σ2 H3 fun y H4 => ∃ acc, H4 D = some (.lst acc) ∧ acc.length < sizeLine ∧ Pv D (i + 1) (upd H4 D (.lst (acc ++ [y]))) else Pv D (i + 1) H3) (hd : ∀ D, H1 D = none → ∀ H, Pv D xs.length H → Qd D H) :
    ∃ a, V.ref b = V.ref a ∧ (((∃ xs, SqL K H1 a xs) ∧ ∀ D, H1 D = none → ∃ W : Nat → Nat → Hp → Prop, (∃ m, W 0 m (upd H1 D (.lst []))) ∧ ∀ i m H, W i m H →
        ((Itl K a).stop i H ∧ Qd D H) ∨ ((Itl K a).go i H ∧ ∃ Nx : Hp → Prop, (∀ H', Nx H' → ∃ m', m' < m ∧ W (i + 1) m' H') ∧ ∀ x H', (Itl K a).yld i H x H' → g x (wipe σ vs) H' fun σ2 H2 => wipe σ2 vs = wipe σ vs ∧ tt σ2 H2 fun b H3 =>
          if b = true then te σ2 H3 fun y H4 => ∃ acc, H4 D = some (.lst acc) ∧ acc.length < sizeLine ∧ Nx (upd H4 D (.lst (acc ++ [y]))) else Nx H3)) ∨
      ((∃ xs, SqT K H1 a xs) ∧ ∀ D, H1 D = none → ∃ W : Nat → Nat → Hp → Prop, (∃ m, W 0 m (upd H1 D (.lst []))) ∧ ∀ i m H, W i m H →
        ((Itt K a).stop i H ∧ Qd D H) ∨ ((Itt K a).go i H ∧ ∃ Nx : Hp → Prop, (∀ H', Nx H' → ∃ m', m' < m ∧ W (i + 1) m' H') ∧ ∀ x H', (Itt K a).yld i H x H' → g x (wipe σ vs) H' fun σ2 H2 => wipe σ2 vs = wipe σ vs ∧ tt σ2 H2 fun b H3 =>
          if b = true then te σ2 H3 fun y H4 => ∃ acc, H4 D = some (.lst acc) ∧ acc.length < sizeLine ∧ Nx (upd H4 D (.lst (acc ++ [y]))) else Nx H3))) := by
  refine ⟨b, rfl, ?_⟩
  rcases hb with hb | hb
  · exact .inl ⟨⟨xs, hb⟩, fun D hD => lc_list (Pv D) (h0 D hD) (fun i H _ p => (hl D hD i H p).seq hb) (hs D hD) (hd D hD)⟩
  · exact .inr ⟨⟨xs, hb⟩, fun D hD => lc_tup (Pv D) (h0 D hD) (fun i H _ p => seqT (hl D hD i H p) hb) (hs D hD) (hd D hD)⟩
/-- what a form is read as: its number, its pairs in a list or a tuple -/
def FormIs (K : PySem.W.Frag) (H : Hp) (v : V) (n : Int) (ps : List (Int × Int)) : Prop := ∃ a b xs, v = .ref a ∧ SqT K H a [V.int n, V.ref b] ∧ Sq K H b xs ∧ TpAll H xs (ps.map prD)
theorem FormIs.of {K : PySem.W.Frag} {H : Hp} {v : V} {n : Int} {ps : List (Int × Int)} (h : Tp H v (fmD n ps)) : FormIs K H v n ps := by
  obtain ⟨a, x, y, rfl, ha, hx, hy⟩ := h.pair
  obtain rfl := hx.of_int
  obtain ⟨b, xs, rfl, hb, hxs⟩ := hy.of_tuple
  exact ⟨a, b, xs, rfl, ha.sq, .inr hb.sq, hxs⟩
def spWorth (K : PySem.W.Frag) : Sp := fun vs H Q _ => ∃ (v : V) (l : Addr) (n : Int) (ps : List (Int × Int)) (ns : List Int), vs = [v, .ref l] ∧ FormIs K H v n ps ∧ SqL K H l (ns.map V.int) ∧ WOk n ps ns ∧
  ∀ H', Same H H' → Q (.int (wth n ps ns)) H'
/-- the worths of pairs, summed -/
def smo (ps : List (Int × Int)) (ns : List Int) : Int := (ps.map fun p => p.2 * ns.getD p.1.toNat 0).sum
/-- sum([much * setting[knob] for knob, much in PAIRS]), whatever the names' places -/
theorem rd_sum {σ : St} {H : Hp} {Q : VK} {K : PySem.W.Frag} {s ik im : Nat} {b l : Addr} {n : Int} {ps : List (Int × Int)} {ns : List Int} {xs : List V} {ti : TE} (hti : ∀ R : VK, R (.ref b) H → ti σ H R) (hb : Sq K H b xs) (hxs : TpAll H xs (ps.map prD))
    (hs : σ[s]? = some (some (.ref l))) (hS : SqL K H l (ns.map V.int)) (ok : WOk n ps ns) (hk : ik < σ.length) (hm : im < σ.length) (e1 : ik ≠ im) (e2 : ik ≠ s) (e3 : im ≠ s) (q : ∀ H', Same H H' → Q (.int (smo ps ns)) H') :
    tCB (rSum K) (tCons (tLc (iSeq K ti) (gTup K 2 (gCons (gName ik) (gCons (gName im) gNil))) tYes (tOp (rI CMulW fun i j => .int (i * j)) (tVar im) (tOp (rIxA K) (tVar s) (tVar ik))) [ik, im]) tNil) σ H Q := by
  have hlen : xs.length = ps.length := by
    rw [hxs.length, List.length_map]
  refine hti _ ?_
  refine lc_seq hb (fun D i H' => Same H H' ∧ H' D = some (.lst (((ps.take i).map fun p => p.2 * ns.getD p.1.toNat 0).map V.int))) (fun D hD => ⟨same_new hD, upd_same⟩) (fun _ _ _ _ h => h.1) ?_ ?_
  · rintro D hD i z H' hz ⟨sm, hL⟩
    obtain ⟨d, hd, hT'⟩ := hxs.get hz
    rw [List.getElem?_map, Option.map_eq_some_iff] at hd
    obtain ⟨p, hp, rfl⟩ := hd
    obtain ⟨c, x, y, rfl, hc, hx, hy⟩ := hT'.pair
    obtain rfl := hx.of_int
    obtain rfl := hy.of_int
    have hmem : p ∈ ps := List.mem_of_getElem? hp
    obtain ⟨p0, p1⟩ := ok.at_ p hmem
    have pl : p.1.toNat < ns.length := by omega
    have eg : ns.getD p.1.toNat 0 = ns[p.1.toNat] := by rw [List.getD_eq_getElem?_getD, List.getElem?_eq_getElem pl] <;> rfl
    have lw : ∀ vs : List Nat, (wipe σ vs).length = σ.length := wipe_length σ
    refine ⟨c, _, rfl, (hc.mono (TS.of sm)).sq, rfl, _, _, rfl, _, _, rfl, rfl, ?_, ?_⟩
    · show wipe _ [ik, im] = wipe σ [ik, im]
      rw [wipe_set (by simp), wipe_set (by simp), wipe_wipe]
    · have gm : (((wipe σ [ik, im]).set ik (some (V.int p.1))).set im (some (V.int p.2)))[im]? = some (some (V.int p.2)) := by
        rw [List.getElem?_set_self]
        rw [List.length_set, lw]
        exact hm
      have gk : (((wipe σ [ik, im]).set ik (some (V.int p.1))).set im (some (V.int p.2)))[ik]? = some (some (V.int p.1)) := by
        rw [List.getElem?_set_ne (Ne.symm e1), List.getElem?_set_self]
        rw [lw]
        exact hk
      have gs : (((wipe σ [ik, im]).set ik (some (V.int p.1))).set im (some (V.int p.2)))[s]? = some (some (V.ref l)) := by
        rw [List.getElem?_set_ne e3, List.getElem?_set_ne e2]
        unfold wipe wipe wipe
        rw [List.getElem?_set_ne e2, List.getElem?_set_ne e3]
        exact hs
      refine r_yes ?_
      refine r_true ?_
      refine ⟨_, gm, _, gs, _, gk, l, _, p.1, _, rfl, rfl, .inl (sm.seq hS), at_int p0 (get_int (List.getElem?_eq_getElem pl)), p.2, ns[p.1.toNat], rfl, rfl, ?_, ?_⟩
      · exact Sz.cmul (ok.sz p hmem) (ok.szn _ (List.getElem_mem pl)) (by decide) (by decide) (by decide)
      · refine ⟨_, hL, ?_, ?_, ?_⟩
        · rw [List.length_map, List.length_map, List.length_take]
          have := ok.len
          exact Nat.lt_of_le_of_lt (Nat.le_trans (Nat.min_le_right _ _) this) (by decide)
        · intro b' o h
          rw [upd_ne (fun e => by rw [e, hD] at h; cases h)]
          exact sm _ _ h
        · rw [upd_same]
          have ep : ps.take (i + 1) = ps.take i ++ [p] := by
            rw [List.take_add_one, hp] <;> rfl
          rw [ep, List.map_append, List.map_append, List.map_singleton, List.map_singleton, eg]
  · rintro D hD H' ⟨sm, hL⟩
    rw [hlen, List.take_length] at hL
    exact ⟨D, _, rfl, SqL.of hL, q H' sm⟩
/-- form[0] + sum([much * setting[knob] for knob, much in form[1]]), whatever the names' places -/
theorem rd_wth {σ : St} {H : Hp} {Q : VK} {K : PySem.W.Frag} {f s ik im : Nat} {v : V} {l : Addr} {n : Int} {ps : List (Int × Int)} {ns : List Int} (hf : σ[f]? = some (some v)) (hs : σ[s]? = some (some (.ref l)))
    (hT : FormIs K H v n ps) (hS : SqL K H l (ns.map V.int)) (ok : WOk n ps ns) (hk : ik < σ.length) (hm : im < σ.length) (e1 : ik ≠ im) (e2 : ik ≠ s) (e3 : im ≠ s) (q : ∀ H', Same H H' → Q (.int (wth n ps ns)) H') :
    tOp (rI0 fun i j => .int (i + j)) (tOp (rIxA K) (tVar f) (tC (.int 0))) (tCB (rSum K) (tCons (tLc (iSeq K (tOp (rIxA K) (tVar f) (tC (.int 1)))) (gTup K 2 (gCons (gName ik) (gCons (gName im) gNil))) tYes
      (tOp (rI CMulW fun i j => .int (i * j)) (tVar im) (tOp (rIxA K) (tVar s) (tVar ik))) [ik, im]) tNil)) σ H Q := by
  obtain ⟨a, b, xs, rfl, ha, hb, hxs⟩ := hT
  refine ⟨_, hf, a, _, 0, _, rfl, rfl, .inr ha, rfl, ?_⟩
  exact rd_sum (n := n) (fun R r => ⟨_, hf, a, _, 1, _, rfl, rfl, .inr ha, rfl, r⟩) hb hxs hs hS ok hk hm e1 e2 e3 fun H' sm => ⟨_, _, rfl, rfl, q H' sm⟩
theorem Wl.same {w : Addr} {H H' : Hp} (h : Wl w H) (s : Same H H') : Wl w H' := by
  obtain ⟨o, z, h, r⟩ := h
  exact ⟨o, z, s _ _ h, r⟩
theorem sz_wth200 {n : Int} {ps : List (Int × Int)} {ns : List Int} (h : WOk n ps ns) (hn : Nm n) (hp : ∀ p ∈ ps, Nm p.2) (hz : ∀ z ∈ ns, Nm z) : Sz 420 (wth n ps ns) := by
  unfold wth
  refine (Sz.add (hn.sz.mono (by decide : 200 ≤ 411)) ((Sz.sum (k := 400) (m := 11) (fun x hx => ?_) ?_).mono (by decide))).mono (by decide)
  · obtain ⟨p, hp', rfl⟩ := List.mem_map.mp hx
    obtain ⟨h0, h1⟩ := h.at_ p hp'
    have hg : ns.getD p.1.toNat 0 ∈ ns := by
      have hl : p.1.toNat < ns.length := by omega
      rw [List.getD_eq_getElem?_getD, List.getElem?_eq_getElem hl]
      exact List.getElem_mem hl
    exact ((hp p hp').sz).mul ((hz _ hg).sz)
  · rw [List.length_map]
    have := h.len
    omega
def optD : Option Int → PyData
  | some i => .int i
  | none => .none
theorem opt_dp {K : PySem.W.Frag} {H : Hp} : ∀ o : Option Int, Dp K H (optV o) (optD o)
  | some i => .int i
  | none => .non
theorem opt_fd {o : Option Int} (h : ∀ i, o = some i → Sz 1900 i) : Fd (optD o) 0 0 := by
  cases o with
  | none => exact Fd.none
  | some i => exact Fd.int (h i rfl)
theorem opt_scal (o : Option Int) : scal (optV o) (optV o) = true := by cases o <;> rfl
section
variable {σ : St} {H : Hp} {Q : VK}
theorem r_calln {n m : Nat} {sp : Sp} {gV : List V → List V → List V} {E : XK} {t tk : TA} (h : t σ H fun vs H1 => tk σ H1 fun zs H2 => vs.length = n ∧ zs.length = m ∧ sp (gV vs zs) H2 Q E) : tCallN n m sp gV E t tk σ H Q := h
/-- the rest of a block by what it asks -/
theorem r_seqJ {t u : L2.TS} {D : Ends} (M : St → Hp → Prop) (k : ∀ σ' H', M σ' H' → u D σ' H') (h : (∀ σ' H', M σ' H' → u D σ' H') → t { D with nx := u D } σ H) : tSeq t u D σ H := h k
end
/-- what law(script) promises -/
def spLaw (K : PySem.W.Frag) : Sp := fun vs H Q _ => ∃ (a : Addr) (ns : List Int), vs = [.ref a] ∧ SqL K H a (ns.map V.int) ∧ ns.length ≤ 63 ∧ (∀ z ∈ ns, Builtin.Int.intBits z ≤ 1048576) ∧ ∀ H', Q (.bl true) H'
end Tug
set_option Elab.async false
set_option linter.all false
set_option maxRecDepth 100000
set_option maxHeartbeats 4000000
/-! Tug, part D: the law's own call, around which nothing is shown; how the text's defs are bound. -/
namespace Tug
open PySem PySem.Spec L2
open PyProof.Rows hiding St

/-- the call of the law: its def's promise over every base gives True and leaves all as it was -/
theorem law_end {P : Program} {w : World} {K : PySem.W.Frag} {mg mb : Str → Option Value} {CX : CXT} {k : Nat} {f a : Addr} {fd : FuncData} {x : Str} {sp : Sp} {st : Shared} {us : List Value} {ns : List Int}
    (inK : K.In st.heap) (gl : st.heap.Ns mainGlobals mg) (bl : st.heap.Ns builtinsNs mb) (bt : ∀ y : Str, y ≠ "__name__" → mb y = bootBuiltins y) (nolim : st.heap.NoLimit) (nogen : st.gens = #[])
    (obj : st.heap.get? a = some { cls := .type "list", data := .seq us.toArray }) (hints : IntsAre us ns) (few : ns.length ≤ sizeLine) (room : Room k callerA)
    (F : ∀ base : Heap, K.In base → base.Ns mainGlobals mg → FnG P w K mg base CX k f fd [x] sp) (bind : ∀ (s : Shared) (u : Value), BindsTo s fd ⟨[u], []⟩ [(x, u)])
    (ask : ∀ H : Hp, Only H → SqL K H a (ns.map V.int) → sp [.ref a] H (fun v _ => v = .bl true) fun _ _ _ => False)
    (noX : ∀ H e s', CX [] H st (fun _ _ _ => False) e s' → False) :
    codeAny (model P w) callerA (.call (.ref f) ⟨[.ref a], []⟩) (fun r s' => r = .ok (.ret (.bool true)) ∧ OldK st.heap s'.heap ∧ s'.os = st.os ∧ AllBare s'.gens) st := by
  have rel := vals_ints hints
  have lens := hints.length
  have go : ∀ H : Hp, Only H → SqL K H a (ns.map V.int) → HOk P w H st.heap → (∀ b, H b ≠ none → b = a) → (H a ≠ none → K.lookup a = none) →
      codeAny (model P w) callerA (.call (.ref f) ⟨[.ref a], []⟩) (fun r s' => r = .ok (.ret (.bool true)) ∧ OldK st.heap s'.heap ∧ s'.os = st.os ∧ AllBare s'.gens) st := by
    intro H only sq hok alone notK
    have eq_a : ∀ {b : Addr} {u : HO}, H b = some u → b = a := fun {b u} e => alone b fun z => by
      rw [z] at e
      cases e
    have low : ∀ {b : Addr} {o : Obj}, st.heap.get? b = some o → H b = none → (hidT st.heap H).get? b = some o := fun e z => hidT_get e z
    have dicts : ∀ {b : Addr} {o : Obj} {es : Array DictEntry} {ep : Nat}, st.heap.get? b = some o → o.data = .dict es ep → H b = none := by
      intro b o es ep e d
      cases q : H b with
      | none => rfl
      | some u =>
        have := eq_a q
        subst this
        rw [obj] at e
        cases e
        exact absurd (show Data.seq us.toArray _ = Data.dict es ep from d) (fun z => nomatch z)
    have names : ∀ {b : Addr} {m : Str → Option Value}, st.heap.Ns b m → (hidT st.heap H).Ns b m := by
      intro b m z
      obtain ⟨o, es, ep, e, d, r⟩ := z
      exact ⟨o, es, ep, low e (dicts e d), d, r⟩
    have inB : K.In (hidT st.heap H) := by
      intro b o e
      refine low (inK b o e) ?_
      cases q : H b with
      | none => rfl
      | some u =>
        have := eq_a q
        subst this
        have z := notK (by rw [q]; exact fun z => nomatch z)
        rw [z] at e
        cases e
    have md : Mod K mg (hidT st.heap H) := by
      obtain ⟨mc, l1, l2⟩ := nolim
      exact ⟨inB, names gl, ⟨mb, names bl, bt⟩, mc, names l1, l2⟩
    have env : Env0 P w K mg (hidT st.heap H) callerA [] st H :=
      ⟨rfl, md, fun b o e => of_hidT e, Nat.le_of_eq (hidT_size _ _), trivial, fun b hb => absurd (show b ∈ ([] : List Addr) from hb) List.not_mem_nil, hok, .of_eq nogen⟩
    refine codeAny_mono ((F _ inB (names gl)).run callerA [] st H ⟨[.ref a], []⟩ [.ref a] [.ref a] _ _ rfl room env (bind st (.ref a)) (.cons rfl .nil) (ask H only sq)) fun r s' h => ?_
    cases r with
    | error e => exact (noX H e s' h).elim
    | ok fl =>
      cases fl with
      | next => cases h
      | brk => cases h
      | cont => cases h
      | ret u =>
        obtain ⟨v, H', os, bare, un, hok', rv, q⟩ := h
        have ev : v = .bl true := q
        subst ev
        have eu : u = Value.bool true := rv
        subst eu
        refine ⟨rfl, OldK.of_keep fun b o e => ?_, os, bare⟩
        cases qb : H b with
        | none => exact un.keep b o e qb List.not_mem_nil List.not_mem_nil
        | some u =>
          rcases only b with z | ⟨ob, xs, z⟩
          · rw [qb] at z
            cases z
          · obtain ⟨e1, _⟩ := hok b _ z
            obtain ⟨e2, _⟩ := hok' b _ (un.frzs b ob _ z)
            rw [e] at e1
            cases e1
            exact e2
  cases kl : K.lookup a with
  | some o =>
    have e := inK a o kl
    rw [obj] at e
    cases e
    refine go (fun _ => none) (fun _ => .inl rfl) ?_ (fun b u z => nomatch (show (none : Option HO) = some u from z)) (fun b z => absurd rfl z) fun z => absurd rfl z
    exact .inr ⟨_, us.toArray, _, kl, rfl, rfl, rfl, by rw [List.size_toArray, lens]; exact few, by simpa using rel⟩
  | none =>
    refine go (fun b => if b = a then some (.frz { cls := .type "list", data := .seq us.toArray } (.lst (ns.map V.int))) else none) ?_ ?_ ?_ ?_ fun _ => kl
    · intro b
      by_cases hb : b = a
      · exact .inr ⟨_, _, if_pos hb⟩
      · exact .inl (if_neg hb)
    · exact .inl (.inr ⟨_, if_pos rfl⟩)
    · intro b u z
      by_cases hb : b = a
      · have e := (if_pos hb).symm.trans z
        cases e
        subst hb
        refine ⟨obj, ?_, us, _, rel, obj⟩
        rw [List.length_map]
        exact few
      · have e := (if_neg hb).symm.trans z
        cases e
    · intro b z
      by_cases hb : b = a
      · exact hb
      · exact absurd (if_neg hb) z

/-- a law's row from its def's promise, its bits told, what the Hook says at hand -/
theorem walk_end {l : PySem.W.OpenLaw} {n k : Nat} {q : Program} {loose : List Str} {XP : (Str → Option Value) → Heap → Prop} {YP : World → Heap → Prop} {d : DefRec} {CX : CXT} {x : Str}
    (hn : l.most = some n) (hn2 : n ≤ sizeLine) (hdf : d.params.defaults = []) (hr : Room k callerA)
    (F : ∀ (w : World) (mg : Str → Option Value) (f : Addr) (h : Heap), YP w h → h.Ns mainGlobals mg → mg d.name = some (.ref f) →
      ∃ (K : PySem.W.Frag) (fd : FuncData) (sp : Sp), K.In h ∧ (∀ (s : Shared) (u : Value), BindsTo s fd ⟨[u], []⟩ [(x, u)]) ∧
        (∀ (H : Hp) (a : Addr) (ns : List Int), ns.length ≤ n → (∀ z ∈ ns, Builtin.Int.intBits z ≤ 1048576) → Only H → SqL K H a (ns.map V.int) → sp [.ref a] H (fun v _ => v = .bl true) fun _ _ _ => False) ∧
        ∀ base : Heap, K.In base → base.Ns mainGlobals mg → FnG l.prog w K mg base CX k f fd [x] sp)
    (hCX : ∀ (H : Hp) (s : Shared) (e : Value) (s' : Shared), CX [] H s (fun _ _ _ => False) e s' → False) :
    PySem.W.WalkO q loose XP YP l.row.toRowW d [] (fun f vs => PySem.call f vs) := by
  refine Att.attach_callB hn hdf ?_
  intro w s₀ st mg mb f o pm cd doc a us ns G Y _ _ _ hmg hobj hints hlen hbits hg
  obtain ⟨K, fd, sp, inK, hb, ask, hF⟩ := F w mg f _ Y G.T.g hmg
  exact law_end inK G.T.g G.T.b G.T.builtins G.T.nolimit hg hobj hints (Nat.le_trans hlen hn2) hr hF hb (fun H hH hS => ask H a ns hlen hbits hH hS) fun H e s' => hCX H st e s'

section
variable {P : Program} {w : World} {K : PySem.W.Frag} {mg : Str → Option Value} {base : Heap} {CX : CXT}
/-- a def of the text, called by its name -/
theorem cal_of {x qual : Str} {params : Arguments} {body : List Stmt} {scope : Scope} {kws : List (Str × V)} {f : Addr} {fd : FuncData} {k : Nat} {ps : List Str} {sp : Sp} (F : FunD K x qual params body scope [] kws f fd) (hm : mg x = some (.ref f))
    (hb : ∀ (kV doc pm : Value) (an : Option Addr) (cdv ct : Value) (us : List Value), us.length = ps.length → bindArgs (PySem.W.fnOf x qual params body scope .none kV doc pm an cdv ct) ⟨us, []⟩ = pure (ps.zip us))
    (G : FnG P w K mg base CX k f fd ps sp) : Cal P w K mg base CX x k ps [] sp := ⟨f, fd, [], hm, F.kp, F.bindsN hb, .nil, G⟩
/-- .. by keywords -/
theorem calK_of {x qual : Str} {params : Arguments} {body : List Stmt} {scope : Scope} {kws : List (Str × V)} {f : Addr} {fd : FuncData} {k m : Nat} {ps ks : List Str} {sp : Sp} {gV : List V → List V → List V} (F : FunD K x qual params body scope [] kws f fd) (hm : mg x = some (.ref f))
    (g : List Value → List Value → List Value) (rel : ∀ {vs : List V} {us : List Value} {zs : List V} {ws : List Value}, Vals vs us → Vals zs ws → Vals (gV vs zs) (g us ws))
    (hb : ∀ (kV doc pm : Value) (an : Option Addr) (cdv ct : Value) (us ws : List Value), us.length = m → ws.length = ks.length → bindArgs (PySem.W.fnOf x qual params body scope .none kV doc pm an cdv ct) ⟨us, ks.zip ws⟩ = pure (ps.zip (g us ws)))
    (G : FnG P w K mg base CX k f fd ps sp) : CalK P w K mg base CX x k ps m ks gV sp := by
  refine ⟨f, fd, g, hm, F.kp, ⟨?_, rel⟩, G⟩
  obtain ⟨oc, od, dV, kV, doc, pm, an, cdv, ct, osl, rfl, lk, hcd, hD, hK⟩ := F.ex
  intro s us ws _ l1 l2
  rcases hD with ⟨_, rfl⟩ | ⟨e, _⟩
  · exact .of_eq (hb kV doc pm an cdv ct us ws l1 l2)
  · exact absurd rfl e
end
end Tug
set_option Elab.async false
set_option linter.all false
set_option maxRecDepth 100000
set_option maxHeartbeats 4000000
/-! Tug, part E: dict(a tuple of pairs), what such a dict holds; sorted(that dict). -/
namespace Tug
open PySem PySem.Spec L2
open PyProof.Rows hiding St

theorem tup_keys : typeLookup (.type "tuple") "keys" = pure none := am_miss_of_fast (by first | decide +kernel | rfl)
section
variable {prog : Program} {w : World} {A : Around} {E : Value → Shared → Prop}
/-- a tuple without a dict of its own has no attribute 'keys' -/
theorem tup_miss {st : Shared} {t : Addr} {ob : Obj} {vs : Array Value} {n : Nat} {Q : Option Value → Shared → Prop} (at_ : st.heap.get? t = some ob) (cl : ob.cls = .type "tuple") (sq : ob.data = .seq vs n) (nod : ob.dict = none) (calm : A.handled = none)
    (k : ∀ h' tk, (∀ b o, st.heap.get? b = some o → h'.get? b = some o) → Q none { st with heap := h', toks := tk }) : wpAny (model prog w) A (getAttr? (.ref t) "keys") Q E st := by
  obtain ⟨c, di, da, sl⟩ := ob
  simp only at cl sq nod
  subst cl sq nod
  obtain ⟨hp, gn, dr, tk, os⟩ := st
  have ty : ∀ tk', (⟨hp, gn, dr, tk', os⟩ : Shared).TypeIs (.ref t) "tuple" := fun _ => ⟨_, at_, rfl⟩
  have none_ := tup_keys
  have plain : (["__module__", "__name__", "__qualname__", "__doc__", "__annotations__"] : List Str).contains "keys" = false := by decide +kernel
  have small : ("keys" : Str).length + 100 ≤ sizeLine := by first | size_fits | decide +kernel
  have g1 := sub_AttributeError
  have g3 := PySem.F.slot_tuple_getattribute.lookup
  have g4 := PySem.F.slot_tuple_getattribute.bind (.ref t)
  have g5 := am_tuple_getattr_none
  unfold getAttr? getAttrBy? getAttrBy
  repeat (any_goals (first | assumption | exact ty _ | ((with_reducible show wpAny _ _ (call (Value.builtin "tuple.__getattribute__") _ _) _ _ _); refine call_meets PySem.F.slot_tuple_getattribute (ty _) am_entry_tuple_getattribute (PySem.F.args_tuple_getattribute_2 _ _) (meets_getattribute_miss_tuple t vs n sl "keys" _ none_ plain small) ⟨at_, calm, fun h' tk' e there => ?_⟩) | wp_step))
  obtain ⟨t', u', he⟩ := there.there
  show wpAny _ _ (getattributeRaised _ _ _ _ _ _ _) _ _ _
  unfold getattributeRaised
  repeat (any_goals (first | assumption | wp_step))
  all_goals first | exact k _ _ there.keeps | (dsimp only; repeat (any_goals (first | assumption | exact k _ _ there.keeps | wp_step)))
/-- the walk over a tuple's pairs -/
theorem tup_loop {R : Result → Shared → Prop} {D I t : Addr} {vs : Array Value} {res : Value} (calm : A.handled = none) (tI : t ≠ I) (DI : D ≠ I) (Dt : D ≠ t) :
    ∀ (more : List (Key × Value)) (i : Nat) (got : List (Key × Value)) (ix : Int) (tk : Tok) (st : Shared), vs.size = i + more.length → got.length + more.length ≤ sizeLine →
      (∀ (j : Nat) (q : Key × Value), more[j]? = some q → ∃ (b : Addr) (u : Value), vs[i + j]? = some (.ref b) ∧ b ≠ D ∧ b ≠ I ∧ IsTup st.heap b #[u, q.2] ∧ keyIs q.1 u = true) →
      st.heap.IsTupleIter I t i → st.heap.IsTuple t vs → st.heap.DictOf (mixKind prog w) D got →
      (∀ h' tk', h'.DictOf (mixKind prog w) D (merged got more) → (∀ b o, b ≠ D → b ≠ I → st.heap.get? b = some o → h'.get? b = some o) → R (.ok (.ret res)) { st with heap := h', toks := tk' }) →
      codeAny (model prog w) A (.builtin "dict.update.loop" ⟨[.ref D, .ref I, .int ix tk, res], []⟩) R st
  | [], i, got, ix, tk, st, size, room, pairs, it, tup, dict, k => by
    refine codeAny_builtin ud_entry ?_
    rw [Around.under_plainId ud_plain _]
    show wpAny _ A.in1 (pyNext (.ref I) >>= _) _ _ st
    refine wpAny_bind (wpAny_pyNext_tuple_end (A := A.in1) calm it tup (by first | exact Array.getElem?_eq_none (Nat.le_of_eq size) | (simp at size; simp; omega)) fun h' ext => ?_)
    show wpAny _ A.in1 (Builtin.Dict.addKeywords D [] >>= _) _ _ _
    refine wpAny_bind (wpAny_pure (wpAny_pure ?_))
    exact k h' st.toks (dict.extBut ext DI) fun b o _ hb e => ext b o hb e
  | q :: more, i, got, ix, tk, st, size, room, pairs, it, tup, dict, k => by
    obtain ⟨b, u, hb, bD, bI, pair, key⟩ := pairs 0 q rfl
    rw [List.length_cons] at size room
    refine codeAny_builtin ud_entry ?_
    rw [Around.under_plainId ud_plain _]
    show wpAny _ A.in1 (pyNext (.ref I) >>= _) _ _ st
    refine wpAny_bind (wpAny_pyNext_tuple_item (x := .ref b) it tup (by simpa using hb) fun h1 it1 s1 => ?_)
    have pair1 : IsTup h1 b #[u, q.2] := pair.extBut s1.extBut bI
    have tup1 : h1.IsTuple t vs := by
      obtain ⟨o, e, c⟩ := tup
      exact ⟨o, s1.extBut t o tI e, c⟩
    have dict1 : h1.DictOf (mixKind prog w) D got := dict.extBut s1.extBut DI
    obtain ⟨o, ho, hc, n, hd⟩ := id pair1
    show wpAny _ A.in1 (holding [Value.ref b] _ >>= _) _ _ _
    refine wpAny_bind (wpAny_holding ?_)
    refine wpAny_bind (wpAny_tryCatch ?_)
    unfold Builtin.Dict.pairItems
    refine wpAny_bind (wpAny_typeOf (T := "tuple") ⟨o, ho, hc⟩ ?_)
    rw [if_pos (by first | decide | rfl | simp)]
    refine wpAny_bind (wpAny_seqItems ho hd (wpAny_pure ?_))
    show wpAny _ A.in1 (holding [u, q.2] (dictSet D u q.2)) _ _ _
    refine wpAny_holding (wpAny_dictSet_pairs (knd := mixKind prog w) (k := q.1) key dict1 (fun h2 dict2 s2 => ?_) (by omega))
    refine wpAny_pure ⟨plainId_quiet ud_plain _, tup_loop (vs := vs) calm tI DI Dt more (i + 1) (stored got q.1 q.2) (ix + 1) 0 _ (by omega) ?_ ?_ ?_ ?_ dict2 ?_⟩
    · have := stored_length_le got q.1 q.2
      omega
    · intro j q' e
      obtain ⟨b', u', e1, e2, e3, e4, e5⟩ := pairs (j + 1) q' (by simpa using e)
      refine ⟨b', u', ?_, e2, e3, (e4.extBut s1.extBut e3).extBut s2.extBut e2, e5⟩
      rw [Nat.add_assoc, Nat.add_comm 1 j]
      exact e1
    · obtain ⟨o', e1, e2, e3⟩ := it1
      exact ⟨o', s2.extBut I o' (Ne.symm DI) e1, e2, e3⟩
    · obtain ⟨o', e1, e2⟩ := tup1
      exact ⟨o', s2.extBut t o' (Ne.symm Dt) e1, e2⟩
    · intro h' tk' hd' kp
      exact k h' tk' hd' fun c oc n1 n2 e => kp c oc n1 n2 (s2.extBut c oc n1 (s1.extBut c oc n2 e))
/-- dict(t), t a tuple of pairs -/
theorem tup_dict {st : Shared} {t : Addr} {ob : Obj} {vs : Array Value} {n : Nat} {prs : List (Key × Value)} {Q : Value → Shared → Prop} (calm : A.handled = none) (at_ : st.heap.get? t = some ob) (cl : ob.cls = .type "tuple") (nod : ob.dict = none)
    (sq : ob.data = .seq vs n) (size : vs.size = prs.length) (room : prs.length ≤ sizeLine)
    (pairs : ∀ (j : Nat) (q : Key × Value), prs[j]? = some q → ∃ (b : Addr) (u : Value), vs[j]? = some (.ref b) ∧ IsTup st.heap b #[u, q.2] ∧ keyIs q.1 u = true)
    (k : ∀ h' tk, h'.DictOf (mixKind prog w) st.heap.objs.size (merged [] prs) → (∀ b o, st.heap.get? b = some o → h'.get? b = some o) → Q (.ref st.heap.objs.size) { st with heap := h', toks := tk }) :
    wpAny (model prog w) A (call (.type "dict") [.ref t]) Q E st := by
  refine callType_codes (Q₁ := fun obj s₁ => obj = .ref st.heap.objs.size ∧ s₁ = { st with heap := st.heap.push { cls := .type "dict", data := .dict #[] } }) PySem.F.kt_called_dict (PySem.F.kt_typeCall_dict_1 _) PySem.F.entry_dict_init (kt_code_dict_new _ ⟨rfl, rfl⟩) ?_
  rintro obj s₁ ⟨rfl, rfl⟩
  have fresh : (st.heap.push { cls := .type "dict", data := .dict #[] }).DictOf (mixKind prog w) st.heap.objs.size [] := Heap.DictOf.new st.heap
  have k0 : ∀ b o, st.heap.get? b = some o → (st.heap.push { cls := .type "dict", data := .dict #[] }).get? b = some o := fun b o e => Heap.get?_push_of_some _ e
  refine ⟨fresh.typeIs, PySem.F.args_dict_init_2 _ _, ?_⟩
  unfold Builtin.«dict.__init__»
  refine wpAny_bind ?_
  unfold Builtin.Dict.selfAndRest
  refine wpAny_bind (wpAny_notOrdered_dict fresh.typeIs ?_)
  show wpAny _ _ (pure (st.heap.objs.size, [Value.ref t])) _ _ _
  refine wpAny_pure ?_
  show wpAny _ _ (Builtin.Dict.updateFrom "dict.__init__" st.heap.objs.size (.ref t) [] .none) _ _ _
  unfold Builtin.Dict.updateFrom
  refine wpAny_bind (wpAny_typeOf (T := "tuple") ⟨ob, k0 _ _ at_, cl⟩ ?_)
  rw [if_pos (by first | decide | rfl | simp)]
  refine wpAny_bind (tup_miss (k0 _ _ at_) cl sq nod calm fun h1 tk1 k1 => ?_)
  rw [if_pos (show (none : Option Value).isNone = true from rfl)]
  refine wpAny_bind (wpAny_rule ?_)
  have tup1 : h1.IsTuple t vs := ⟨ob, k1 _ _ (k0 _ _ at_), cl, n, sq⟩
  have big : st.heap.objs.size < h1.objs.size := by
    have e : (st.heap.push { cls := .type "dict", data := .dict #[] }).get? st.heap.objs.size = some { cls := .type "dict", data := .dict #[] } := Heap.get?_push_size _ rfl
    exact Heap.lt_size (k1 _ _ e)
  refine wpAny_bind (wpAny_pyIter_tuple tup1 ?_)
  have k2 : ∀ b o, h1.get? b = some o → (h1.push { cls := .type "tuple_iterator", data := .fields #[.ref t, .int 0 0] }).get? b = some o := fun b o e => Heap.get?_push_of_some _ e
  have low : t < st.heap.objs.size := Heap.lt_size at_
  have loop := tup_loop (prog := prog) (w := w) (A := A.in1) (R := wants (fun r s₂ => r = .none ∧ Q (.ref st.heap.objs.size) s₂) E) (D := st.heap.objs.size) (I := h1.objs.size) (t := t) (vs := vs) (res := Value.none) calm
    (Nat.ne_of_lt (Nat.lt_trans low big)) (Nat.ne_of_lt big) (Nat.ne_of_gt low) prs 0 [] 0 0
    { st with heap := h1.push { cls := .type "tuple_iterator", data := .fields #[.ref t, .int 0 0] }, toks := tk1 } (by rw [size, Nat.zero_add]) (by rw [List.length_nil, Nat.zero_add]; exact room)
    (fun j q e => by
      obtain ⟨b, u, e1, e2, e3⟩ := pairs j q e
      have lb : b < st.heap.objs.size := e2.lt
      exact ⟨b, u, by rw [Nat.zero_add]; exact e1, Nat.ne_of_lt lb, Nat.ne_of_lt (Nat.lt_trans lb big), e2.keeps fun c o z => k2 _ _ (k1 _ _ (k0 _ _ z)), e3⟩)
    ⟨_, Heap.get?_push_size _ rfl, rfl, rfl⟩
    (by
      obtain ⟨o, e1, e2⟩ := tup1
      exact ⟨o, k2 _ _ e1, e2⟩)
    ((fresh.at fun o e => k1 _ _ e).at fun o e => k2 _ _ e)
    (fun h' tk hd' kp => ⟨rfl, k h' tk hd' fun b o e => kp b o (Nat.ne_of_lt (Heap.lt_size e)) (Nat.ne_of_lt (Nat.lt_trans (Heap.lt_size e) big)) (k2 _ _ (k1 _ _ (k0 _ _ e)))⟩)
  first
    | exact wpAny_pure ⟨plainId_quiet ud_plain _, loop⟩
    | exact wpAny_bind (wpAny_pure (wpAny_pure ⟨plainId_quiet ud_plain _, loop⟩))
end
section
variable {X : Cx}
/-- a form's pairs as a dict's -/
def kvs (ps : List (Int × Int)) : List (Key × V) := ps.map fun p => (Sum.inl p.1, V.int p.2)
theorem pairs_at {pins : List (Addr × Obj)} {σ : St} {H : Hp} {s : Shared} (I : Inv X pins σ H s) : ∀ {xs : List V} {ps : List (Int × Int)} {us : List Value}, TpAll H xs (ps.map prD) → Vals xs us →
    ∃ prs : List (Key × Value), KV (kvs ps) prs ∧ prs.length = us.length ∧ ∀ (j : Nat) (q : Key × Value), prs[j]? = some q → ∃ (b : Addr) (u : Value), us[j]? = some (.ref b) ∧ IsTup s.heap b #[u, q.2] ∧ keyIs q.1 u = true
  | xs, [], us, h, r => by
    obtain rfl := TpAll.of_nil h
    cases r
    exact ⟨[], .nil, rfl, fun j q e => by simp at e⟩
  | xs, p :: ps, us, h, r => by
    rw [List.map_cons] at h
    obtain ⟨x, rest, rfl, hx, hr⟩ := h.of_cons
    obtain ⟨a, y, z, rfl, ha, hy, hz⟩ := hx.pair
    obtain rfl := hy.of_int
    obtain rfl := hz.of_int
    cases r with
    | cons r1 r2 =>
      have e1 : _ = Value.ref a := r1
      subst e1
      obtain ⟨prs, rel, hl, at_⟩ := pairs_at I hr r2
      obtain ⟨its, rv, ht, _⟩ := I.tuple (ha.sq (K := X.K))
      obtain ⟨u, v, ei, ru, rv'⟩ := vals2 rv
      subst ei
      refine ⟨(Sum.inl p.1, v) :: prs, .cons ⟨rfl, rv'⟩ rel, by rw [List.length_cons, List.length_cons, hl], ?_⟩
      intro j q e
      cases j with
      | zero =>
        have e' : ((Sum.inl p.1 : Key), v) = q := Option.some.inj e
        subst e'
        obtain ⟨t, rfl⟩ := ru
        exact ⟨a, _, rfl, ht, keyIs_int p.1 t⟩
      | succ j =>
        obtain ⟨b, u', e1, e2, e3⟩ := at_ j q (by simpa using e)
        exact ⟨b, u', by simpa using e1, e2, e3⟩
def rDictT : List V → Hp → VK → Prop := fun vs H Q => ∃ (a : Addr) (xs : List V) (ps : List (Int × Int)), vs = [.ref a] ∧ Kt H a xs ∧ TpAll H xs (ps.map prD) ∧ ∀ p, H p = none → Q (.ref p) (upd H p (.dK (mergeK [] (kvs ps))))
theorem call_dictT (hc : X.calm = true) : CallR X (.type "dict") rDictT := by
  intro pins s σ H vs us Q I r h
  obtain ⟨a, xs, ps, rfl, ha, hx, q⟩ := h
  obtain ⟨u, rfl, ru⟩ := vals1 r
  cases ru
  obtain ⟨o, hf, nod⟩ := ha
  obtain ⟨ho, hz, its, rv, hT⟩ := I.hok a _ hf
  obtain ⟨o', ho', hcl, n, hdat⟩ := hT
  rw [ho] at ho'
  cases ho'
  obtain ⟨prs, rel, hl, at_⟩ := pairs_at I hx rv
  have lens := rv.length
  refine tup_dict (prs := prs) (I.ok.hd hc) ho hcl nod hdat (by simp [hl]) (by omega) (fun j q' e => ?_) fun h' tk hd' k => ?_
  · obtain ⟨b, u, e1, e2, e3⟩ := at_ j q' e
    exact ⟨b, u, by simp [e1], e2, e3⟩
  · have notSys : (s.heap.objs.size == sysModules) = false := beq_eq_false_iff_ne.mpr (Nat.ne_of_gt I.big)
    have small : (mergeK [] (kvs ps)).length ≤ sizeLine := by
      refine Nat.le_trans (length_mergeK (kvs ps) []) ?_
      have := rel.length
      rw [List.length_nil]
      omega
    exact ⟨.ref s.heap.objs.size, _, I.laid (o := .dK (mergeK [] (kvs ps))) (t' := tk) k (Nat.le_refl _) ⟨small, notSys, merged [] prs, KV.merge rel .nil, hd'⟩, rfl, q _ (I.hok.fresh (Nat.le_refl _))⟩
end
end Tug
set_option Elab.async false
set_option linter.all false
set_option maxRecDepth 100000
set_option maxHeartbeats 4000000
/-! Tug, part F: forms: how often a knob goes in; the defs of forms, what they promise. -/
namespace Tug
open PySem PySem.Spec L2
open PyProof.Rows hiding St

/-- how often a knob goes into pairs -/
def cofO (ps : List (Int × Int)) (k : Int) : Option Int := (ps.find? fun p => decide (p.1 = k)).map (·.2)
def cof (ps : List (Int × Int)) (k : Int) : Int := (cofO ps k).getD 0
theorem kvs_val (ps : List (Int × Int)) (k : Int) : valV (kvs ps) (Sum.inl k) = (cofO ps k).map V.int := by
  unfold cofO
  induction ps with
  | nil => rfl
  | cons p r ih =>
    show valV ((Sum.inl p.1, V.int p.2) :: kvs r) (Sum.inl k) = _
    by_cases e : p.1 = k
    · rw [valV_pos (by rw [e]), List.find?_cons_of_pos (by simpa using e)] <;> rfl
    · rw [valV_neg (fun z => e (Sum.inl.inj z)), List.find?_cons_of_neg (by simpa using e)]
      exact ih
theorem merge_kvs : ∀ {ps acc : List (Int × Int)}, ((acc ++ ps).map (·.1)).Nodup → mergeK (kvs acc) (kvs ps) = kvs (acc ++ ps)
  | [], acc, _ => by
    rw [List.append_nil] <;> rfl
  | p :: ps, acc, h => by
    have hn : valV (kvs acc) (Sum.inl p.1) = none := by
      rw [kvs_val]
      unfold cofO
      have : (acc.find? fun q => decide (q.1 = p.1)) = none := by
        rw [List.find?_eq_none]
        intro q hq e
        have e' : q.1 = p.1 := by simpa using e
        rw [List.map_append, List.nodup_append] at h
        exact h.2.2 q.1 (List.mem_map_of_mem hq) p.1 (by simp) e'
      rw [this] <;> rfl
    show mergeK (putK (kvs acc) (Sum.inl p.1) (V.int p.2)) (kvs ps) = _
    rw [putK_new _ hn]
    have e : kvs acc ++ [((Sum.inl p.1 : Key), V.int p.2)] = kvs (acc ++ [p]) := by
      unfold kvs
      rw [List.map_append] <;> rfl
    rw [e, merge_kvs (by rw [List.append_assoc]; exact h), List.append_assoc] <;> rfl
theorem merge_nil {ps : List (Int × Int)} (h : (ps.map (·.1)).Nodup) : mergeK [] (kvs ps) = kvs ps := merge_kvs (acc := []) (by simpa using h)
theorem PsOk.nodup {m : Int} {ps : List (Int × Int)} (h : PsOk m ps) : (ps.map (·.1)).Nodup := h.rise.imp fun h => Int.ne_of_lt h
/-- dict(pairs).get(k, 0) -/
theorem get_cof {H : Hp} {d : Addr} {ps : List (Int × Int)} (k : Int) (hd : H d = some (.dK (mergeK [] (kvs ps)))) (h : (ps.map (·.1)).Nodup) : ∃ o, DGet H d (.int k) o ∧ o.getD (.int 0) = .int (cof ps k) := by
  refine ⟨_, DGet.k (k := Sum.inl k) hd, ?_⟩
  rw [merge_nil h, kvs_val]
  unfold cof
  cases e : cofO ps k <;> rfl
/-- the pairs but one knob's -/
def but (ps : List (Int × Int)) (k : Int) : List (Int × Int) := ps.filter fun p => !decide (p.1 = k)
theorem but_nil (k : Int) : but [] k = [] := rfl
theorem but_pos {p : Int × Int} {ps : List (Int × Int)} {k : Int} (e : p.1 = k) : but (p :: ps) k = but ps k := by
  unfold but
  rw [List.filter_cons, decide_eq_true e] <;> rfl
theorem but_neg {p : Int × Int} {ps : List (Int × Int)} {k : Int} (e : ¬ p.1 = k) : but (p :: ps) k = p :: but ps k := by
  unfold but
  rw [List.filter_cons, decide_eq_false e] <;> rfl
theorem cof_pos {p : Int × Int} {ps : List (Int × Int)} {k : Int} (e : p.1 = k) : cof (p :: ps) k = p.2 := by
  unfold cof cofO
  rw [List.find?_cons_of_pos (by simpa using e)] <;> rfl
theorem cof_neg {p : Int × Int} {ps : List (Int × Int)} {k : Int} (e : ¬ p.1 = k) : cof (p :: ps) k = cof ps k := by
  unfold cof cofO
  rw [List.find?_cons_of_neg (by simpa using e)]
theorem cof_not {ps : List (Int × Int)} {k : Int} (h : k ∉ ps.map (·.1)) : cof ps k = 0 := by
  induction ps with
  | nil => rfl
  | cons p r ih =>
    rw [List.map_cons, List.mem_cons, not_or] at h
    rw [cof_neg (fun e => h.1 e.symm), ih h.2]
theorem but_not {ps : List (Int × Int)} {k : Int} (h : k ∉ ps.map (·.1)) : but ps k = ps := by
  induction ps with
  | nil => rfl
  | cons p r ih =>
    rw [List.map_cons, List.mem_cons, not_or] at h
    rw [but_neg (fun e => h.1 e.symm), ih h.2]
theorem but_mem {ps : List (Int × Int)} {k : Int} {p : Int × Int} (h : p ∈ but ps k) : p ∈ ps ∧ p.1 ≠ k := by
  unfold but at h
  obtain ⟨h1, h2⟩ := List.mem_filter.mp h
  exact ⟨h1, by simpa using h2⟩
theorem smo_cons (p : Int × Int) (ps : List (Int × Int)) (ns : List Int) : smo (p :: ps) ns = p.2 * ns.getD p.1.toNat 0 + smo ps ns := by
  unfold smo
  rw [List.map_cons, List.sum_cons]
theorem smo_nil (ns : List Int) : smo [] ns = 0 := rfl
theorem wth_smo (n : Int) (ps : List (Int × Int)) (ns : List Int) : wth n ps ns = n + smo ps ns := rfl
/-- by one knob alone -/
theorem smo_but {ns : List Int} {k : Int} (k0 : 0 ≤ k) : ∀ {ps : List (Int × Int)}, (ps.map (·.1)).Nodup → smo ps ns = smo (but ps k) ns + cof ps k * ns.getD k.toNat 0
  | [], _ => by rw [but_nil, smo_nil]; show (0 : Int) = 0 + 0 * _; rw [Int.zero_mul] <;> rfl
  | p :: ps, h => by
    rw [List.map_cons, List.nodup_cons] at h
    by_cases e : p.1 = k
    · rw [but_pos e, cof_pos e, smo_cons, but_not (by rw [← e]; exact h.1), e]
      omega
    · rw [but_neg e, cof_neg e, smo_cons, smo_cons, smo_but k0 h.2]
      omega
/-- pairs that lack a knob don't see it -/
theorem smo_set {ns : List Int} {k : Int} {z : Int} (k0 : 0 ≤ k) : ∀ {ps : List (Int × Int)}, (∀ p ∈ ps, 0 ≤ p.1 ∧ p.1 ≠ k) → smo ps (ns.set k.toNat z) = smo ps ns
  | [], _ => rfl
  | p :: ps, h => by
    obtain ⟨p0, p1⟩ := h p List.mem_cons_self
    have ne : k.toNat ≠ p.1.toNat := fun e => p1 (by omega)
    rw [smo_cons, smo_cons, smo_set k0 fun q hq => h q (List.mem_cons_of_mem _ hq), List.getD_eq_getElem?_getD, List.getElem?_set_ne ne, ← List.getD_eq_getElem?_getD]
/-- the worth where one knob is moved -/
theorem wth_set {n : Int} {ps : List (Int × Int)} {ns : List Int} {k z : Int} (k0 : 0 ≤ k) (k1 : k < ns.length) (hp : ∀ p ∈ ps, 0 ≤ p.1) (h : (ps.map (·.1)).Nodup) : wth n ps (ns.set k.toNat z) = wth n (but ps k) ns + cof ps k * z := by
  rw [wth_smo, wth_smo, smo_but k0 h, smo_set k0 fun p q => ⟨hp p (but_mem q).1, (but_mem q).2⟩]
  have e : (ns.set k.toNat z).getD k.toNat 0 = z := by
    rw [List.getD_eq_getElem?_getD, List.getElem?_set_self (by omega)] <;> rfl
  rw [e]
  omega
theorem WOk.but {n : Int} {ps : List (Int × Int)} {ns : List Int} {k : Int} (h : WOk n ps ns) : WOk n (but ps k) ns := by
  refine ⟨fun p q => h.at_ p (but_mem q).1, fun p q => h.sz p (but_mem q).1, h.szn, ?_⟩
  exact Nat.le_trans (List.length_filter_le _ _) h.len
theorem cof_sz {ps : List (Int × Int)} {k : Int} {j : Nat} (h : ∀ p ∈ ps, Sz j p.2) : Sz j (cof ps k) := by
  unfold cof cofO
  cases e : ps.find? fun p => decide (p.1 = k) with
  | none => exact Sz.zero
  | some p => exact h p (List.mem_of_find?_eq_some e)
section
variable {σ : St} {H : Hp} {Q : VK} {K : PySem.W.Frag}
theorem r_get2 {td ty tx : TE} (h : td σ H fun x H1 => ∃ a, x = .ref a ∧ IsD H1 a ∧ ty σ H1 fun y H2 => tx σ H2 fun z H3 => ∃ o, DGet H3 a y o ∧ Q (o.getD z) H3) : tDGet2 td ty tx σ H Q := h
theorem r_iseq {tl : TE} {R : It → Hp → Prop} (h : tl σ H fun x H1 => ∃ a, x = .ref a ∧ (((∃ xs, SqL K H1 a xs) ∧ R (Itl K a) H1) ∨ ((∃ xs, SqT K H1 a xs) ∧ R (Itt K a) H1))) : iSeq K tl σ H R := h
theorem r_sl {r : V → Option Int → Option Int → Hp → VK → Prop} {te : TE} {tl th : TO} (h : te σ H fun x H1 => tl σ H1 fun l H2 => th σ H2 fun u H3 => r x l u H3 Q) : tSl r te tl th σ H Q := h
theorem r_nopart {R : Option Int → Hp → Prop} (q : R none H) : tNoPart σ H R := q
theorem r_part {t : TE} {R : Option Int → Hp → Prop} (h : t σ H fun x H1 => ∃ i, x = .int i ∧ R (some i) H1) : tPart t σ H R := h
theorem r_pint {i : Int} {R : Int → Prop} (q : R i) : ∃ j, V.int i = V.int j ∧ R j := ⟨i, rfl, q⟩
theorem r_cut {a : Addr} {xs : List V} {lo hi : Option Int} (h : SqL K H a xs) (q : ∀ p, H p = none → Q (.ref p) (upd H p (.lst (cutV xs lo hi)))) : rSlL K (.ref a) lo hi H Q := ⟨a, xs, rfl, h, q⟩
theorem r_cat {l b : Addr} {xs zs : List V} (h : H l = some (.lst xs)) (h2 : H b = some (.lst zs)) (z : xs.length + zs.length ≤ sizeLine) (q : ∀ p, H p = none → Q (.ref p) (upd H p (.lst (xs ++ zs)))) : rCat (.ref l) (.ref b) H Q := ⟨l, b, xs, zs, rfl, rfl, h, h2, z, q⟩
theorem isD_of {d : Addr} {kv : List (Key × V)} (h : H d = some (.dK kv)) : IsD H d := .inl ⟨kv, .inl h⟩
end
theorem cut_to (xs : List V) {k : Int} (k0 : 0 ≤ k) (k1 : k ≤ xs.length) : cutV xs none (some k) = xs.take k.toNat := by
  unfold cutV
  rw [show k = ((k.toNat : Nat) : Int) by omega, HT.sIx_none, HT.sIx_nat]
  rw [List.drop_zero, Nat.sub_zero, Nat.min_eq_left (by omega)]
  rw [show ((k.toNat : Nat) : Int).toNat = k.toNat by omega]
theorem cut_from (xs : List V) {k : Int} (k0 : 0 ≤ k) (k1 : k ≤ xs.length) : cutV xs (some k) none = xs.drop k.toNat := by
  unfold cutV
  rw [show k = ((k.toNat : Nat) : Int) by omega, HT.sIx_none, HT.sIx_nat]
  rw [Nat.min_eq_left (by omega)]
  rw [show ((k.toNat : Nat) : Int).toNat = k.toNat by omega]
  apply List.take_of_length_le
  rw [List.length_drop]
  exact Nat.le_refl _
/-- numbers[:k] + [z] + numbers[k + 1:] -/
theorem cut_set (ns : List Int) {k z : Int} (k0 : 0 ≤ k) (k1 : k < ns.length) : cutV (ns.map V.int) none (some k) ++ [V.int z] ++ cutV (ns.map V.int) (some (k + 1)) none = (ns.set k.toNat z).map V.int := by
  rw [cut_to _ k0 (by rw [List.length_map]; omega), cut_from _ (by omega) (by rw [List.length_map]; omega)]
  rw [List.set_eq_take_append_cons_drop, if_pos (by omega)]
  rw [List.map_append, List.map_cons, List.map_take, List.map_drop, List.append_assoc]
  rw [show (k + 1).toNat = k.toNat + 1 by omega] <;> rfl
def spAlong (K : PySem.W.Frag) : Sp := fun vs H Q _ => ∃ (v : V) (k : Int) (l : Addr) (n : Int) (ps : List (Int × Int)) (ns : List Int), vs = [v, .int k, .ref l] ∧ Tp H v (fmD n ps) ∧ SqL K H l (ns.map V.int) ∧ WOk n ps ns ∧ (ps.map (·.1)).Nodup ∧
  ∀ v' H', Same H H' → Tp H' v' (.tuple [.int (wth n (but ps k) ns), .int (cof ps k)]) → Q v' H'
end Tug
set_option Elab.async false
set_option linter.all false
set_option maxRecDepth 100000
set_option maxHeartbeats 4000000
/-! Tug, part G: sorted(a dict of numbers); two forms put together. -/
namespace Tug
open PySem PySem.Spec L2
open PyProof.Rows hiding St

/-! ### sorted(d), d's keys whole numbers, fewer than 64 -/
theorem ints_at' : ∀ {us : List Value} {ns : List Int}, us.length = ns.length → (∀ (j : Nat) (v : Value), us[j]? = some v → ∃ (x : Int) (t : Tok), ns[j]? = some x ∧ v = Value.int x t) → IntsAre us ns
  | [], [], _, _ => .nil
  | u :: us, n :: ns, hl, h => by
    obtain ⟨x, t, e1, e2⟩ := h 0 u rfl
    have e3 : n = x := Option.some.inj e1
    subst e3
    subst e2
    refine .cons _ _ (ints_at' (by simpa using hl) fun j v e => ?_)
    obtain ⟨x, t, a, b⟩ := h (j + 1) v (by simpa using e)
    exact ⟨x, t, by simpa using a, b⟩
  | [], _ :: _, hl, _ => by simp at hl
  | _ :: _, [], hl, _ => by simp at hl
section
variable {X : Cx}
def rSortZ : List V → Hp → VK → Prop := fun vs H Q => ∃ (a : Addr) (rs : List (Int × Int)), vs = [.ref a] ∧ H a = some (.dK (kvs rs)) ∧ rs.length < 64 ∧
  ∀ (ns : List Int) (p : Addr), ns.Perm (rs.map (·.1)) → ns.Pairwise (· ≤ ·) → H p = none → Q (.ref p) (upd H p (.lst (ns.map V.int)))
theorem call_sortZ (calm : X.calm = true) : CallR X (.builtin "sorted") rSortZ := by
  intro pins s σ H vs us Q I r h
  obtain ⟨a, rs, rfl, hd, few, q⟩ := h
  obtain ⟨u, rfl, ru⟩ := vals1 r
  cases ru
  obtain ⟨z, lo, es, rel, dd⟩ := dk_rd I.hok (.inl hd)
  obtain ⟨ep, at_⟩ := dd.dictAt
  have keys : es.map (·.1) = (rs.map (·.1)).map Sum.inl := by
    rw [← rel.keys]
    unfold kvs
    rw [List.map_map, List.map_map] <;> rfl
  have len : es.length = rs.length := by
    have e := congrArg List.length keys
    simpa using e
  have room : es.length ≤ sizeLine := by rw [len, sizeLine_eq]; omega
  refine Calls.call_function_entry PyProof.Rows.kind_sorted PyProof.Rows.plain_sorted PyProof.Rows.entry_sorted (PyProof.Rows.args_sorted1 _) ?_
  unfold Builtin.«sorted»
  refine wpAny_bind (m := checkCount "sorted" 1 1 _) (wpAny_pure ?_)
  refine wpAny_bind (PySem.W.kdu_collect (A := X.A.in1) (PySem.W.kdl_dict (knd := mixKind X.prog X.w) (kvs := es) (ep := ep) lo) (I.ok.hd calm) at_ room fun h' tk acc kp got => ?_)
  have alen : acc.toList.length = (rs.map (·.1)).length := by rw [Array.length_toList, got.1, len, List.length_map]
  have hI : IntsAre acc.toList (rs.map (·.1)) := by
    refine ints_at' alen fun j v e => ?_
    obtain ⟨k, x, e1, e2⟩ := got.2 j v (by rw [← Array.getElem?_toList]; exact e)
    have e3 : (es.map (·.1))[j]? = some k := by
      rw [List.getElem?_map, e1] <;> rfl
    rw [keys, List.getElem?_map, Option.map_eq_some_iff] at e3
    obtain ⟨y, e4, e5⟩ := e3
    subst e5
    obtain ⟨t, ev⟩ := Value.isInt_shape (k := y) (v := v) e2
    exact ⟨y, t, e4, ev⟩
  have J : Inv X pins σ H { s with heap := h', toks := tk } := I.kept kp
  have few' : acc.toList.length < 64 := by rw [alen, List.length_map]; exact few
  refine wpAny_bind (wpAny_newList ?_ (by rw [sizeLine_eq]; omega))
  have here : (h'.push (seqObj "list" acc.toList.toArray 0)).get? h'.objs.size = some (seqObj "list" acc.toList.toArray 0) := Heap.get?_push_size _ rfl
  show wpAny _ _ _ _ _ { s with heap := h'.push (seqObj "list" acc.toList.toArray 0), toks := tk }
  refine wpAny_bind (wpAny_holding (wpAny_call_entry PyProof.Rows.slot_list_sort ⟨_, here, rfl⟩ PyProof.Rows.entry_list_sort
    (list_sort_tree (s := { s with heap := h'.push (seqObj "list" acc.toList.toArray 0), toks := tk }) here hI few' fun out ns a1 a2 a3 => ⟨_, rfl, ?_⟩) (PyProof.Rows.args_list_sort _)))
  obtain ⟨e', he'⟩ := PyProof.Rows.sortedHeap_at (vs := acc.toList) (out := out) here
  have size : (ns.map V.int).length ≤ sizeLine := by
    rw [List.length_map, a2.length_eq, List.length_map, sizeLine_eq]
    omega
  refine wpAny_pure ⟨_, rfl, .ref h'.objs.size, upd H h'.objs.size (.lst (ns.map V.int)), J.laid (t' := tk) (fun b u e => ?_) (Nat.le_refl _)
    (show ObjOk X.prog X.w _ _ _ (.lst (ns.map V.int)) from ⟨size, out.toList, e', vals_of_ints a1, by rw [Array.toArray_toList]; exact he'⟩), rfl, q ns _ a2 a3 (J.hok.fresh (Nat.le_refl _))⟩
  have hb : b < h'.objs.size := Heap.lt_size e
  rw [PyProof.Rows.sortedHeap_old (Nat.ne_of_lt hb) (by rw [size_push']; exact Nat.lt_succ_of_lt hb)]
  exact Heap.get?_push_of_some _ e
end

/-! ### pairs as a dict, changed -/
def ups : List (Int × Int) → Int → Int → List (Int × Int)
  | [], k, z => [(k, z)]
  | p :: r, k, z => if p.1 = k then (k, z) :: r else p :: ups r k z
theorem ups_keys {k z : Int} : ∀ (rs : List (Int × Int)) (j : Int), j ∈ (ups rs k z).map (·.1) ↔ j = k ∨ j ∈ rs.map (·.1)
  | [], j => by simp [ups]
  | p :: r, j => by
    unfold ups
    by_cases e : p.1 = k
    · rw [if_pos e, List.map_cons, List.mem_cons, List.map_cons, List.mem_cons, e]
      constructor
      · rintro (h | h)
        · exact .inl h
        · exact .inr (.inr h)
      · rintro (h | h | h)
        · exact .inl h
        · exact .inl h
        · exact .inr h
    · rw [if_neg e, List.map_cons, List.mem_cons, ups_keys r j, List.map_cons, List.mem_cons]
      constructor
      · rintro (h | h | h)
        · exact .inr (.inl h)
        · exact .inl h
        · exact .inr (.inr h)
      · rintro (h | h | h)
        · exact .inr (.inl h)
        · exact .inl h
        · exact .inr (.inr h)
theorem ups_nodup {k z : Int} : ∀ {rs : List (Int × Int)}, (rs.map (·.1)).Nodup → ((ups rs k z).map (·.1)).Nodup
  | [], _ => by simp [ups]
  | p :: r, h => by
    rw [List.map_cons, List.nodup_cons] at h
    unfold ups
    by_cases e : p.1 = k
    · rw [if_pos e, List.map_cons, List.nodup_cons]
      refine ⟨?_, h.2⟩
      show k ∉ _
      rw [← e]
      exact h.1
    · rw [if_neg e, List.map_cons, List.nodup_cons]
      refine ⟨fun m => ?_, ups_nodup h.2⟩
      rcases (ups_keys r p.1).mp m with q | q
      · exact e q
      · exact h.1 q
theorem ups_cof {k z : Int} : ∀ (rs : List (Int × Int)) (j : Int), cof (ups rs k z) j = if j = k then z else cof rs j
  | [], j => by
    unfold ups
    by_cases e : k = j
    · rw [cof_pos e, if_pos e.symm]
    · rw [cof_neg e, if_neg fun q => e q.symm]
  | p :: r, j => by
    unfold ups
    by_cases e : p.1 = k
    · rw [if_pos e]
      by_cases q : k = j
      · rw [cof_pos q, if_pos q.symm]
      · rw [cof_neg q, if_neg fun z => q z.symm, cof_neg fun z => q (e.symm.trans z)]
    · rw [if_neg e]
      by_cases q : p.1 = j
      · rw [cof_pos q, cof_pos q, if_neg fun z => e (q.trans z)]
      · rw [cof_neg q, cof_neg q, ups_cof r j]
theorem ups_length {k z : Int} : ∀ rs : List (Int × Int), (ups rs k z).length ≤ rs.length + 1
  | [] => by simp [ups]
  | p :: r => by
    unfold ups
    by_cases e : p.1 = k
    · rw [if_pos e]
      simp
    · rw [if_neg e, List.length_cons, List.length_cons]
      have := ups_length (k := k) (z := z) r
      omega
theorem kvs_any (rs : List (Int × Int)) (k : Int) : ((kvs rs).any fun kv => decide (kv.1 = (Sum.inl k : Key))) = decide (k ∈ rs.map (·.1)) := by
  induction rs with
  | nil => simp [kvs]
  | cons p r ih =>
    show ((Sum.inl p.1, V.int p.2) :: kvs r).any _ = _
    rw [List.any_cons, ih, List.map_cons]
    by_cases e : p.1 = k
    · simp [e]
    · have e2 : ¬ k = p.1 := fun q => e q.symm
      have e3 : ¬ (Sum.inl p.1 : Key) = Sum.inl k := fun q => e (Sum.inl.inj q)
      simp [e3, e2]
theorem kvs_map_not {k z : Int} : ∀ {rs : List (Int × Int)}, k ∉ rs.map (·.1) → ((kvs rs).map fun kv => if kv.1 = (Sum.inl k : Key) then (kv.1, V.int z) else kv) = kvs rs
  | [], _ => rfl
  | p :: r, h => by
    rw [List.map_cons, List.mem_cons, not_or] at h
    show (if (Sum.inl p.1 : Key) = Sum.inl k then _ else _) :: ((kvs r).map _) = _
    rw [if_neg fun q => h.1 (Sum.inl.inj q).symm, kvs_map_not h.2] <;> rfl
theorem ups_not {k z : Int} : ∀ {rs : List (Int × Int)}, k ∉ rs.map (·.1) → ups rs k z = rs ++ [(k, z)]
  | [], _ => rfl
  | p :: r, h => by
    rw [List.map_cons, List.mem_cons, not_or] at h
    unfold ups
    rw [if_neg fun q => h.1 q.symm, ups_not h.2] <;> rfl
theorem put_kvs {k z : Int} {rs : List (Int × Int)} (h : (rs.map (·.1)).Nodup) : putK (kvs rs) (Sum.inl k) (V.int z) = kvs (ups rs k z) := by
  unfold putK
  rw [kvs_any]
  by_cases m : k ∈ rs.map (·.1)
  · rw [if_pos (decide_eq_true m)]
    induction rs with
    | nil => simp at m
    | cons p r ih =>
      rw [List.map_cons, List.nodup_cons] at h
      show (if (Sum.inl p.1 : Key) = Sum.inl k then ((Sum.inl p.1 : Key), V.int z) else _) :: ((kvs r).map _) = _
      unfold ups
      by_cases e : p.1 = k
      · rw [if_pos (by rw [e]), if_pos e, kvs_map_not (by rw [← e]; exact h.1), e] <;> rfl
      · rw [if_neg fun q => e (Sum.inl.inj q), if_neg e]
        rw [List.map_cons, List.mem_cons] at m
        rw [ih h.2 (m.resolve_left fun q => e q.symm)] <;> rfl
  · rw [if_neg (by rw [decide_eq_false m]; exact Bool.false_ne_true), ups_not m]
    unfold kvs
    rw [List.map_append] <;> rfl

/-! ### canonical pairs -/
/-- by rising knobs, none of 0 -/
structure Can (ps : List (Int × Int)) : Prop where
  rise : (ps.map (·.1)).Pairwise (· < ·)
  nz : ∀ p ∈ ps, p.2 ≠ 0
theorem Can.nodup {ps : List (Int × Int)} (h : Can ps) : (ps.map (·.1)).Nodup := h.rise.imp fun h => Int.ne_of_lt h
theorem PsOk.can {m : Int} {ps : List (Int × Int)} (h : PsOk m ps) : Can ps := ⟨h.rise, fun p hp => (h.at_ p hp).2.2.1⟩
theorem cof_mem {ps : List (Int × Int)} (h : (ps.map (·.1)).Nodup) {p : Int × Int} (hp : p ∈ ps) : cof ps p.1 = p.2 := by
  induction ps with
  | nil => cases hp
  | cons q r ih =>
    rw [List.map_cons, List.nodup_cons] at h
    rcases List.mem_cons.mp hp with e | e
    · rw [e, cof_pos rfl]
    · rw [cof_neg fun z => h.1 (by rw [z]; exact List.mem_map_of_mem e), ih h.2 e]
theorem cof_key {ps : List (Int × Int)} {k : Int} (h : cof ps k ≠ 0) : k ∈ ps.map (·.1) := by
  by_cases m : k ∈ ps.map (·.1)
  · exact m
  · exact absurd (cof_not m) h
/-- two canonical rows of pairs are one where each knob goes in as often -/
theorem Can.ext : ∀ {ps qs : List (Int × Int)}, Can ps → Can qs → (∀ k, cof ps k = cof qs k) → ps = qs
  | [], [], _, _, _ => rfl
  | [], q :: qs, _, hq, h => by
    have e := h q.1
    rw [cof_pos rfl] at e
    exact absurd e.symm (hq.nz q List.mem_cons_self)
  | p :: ps, [], hp, _, h => by
    have e := h p.1
    rw [cof_pos rfl] at e
    exact absurd e (hp.nz p List.mem_cons_self)
  | p :: ps, q :: qs, hp, hq, h => by
    have rp := hp.rise
    have rq := hq.rise
    rw [List.map_cons, List.pairwise_cons] at rp rq
    have np := hp.nodup
    have nq := hq.nodup
    rw [List.map_cons, List.nodup_cons] at np nq
    have kp : q.1 ∈ (p :: ps).map (·.1) := cof_key (by rw [h, cof_pos rfl]; exact hq.nz q List.mem_cons_self)
    have kq : p.1 ∈ (q :: qs).map (·.1) := cof_key (by rw [← h, cof_pos rfl]; exact hp.nz p List.mem_cons_self)
    rw [List.map_cons, List.mem_cons] at kp kq
    have e1 : p.1 = q.1 := by
      rcases kp with e | e
      · exact e.symm
      · rcases kq with e' | e'
        · exact e'
        · have l1 := rp.1 _ e
          have l2 := rq.1 _ e'
          omega
    have e2 : p.2 = q.2 := by
      have := h p.1
      rw [cof_pos rfl, cof_pos e1.symm] at this
      exact this
    have e3 : p = q := Prod.ext e1 e2
    subst e3
    have e4 : ps = qs := by
      refine Can.ext ⟨rp.2, fun x hx => hp.nz x (List.mem_cons_of_mem _ hx)⟩ ⟨rq.2, fun x hx => hq.nz x (List.mem_cons_of_mem _ hx)⟩ fun k => ?_
      by_cases ek : p.1 = k
      · rw [← ek, cof_not np.1, cof_not nq.1]
      · have := h k
        rw [cof_neg ek, cof_neg ek] at this
        exact this
    rw [e4]
/-- one form's pairs and so many times another one's -/
structure Put (ps qs : List (Int × Int)) (m : Int) (rs : List (Int × Int)) : Prop where
  can : Can rs
  cof : ∀ k, cof rs k = Tug.cof ps k + m * Tug.cof qs k
theorem get_kvs {H : Hp} {d : Addr} {rs : List (Int × Int)} (k : Int) (hd : H d = some (.dK (kvs rs))) : ∃ o, DGet H d (.int k) o ∧ o.getD (.int 0) = .int (cof rs k) := by
  refine ⟨_, DGet.k (k := Sum.inl k) hd, ?_⟩
  rw [kvs_val]
  unfold cof
  cases e : cofO rs k <;> rfl
theorem at_kvs {H : Hp} {d : Addr} {rs : List (Int × Int)} {k : Int} (hd : H d = some (.dK (kvs rs))) (m : k ∈ rs.map (·.1)) : DGet H d (.int k) (some (.int (cof rs k))) := by
  have e : valV (kvs rs) (Sum.inl k) = some (.int (cof rs k)) := by
    rw [kvs_val]
    unfold cof
    cases e : cofO rs k with
    | some z => rfl
    | none =>
      exfalso
      unfold cofO at e
      rw [Option.map_eq_none_iff, List.find?_eq_none] at e
      obtain ⟨p, hp, e2⟩ := List.mem_map.mp m
      exact e p hp (by simpa using e2)
  rw [← e]
  exact DGet.k (k := Sum.inl k) hd
theorem cof_snoc {ps : List (Int × Int)} {q : Int × Int} (h : q.1 ∉ ps.map (·.1)) (k : Int) : cof (ps ++ [q]) k = if k = q.1 then q.2 else cof ps k := by
  induction ps with
  | nil =>
    show cof [q] k = _
    by_cases e : q.1 = k
    · rw [cof_pos e, if_pos e.symm]
    · rw [cof_neg e, if_neg fun z => e z.symm]
  | cons p r ih =>
    rw [List.map_cons, List.mem_cons, not_or] at h
    rw [List.cons_append]
    by_cases e : p.1 = k
    · rw [cof_pos e, cof_pos e, if_neg fun z => h.1 (z.symm.trans e.symm)]
    · rw [cof_neg e, cof_neg e, ih h.2]
/-- the pairs told of a dict -/
def outP (rs : List (Int × Int)) (ks : List Int) : List (Int × Int) := (ks.filter fun k => !decide (cof rs k = 0)).map fun k => (k, cof rs k)
theorem outP_keys (rs : List (Int × Int)) (ks : List Int) : (outP rs ks).map (·.1) = ks.filter fun k => !decide (cof rs k = 0) := by
  unfold outP
  rw [List.map_map]
  exact List.map_id' _
theorem outP_cof {rs : List (Int × Int)} : ∀ {ks : List Int}, ks.Nodup → ∀ k, cof (outP rs ks) k = if k ∈ ks then cof rs k else 0
  | [], _, k => by simp [outP, cof, cofO]
  | j :: ks, h, k => by
    rw [List.nodup_cons] at h
    have ih := outP_cof (rs := rs) h.2 k
    unfold outP at *
    rw [List.filter_cons]
    by_cases z : cof rs j = 0
    · rw [decide_eq_true z]
      rw [if_neg (by decide), ih]
      by_cases e : k = j
      · subst e
        rw [if_neg h.1, if_pos List.mem_cons_self, z]
      · have e2 : k ∈ j :: ks ↔ k ∈ ks := by simp [e]
        simp only [e2]
    · rw [decide_eq_false z]
      rw [if_pos (by decide), List.map_cons]
      by_cases e : j = k
      · subst e
        rw [cof_pos rfl, if_pos List.mem_cons_self]
      · rw [cof_neg e, ih]
        have e2 : k ∈ j :: ks ↔ k ∈ ks := by
          rw [List.mem_cons]
          constructor
          · rintro (q | q)
            · exact absurd q.symm e
            · exact q
          · exact .inr
        simp only [e2]
theorem outP_can {rs : List (Int × Int)} {ks : List Int} (h : ks.Pairwise (· ≤ ·)) (n : ks.Nodup) : Can (outP rs ks) := by
  constructor
  · rw [outP_keys]
    refine List.Pairwise.filter _ ?_
    exact (List.pairwise_and_iff.mpr ⟨h, n⟩).imp fun ⟨a, b⟩ => by omega
  · intro p hp
    unfold outP at hp
    obtain ⟨k, hk, rfl⟩ := List.mem_map.mp hp
    have := (List.mem_filter.mp hk).2
    simpa using this
theorem outP_snoc (rs : List (Int × Int)) (ks : List Int) (k : Int) : outP rs (ks ++ [k]) = if cof rs k = 0 then outP rs ks else outP rs ks ++ [(k, cof rs k)] := by
  unfold outP
  rw [List.filter_append, List.map_append]
  by_cases z : cof rs k = 0
  · simp [z]
  · simp [z]
section
variable {σ : St} {H : Hp} {Q : VK}
theorem r_dput {D : Ends} {td ty tv : TE} (h : tv σ H fun v H1 => td σ H1 fun x H2 => ty σ H2 fun y H3 => ∃ a H4, x = .ref a ∧ DPut H3 a y v H4 ∧ D.nx σ H4) : sDPut td ty tv D σ H := h
theorem r_dget {td ty : TE} (h : td σ H fun x H1 => ty σ H1 fun y H2 => ∃ a v, x = .ref a ∧ DGet H2 a y (some v) ∧ Q v H2) : tDGet td ty σ H Q := h
theorem r_un {r : V → Hp → VK → Prop} {ta : TE} (h : ta σ H fun x H1 => r x H1 Q) : tUn r ta σ H Q := h
theorem r_rU {g : Int → V} {i : Int} (q : Q (g i) H) : rU g (.int i) H Q := ⟨i, rfl, q⟩
end
end Tug
set_option Elab.async false
set_option linter.all false
set_option maxRecDepth 100000
set_option maxHeartbeats 4000000
/-! Tug, part H: forms put together: their knobs, their worths; what the defs of forms promise. -/
namespace Tug
open PySem PySem.Spec L2
open PyProof.Rows hiding St

/-- the knobs are below sixty -/
def Kb (ps : List (Int × Int)) : Prop := ∀ p ∈ ps, 0 ≤ p.1 ∧ p.1 < 60
theorem length_but {a : Int} : ∀ {l : List Int}, l.Nodup → l.length ≤ (l.filter fun x => !decide (x = a)).length + 1
  | [], _ => Nat.zero_le _
  | x :: l, h => by
    rw [List.nodup_cons] at h
    rw [List.filter_cons]
    by_cases e : x = a
    · have e2 : l.filter (fun x => !decide (x = a)) = l := by
        rw [List.filter_eq_self]
        intro y hy
        have : y ≠ a := fun q => h.1 (by rw [e, ← q]; exact hy)
        simp [this]
      rw [if_neg (by simp [e]), e2, List.length_cons]
      exact Nat.le_refl _
    · rw [if_pos (by simp [e]), List.length_cons, List.length_cons]
      have := length_but (a := a) h.2
      omega
theorem few_of : ∀ (b : Nat) (l : List Int), l.Nodup → (∀ x ∈ l, 0 ≤ x ∧ x < b) → l.length ≤ b
  | 0, l, _, h => by
    cases l with
    | nil => exact Nat.le_refl _
    | cons x l =>
      have := h x List.mem_cons_self
      omega
  | b + 1, l, n, h => by
    have h1 := length_but (a := (b : Int)) n
    have h2 := few_of b (l.filter fun x => !decide (x = (b : Int))) (n.sublist List.filter_sublist) fun x hx => by
      obtain ⟨m, ne⟩ := List.mem_filter.mp hx
      have := h x m
      have ne' : x ≠ (b : Int) := by simpa using ne
      omega
    omega
theorem Kb.few {ps : List (Int × Int)} (h : Kb ps) (n : (ps.map (·.1)).Nodup) : ps.length ≤ 60 := by
  have := few_of 60 (ps.map (·.1)) n fun x hx => by
    obtain ⟨p, hp, rfl⟩ := List.mem_map.mp hx
    exact h p hp
  rw [List.length_map] at this
  exact this
theorem Put.keys {ps qs rs : List (Int × Int)} {m : Int} (h : Put ps qs m rs) {p : Int × Int} (hp : p ∈ rs) : p.1 ∈ ps.map (·.1) ∨ p.1 ∈ qs.map (·.1) := by
  have e := h.cof p.1
  rw [cof_mem h.can.nodup hp] at e
  by_cases a : Tug.cof ps p.1 = 0
  · by_cases b : Tug.cof qs p.1 = 0
    · rw [a, b, Int.mul_zero] at e
      exact absurd e (h.can.nz p hp)
    · exact .inr (cof_key b)
  · exact .inl (cof_key a)
theorem Put.all {ps qs rs : List (Int × Int)} {m : Int} {A : Int → Prop} (h : Put ps qs m rs) (a : ∀ p ∈ ps, A p.1) (b : ∀ p ∈ qs, A p.1) : ∀ p ∈ rs, A p.1 := by
  intro p hp
  rcases h.keys hp with q | q
  · obtain ⟨x, hx, e⟩ := List.mem_map.mp q
    rw [← e]
    exact a x hx
  · obtain ⟨x, hx, e⟩ := List.mem_map.mp q
    rw [← e]
    exact b x hx
theorem Put.kb {ps qs rs : List (Int × Int)} {m : Int} (h : Put ps qs m rs) (a : Kb ps) (b : Kb qs) : Kb rs := h.all (A := fun k => 0 ≤ k ∧ k < 60) a b
theorem cof_cons {p : Int × Int} {ps : List (Int × Int)} (h : p.1 ∉ ps.map (·.1)) (k : Int) : cof (p :: ps) k = (if k = p.1 then p.2 else 0) + cof ps k := by
  by_cases e : p.1 = k
  · rw [cof_pos e, if_pos e.symm, ← e, cof_not h, Int.add_zero]
  · rw [cof_neg e, if_neg fun q => e q.symm, Int.zero_add]
theorem sum_add (f g : Nat → Int) : ∀ l : List Nat, (l.map fun k => f k + g k).sum = (l.map f).sum + (l.map g).sum
  | [] => rfl
  | a :: l => by
    rw [List.map_cons, List.map_cons, List.map_cons, List.sum_cons, List.sum_cons, List.sum_cons, sum_add f g l]
    omega
theorem sum_mul (m : Int) (f : Nat → Int) : ∀ l : List Nat, (l.map fun k => m * f k).sum = m * (l.map f).sum
  | [] => by simp
  | a :: l => by
    rw [List.map_cons, List.map_cons, List.sum_cons, List.sum_cons, sum_mul m f l, Int.mul_add]
theorem sum_zero (f : Nat → Int) : ∀ {l : List Nat}, (∀ k ∈ l, f k = 0) → (l.map f).sum = 0
  | [], _ => rfl
  | a :: l, h => by
    rw [List.map_cons, List.sum_cons, h a List.mem_cons_self, sum_zero f fun k hk => h k (List.mem_cons_of_mem _ hk)] <;> rfl
theorem sum_one (z : Int) {j : Nat} : ∀ {l : List Nat}, l.Nodup → j ∈ l → (l.map fun k => if k = j then z else 0).sum = z
  | [], _, h => by cases h
  | a :: l, n, h => by
    rw [List.nodup_cons] at n
    rw [List.map_cons, List.sum_cons]
    by_cases e : a = j
    · subst e
      rw [if_pos rfl, sum_zero _ fun k hk => if_neg fun q => n.1 (by rw [← q]; exact hk), Int.add_zero]
    · rw [if_neg e, sum_one z n.2 ((List.mem_cons.mp h).resolve_left fun q => e q.symm), Int.zero_add]
/-- the sum, knob by knob -/
theorem smo_range {ns : List Int} : ∀ {ps : List (Int × Int)}, (ps.map (·.1)).Nodup → (∀ p ∈ ps, 0 ≤ p.1 ∧ p.1 < ns.length) → smo ps ns = ((List.range ns.length).map fun (k : Nat) => cof ps (k : Int) * ns.getD k 0).sum
  | [], _, _ => by
    rw [sum_zero _ fun (k : Nat) _ => by rw [show cof [] (k : Int) = 0 from rfl, Int.zero_mul]] <;> rfl
  | p :: ps, n, h => by
    rw [List.map_cons, List.nodup_cons] at n
    obtain ⟨p0, p1⟩ := h p List.mem_cons_self
    rw [smo_cons, smo_range n.2 fun q hq => h q (List.mem_cons_of_mem _ hq)]
    have e : (fun (k : Nat) => cof (p :: ps) (k : Int) * ns.getD k 0) = fun (k : Nat) => (if k = p.1.toNat then p.2 * ns.getD p.1.toNat 0 else 0) + cof ps (k : Int) * ns.getD k 0 := by
      funext k
      rw [cof_cons n.1, Int.add_mul]
      by_cases q : (k : Int) = p.1
      · have q2 : k = p.1.toNat := by omega
        rw [if_pos q, if_pos q2, ← q2]
      · have q2 : ¬ k = p.1.toNat := by omega
        rw [if_neg q, if_neg q2, Int.zero_mul]
    rw [e, sum_add, sum_one _ List.nodup_range (List.mem_range.mpr (by omega))]
/-- the worth of forms put together -/
theorem Put.wth {ps qs rs : List (Int × Int)} {m : Int} {ns : List Int} (n n' : Int) (h : Put ps qs m rs) (np : (ps.map (·.1)).Nodup) (nq : (qs.map (·.1)).Nodup) (hp : ∀ p ∈ ps, 0 ≤ p.1 ∧ p.1 < ns.length) (hq : ∀ p ∈ qs, 0 ≤ p.1 ∧ p.1 < ns.length) :
    Tug.wth (n + m * n') rs ns = Tug.wth n ps ns + m * Tug.wth n' qs ns := by
  have hr : ∀ p ∈ rs, 0 ≤ p.1 ∧ p.1 < ns.length := h.all (A := fun k => 0 ≤ k ∧ k < ns.length) hp hq
  rw [wth_smo, wth_smo, wth_smo, smo_range h.can.nodup hr, smo_range np hp, smo_range nq hq]
  have e : (fun (k : Nat) => Tug.cof rs (k : Int) * ns.getD k 0) = fun (k : Nat) => Tug.cof ps (k : Int) * ns.getD k 0 + m * (Tug.cof qs (k : Int) * ns.getD k 0) := by
    funext k
    rw [h.cof, Int.add_mul, Int.mul_assoc]
  rw [e, sum_add, sum_mul, Int.mul_add]
  omega
theorem Put.sz {ps qs rs : List (Int × Int)} {m : Int} {a b c : Nat} (h : Put ps qs m rs) (hp : ∀ p ∈ ps, Sz a p.2) (hq : ∀ q ∈ qs, Sz b q.2) (hm : Sz c m) : ∀ p ∈ rs, Sz (max a (c + b) + 1) p.2 := by
  intro p q
  rw [← cof_mem h.can.nodup q, h.cof]
  exact Sz.add ((cof_sz hp).mono (Nat.le_max_left _ _)) ((hm.mul (cof_sz hq)).mono (Nat.le_max_right _ _))

def spPut : Sp := fun vs H Q _ => ∃ (v u : V) (m n n' : Int) (ps qs : List (Int × Int)), vs = [v, u, .int m] ∧ Tp H v (fmD n ps) ∧ Tp H u (fmD n' qs) ∧ Sz 1000 m ∧ Sz 1000 n' ∧ (∀ q ∈ qs, Sz 1000 q.2) ∧
  (ps.map (·.1)).Nodup ∧ (qs.map (·.1)).Nodup ∧ Kb ps ∧ Kb qs ∧ ∀ r rs H', Same H H' → Put ps qs m rs → Tp H' r (fmD (n + m * n') rs) → Q r H'
/-- added, taken: the def of two forms that puts so many times the other to the one -/
def spAdd (m : Int) : Sp := fun vs H Q _ => ∃ (v u : V) (n n' : Int) (ps qs : List (Int × Int)), vs = [v, u] ∧ Tp H v (fmD n ps) ∧ Tp H u (fmD n' qs) ∧ Sz 1000 n' ∧ (∀ q ∈ qs, Sz 1000 q.2) ∧
  (ps.map (·.1)).Nodup ∧ (qs.map (·.1)).Nodup ∧ Kb ps ∧ Kb qs ∧ ∀ r rs H', Same H H' → Put ps qs m rs → Tp H' r (fmD (n + m * n') rs) → Q r H'
def spTimes : Sp := fun vs H Q _ => ∃ (v : V) (m n : Int) (ps : List (Int × Int)), vs = [v, .int m] ∧ Tp H v (fmD n ps) ∧ Sz 1000 m ∧ Sz 1000 n ∧ (∀ q ∈ ps, Sz 1000 q.2) ∧
  (ps.map (·.1)).Nodup ∧ Kb ps ∧ ∀ r rs H', Same H H' → Put [] ps m rs → Tp H' r (fmD (0 + m * n) rs) → Q r H'
def spForm1 : Sp := fun vs H Q _ => ∃ k : Int, vs = [.int k] ∧ ∀ r H', Same H H' → Tp H' r (fmD 0 [(k, 1)]) → Q r H'
def spPlain : Sp := fun vs H Q _ => ∃ k : Int, vs = [.int k] ∧ ∀ r H', Same H H' → Tp H' r (fmD k []) → Q r H'
theorem Put.wok {ps qs rs : List (Int × Int)} {m n n' n2 : Int} {ns : List Int} (h : Put ps qs m rs) (okp : WOk n ps ns) (okq : WOk n' qs ns) (kp : Kb ps) (kq : Kb qs) (hp : ∀ p ∈ ps, Sz 300 p.2) (hq : ∀ q ∈ qs, Sz 300 q.2) (hm : Sz 300 m) : WOk n2 rs ns :=
  ⟨h.all (A := fun k => 0 ≤ k ∧ k < ns.length) okp.at_ okq.at_, fun p q => (h.sz hp hq hm p q).mono (by decide), okp.szn, Nat.le_trans ((h.kb kp kq).few h.can.nodup) (by decide)⟩
theorem WOk.nil {n : Int} {ns : List Int} (h : ∀ z ∈ ns, Sz 1000 z) : WOk n [] ns := ⟨fun p q => absurd q List.not_mem_nil, fun p q => absurd q List.not_mem_nil, h, Nat.zero_le _⟩
theorem PsOk.kb {m : Int} {ps : List (Int × Int)} (h : PsOk m ps) (l : m ≤ 60) : Kb ps := fun p hp => by
  have := h.at_ p hp
  omega
theorem Kb.nil : Kb [] := fun p q => absurd q List.not_mem_nil
theorem Can.nil : Can [] := ⟨by simp, by simp⟩
theorem r_par3 {D : Ends} {σ : St} {H : Hp} {i j l : Nat} {ta : TA} (h : ta σ H fun vs H1 => ∃ u v w, vs = [u, v, w] ∧ D.nx (((σ.set i (some u)).set j (some v)).set l (some w)) H1) : tPar3 i j l ta D σ H := h
/-- a form that is shown and compared -/
theorem Fd.form60 {n : Int} {ps : List (Int × Int)} (hn : Sz 1900 n) (kb : Kb ps) (nd : (ps.map (·.1)).Nodup) (hp : ∀ p ∈ ps, Sz 1900 p.2) : Fd (fmD n ps) 60 8000 := by
  have := kb.few nd
  refine (Fd.form hn fun p q => ⟨(sz_small ?_ ?_).mono (by decide), hp p q⟩).mono (by decide) (by omega)
  · have := kb p q
    omega
  · have := kb p q
    omega
end Tug
set_option Elab.async false
set_option linter.all false
set_option maxRecDepth 100000
set_option maxHeartbeats 4000000
/-! Tug, part I: known tuples joined, and what forms put together stand for once. -/
namespace Tug
open PySem PySem.Spec L2
open PyProof.Rows hiding St
section
variable {X : Cx}
/-- t + u of known tuples: a known tuple -/
def rCatK : R2 := fun x y H Q => ∃ (a b : Addr) (xs ys : List V), x = .ref a ∧ y = .ref b ∧ Kt H a xs ∧ Kt H b ys ∧ xs.length + ys.length ≤ sizeLine ∧ ∀ p H', Same H H' → Kt H' p (xs ++ ys) → Q (.ref p) H'
theorem op_catK : OpR X (binaryOp .Add) rCatK := by
  intro pins s σ H x y v u Q I rx ry h
  obtain ⟨a, b, xs, ys, rfl, rfl, ha, hb, hz, q⟩ := h
  cases rx
  cases ry
  obtain ⟨its, r1, p1, _⟩ := I.tuple ha.sq
  obtain ⟨its2, r2, p2, _⟩ := I.tuple hb.sq
  by_cases hx : xs = []
  · subst hx
    cases r1
    exact L2.cat_tup0 p1 p2 ⟨.ref b, H, I, rfl, q b H (fun _ _ h => h) hb⟩
  refine HT.cat_tup p1 p2 (fun z => hx (r1.nil_iff.mp z)) (fun z => ⟨.ref a, H, I, rfl, q a H (fun _ _ h => h) ?_⟩) (fun z => ?_) (by rw [← r1.length, ← r2.length]; exact hz)
  · rw [r2.nil_iff.mp z, List.append_nil]
    exact ha
  · have hn := I.hok.fresh (Nat.le_refl _)
    refine ⟨.ref s.heap.objs.size, _, I.laid (t' := s.toks) (o := .frz { cls := .type "tuple", data := .seq (its ++ its2).toArray } (.tup (xs ++ ys))) (fun b ob q => Heap.get?_push_of_some _ q) (Nat.le_refl _) ?_, rfl, q _ _ (same_new hn) (Kt.new ⟨_, rfl, rfl⟩)⟩
    exact ⟨Heap.get?_push_size _ rfl, by rw [List.length_append]; exact hz, _, r1.append r2, IsTup.new _ _⟩
theorem r_catK {H : Hp} {a b : Addr} {xs ys : List V} {Q : VK} (ha : Kt H a xs) (hb : Kt H b ys) (z : xs.length + ys.length ≤ sizeLine) (q : ∀ p H', Same H H' → Kt H' p (xs ++ ys) → Q (.ref p) H') : rCatK (.ref a) (.ref b) H Q := ⟨a, b, xs, ys, rfl, rfl, ha, hb, z, q⟩
end
theorem r_irng2 {σ : St} {H : Hp} {ta : TA} {R : It → Hp → Prop} (h : ta σ H fun vs H1 => ∃ i j : Int, vs = [.int i, .int j] ∧ (-(2 ^ 62) ≤ i ∧ i < 2 ^ 62 ∧ -(2 ^ 62) ≤ j ∧ j < 2 ^ 62) ∧ R (Itr i (j - i).toNat) H1) : iRng2 ta σ H R := h
theorem Put.uniq {ps qs rs ts : List (Int × Int)} {m : Int} (h : Put ps qs m rs) (g : Put ps qs m ts) : rs = ts := Can.ext h.can g.can fun k => by rw [h.cof, g.cof]
theorem Can.snoc {rs : List (Int × Int)} {k z : Int} (h : Can rs) (lt : ∀ r ∈ rs, r.1 < k) (nz : z ≠ 0) : Can (rs ++ [(k, z)]) := by
  constructor
  · rw [List.map_append, List.pairwise_append]
    refine ⟨h.rise, by simp, fun a ha b hb => ?_⟩
    obtain ⟨r, hr, rfl⟩ := List.mem_map.mp ha
    have e : b = k := by simpa using hb
    rw [e]
    exact lt r hr
  · intro r hr
    rcases List.mem_append.mp hr with q | q
    · exact h.nz r q
    · rw [List.mem_singleton.mp q]
      exact nz
/-- a form that is shown -/
theorem Fd.form20 {n : Int} {ps : List (Int × Int)} (hn : Sz 1900 n) (kb : Kb ps) (nd : (ps.map (·.1)).Nodup) (hp : ∀ p ∈ ps, Sz 1900 p.2) : Fd (fmD n ps) 10 300 := by
  have := kb.few nd
  refine (Fd.form hn fun p q => ⟨(sz_small ?_ ?_).mono (by decide), hp p q⟩).mono (by decide) (by omega)
  · have := kb p q
    omega
  · have := kb p q
    omega
theorem Put.fd {n n' m : Int} {ps qs rs : List (Int × Int)} (h : Put ps qs m rs) (hn : Sz 300 n) (hn' : Sz 300 n') (hm : Sz 300 m) (kp : Kb ps) (kq : Kb qs) (hp : ∀ p ∈ ps, Sz 300 p.2) (hq : ∀ p ∈ qs, Sz 300 p.2) : Fd (fmD (n + m * n') rs) 20 8000 :=
  (Fd.form20 ((Sz.add (hn.mono (show 300 ≤ 600 by decide)) (Sz.mul hm hn')).mono (by decide)) (h.kb kp kq) h.can.nodup fun p q => (h.sz hp hq hm p q).mono (by decide)).mono (by decide) (by decide)
/-- the rest of a block by what it asks, not seen -/
theorem r_seqO {σ : St} {H : Hp} {t u : L2.TS} {D : Ends} (M : St → Hp → Prop) (k : ∀ σ' H', M σ' H' → u D σ' H') (h : ∀ U : St → Hp → Prop, (∀ σ' H', M σ' H' → U σ' H') → t { D with nx := U } σ H) : tSeq t u D σ H := h _ k
theorem Fd.pair {d e : PyData} {n b c : Nat} (h : Fd d n b) (g : Fd e n c) : Fd (.tuple [d, e]) (n + 1) (b + c + 2) := (Fd.tup (FdA.cons h (FdA.cons g FdA.nil))).mono (Nat.le_refl _) (by omega)
end Tug
set_option Elab.async false
set_option linter.all false
set_option maxRecDepth 100000
set_option maxHeartbeats 4000000
namespace Tug
open PySem PySem.Spec L2
open PyProof.Rows hiding St
def top (i : Nat) : Stmt := PySem.Challenge.pw_tugline_k19_forms_put_together.main.body.getD i (.Pass ⟨0, 0, 0, 0⟩)
abbrev s_form_of : Stmt := top 1
abbrev N_form_of : List Str := ["knob"]
abbrev P_form_of : List Str := ["knob"]
theorem sc_form_of : FnScope N_form_of P_form_of (defScope s_form_of) := ⟨rfl, rfl, rfl, by decide +kernel, rfl, by decide +kernel, by decide +kernel⟩
abbrev s_plain_form : Stmt := top 2
abbrev N_plain_form : List Str := ["number"]
abbrev P_plain_form : List Str := ["number"]
theorem sc_plain_form : FnScope N_plain_form P_plain_form (defScope s_plain_form) := ⟨rfl, rfl, rfl, by decide +kernel, rfl, by decide +kernel, by decide +kernel⟩
abbrev s_put_together : Stmt := top 3
abbrev N_put_together : List Str := ["one", "other", "many", "parts", "knob", "much"]
abbrev P_put_together : List Str := ["one", "other", "many"]
theorem sc_put_together : FnScope N_put_together P_put_together (defScope s_put_together) := ⟨rfl, rfl, rfl, by decide +kernel, rfl, by decide +kernel, by decide +kernel⟩
abbrev s_added : Stmt := top 4
abbrev N_added : List Str := ["one", "other"]
abbrev P_added : List Str := ["one", "other"]
theorem sc_added : FnScope N_added P_added (defScope s_added) := ⟨rfl, rfl, rfl, by decide +kernel, rfl, by decide +kernel, by decide +kernel⟩
abbrev s_taken : Stmt := top 5
abbrev N_taken : List Str := ["one", "other"]
abbrev P_taken : List Str := ["one", "other"]
theorem sc_taken : FnScope N_taken P_taken (defScope s_taken) := ⟨rfl, rfl, rfl, by decide +kernel, rfl, by decide +kernel, by decide +kernel⟩
abbrev s_times : Stmt := top 6
abbrev N_times : List Str := ["form", "number"]
abbrev P_times : List Str := ["form", "number"]
theorem sc_times : FnScope N_times P_times (defScope s_times) := ⟨rfl, rfl, rfl, by decide +kernel, rfl, by decide +kernel, by decide +kernel⟩
abbrev s_well : Stmt := top 8
abbrev N_well : List Str := ["script", "k", "seed", "cell", "own"]
abbrev P_well : List Str := ["script", "k"]
theorem sc_well : FnScope N_well P_well (defScope s_well) := ⟨rfl, rfl, rfl, by decide +kernel, rfl, by decide +kernel, by decide +kernel⟩
abbrev s_draw : Stmt := top 9
abbrev N_draw : List Str := ["well", "many", "found"]
abbrev P_draw : List Str := ["well", "many"]
theorem sc_draw : FnScope N_draw P_draw (defScope s_draw) := ⟨rfl, rfl, rfl, by decide +kernel, rfl, by decide +kernel, by decide +kernel⟩
abbrev s_pick : Stmt := top 10
abbrev N_pick : List Str := ["well", "some"]
abbrev P_pick : List Str := ["well", "some"]
theorem sc_pick : FnScope N_pick P_pick (defScope s_pick) := ⟨rfl, rfl, rfl, by decide +kernel, rfl, by decide +kernel, by decide +kernel⟩
abbrev s_number : Stmt := top 11
abbrev N_number : List Str := ["well", "great"]
abbrev P_number : List Str := ["well"]
theorem sc_number : FnScope N_number P_number (defScope s_number) := ⟨rfl, rfl, rfl, by decide +kernel, rfl, by decide +kernel, by decide +kernel⟩
abbrev s_form : Stmt := top 12
abbrev N_form : List Str := ["well", "many", "parts", "spot", "much"]
abbrev P_form : List Str := ["well", "many"]
theorem sc_form : FnScope N_form P_form (defScope s_form) := ⟨rfl, rfl, rfl, by decide +kernel, rfl, by decide +kernel, by decide +kernel⟩
abbrev s_put : Stmt := top 13
abbrev N_put : List Str := ["first", "second", "many", "parts", "spot", "much"]
abbrev P_put : List Str := ["first", "second", "many"]
theorem sc_put : FnScope N_put P_put (defScope s_put) := ⟨rfl, rfl, rfl, by decide +kernel, rfl, by decide +kernel, by decide +kernel⟩
abbrev s_law : Stmt := top 14
abbrev N_law : List Str := ["script", "well", "turn", "many", "first", "second", "spot", "much", "against", "seen"]
abbrev P_law : List Str := ["script"]
theorem sc_law : FnScope N_law P_law (defScope s_law) := ⟨rfl, rfl, rfl, by decide +kernel, rfl, by decide +kernel, by decide +kernel⟩
local macro_rules | `(tactic| walk_at "rd1") => `(tactic| first
  | (with_reducible first
  | refine Tug.r_seq ?_ | refine Tug.r_asg ?_ | refine Tug.r_op ?_ | refine Tug.r_c ?_ | refine Tug.r_i0 ?_ | refine Tug.r_name ?_ | refine Tug.r_call ?_ | refine Tug.r_cons ?_ | refine Tug.r_nil ?_ | refine Tug.r_cb ?_
  | refine Tug.r_ifs ?_ | refine Tug.r_test ?_ | refine Tug.r_bl ?_ | refine Tug.r_ret ?_ | refine Tug.r_drop ?_ | refine Tug.r_next ?_ | refine Tug.r_gsub ?_ | refine Tug.r_lst ?_ | refine Tug.r_tup ?_ | refine Tug.r_if ?_ | refine Tug.r_and ?_
  | refine Tug.r_or ?_ | refine Tug.r_not ?_ | refine Tug.r_tb ?_ | refine Tug.r_for ?_ | refine Tug.r_ilist ?_ | refine Tug.r_itup ?_ | refine Tug.r_irng ?_ | refine Tug.r_lc ?_ | refine Tug.r_yes ?_ | refine Tug.r_true ?_ | refine Tug.r_false ?_
  | refine Tug.r_bm ?_ | refine Tug.r_par ?_ | refine Tug.r_gcons ?_ | refine Tug.r_gnil ?_ | refine Tug.r_calln ?_ | refine Tug.r_tupF ?_ | refine Tug.r_get2 ?_ | refine Tug.r_iseq ?_ | refine Tug.r_sl ?_ | refine Tug.r_nopart ?_ | refine Tug.r_part ?_ | refine Tug.r_pint ?_ | refine Tug.r_dput ?_ | refine Tug.r_dget ?_ | refine Tug.r_un ?_ | refine Tug.r_rU ?_ | refine Tug.r_par3 ?_)
  | ((with_reducible show L2.tVar _ _ _ _); refine Tug.r_var rfl ?_))
local macro_rules | `(tactic| walk_at "rd") => `(tactic| repeat (walk_at "rd1"))
def K34 (ps : List (Int × Int)) : Prop := ∀ p ∈ ps, 0 ≤ p.1 ∧ p.1 < 34
theorem K34.kb {ps : List (Int × Int)} (h : K34 ps) : Kb ps := fun p hp => by
  have := h p hp
  omega
section
variable {P : Program} {w : World} {K : PySem.W.Frag} {mg : Str → Option Value} {base : Heap} {f : Addr} {fd : FuncData}
abbrev FnP (K : PySem.W.Frag) (x : Str) (st : Stmt) (f : Addr) (fd : FuncData) : Prop := FunD K x x (defArgs st) (defBody st) (defScope st) [] [] f fd
theorem ok_well (F : FnP K "_law_well" s_well f fd) (z_len : mg "len" = none) : FnG P w K mg base CX0 1 f fd P_well (spWell K) := by
  refine fnG F sc_well (fun vs H Q E h => ?_) (fun cdv A outer s H vs Q E hG hr h => ?_)
  · obtain ⟨a, ns, k, rfl, _⟩ := h
    rfl
  obtain ⟨a, ns, k, rfl, hS, hl, hb, h0, h5, q⟩ := h
  refine ⟨_, PSs.nox (pss_cons (ps_set (i := 2) sc_well.nd rfl (Or.inl rfl) (pe_op op_add pe_int (pv 1)))
  (pss_cons (ps_for PassesOwn.never rfl (piL K (pv 0)) (pg_name (i := 3) sc_well.nd rfl (Or.inl rfl))
  (pss_one (ps_set (i := 2) sc_well.nd rfl (Or.inl rfl) (pe_op op_add (pe_op op_mod (pe_op op_powW (pe_op op_add (pe_op op_mulW (pv 2) pe_int) (pv 3)) pe_int) pe_int) pe_int))))
  (pss_cons (ps_set (i := 4) sc_well.nd rfl (Or.inl rfl) pe_int)
  (pss_cons (ps_if (PW.pt (pw_and (pt_cmpR op_lt (pv 1) (pe_callB (lenA K) (by rfl) z_len (by decide +kernel) (pa_cons (pv 0) pa_nil)) (nomark _)) (pw_and1 (pt_cmpR op_ge (pe_ix (ixA K) (pv 0) (pv 1) (fun _ _ => rfl)) (pe_op op_powW pe_int pe_int) (nomark _)))))
  (pss_one (ps_set (i := 4) sc_well.nd rfl (Or.inl rfl) (pe_op op_sub (pe_ix (ixA K) (pv 0) (pv 1) (fun _ _ => rfl)) (pe_op op_powW pe_int pe_int)))) pss_nil)
  (pss_one (ps_ret (pe_lst (pa_cons (pv 4) (pa_cons (pv 2) pa_nil))))))))), ?_⟩
  rw [show start N_well [V.ref a, V.int k] = [some (V.ref a), some (V.int k), none, none, none] from rfl]
  walk_at "rd"
  refine ⟨a, rfl, ⟨_, hS⟩, for_list (K := K) (a := a) (xs := ns.map V.int) (fun i σ H' => H' = H ∧ ∃ (z : Int) (c : Option V), σ = [some (V.ref a), some (V.int k), some (V.int z), c, none] ∧ 0 ≤ z ∧ z < 2147483648) ?_ ?_ ?_ ?_⟩
  · exact ⟨rfl, _, _, rfl, by omega, by omega⟩
  · rintro i σ H' _ ⟨rfl, _⟩
    exact hS
  · rintro i x σ H' hx ⟨rfl, z, c, rfl, hz, hzb⟩
    obtain ⟨n, hn, rfl⟩ : ∃ n, n ∈ ns ∧ x = V.int n := by
      rw [List.getElem?_map, Option.map_eq_some_iff] at hx
      obtain ⟨n, hn, e⟩ := hx
      exact ⟨n, List.mem_of_getElem? hn, e.symm⟩
    walk_at "rd"
    refine r_i1 (wide_mul (a := 32) (b := 32) (by omega) (by decide) (by decide) (by decide) (by decide)) ?_
    walk_at "rd"
    refine r_i1 (pow_bits (n := 1048577) ?_ (by decide) (by decide)) ?_
    · refine bits_of_lt ?_
      have h1 := lt_of_bits n
      have h2 : 2 ^ Builtin.Int.intBits n ≤ 2 ^ 1048576 := Nat.pow_le_pow_right (by decide) (hb n hn)
      have h3 : (2 : Nat) ^ 1048577 = 2 ^ 1048576 + 2 ^ 1048576 := by rw [show 1048577 = 1048576 + 1 from rfl, Nat.pow_succ, Nat.mul_two]
      have h4 : (2 : Nat) ^ 64 ≤ 2 ^ 1048576 := Nat.pow_le_pow_right (by decide) (by decide)
      generalize (2 : Nat) ^ 1048576 = B at *
      rw [h3]
      have h5 : (2 : Nat) ^ 64 = 18446744073709551616 := by decide
      omega
    walk_at "rd"
    refine r_i1 (show (0 : Int) < 2147483629 by decide) ?_
    walk_at "rd"
    refine ⟨rfl, _, _, rfl, ?_, ?_⟩
    · have := Int.emod_nonneg ((z * 50021 + n) ^ (3 : Int).toNat) (show (2147483629 : Int) ≠ 0 by decide)
      omega
    · have := Int.emod_lt_of_pos ((z * 50021 + n) ^ (3 : Int).toNat) (show (0 : Int) < 2147483629 by decide)
      omega
  · rintro σ H' ⟨rfl, z, c, rfl, hz, hzb⟩
    walk_at "rd"
    have fin : ∀ o : Int, 0 ≤ o → Builtin.Int.intBits o ≤ 1048577 → ∀ p, H' p = none → Q (V.ref p) (upd H' p (.lst [V.int o, V.int z])) := by
      intro o ho hob p hp
      exact q p _ hp (same_new hp) ⟨o, z, upd_same, ho, hob, hz, hzb⟩
    refine ⟨a, _, rfl, .inl hS, ?_⟩
    walk_at "rd"
    refine ifD (fun hk => ?_) (fun hk => ?_)
    · have hk' : k.toNat < ns.length := by
        rw [List.length_map] at hk
        omega
      obtain ⟨n, hn⟩ : ∃ n, ns[k.toNat]? = some n := ⟨_, List.getElem?_eq_getElem hk'⟩
      have ha : atI (ns.map V.int) k = some (V.int n) := at_int h0 (get_int hn)
      walk_at "rd"
      refine r_ix (.inl hS) ha ?_
      walk_at "rd"
      refine r_i1 (pow_ok (n := 4) (by decide) (by decide) (by decide)) ?_
      walk_at "rd"
      refine ifD (fun hv => ?_) (fun hv => ?_)
      · walk_at "rd"
        refine r_ix (.inl hS) ha ?_
        walk_at "rd"
        refine r_i1 (pow_ok (n := 4) (by decide) (by decide) (by decide)) ?_
        walk_at "rd"
        refine ⟨by show 2 ≤ sizeLine; decide, fin _ ?_ ?_⟩
        · have e : (10 : Int) ^ (18 : Int).toNat = 1000000000000000000 := by decide
          omega
        · refine Nat.le_trans (bits_mono (b := n) ?_) (Nat.le_trans (hb n (List.mem_of_getElem? hn)) (by decide))
          have e : (10 : Int) ^ (18 : Int).toNat = 1000000000000000000 := by decide
          omega
      · walk_at "rd"
        exact ⟨by show 2 ≤ sizeLine; decide, fin 0 (by decide) (by decide)⟩
    · walk_at "rd"
      exact ⟨by show 2 ≤ sizeLine; decide, fin 0 (by decide) (by decide)⟩
theorem ok_draw (F : FnP K "_law_draw" s_draw f fd) : FnG P w K mg base CX0 1 f fd P_draw spDraw := by
  refine fnG F sc_draw (fun vs H Q E h => ?_) (fun cdv A outer s H vs Q E hG hr h => ?_)
  · obtain ⟨w, m, rfl, _⟩ := h
    rfl
  obtain ⟨a, m, rfl, ⟨o, z, hw, ho, hob, hz, hzb⟩, h0, hm, k⟩ := h
  refine ⟨_, PSs.nox (pss_cons (ps_if (pt_cmpR op_ge (pe_ix (ixA K) (pv 0) pe_int (fun _ _ => rfl)) (pv 1) (nomark _))
  (pss_cons (ps_set (i := 2) sc_draw.nd rfl (Or.inl rfl) (pe_op op_mod (pe_ix (ixA K) (pv 0) pe_int (fun _ _ => rfl)) (pv 1)))
  (pss_cons (ps_asg (pe_op op_fdivW (pe_ix (ixA K) (pv 0) pe_int (fun _ _ => rfl)) (pv 1)) (pg_sub (pv 0) pe_int set_list))
  (pss_one (ps_ret (pv 2))))) pss_nil)
  (pss_cons (ps_asg (pe_op op_mod (pe_op op_add (pe_op op_mulW (pe_ix (ixA K) (pv 0) pe_int (fun _ _ => rfl)) pe_int) pe_int) pe_int) (pg_sub (pv 0) pe_int set_list))
  (pss_one (ps_ret (pe_op op_mod (pe_op op_fdivW (pe_op op_mod (pe_op op_powW (pe_op op_mod (pe_op op_powW (pe_ix (ixA K) (pv 0) pe_int (fun _ _ => rfl)) pe_int) pe_int) pe_int) pe_int) pe_int) (pv 1)))))), ?_⟩
  rw [show start N_draw [V.ref a, V.int m] = [some (V.ref a), some (V.int m), none] from rfl]
  walk_at "rd"
  refine r_ix (.inl (SqL.of hw)) rfl ?_
  walk_at "rd"
  refine ifD (fun hc => ?_) (fun hc => ?_)
  · walk_at "rd"
    refine r_ix (.inl (SqL.of hw)) rfl ?_
    walk_at "rd"
    refine r_i1 (show (0 : Int) < m from h0) ?_
    walk_at "rd"
    refine r_ix (.inl (SqL.of hw)) rfl ?_
    walk_at "rd"
    refine r_i1 (wide_div (b := 300) h0 ?_ (by decide) (by decide)) ?_
    · omega
    walk_at "rd"
    refine r_setL hw rfl ?_
    walk_at "rd"
    refine k _ _ (Int.emod_nonneg _ (by omega)) (Int.emod_lt_of_pos _ h0) ⟨Frm.upd, ?_⟩
    refine ⟨o / m, z, upd_same, Int.ediv_nonneg ho (by omega), Nat.le_trans (bits_mono ?_) hob, hz, hzb⟩
    have h1 : o / m ≤ o := Int.ediv_le_self m ho
    have h2 : 0 ≤ o / m := Int.ediv_nonneg ho (by omega)
    omega
  · walk_at "rd"
    refine r_ix (.inl (SqL.of hw)) rfl ?_
    walk_at "rd"
    refine r_i1 (wide_mul (a := 32) (b := 32) (by omega) (by decide) (by decide) (by decide) (by decide)) ?_
    walk_at "rd"
    refine r_i1 (show (0 : Int) < 2147483647 by decide) ?_
    walk_at "rd"
    refine r_setL hw rfl ?_
    walk_at "rd"
    have y0 : 0 ≤ (z * 48271 + 12345) % 2147483647 := Int.emod_nonneg _ (by decide)
    have y1 : (z * 48271 + 12345) % 2147483647 < 2147483647 := Int.emod_lt_of_pos _ (by decide)
    generalize (z * 48271 + 12345) % 2147483647 = y at *
    refine r_ix (xs := [V.int o, V.int y]) (.inl (SqL.of upd_same)) rfl ?_
    walk_at "rd"
    refine r_i1 (pow_ok (n := 32) (by omega) (by decide) (by decide)) ?_
    walk_at "rd"
    refine r_i1 (show (0 : Int) < 2147483629 by decide) ?_
    have x0 : 0 ≤ y ^ (3 : Int).toNat % 2147483629 := Int.emod_nonneg _ (by decide)
    have x1 : y ^ (3 : Int).toNat % 2147483629 < 2147483629 := Int.emod_lt_of_pos _ (by decide)
    generalize y ^ (3 : Int).toNat % 2147483629 = x at *
    walk_at "rd"
    refine r_i1 (pow_ok (n := 32) (by omega) (by decide) (by decide)) ?_
    walk_at "rd"
    refine r_i1 (show (0 : Int) < 1000000007 by decide) ?_
    walk_at "rd"
    refine r_i1 (wide_div (b := 300) (by decide) (by decide) (by decide) (by decide)) ?_
    walk_at "rd"
    refine r_i1 (show (0 : Int) < m from h0) ?_
    exact k _ _ (Int.emod_nonneg _ (by omega)) (Int.emod_lt_of_pos _ h0) ⟨Frm.upd, o, y, upd_same, ho, hob, by omega, by omega⟩
abbrev C_ (P : Program) (w : World) (K : PySem.W.Frag) (mg : Str → Option Value) (base : Heap) (x : Str) (k : Nat) (ps : List Str) (sp : Sp) : Prop := Cal P w K mg base CX0 x k ps [] sp
theorem ok_pick (F : FnP K "_law_pick" s_pick f fd) (z_len : mg "len" = none) (C_draw : C_ P w K mg base "_law_draw" 1 P_draw spDraw) : FnG P w K mg base CX0 2 f fd P_pick (spPick K) := by
  refine fnG F sc_pick (fun vs H Q E h => ?_) (fun cdv A outer s H vs Q E hG hr h => ?_)
  · obtain ⟨w, l, xs, rfl, _⟩ := h
    rfl
  obtain ⟨a, l, xs, rfl, hW, hl, hS, hne, hlen, k⟩ := h
  refine ⟨_, PSs.nox (pss_one (ps_ret (pe_ix (ixA K) (pv 1) (pe_cal C_draw hG hr pass0 rfl (pa_cons (pv 0) (pa_cons (pe_callB (lenA K) (by rfl) z_len (by decide +kernel) (pa_cons (pv 1) pa_nil)) pa_nil))) (fun _ _ => rfl)))), ?_⟩
  rw [show start N_pick [V.ref a, V.ref l] = [some (V.ref a), some (V.ref l)] from rfl]
  walk_at "rd"
  refine ⟨l, xs, rfl, hS, ?_⟩
  walk_at "rd"
  have hpos : 0 < xs.length := List.length_pos_iff.mpr hne
  refine ⟨a, _, rfl, hW, by omega, by omega, fun r H' h0 h1 d => ?_⟩
  walk_at "rd"
  have hr' : r.toNat < xs.length := by omega
  refine r_ix (v := xs[r.toNat]) (xs := xs) ?_ (at_int h0 (List.getElem?_eq_getElem hr')) ?_
  · obtain ⟨o, z, hw, _⟩ := hW
    rcases hS with (((h | ⟨ob, h⟩) | h) | ((h | ⟨ob, h⟩) | h))
    · exact .inl (.inl (.inl (d.frm _ _ hl h)))
    · exact .inl (.inl (.inr ⟨ob, d.frm _ _ hl h⟩))
    · exact .inl (.inr h)
    · exact .inr (.inl (.inl (d.frm _ _ hl h)))
    · exact .inr (.inl (.inr ⟨ob, d.frm _ _ hl h⟩))
    · exact .inr (.inr h)
  · exact k _ _ (List.getElem_mem hr') d
theorem ok_number (F : FnP K "_law_number" s_number f fd) (C_draw : C_ P w K mg base "_law_draw" 1 P_draw spDraw) (C_pick : C_ P w K mg base "_law_pick" 2 P_pick (spPick K)) : FnG P w K mg base CX0 3 f fd P_number spNumber := by
  refine fnG F sc_number (fun vs H Q E h => ?_) (fun cdv A outer s H vs Q E hG hr h => ?_)
  · obtain ⟨w, rfl, _⟩ := h
    rfl
  obtain ⟨a, rfl, hW, k⟩ := h
  refine ⟨_, PSs.nox (pss_cons (ps_set (i := 1) sc_number.nd rfl (Or.inl rfl) (pe_cal C_pick hG hr pass0 rfl (pa_cons (pv 0) (pa_cons (pe_lst (pa_cons pe_int (pa_cons pe_int (pa_cons pe_int (pa_cons (pe_op op_powW pe_int pe_int) pa_nil))))) pa_nil))))
  (pss_one (ps_ret (pe_cal C_pick hG hr pass0 rfl (pa_cons (pv 0) (pa_cons (pe_lst (pa_cons pe_int (pa_cons pe_int (pa_cons (pe_op op_sub pe_int pe_int) (pa_cons (pe_op op_sub (pe_cal C_draw hG hr pass0 rfl (pa_cons (pv 0) (pa_cons (pe_op op_add (pe_op op_mulW pe_int (pv 1)) pe_int) pa_nil))) (pv 1)) (pa_cons (pe_cal C_draw hG hr pass0 rfl (pa_cons (pv 0) (pa_cons (pv 1) pa_nil))) pa_nil)))))) pa_nil)))))), ?_⟩
  rw [show start N_number [V.ref a] = [some (V.ref a), none] from rfl]
  walk_at "rd"
  refine r_i1 (pow_ok (n := 4) (by decide) (by decide) (by decide)) ?_
  walk_at "rd"
  refine ⟨by show 4 ≤ sizeLine; decide, fun p hp => ?_⟩
  have e59 : (10 : Int) ^ (59 : Int).toNat = 10 ^ 59 := rfl
  refine ⟨a, p, _, rfl, hW.new hp, hW.ne hp, .inl (SqL.of upd_same), by simp, by simp, fun x H1 hx d1 => ?_⟩
  have d1' : Drawn a H H1 := (Drawn.new hW hp).trans d1
  obtain ⟨g, rfl, hg⟩ : ∃ g : Int, x = V.int g ∧ 0 < g ∧ g ≤ 10 ^ 59 := by
    simp only [List.mem_cons, List.not_mem_nil, or_false] at hx
    rcases hx with rfl | rfl | rfl | rfl
    · exact ⟨_, rfl, by decide, by decide⟩
    · exact ⟨_, rfl, by decide, by decide⟩
    · exact ⟨_, rfl, by decide, by decide⟩
    · exact ⟨_, rfl, by decide, by decide⟩
  walk_at "rd"
  refine r_i1 (wide_mul (a := 32) (b := 256) (by decide) (by omega) (by decide) (by decide) (by decide)) ?_
  walk_at "rd"
  refine ⟨a, _, rfl, d1'.wl, by omega, by omega, fun r1 H2 h0 h1 d2 => ?_⟩
  walk_at "rd"
  refine ⟨a, _, rfl, d2.wl, by omega, by omega, fun r2 H3 h2 h3 d3 => ?_⟩
  walk_at "rd"
  refine ⟨by show 5 ≤ sizeLine; decide, fun p5 hp5 => ?_⟩
  refine ⟨a, p5, _, rfl, d3.wl.new hp5, d3.wl.ne hp5, .inl (SqL.of upd_same), by simp, by simp, fun x H4 hx d4 => ?_⟩
  have d4' : Drawn a H H4 := (((d1'.trans d2).trans d3).more hp5).trans d4
  obtain ⟨i, rfl, hi⟩ : ∃ i : Int, x = V.int i ∧ Nm i := by
    simp only [List.mem_cons, List.not_mem_nil, or_false] at hx
    unfold Nm
    rcases hx with rfl | rfl | rfl | rfl | rfl
    · exact ⟨_, rfl, by decide, by decide⟩
    · exact ⟨_, rfl, by decide, by decide⟩
    · exact ⟨_, rfl, by decide, by decide⟩
    · exact ⟨_, rfl, by omega, by omega⟩
    · exact ⟨_, rfl, by omega, by omega⟩
  exact k i H4 hi d4'
theorem ok_form (F : FnP K "_law_form" s_form f fd) (z_range : mg "range" = none) (z_tuple : mg "tuple" = none) (C_draw : C_ P w K mg base "_law_draw" 1 P_draw spDraw) (C_number : C_ P w K mg base "_law_number" 3 P_number spNumber) : FnG P w K mg base CX0 4 f fd P_form spForm := by
  refine fnG F sc_form (fun vs H Q E h => ?_) (fun cdv A outer s H vs Q E hG hr h => ?_)
  · obtain ⟨w, m, rfl, _⟩ := h
    rfl
  obtain ⟨a, m, rfl, hW, h0, h30, k⟩ := h
  refine ⟨_, PSs.nox (pss_cons (ps_set (i := 2) sc_form.nd rfl (Or.inl rfl) (pe_lst pa_nil))
  (pss_cons (ps_for PassesOwn.never rfl (pi_range1 rfl z_range (pa_cons (pv 1) pa_nil)) (pg_name (i := 3) sc_form.nd rfl (Or.inl rfl))
  (pss_cons (ps_set (i := 4) sc_form.nd rfl (Or.inl rfl) (pe_cal C_number hG hr pass0 rfl (pa_cons (pv 0) pa_nil)))
  (pss_one (ps_if (PW.pt (pw_and (pt_cmpR op_ne (pv 4) pe_int (nomark _)) (pw_and1 (pt_cmpR op_eq (pe_cal C_draw hG hr pass0 rfl (pa_cons (pv 0) (pa_cons pe_int pa_nil))) pe_int (nomark _)))))
  (pss_one (ps_expr (pe_bm PySem.F.plainAttrs_list PySem.F.slot_list_append PySem.F.type_list_append mt_append (pv 2) (pa_cons (pe_tupF (pa_cons (pv 3) (pa_cons (pv 4) pa_nil))) pa_nil)))) pss_nil))))
  (pss_one (ps_ret (pe_tupF (pa_cons (pe_cal C_number hG hr pass0 rfl (pa_cons (pv 0) pa_nil)) (pa_cons (pe_callTy (tupleA K) (by rfl) z_tuple (by decide +kernel) (pa_cons (pv 2) pa_nil)) pa_nil))))))), ?_⟩
  rw [show start N_form [V.ref a, V.int m] = [some (V.ref a), some (V.int m), none, none, none] from rfl]
  walk_at "rd"
  refine ⟨Nat.zero_le _, fun p hp => ?_⟩
  walk_at "rd"
  refine ⟨m, rfl, by omega, by omega, for_range (lo := 0) (n := m.toNat) (fun i σ H' => ∃ (c1 c2 : Option V) (xs : List V) (ps : List (Int × Int)), σ = [some (V.ref a), some (V.int m), some (V.ref p), c1, c2] ∧
    Drawn a H H' ∧ H' p = some (.lst xs) ∧ TpAll H' xs (ps.map prD) ∧ PsOk (i : Int) ps ∧ ps.length ≤ i) ?_ ?_ ?_⟩
  · exact ⟨_, _, [], [], rfl, Drawn.new hW hp, upd_same, .nil, .nil _, Nat.le_refl _⟩
  · rintro i σ H' hi ⟨c1, c2, xs, ps, rfl, d, hL, hT, hP, hl⟩
    walk_at "rd"
    refine ⟨a, rfl, d.wl, fun n H1 hn d1 => ?_⟩
    have na := hW.ne hp
    have hL1 := d1.frm _ _ na hL
    have hT1 := Tp.monoAll (d.wl.ts d1.frm) _ _ hT
    walk_at "rd"
    refine r_ne rfl ?_
    walk_at "rd"
    refine ifN (fun hz => ?_) (fun hz => ?_)
    · have hz' : n ≠ 0 := fun e => hz (by rw [e])
      walk_at "rd"
      refine ⟨a, 2, rfl, d1.wl, by decide, by decide, fun r H2 r0 r1 d2 => ?_⟩
      have hL2 := d2.frm _ _ na hL1
      have hT2 := Tp.monoAll (d1.wl.ts d2.frm) _ _ hT1
      have d02 : Drawn a H H2 := (d.trans d1).trans d2
      walk_at "rd"
      refine r_eq rfl ?_
      walk_at "rd"
      refine ifD (fun hy => ?_) (fun hy => ?_)
      · walk_at "rd"
        refine ⟨tyL hL2, ?_⟩
        walk_at "rd"
        refine ⟨by show 2 ≤ sizeLine; decide, fun t u ht hu => ?_⟩
        have npt : p ≠ t := ne_of_none hL2 ht
        have hlen : xs.length ≤ 30 := by
          have := hT2.length
          rw [List.length_map] at this
          omega
        have hLu : upd H2 t u p = some (.lst xs) := by
          rw [upd_ne npt]
          exact hL2
        walk_at "rd"
        refine r_app hLu (Nat.lt_of_le_of_lt hlen (by decide)) ?_
        walk_at "rd"
        have ts1 : TS H2 (upd H2 t u) := TS.of (same_new ht)
        have ts2 : TS (upd H2 t u) (upd (upd H2 t u) p (.lst (xs ++ [V.ref t]))) := Frm.upd.ts hLu
        refine ⟨_, _, xs ++ [V.ref t], ps ++ [((i : Int), n)], rfl, (d02.more ht).mut hp na, upd_same, ?_, ?_, ?_⟩
        · rw [List.map_append]
          refine (Tp.monoAll (ts1.trans ts2) _ _ hT2).append (.cons ?_ .nil)
          have kt := (Kt.new (H := H2) (a := t) hu).mono ts2
          rw [Int.zero_add] at kt
          exact .tup kt (.cons (.int _) (.cons (.int _) .nil))
        · exact hP.snoc (by omega) hz' hn
        · rw [List.length_append, List.length_singleton]
          omega
      · walk_at "rd"
        exact ⟨_, _, xs, ps, rfl, d02, hL2, hT2, hP.mono (by omega), by omega⟩
    · walk_at "rd"
      exact ⟨_, _, xs, ps, rfl, d.trans d1, hL1, hT1, hP.mono (by omega), by omega⟩
  · rintro σ H' ⟨c1, c2, xs, ps, rfl, d, hL, hT, hP, hl⟩
    walk_at "rd"
    refine ⟨a, rfl, d.wl, fun n H1 hn d1 => ?_⟩
    have na := hW.ne hp
    have hL1 := d1.frm _ _ na hL
    have hT1 := Tp.monoAll (d.wl.ts d1.frm) _ _ hT
    walk_at "rd"
    refine ⟨p, xs, rfl, .inl ⟨SqL.of hL1, fun t u ht hu => ?_⟩⟩
    walk_at "rd"
    refine ⟨by show 2 ≤ sizeLine; decide, fun t2 u2 ht2 hu2 => ?_⟩
    have em : ((m.toNat : Nat) : Int) = m := by omega
    rw [em] at hP
    refine k _ n ps _ hn hP (by omega) ?_ (((d.trans d1).more ht).more ht2)
    have ts1 : TS H1 (upd H1 t u) := TS.of (same_new ht)
    have ts2 : TS (upd H1 t u) (upd (upd H1 t u) t2 u2) := TS.of (same_new ht2)
    refine .tup (Kt.new hu2) (.cons (.int _) (.cons ?_ .nil))
    exact .tup ((Kt.new hu).mono ts2) (Tp.monoAll (ts1.trans ts2) _ _ hT1)
theorem ok_put_together (F : FnP K "put_together" s_put_together f fd) (z_dict : mg "dict" = none) (z_sorted : mg "sorted" = none) (z_tuple : mg "tuple" = none) : FnG P w K mg base CX0 1 f fd P_put_together spPut := by
  refine fnG F sc_put_together (fun vs H Q E h => ?_) (fun cdv A outer s H vs Q E hG hr h => ?_)
  · obtain ⟨v, u, m, n, n', ps, qs, rfl, _⟩ := h
    rfl
  obtain ⟨v, u, m, n, n', ps, qs, rfl, hv, hu, szm, szn, szq, np, nq, kp, kq, k⟩ := h
  refine ⟨_, PSs.nox (pss_cons (ps_set (i := 3) sc_put_together.nd rfl (Or.inr rfl) (pe_callTy (call_dictT rfl) (by rfl) z_dict (by decide +kernel) (pa_cons (pe_ix (ixA K) (pv 0) pe_int (fun _ _ => rfl)) pa_nil)))
  (pss_cons (ps_for PassesOwn.never rfl (piT K (pe_ix (ixA K) (pv 1) pe_int (fun _ _ => rfl))) (pg_tup rfl (pgs_cons (pg_name (i := 4) sc_put_together.nd rfl (Or.inl rfl)) (pgs_cons (pg_name (i := 5) sc_put_together.nd rfl (Or.inl rfl)) pgs_nil)))
  (pss_one (ps_dput (hu_of hr) (pv 3) (pv 4) (pe_op op_add (pe_dget2 (hu_of hr) (pv 3) (pv 4) pe_int ⟨rfl, rfl, rfl, rfl⟩) (pe_op op_mulW (pv 2) (pv 5))) rfl)))
  (pss_one (ps_ret (pe_tupF (pa_cons (pe_op op_add (pe_ix (ixA K) (pv 0) pe_int (fun _ _ => rfl)) (pe_op op_mulW (pv 2) (pe_ix (ixA K) (pv 1) pe_int (fun _ _ => rfl)))) (pa_cons (pe_callTy (tupleA K) (by rfl) z_tuple (by decide +kernel) (pa_cons (pe_lc (own := [("knob", 4)]) (g := gName 4) (tt := _) rfl sc_put_together.nd (piL K (pe_callB (call_sortZ rfl) (by rfl) z_sorted (by decide +kernel) (pa_cons (pv 3) pa_nil))) (blkOk_by (own := [("knob", 4)]) (N := N_put_together) (sc := defScope s_put_together) (by decide +kernel)) (fun _ _ _ _ _ => (pg_name (i := 4) sc_put_together.nd rfl (Or.inl rfl))) (fun _ _ _ _ _ => (pts_one (pt_cmpR op_ne (pe_dget (hu_of hr) (pv 3) (pv 4) (fun _ _ => rfl)) pe_int (nomark _)))) (fun _ _ _ _ _ => (pe_tupF (pa_cons (pv 4) (pa_cons (pe_dget (hu_of hr) (pv 3) (pv 4) (fun _ _ => rfl)) pa_nil))))) pa_nil)) pa_nil))))))), ?_⟩
  rw [show start N_put_together [v, u, V.int m] = [some v, some u, some (V.int m), none, none, none] from rfl]
  obtain ⟨a, x, y, rfl, ha, hx, hy⟩ := id hv.pair
  obtain rfl := hx.of_int
  obtain ⟨b, xs, rfl, hb, hxs⟩ := hy.of_tuple
  obtain ⟨a', x, y, rfl, ha', hx, hy⟩ := id hu.pair
  obtain rfl := hx.of_int
  obtain ⟨b', ys, rfl, hb', hys⟩ := hy.of_tuple
  have hyl : ys.length = qs.length := by rw [hys.length, List.length_map]
  walk_at "rd"
  refine r_ix (.inr ha.sq) rfl ?_
  walk_at "rd"
  refine ⟨b, xs, ps, rfl, hb, hxs, fun d hd => ?_⟩
  rw [merge_nil np]
  have sm0 := same_new (o := .dK (kvs ps)) hd
  walk_at "rd"
  refine r_ix (.inr (ha'.mono (TS.of sm0)).sq) rfl ?_
  refine ⟨b', rfl, ⟨ys, (hb'.mono (TS.of sm0)).sq⟩, for_tup (K := K) (a := b') (xs := ys) (fun i σ H' => ∃ (c4 c5 : Option V) (rs : List (Int × Int)), σ = [some (V.ref a), some (V.ref a'), some (V.int m), some (V.ref d), c4, c5] ∧ Same H H' ∧ H' d = some (.dK (kvs rs)) ∧
    (rs.map (·.1)).Nodup ∧ Kb rs ∧ ∀ j, cof rs j = cof ps j + m * cof (qs.take i) j) ?_ ?_ ?_ ?_⟩
  · refine ⟨_, _, ps, rfl, sm0, upd_same, np, kp, fun j => ?_⟩
    rw [List.take_zero, show cof [] j = 0 from rfl, Int.mul_zero, Int.add_zero]
  · rintro i σ H' _ ⟨c4, c5, rs, rfl, sm, _⟩
    exact (hb'.mono (TS.of sm)).sq
  · rintro i z σ H' hz ⟨c4, c5, rs, rfl, sm, hD, nr, hl, hc⟩
    obtain ⟨e, he, hT⟩ := hys.get hz
    rw [List.getElem?_map, Option.map_eq_some_iff] at he
    obtain ⟨q, hq, rfl⟩ := he
    obtain ⟨c, x, y, rfl, hc', hx, hy⟩ := hT.pair
    obtain rfl := hx.of_int
    obtain rfl := hy.of_int
    have il : i < qs.length := (List.getElem?_eq_some_iff.mp hq).1
    have eq : qs.take (i + 1) = qs.take i ++ [q] := by
      rw [List.take_add_one, hq] <;> rfl
    have hmem : q ∈ qs := List.mem_of_getElem? hq
    have hnot : q.1 ∉ (qs.take i).map (·.1) := by
      have h1 : ((qs.take (i + 1)).map (·.1)).Nodup := by
        rw [List.map_take]
        exact nq.sublist (List.take_sublist _ _)
      rw [eq, List.map_append, List.nodup_append] at h1
      intro hm
      exact h1.2.2 q.1 hm q.1 (by simp) rfl
    refine r_gtup (hc'.mono (TS.of sm)).sq rfl ?_
    walk_at "rd"
    refine ⟨d, rfl, isD_of hD, ?_⟩
    walk_at "rd"
    obtain ⟨o, hg, eo⟩ := get_kvs q.1 hD
    refine ⟨o, hg, ?_⟩
    rw [eo]
    walk_at "rd"
    refine r_i1 (Sz.cmul szm (szq q hmem) (by decide) (by decide) (by decide)) ?_
    walk_at "rd"
    have room : (kvs rs).length < sizeLine := by
      unfold kvs
      rw [List.length_map]
      exact Nat.lt_of_lt_of_le (show rs.length < 200 by have := hl.few nr; omega) (by decide)
    refine ⟨d, _, rfl, DPut.k (k := Sum.inl q.1) hD room, ?_⟩
    rw [put_kvs nr]
    refine ⟨_, _, ups rs q.1 (cof rs q.1 + m * q.2), rfl, ?_, upd_same, ups_nodup nr, ?_, fun j => ?_⟩
    · intro b0 o0 h
      rw [upd_ne (fun e => by rw [e, hd] at h; cases h)]
      exact sm _ _ h
    · intro p hp
      rcases (ups_keys rs p.1).mp (List.mem_map_of_mem hp) with e | e
      · rw [e]
        exact kq q hmem
      · obtain ⟨x, hx, e2⟩ := List.mem_map.mp e
        rw [← e2]
        exact hl x hx
    · rw [ups_cof, eq, cof_snoc hnot]
      by_cases e : j = q.1
      · subst e
        rw [if_pos rfl, if_pos rfl, hc, cof_not hnot, Int.mul_zero, Int.add_zero]
      · rw [if_neg e, if_neg e, hc]
  · rintro σ H' ⟨c4, c5, rs, rfl, sm, hD, nr, hl, hc⟩
    rw [hyl, List.take_length] at hc
    have ts := TS.of sm
    walk_at "rd"
    refine r_ix (.inr (ha.mono ts).sq) rfl ?_
    walk_at "rd"
    refine r_ix (.inr (ha'.mono ts).sq) rfl ?_
    walk_at "rd"
    refine r_i1 (Sz.cmul szm szn (by decide) (by decide) (by decide)) ?_
    walk_at "rd"
    have few := hl.few nr
    refine ⟨d, rs, rfl, hD, by omega, fun ks p hperm hle hp => ?_⟩
    have nk : ks.Nodup := hperm.nodup_iff.mpr nr
    have hk64 : ks.length < 64 := by
      have := hperm.length_eq
      rw [List.length_map] at this
      omega
    have smp := same_new (o := .lst (ks.map V.int)) hp
    refine ⟨p, rfl, ⟨_, SqL.of upd_same⟩, fun D hDn => lc_list (K := K) (a := p) (xs := ks.map V.int) (fun i H2 => Same (upd H' p (.lst (ks.map V.int))) H2 ∧ ∃ zs, H2 D = some (.lst zs) ∧ TpAll H2 zs ((outP rs (ks.take i)).map prD) ∧ zs.length ≤ i) ?_ ?_ ?_ ?_⟩
    · exact ⟨same_new hDn, [], upd_same, .nil, Nat.le_refl _⟩
    · rintro i H2 _ ⟨s2, _⟩
      exact SqL.of (s2 _ _ upd_same)
    · rintro i z H2 hz ⟨s2, zs, hL, hZ, hzl⟩
      rw [List.getElem?_map, Option.map_eq_some_iff] at hz
      obtain ⟨j, hj, rfl⟩ := hz
      have ej : ks.take (i + 1) = ks.take i ++ [j] := by
        rw [List.take_add_one, hj] <;> rfl
      have il : i < ks.length := (List.getElem?_eq_some_iff.mp hj).1
      have jm : j ∈ rs.map (·.1) := hperm.mem_iff.mp (List.mem_of_getElem? hj)
      have hD2 := s2 _ _ (smp _ _ hD)
      walk_at "rd"
      refine ⟨rfl, ?_⟩
      walk_at "rd"
      refine ⟨d, _, rfl, at_kvs hD2 jm, ?_⟩
      walk_at "rd"
      refine r_ne rfl ?_
      walk_at "rd"
      refine ifN (fun hz => ?_) (fun hz => ?_)
      · have hz' : ¬ cof rs j = 0 := fun e => hz (by rw [e])
        walk_at "rd"
        refine ⟨d, _, rfl, at_kvs hD2 jm, ?_⟩
        walk_at "rd"
        refine ⟨by show 2 ≤ sizeLine; decide, fun t u ht hu => ?_⟩
        have nDt : D ≠ t := ne_of_none hL ht
        have hLu : upd H2 t u D = some (.lst zs) := by
          rw [upd_ne nDt]
          exact hL
        have ts1 : TS H2 (upd H2 t u) := TS.of (same_new ht)
        have ts2 : TS (upd H2 t u) (upd (upd H2 t u) D (.lst (zs ++ [V.ref t]))) := Frm.upd.ts hLu
        refine ⟨zs, hLu, Nat.lt_of_lt_of_le (show zs.length < 64 by omega) (by decide), ?_, zs ++ [V.ref t], upd_same, ?_, ?_⟩
        · intro b0 o0 h
          rw [upd_ne (fun e => by rw [e, hDn] at h; cases h), upd_ne (ne_of_none (s2 _ _ h) ht)]
          exact s2 _ _ h
        · rw [ej, outP_snoc, if_neg hz', List.map_append]
          exact (Tp.monoAll (ts1.trans ts2) _ _ hZ).append (.cons (.tup ((Kt.new hu).mono ts2) (.cons (.int _) (.cons (.int _) .nil))) .nil)
        · rw [List.length_append, List.length_singleton]
          omega
      · have hz' : cof rs j = 0 := by
          injection hz
        refine ⟨s2, zs, hL, ?_, by omega⟩
        rw [ej, outP_snoc, if_pos hz']
        exact hZ
    · rintro H2 ⟨s2, zs, hL, hZ, hzl⟩
      rw [List.length_map, List.take_length] at hZ
      walk_at "rd"
      refine ⟨D, zs, rfl, .inl ⟨SqL.of hL, fun t u ht hu => ?_⟩⟩
      walk_at "rd"
      refine ⟨by show 2 ≤ sizeLine; decide, fun t2 u2 ht2 hu2 => ?_⟩
      have s3 := same_new (o := u) ht
      have s4 := same_new (o := u2) ht2
      refine k _ (outP rs ks) _ (sm.trans (smp.trans (s2.trans (s3.trans s4)))) ⟨outP_can hle nk, fun j => ?_⟩ ?_
      · rw [outP_cof nk, ← hc]
        by_cases e : j ∈ ks
        · rw [if_pos e]
        · rw [if_neg e, cof_not fun h => e (hperm.mem_iff.mpr h)]
      · refine .tup (Kt.new hu2) (.cons (.int _) (.cons ?_ .nil))
        exact .tup ((Kt.new hu).mono (TS.of s4)) (Tp.monoAll (TS.of (s3.trans s4)) _ _ hZ)
theorem ok_added (F : FnP K "added" s_added f fd) (C_put_together : C_ P w K mg base "put_together" 1 P_put_together spPut) : FnG P w K mg base CX0 2 f fd P_added (spAdd 1) := by
  refine fnG F sc_added (fun vs H Q E h => ?_) (fun cdv A outer s H vs Q E hG hr h => ?_)
  · obtain ⟨v, u, n, n', ps, qs, rfl, _⟩ := h
    rfl
  obtain ⟨v, u, n, n', ps, qs, rfl, hv, hu, szn, szq, np, nq, kp, kq, k⟩ := h
  refine ⟨_, PSs.nox (pss_one (ps_ret (pe_cal C_put_together hG hr pass0 rfl (pa_cons (pv 0) (pa_cons (pv 1) (pa_cons pe_int pa_nil)))))), ?_⟩
  rw [show start N_added [v, u] = [some v, some u] from rfl]
  walk_at "rd"
  exact ⟨v, u, 1, n, n', ps, qs, rfl, hv, hu, (sz_small (by decide) (by decide)).mono (by decide), szn, szq, np, nq, kp, kq, k⟩
theorem ok_taken (F : FnP K "taken" s_taken f fd) (C_put_together : C_ P w K mg base "put_together" 1 P_put_together spPut) : FnG P w K mg base CX0 2 f fd P_taken (spAdd (-1)) := by
  refine fnG F sc_taken (fun vs H Q E h => ?_) (fun cdv A outer s H vs Q E hG hr h => ?_)
  · obtain ⟨v, u, n, n', ps, qs, rfl, _⟩ := h
    rfl
  obtain ⟨v, u, n, n', ps, qs, rfl, hv, hu, szn, szq, np, nq, kp, kq, k⟩ := h
  refine ⟨_, PSs.nox (pss_one (ps_ret (pe_cal C_put_together hG hr pass0 rfl (pa_cons (pv 0) (pa_cons (pv 1) (pa_cons (pe_un un_neg pe_int) pa_nil)))))), ?_⟩
  rw [show start N_taken [v, u] = [some v, some u] from rfl]
  walk_at "rd"
  exact ⟨v, u, -1, n, n', ps, qs, rfl, hv, hu, (sz_small (by decide) (by decide)).mono (by decide), szn, szq, np, nq, kp, kq, k⟩
theorem ok_times (F : FnP K "times" s_times f fd) (C_put_together : C_ P w K mg base "put_together" 1 P_put_together spPut) : FnG P w K mg base CX0 2 f fd P_times spTimes := by
  refine fnG F sc_times (fun vs H Q E h => ?_) (fun cdv A outer s H vs Q E hG hr h => ?_)
  · obtain ⟨v, m, n, ps, rfl, _⟩ := h
    rfl
  obtain ⟨v, m, n, ps, rfl, hv, szm, szn, szp, np, kp, k⟩ := h
  refine ⟨_, PSs.nox (pss_one (ps_ret (pe_cal C_put_together hG hr pass0 rfl (pa_cons (pe_tupF (pa_cons pe_int (pa_cons (pe_tupF pa_nil) pa_nil))) (pa_cons (pv 0) (pa_cons (pv 1) pa_nil)))))), ?_⟩
  rw [show start N_times [v, V.int m] = [some v, some (V.int m)] from rfl]
  walk_at "rd"
  refine ⟨Nat.zero_le _, fun t u ht hu => ?_⟩
  have s1 := same_new (o := u) ht
  walk_at "rd"
  refine ⟨by show 2 ≤ sizeLine; decide, fun t2 u2 ht2 hu2 => ?_⟩
  have s2 := same_new (o := u2) ht2
  walk_at "rd"
  refine ⟨_, v, m, 0, n, [], ps, rfl, .tup (Kt.new hu2) (.cons (.int _) (.cons (.tup ((Kt.new hu).mono (TS.of s2)) .nil) .nil)), Tp.mono (TS.of (s1.trans s2)) _ _ hv, szm, szn, szp, by simp, np, (fun p hp => absurd hp List.not_mem_nil), kp, ?_⟩
  intro r rs H' sm hp hT
  exact k r rs H' ((s1.trans s2).trans sm) hp hT
theorem ok_form_of (F : FnP K "form_of" s_form_of f fd) : FnG P w K mg base CX0 1 f fd P_form_of spForm1 := by
  refine fnG F sc_form_of (fun vs H Q E h => ?_) (fun cdv A outer s H vs Q E hG hr h => ?_)
  · obtain ⟨k, rfl, _⟩ := h
    rfl
  obtain ⟨k, rfl, q⟩ := h
  refine ⟨_, PSs.nox (pss_one (ps_ret (pe_tupF (pa_cons pe_int (pa_cons (pe_tupF (pa_cons (pe_tupF (pa_cons (pv 0) (pa_cons pe_int pa_nil))) pa_nil)) pa_nil))))), ?_⟩
  rw [show start N_form_of [V.int k] = [some (V.int k)] from rfl]
  walk_at "rd"
  refine ⟨by show 2 ≤ sizeLine; decide, fun t u ht hu => ?_⟩
  have s1 := same_new (o := u) ht
  walk_at "rd"
  refine ⟨by show 1 ≤ sizeLine; decide, fun t2 u2 ht2 hu2 => ?_⟩
  have s2 := same_new (o := u2) ht2
  walk_at "rd"
  refine ⟨by show 2 ≤ sizeLine; decide, fun t3 u3 ht3 hu3 => ?_⟩
  have s3 := same_new (o := u3) ht3
  refine q _ _ (s1.trans (s2.trans s3)) (.tup (Kt.new hu3) (.cons (.int _) (.cons (.tup ((Kt.new hu2).mono (TS.of s3)) (.cons (.tup ((Kt.new hu).mono (TS.of (s2.trans s3))) (.cons (.int _) (.cons (.int _) .nil))) .nil)) .nil)))
theorem ok_plain_form (F : FnP K "plain_form" s_plain_form f fd) : FnG P w K mg base CX0 1 f fd P_plain_form spPlain := by
  refine fnG F sc_plain_form (fun vs H Q E h => ?_) (fun cdv A outer s H vs Q E hG hr h => ?_)
  · obtain ⟨k, rfl, _⟩ := h
    rfl
  obtain ⟨k, rfl, q⟩ := h
  refine ⟨_, PSs.nox (pss_one (ps_ret (pe_tupF (pa_cons (pv 0) (pa_cons (pe_tupF pa_nil) pa_nil))))), ?_⟩
  rw [show start N_plain_form [V.int k] = [some (V.int k)] from rfl]
  walk_at "rd"
  refine ⟨Nat.zero_le _, fun t u ht hu => ?_⟩
  have s1 := same_new (o := u) ht
  walk_at "rd"
  refine ⟨by show 2 ≤ sizeLine; decide, fun t2 u2 ht2 hu2 => ?_⟩
  have s2 := same_new (o := u2) ht2
  exact q _ _ (s1.trans s2) (.tup (Kt.new hu2) (.cons (.int _) (.cons (.tup ((Kt.new hu).mono (TS.of s2)) .nil) .nil)))
def spLput : Sp := fun vs H Q _ => ∃ (v u : V) (m n n' : Int) (ps qs : List (Int × Int)), vs = [v, u, .int m] ∧ Tp H v (fmD n ps) ∧ Tp H u (fmD n' qs) ∧ Sz 1000 m ∧ Sz 1000 n' ∧ (∀ q ∈ qs, Sz 1000 q.2) ∧
  (ps.map (·.1)).Nodup ∧ (qs.map (·.1)).Nodup ∧ K34 ps ∧ K34 qs ∧ ∀ r rs H', Same H H' → Put ps qs m rs → Tp H' r (fmD (n + m * n') rs) → Q r H'
theorem ok_put (F : FnP K "_law_put" s_put f fd) (z_dict : mg "dict" = none) (z_range : mg "range" = none) (z_tuple : mg "tuple" = none) : FnG P w K mg base CX0 1 f fd P_put spLput := by
  refine fnG F sc_put (fun vs H Q E h => ?_) (fun cdv A outer s H vs Q E hG hr h => ?_)
  · obtain ⟨v, u, m, n, n', ps, qs, rfl, _⟩ := h
    rfl
  obtain ⟨v, u, m, n, n', ps, qs, rfl, hv, hu, szm, szn, szq, np, nq, kp, kq, k⟩ := h
  refine ⟨_, PSs.nox (pss_cons (ps_set (i := 3) sc_put.nd rfl (Or.inl rfl) (pe_lst pa_nil))
  (pss_cons (ps_for PassesOwn.never rfl (pi_range1 rfl z_range (pa_cons pe_int pa_nil)) (pg_name (i := 4) sc_put.nd rfl (Or.inl rfl))
  (pss_cons (ps_set (i := 5) sc_put.nd rfl (Or.inl rfl) (pe_op op_add (pe_dget2 (hu_of hr) (pe_callTy (call_dictT rfl) (by rfl) z_dict (by decide +kernel) (pa_cons (pe_ix (ixA K) (pv 0) pe_int (fun _ _ => rfl)) pa_nil)) (pv 4) pe_int ⟨rfl, rfl, rfl, rfl⟩) (pe_op op_mulW (pv 2) (pe_dget2 (hu_of hr) (pe_callTy (call_dictT rfl) (by rfl) z_dict (by decide +kernel) (pa_cons (pe_ix (ixA K) (pv 1) pe_int (fun _ _ => rfl)) pa_nil)) (pv 4) pe_int ⟨rfl, rfl, rfl, rfl⟩))))
  (pss_one (ps_if (pt_cmpR op_ne (pv 5) pe_int (nomark _))
  (pss_one (ps_expr (pe_bm PySem.F.plainAttrs_list PySem.F.slot_list_append PySem.F.type_list_append mt_append (pv 3) (pa_cons (pe_tupF (pa_cons (pv 4) (pa_cons (pv 5) pa_nil))) pa_nil)))) pss_nil))))
  (pss_one (ps_ret (pe_tupF (pa_cons (pe_op op_add (pe_ix (ixA K) (pv 0) pe_int (fun _ _ => rfl)) (pe_op op_mulW (pv 2) (pe_ix (ixA K) (pv 1) pe_int (fun _ _ => rfl)))) (pa_cons (pe_callTy (tupleA K) (by rfl) z_tuple (by decide +kernel) (pa_cons (pv 3) pa_nil)) pa_nil))))))), ?_⟩
  rw [show start N_put [v, u, V.int m] = [some v, some u, some (V.int m), none, none, none] from rfl]
  obtain ⟨a, x, y, rfl, ha, hx, hy⟩ := id hv.pair
  obtain rfl := hx.of_int
  obtain ⟨b, xs, rfl, hb, hxs⟩ := hy.of_tuple
  obtain ⟨a', x, y, rfl, ha', hx, hy⟩ := id hu.pair
  obtain rfl := hx.of_int
  obtain ⟨b', ys, rfl, hb', hys⟩ := hy.of_tuple
  walk_at "rd"
  refine ⟨Nat.zero_le _, fun p hp => ?_⟩
  walk_at "rd"
  refine ⟨34, rfl, by decide, by decide, for_range (lo := 0) (n := 34) (fun i σ H' => ∃ (c4 c5 : Option V) (zs : List V) (rs : List (Int × Int)), σ = [some (V.ref a), some (V.ref a'), some (V.int m), some (V.ref p), c4, c5] ∧ Same H H' ∧ H' p = some (.lst zs) ∧ TpAll H' zs (rs.map prD) ∧ zs.length ≤ i ∧
    Can rs ∧ (∀ r ∈ rs, r.1 < i) ∧ ∀ j, cof rs j = if 0 ≤ j ∧ j < i then cof ps j + m * cof qs j else 0) ?_ ?_ ?_⟩
  · refine ⟨_, _, [], [], rfl, same_new hp, upd_same, .nil, Nat.le_refl _, Can.nil, by simp, fun j => ?_⟩
    rw [if_neg (by omega)]
    rfl
  · rintro i σ H' hi ⟨c4, c5, zs, rs, rfl, sm, hL, hZ, hzl, hc, hlt, hcof⟩
    have ts := TS.of sm
    walk_at "rd"
    refine r_ix (.inr (ha.mono ts).sq) rfl ?_
    walk_at "rd"
    refine ⟨b, xs, ps, rfl, hb.mono ts, Tp.monoAll ts _ _ hxs, fun d hd => ?_⟩
    rw [merge_nil np]
    have s1 := same_new (o := .dK (kvs ps)) hd
    have hD : upd H' d (.dK (kvs ps)) d = some (.dK (kvs ps)) := upd_same
    have npd : p ≠ d := ne_of_none hL hd
    have hL1 := s1 _ _ hL
    have sm1 := sm.trans s1
    have hZ1 := Tp.monoAll (TS.of s1) _ _ hZ
    generalize upd H' d (.dK (kvs ps)) = H1 at *
    walk_at "rd"
    refine ⟨d, rfl, isD_of hD, ?_⟩
    walk_at "rd"
    obtain ⟨o, hg, eo⟩ := get_kvs (0 + (i : Int)) hD
    refine ⟨o, hg, ?_⟩
    rw [eo]
    walk_at "rd"
    have ts1 := TS.of sm1
    refine r_ix (.inr (ha'.mono ts1).sq) rfl ?_
    walk_at "rd"
    refine ⟨b', ys, qs, rfl, hb'.mono ts1, Tp.monoAll ts1 _ _ hys, fun e he => ?_⟩
    rw [merge_nil nq]
    have s2 := same_new (o := .dK (kvs qs)) he
    have hD2 : upd H1 e (.dK (kvs qs)) e = some (.dK (kvs qs)) := upd_same
    have hL2 := s2 _ _ hL1
    have sm2 := sm1.trans s2
    have hZ2 := Tp.monoAll (TS.of s2) _ _ hZ1
    generalize upd H1 e (.dK (kvs qs)) = H2 at *
    walk_at "rd"
    refine ⟨e, rfl, isD_of hD2, ?_⟩
    walk_at "rd"
    obtain ⟨o, hg, eo⟩ := get_kvs (0 + (i : Int)) hD2
    refine ⟨o, hg, ?_⟩
    rw [eo]
    walk_at "rd"
    refine r_i1 (Sz.cmul szm (cof_sz szq) (by decide) (by decide) (by decide)) ?_
    walk_at "rd"
    refine r_ne rfl ?_
    walk_at "rd"
    have ei : (0 : Int) + (i : Int) = i := Int.zero_add _
    rw [ei] at *
    refine ifN (fun hz => ?_) (fun hz => ?_)
    · have hz' : cof ps i + m * cof qs i ≠ 0 := fun e => hz (by rw [e])
      walk_at "rd"
      refine ⟨tyL hL2, ?_⟩
      walk_at "rd"
      refine ⟨by show 2 ≤ sizeLine; decide, fun t u ht hu => ?_⟩
      have npt : p ≠ t := ne_of_none hL2 ht
      have hLu : upd H2 t u p = some (.lst zs) := by
        rw [upd_ne npt]
        exact hL2
      walk_at "rd"
      refine r_app hLu (Nat.lt_of_lt_of_le (show zs.length < 100 by omega) (by decide)) ?_
      walk_at "rd"
      have t1 : TS H2 (upd H2 t u) := TS.of (same_new ht)
      have t2 : TS (upd H2 t u) (upd (upd H2 t u) p (.lst (zs ++ [V.ref t]))) := Frm.upd.ts hLu
      refine ⟨_, _, zs ++ [V.ref t], rs ++ [((i : Int), cof ps i + m * cof qs i)], rfl, ?_, upd_same, ?_, ?_, hc.snoc hlt hz', ?_, fun j => ?_⟩
      · intro b0 o0 h
        rw [upd_ne (fun e => by rw [e, hp] at h; cases h), upd_ne (ne_of_none (sm2 _ _ h) ht)]
        exact sm2 _ _ h
      · rw [List.map_append]
        exact (Tp.monoAll (t1.trans t2) _ _ hZ2).append (.cons (.tup ((Kt.new hu).mono t2) (.cons (.int _) (.cons (.int _) .nil))) .nil)
      · rw [List.length_append, List.length_singleton]
        omega
      · intro r hr
        rcases List.mem_append.mp hr with q | q
        · have := hlt r q
          omega
        · rw [List.mem_singleton.mp q]
          show (i : Int) < ((i + 1 : Nat) : Int)
          omega
      · rw [cof_snoc fun q => ?_, hcof]
        · show (if j = (i : Int) then cof ps i + m * cof qs i else _) = _
          by_cases e : j = (i : Int)
          · rw [if_pos e, if_pos (by omega), e]
          · rw [if_neg e]
            by_cases e2 : 0 ≤ j ∧ j < (i : Int)
            · rw [if_pos e2, if_pos (by omega)]
            · rw [if_neg e2, if_neg (by omega)]
        · obtain ⟨r, hr, er⟩ := List.mem_map.mp q
          have := hlt r hr
          have er : r.1 = (i : Int) := er
          omega
    · have hz' : cof ps i + m * cof qs i = 0 := by
        injection hz
      walk_at "rd"
      refine ⟨_, _, zs, rs, rfl, sm2, hL2, hZ2, by omega, hc, fun r hr => ?_, fun j => ?_⟩
      · have := hlt r hr
        omega
      · rw [hcof]
        by_cases e2 : 0 ≤ j ∧ j < (i : Int)
        · rw [if_pos e2, if_pos (by omega)]
        · rw [if_neg e2]
          by_cases e3 : j = (i : Int)
          · rw [if_pos (by omega), e3, hz']
          · rw [if_neg (by omega)]
  · rintro σ H' ⟨c4, c5, zs, rs, rfl, sm, hL, hZ, hzl, hc, hlt, hcof⟩
    have ts := TS.of sm
    walk_at "rd"
    refine r_ix (.inr (ha.mono ts).sq) rfl ?_
    walk_at "rd"
    refine r_ix (.inr (ha'.mono ts).sq) rfl ?_
    walk_at "rd"
    refine r_i1 (Sz.cmul szm szn (by decide) (by decide) (by decide)) ?_
    walk_at "rd"
    refine ⟨p, zs, rfl, .inl ⟨SqL.of hL, fun t u ht hu => ?_⟩⟩
    walk_at "rd"
    refine ⟨by show 2 ≤ sizeLine; decide, fun t2 u2 ht2 hu2 => ?_⟩
    have s3 := same_new (o := u) ht
    have s4 := same_new (o := u2) ht2
    refine k _ rs _ (sm.trans (s3.trans s4)) ⟨hc, fun j => ?_⟩ ?_
    · rw [hcof]
      by_cases e : 0 ≤ j ∧ j < ((34 : Nat) : Int)
      · rw [if_pos e]
      · have nots : ∀ {ts : List (Int × Int)}, K34 ts → cof ts j = 0 := fun g => cof_not fun q => by
          obtain ⟨r, hr, er⟩ := List.mem_map.mp q
          have := g r hr
          have er : r.1 = j := er
          omega
        rw [if_neg e, nots kp, nots kq]
        omega
    · refine .tup (Kt.new hu2) (.cons (.int _) (.cons ?_ .nil))
      exact .tup ((Kt.new hu).mono (TS.of s4)) (Tp.monoAll (TS.of (s3.trans s4)) _ _ hZ)
end
def nwP (ps : List (Int × Int)) (m : Int) (r : Nat) : List (Int × Int) := ps.map (fun p => (p.1, 0 - p.2)) ++ (List.range r).map fun (i : Nat) => (m + (i : Int), (1 : Int))
theorem nwP_nodup {ps : List (Int × Int)} {m : Int} (r : Nat) (h : PsOk m ps) : ((nwP ps m r).map (·.1)).Nodup := by
  unfold nwP
  rw [List.map_append, List.map_map, List.map_map, List.nodup_append]
  refine ⟨h.nodup, ?_, ?_⟩
  · refine List.pairwise_map.mpr ((List.nodup_range (n := r)).imp fun {x y} hxy e => hxy ?_)
    have e : m + (x : Int) = m + (y : Int) := e
    omega
  · intro x hx y hy e
    obtain ⟨p, hp, rfl⟩ := List.mem_map.mp hx
    obtain ⟨j, hj, rfl⟩ := List.mem_map.mp hy
    have e : p.1 = m + (j : Int) := e
    have h2 := (h.at_ p hp).2.1
    omega
theorem nwP_34 {ps : List (Int × Int)} {m : Int} {r : Nat} (h : PsOk m ps) (m0 : 0 ≤ m) (m30 : m ≤ 30) (hr : r < 3) : K34 (nwP ps m r) := by
  intro p hp
  rcases List.mem_append.mp hp with q | q
  · obtain ⟨x, hx, rfl⟩ := List.mem_map.mp q
    have := h.at_ x hx
    show 0 ≤ x.1 ∧ x.1 < 34
    omega
  · obtain ⟨j, hj, rfl⟩ := List.mem_map.mp q
    have := List.mem_range.mp hj
    show 0 ≤ m + (j : Int) ∧ m + (j : Int) < 34
    omega
theorem nwP_sz {ps : List (Int × Int)} {m : Int} {r : Nat} (h : ∀ p ∈ ps, Sz 300 p.2) : ∀ p ∈ nwP ps m r, Sz 300 p.2 := by
  intro p hp
  rcases List.mem_append.mp hp with q | q
  · obtain ⟨x, hx, rfl⟩ := List.mem_map.mp q
    have := h x hx
    show Sz 300 (0 - x.2)
    unfold Sz at *
    omega
  · obtain ⟨j, hj, rfl⟩ := List.mem_map.mp q
    exact (show Sz 300 (1 : Int) from (sz_small (by decide) (by decide)).mono (by decide))
end Tug
set_option Elab.async false
set_option linter.all false
set_option maxRecDepth 100000
set_option maxHeartbeats 0
namespace Tug
open PySem PySem.Spec L2
open PyProof.Rows hiding St
local macro_rules | `(tactic| walk_at "rd1") => `(tactic| first
  | (with_reducible first
  | refine Tug.r_seq ?_ | refine Tug.r_asg ?_ | refine Tug.r_op ?_ | refine Tug.r_c ?_ | refine Tug.r_i0 ?_ | refine Tug.r_name ?_ | refine Tug.r_call ?_ | refine Tug.r_cons ?_ | refine Tug.r_nil ?_ | refine Tug.r_cb ?_
  | refine Tug.r_ifs ?_ | refine Tug.r_test ?_ | refine Tug.r_bl ?_ | refine Tug.r_ret ?_ | refine Tug.r_drop ?_ | refine Tug.r_next ?_ | refine Tug.r_gsub ?_ | refine Tug.r_lst ?_ | refine Tug.r_tup ?_ | refine Tug.r_if ?_ | refine Tug.r_and ?_
  | refine Tug.r_or ?_ | refine Tug.r_not ?_ | refine Tug.r_tb ?_ | refine Tug.r_for ?_ | refine Tug.r_ilist ?_ | refine Tug.r_itup ?_ | refine Tug.r_irng ?_ | refine Tug.r_lc ?_ | refine Tug.r_yes ?_ | refine Tug.r_true ?_ | refine Tug.r_false ?_
  | refine Tug.r_bm ?_ | refine Tug.r_par ?_ | refine Tug.r_gcons ?_ | refine Tug.r_gnil ?_ | refine Tug.r_calln ?_ | refine Tug.r_tupF ?_ | refine Tug.r_get2 ?_ | refine Tug.r_iseq ?_ | refine Tug.r_sl ?_ | refine Tug.r_nopart ?_ | refine Tug.r_part ?_ | refine Tug.r_pint ?_ | refine Tug.r_dput ?_ | refine Tug.r_dget ?_ | refine Tug.r_un ?_ | refine Tug.r_rU ?_ | refine Tug.r_par3 ?_)
  | ((with_reducible show L2.tVar _ _ _ _); refine Tug.r_var rfl ?_))
local macro_rules | `(tactic| walk_at "rd") => `(tactic| repeat (walk_at "rd1"))
section
variable {P : Program} {w : World} {K : PySem.W.Frag} {mg : Str → Option Value} {base : Heap} {f : Addr} {fd : FuncData}
def gSw (_ zs : List V) : List V := zs.drop 1 ++ zs.take 1
def gId (_ zs : List V) : List V := zs
theorem ok_law (F : FnP K "law" s_law f fd) (z_range : mg "range" = none) (z_repr : mg "repr" = none) (z_tuple : mg "tuple" = none) (C_well : C_ P w K mg base "_law_well" 1 P_well (spWell K)) (C_draw : C_ P w K mg base "_law_draw" 1 P_draw spDraw)
    (C_pick : C_ P w K mg base "_law_pick" 2 P_pick (spPick K)) (C_number : C_ P w K mg base "_law_number" 3 P_number spNumber) (C_form : C_ P w K mg base "_law_form" 4 P_form spForm)
    (C_put : C_ P w K mg base "_law_put" 1 P_put spLput)
    (C_added : C_ P w K mg base "added" 2 P_added (spAdd 1)) (C_taken : C_ P w K mg base "taken" 2 P_taken (spAdd (-1))) (C_times : C_ P w K mg base "times" 2 P_times spTimes)
    (K_added : CalK P w K mg base CX0 "added" 2 P_added 0 ["other", "one"] gSw (spAdd 1)) (K_taken : CalK P w K mg base CX0 "taken" 2 P_taken 0 ["other", "one"] gSw (spAdd (-1))) (K_times : CalK P w K mg base CX0 "times" 2 P_times 0 ["number", "form"] gSw spTimes)
    (C_form_of : C_ P w K mg base "form_of" 1 P_form_of spForm1) (C_plain_form : C_ P w K mg base "plain_form" 1 P_plain_form spPlain)
    (K_form_of : CalK P w K mg base CX0 "form_of" 1 P_form_of 0 ["knob"] gId spForm1) (K_plain_form : CalK P w K mg base CX0 "plain_form" 1 P_plain_form 0 ["number"] gId spPlain) : FnG P w K mg base CX0 5 f fd P_law (spLaw K) := by
  refine fnG F sc_law (fun vs H Q E h => ?_) (fun cdv A outer s H vs Q E hG hr h => ?_)
  · obtain ⟨a, ns, rfl, _⟩ := h
    rfl
  obtain ⟨a, ns, rfl, hS, hl, hb, kk⟩ := h
  refine ⟨_, PSs.nox (pss_cons (ps_set (i := 1) sc_law.nd rfl (Or.inl rfl) (pe_cal C_well hG hr pass0 rfl (pa_cons (pv 0) (pa_cons pe_int pa_nil))))
  (pss_cons (ps_for PassesOwn.never rfl (pi_range1 rfl z_range (pa_cons pe_int pa_nil)) (pg_name (i := 2) sc_law.nd rfl (Or.inl rfl))
  (pss_cons (ps_set (i := 3) sc_law.nd rfl (Or.inl rfl) (pe_cal C_pick hG hr pass0 rfl (pa_cons (pv 1) (pa_cons (pe_lst (pa_cons pe_int (pa_cons pe_int (pa_cons pe_int (pa_cons pe_int pa_nil))))) pa_nil))))
  (pss_cons (ps_par (i := 4) (j := 5) (by rfl) sc_law.nd rfl rfl (by decide) rfl rfl (pa_cons (pe_cal C_form hG hr pass0 rfl (pa_cons (pv 1) (pa_cons (pv 3) pa_nil))) (pa_cons (pe_cal C_form hG hr pass0 rfl (pa_cons (pv 1) (pa_cons (pv 3) pa_nil))) pa_nil)) (by rfl))
  (pss_cons (ps_if (pt_cmpR op_eq (pe_cal C_draw hG hr pass0 rfl (pa_cons (pv 1) (pa_cons pe_int pa_nil))) pe_int (nomark _))
  (pss_cons (ps_set (i := 8) sc_law.nd rfl (Or.inl rfl) (pe_callTy (tupleA K) (by rfl) z_tuple (by decide +kernel) (pa_cons (pe_lc (own := [("spot", 6), ("much", 7)]) (g := gTup K 2 (gCons (gName 6) (gCons (gName 7) gNil))) (tt := tYes) rfl sc_law.nd (piT K (pe_ix (ixA K) (pv 4) pe_int (fun _ _ => rfl))) (blkOk_by (own := [("spot", 6), ("much", 7)]) (N := N_law) (sc := defScope s_law) (by decide +kernel)) (fun _ _ _ _ _ => (pg_tup rfl (pgs_cons (pg_name (i := 6) sc_law.nd rfl (Or.inl rfl)) (pgs_cons (pg_name (i := 7) sc_law.nd rfl (Or.inl rfl)) pgs_nil)))) (fun _ _ _ _ _ => pts_nil) (fun _ _ _ _ _ => (pe_tupF (pa_cons (pv 6) (pa_cons (pe_op op_sub pe_int (pv 7)) pa_nil))))) pa_nil)))
  (pss_one (ps_set (i := 5) sc_law.nd rfl (Or.inl rfl) (pe_tupF (pa_cons (pe_ix (ixA K) (pv 5) pe_int (fun _ _ => rfl)) (pa_cons (pe_op op_catK (pv 8) (pe_callTy (tupleA K) (by rfl) z_tuple (by decide +kernel) (pa_cons (pe_lc (own := [("spot", 6)]) (g := gName 6) (tt := tYes) rfl sc_law.nd (pi_range2 rfl z_range (pa_cons (pv 3) (pa_cons (pe_op op_add (pv 3) (pe_cal C_draw hG hr pass0 rfl (pa_cons (pv 1) (pa_cons pe_int pa_nil)))) pa_nil))) (blkOk_by (own := [("spot", 6)]) (N := N_law) (sc := defScope s_law) (by decide +kernel)) (fun _ _ _ _ _ => (pg_name (i := 6) sc_law.nd rfl (Or.inl rfl))) (fun _ _ _ _ _ => pts_nil) (fun _ _ _ _ _ => (pe_tupF (pa_cons (pv 6) (pa_cons pe_int pa_nil))))) pa_nil))) pa_nil)))))) pss_nil)
  (pss_cons (ps_par (i := 7) (j := 6) (by rfl) sc_law.nd rfl rfl (by decide) rfl rfl (pa_cons (pe_cal C_number hG hr pass0 rfl (pa_cons (pv 1) pa_nil)) (pa_cons (pe_cal C_draw hG hr pass0 rfl (pa_cons (pv 1) (pa_cons pe_int pa_nil))) pa_nil)) (by rfl))
  (pss_cons (ps_set (i := 9) sc_law.nd rfl (Or.inl rfl) (pe_callB (rpA K hG hr.units) (by rfl) z_repr (by decide +kernel) (pa_cons (pe_tupF (pa_cons (pv 4) (pa_cons (pv 5) pa_nil))) pa_nil)))
  (pss_cons (ps_if (pt_cmpR op_ne (pe_callB (rpA K hG hr.units) (by rfl) z_repr (by decide +kernel) (pa_cons (pe_cal C_added hG hr pass0 rfl (pa_cons (pv 4) (pa_cons (pv 5) pa_nil))) pa_nil)) (pe_callB (rpA K hG hr.units) (by rfl) z_repr (by decide +kernel) (pa_cons (pe_cal C_put hG hr pass0 rfl (pa_cons (pv 4) (pa_cons (pv 5) (pa_cons pe_int pa_nil)))) pa_nil)) (nomark _))
  (pss_one (ps_ret pe_bl)) pss_nil)
  (pss_cons (ps_if (pt_cmpR op_ne (pe_callB (rpA K hG hr.units) (by rfl) z_repr (by decide +kernel) (pa_cons (pe_calK K_added hG hr pass0 rfl (pk_cons (pv 4) (pk_cons (pv 5) pk_nil)) (nm := 0)) pa_nil)) (pe_callB (rpA K hG hr.units) (by rfl) z_repr (by decide +kernel) (pa_cons (pe_cal C_put hG hr pass0 rfl (pa_cons (pv 5) (pa_cons (pv 4) (pa_cons pe_int pa_nil)))) pa_nil)) (nomark _))
  (pss_one (ps_ret pe_bl)) pss_nil)
  (pss_cons (ps_if (pt_cmpR op_ne (pe_callB (rpA K hG hr.units) (by rfl) z_repr (by decide +kernel) (pa_cons (pe_cal C_taken hG hr pass0 rfl (pa_cons (pv 4) (pa_cons (pv 5) pa_nil))) pa_nil)) (pe_callB (rpA K hG hr.units) (by rfl) z_repr (by decide +kernel) (pa_cons (pe_cal C_put hG hr pass0 rfl (pa_cons (pv 4) (pa_cons (pv 5) (pa_cons (pe_op op_sub pe_int pe_int) pa_nil)))) pa_nil)) (nomark _))
  (pss_one (ps_ret pe_bl)) pss_nil)
  (pss_cons (ps_if (pt_cmpR op_ne (pe_callB (rpA K hG hr.units) (by rfl) z_repr (by decide +kernel) (pa_cons (pe_calK K_taken hG hr pass0 rfl (pk_cons (pv 4) (pk_cons (pv 5) pk_nil)) (nm := 0)) pa_nil)) (pe_callB (rpA K hG hr.units) (by rfl) z_repr (by decide +kernel) (pa_cons (pe_cal C_put hG hr pass0 rfl (pa_cons (pv 5) (pa_cons (pv 4) (pa_cons (pe_op op_sub pe_int pe_int) pa_nil)))) pa_nil)) (nomark _))
  (pss_one (ps_ret pe_bl)) pss_nil)
  (pss_cons (ps_if (pt_cmpR op_ne (pe_callB (rpA K hG hr.units) (by rfl) z_repr (by decide +kernel) (pa_cons (pe_cal C_times hG hr pass0 rfl (pa_cons (pv 4) (pa_cons (pv 7) pa_nil))) pa_nil)) (pe_callB (rpA K hG hr.units) (by rfl) z_repr (by decide +kernel) (pa_cons (pe_cal C_put hG hr pass0 rfl (pa_cons (pe_tupF (pa_cons pe_int (pa_cons (pe_tupF pa_nil) pa_nil))) (pa_cons (pv 4) (pa_cons (pv 7) pa_nil)))) pa_nil)) (nomark _))
  (pss_one (ps_ret pe_bl)) pss_nil)
  (pss_cons (ps_if (pt_cmpR op_ne (pe_callB (rpA K hG hr.units) (by rfl) z_repr (by decide +kernel) (pa_cons (pe_calK K_times hG hr pass0 rfl (pk_cons (pv 7) (pk_cons (pv 5) pk_nil)) (nm := 0)) pa_nil)) (pe_callB (rpA K hG hr.units) (by rfl) z_repr (by decide +kernel) (pa_cons (pe_cal C_put hG hr pass0 rfl (pa_cons (pe_tupF (pa_cons pe_int (pa_cons (pe_tupF pa_nil) pa_nil))) (pa_cons (pv 5) (pa_cons (pv 7) pa_nil)))) pa_nil)) (nomark _))
  (pss_one (ps_ret pe_bl)) pss_nil)
  (pss_cons (ps_if (PW.pt (pw_or (pt_cmpR op_ne (pe_callB (rpA K hG hr.units) (by rfl) z_repr (by decide +kernel) (pa_cons (pe_cal C_form_of hG hr pass0 rfl (pa_cons (pv 6) pa_nil)) pa_nil)) (pe_callB (rpA K hG hr.units) (by rfl) z_repr (by decide +kernel) (pa_cons (pe_tupF (pa_cons pe_int (pa_cons (pe_tupF (pa_cons (pe_tupF (pa_cons (pv 6) (pa_cons pe_int pa_nil))) pa_nil)) pa_nil))) pa_nil)) (nomark _)) (pw_or1 (pt_cmpR op_ne (pe_callB (rpA K hG hr.units) (by rfl) z_repr (by decide +kernel) (pa_cons (pe_cal C_plain_form hG hr pass0 rfl (pa_cons (pv 7) pa_nil)) pa_nil)) (pe_callB (rpA K hG hr.units) (by rfl) z_repr (by decide +kernel) (pa_cons (pe_tupF (pa_cons (pv 7) (pa_cons (pe_tupF pa_nil) pa_nil))) pa_nil)) (nomark _)))))
  (pss_one (ps_ret pe_bl)) pss_nil)
  (pss_cons (ps_if (PW.pt (pw_or (pt_cmpR (neA K hr.units) (pe_calK K_form_of hG hr pass0 rfl (pk_cons (pv 6) pk_nil) (nm := 0)) (pe_cal C_form_of hG hr pass0 rfl (pa_cons (pv 6) pa_nil)) (nomark _)) (pw_or1 (pt_cmpR (neA K hr.units) (pe_calK K_plain_form hG hr pass0 rfl (pk_cons (pv 7) pk_nil) (nm := 0)) (pe_cal C_plain_form hG hr pass0 rfl (pa_cons (pv 7) pa_nil)) (nomark _)))))
  (pss_one (ps_ret pe_bl)) pss_nil)
  (pss_one (ps_if (pt_cmpR op_ne (pe_callB (rpA K hG hr.units) (by rfl) z_repr (by decide +kernel) (pa_cons (pe_tupF (pa_cons (pv 4) (pa_cons (pv 5) pa_nil))) pa_nil)) (pv 9) (nomark _))
  (pss_one (ps_ret pe_bl)) pss_nil))))))))))))))))
  (pss_one (ps_ret pe_bl)))), ?_⟩
  rw [show start N_law [V.ref a] = [some (V.ref a), none, none, none, none, none, none, none, none, none] from rfl]
  walk_at "rd"
  refine ⟨a, ns, 0, rfl, hS, hl, hb, by decide, by decide, fun wl H0 hwl sm0 hW0 => ?_⟩
  walk_at "rd"
  refine ⟨10, rfl, by decide, by decide, for_range (lo := 0) (n := 10) (fun i σ H' => ∃ c2 c3 c4 c5 c6 c7 c8 c9 : Option V, σ = [some (V.ref a), some (V.ref wl), c2, c3, c4, c5, c6, c7, c8, c9] ∧ Wl wl H') ?_ ?_ ?_⟩
  · exact ⟨_, _, _, _, _, _, _, _, rfl, hW0⟩
  · rintro i σ H1 hi ⟨c2, c3, c4, c5, c6, c7, c8, c9, rfl, hW1⟩
    walk_at "rd"
    refine ⟨by show 4 ≤ sizeLine; decide, fun p hp => ?_⟩
    refine ⟨wl, p, _, rfl, hW1.new hp, hW1.ne hp, .inl (SqL.of upd_same), by simp, by simp, fun x H2 hx d1 => ?_⟩
    have hW2 := d1.wl
    obtain ⟨m, rfl, m0, m30⟩ : ∃ m : Int, x = V.int m ∧ 0 ≤ m ∧ m ≤ 30 := by
      simp only [List.mem_cons, List.not_mem_nil, or_false] at hx
      rcases hx with rfl | rfl | rfl | rfl
      · exact ⟨_, rfl, by decide, by decide⟩
      · exact ⟨_, rfl, by decide, by decide⟩
      · exact ⟨_, rfl, by decide, by decide⟩
      · exact ⟨_, rfl, by decide, by decide⟩
    walk_at "rd"
    refine ⟨wl, m, rfl, hW2, m0, m30, fun v1 n1 ps1 H3 hn1 hp1 hl1 hv1 d2 => ?_⟩
    walk_at "rd"
    refine ⟨wl, m, rfl, d2.wl, m0, m30, fun v2 n2 ps2 H4 hn2 hp2 hl2 hv2 d3 => ?_⟩
    have hv1 := Tp.mono (d2.wl.ts d3.frm) _ _ hv1
    have hW4 := d3.wl
    have kb1 : K34 ps1 := fun p hp => by
      have := hp1.at_ p hp
      omega
    have nd1 := hp1.nodup
    have s1 : ∀ p ∈ ps1, Sz 300 p.2 := fun p hp => (hp1.at_ p hp).2.2.2.sz.mono (by decide)
    have len1 : ps1.length ≤ 30 := by omega
    walk_at "rd"
    refine ⟨_, _, rfl, ?_⟩
    with_reducible refine r_seqO (fun σ' H' => ∃ (v2 : V) (n2 : Int) (qs : List (Int × Int)) (c6 c7 c8 c9 : Option V), σ' = [some (V.ref a), some (V.ref wl), some (V.int (0 + (i : Int))), some (V.int m), some v1, some v2, c6, c7, c8, c9] ∧ Wl wl H' ∧ Tp H' v1 (fmD n1 ps1) ∧ Tp H' v2 (fmD n2 qs) ∧ Nm n2 ∧ (qs.map (·.1)).Nodup ∧ K34 qs ∧ ∀ q ∈ qs, Sz 300 q.2) ?_ ?_
    · rintro σ' H' ⟨v2, n2, qs, c6, c7, c8, c9, rfl, hW, hv1, hv2, hn2, nd2, kb2, s2⟩
      walk_at "rd"
      refine ⟨wl, rfl, hW, fun z H5 hzN d5 => ?_⟩
      have hv1 := Tp.mono (hW.ts d5.frm) _ _ hv1
      have hv2 := Tp.mono (hW.ts d5.frm) _ _ hv2
      have hW := d5.wl
      walk_at "rd"
      refine ⟨wl, 30, rfl, hW, by decide, by decide, fun k H6 k0 k30 d6 => ?_⟩
      have hv1 := Tp.mono (hW.ts d6.frm) _ _ hv1
      have hv2 := Tp.mono (hW.ts d6.frm) _ _ hv2
      have hW := d6.wl
      have n12 : Sz 300 n1 := hn1.sz.mono (by decide)
      have n22 : Sz 300 n2 := hn2.sz.mono (by decide)
      have z12 : Sz 300 z := hzN.sz.mono (by decide)
      have n1b : Sz 1000 n1 := hn1.sz.mono (by decide)
      have n2b : Sz 1000 n2 := hn2.sz.mono (by decide)
      have zb : Sz 1000 z := hzN.sz.mono (by decide)
      have one1 : Sz 300 1 := (sz_small (by decide) (by decide)).mono (by decide)
      have oneM : Sz 300 (-1) := (sz_small (by decide) (by decide)).mono (by decide)
      have nul : Sz 300 0 := (sz_small (by decide) (by decide)).mono (by decide)
      have one1b : Sz 1000 1 := one1.mono (by decide)
      have oneMb : Sz 1000 (-1) := oneM.mono (by decide)
      have s1b : ∀ p ∈ ps1, Sz 1000 p.2 := fun p hp => (s1 p hp).mono (by decide)
      have s2b : ∀ p ∈ qs, Sz 1000 p.2 := fun p hp => (s2 p hp).mono (by decide)
      have s0 : ∀ p ∈ ([] : List (Int × Int)), Sz 300 p.2 := fun p q => absurd q List.not_mem_nil
      have k34n : K34 [] := fun p q => absurd q List.not_mem_nil
      have ndn : (([] : List (Int × Int)).map (·.1)).Nodup := by simp
      have nn1 : Sz 1900 n1 := n12.mono (by decide)
      have nn2 : Sz 1900 n2 := n22.mono (by decide)
      have fd1 : Fd (fmD n1 ps1) 10 300 := Fd.form20 nn1 kb1.kb nd1 fun p hp => (s1 p hp).mono (by decide)
      have fd2 : Fd (fmD n2 qs) 10 300 := Fd.form20 nn2 kb2.kb nd2 fun p hp => (s2 p hp).mono (by decide)
      have fd12 : Fd (.tuple [fmD n1 ps1, fmD n2 qs]) 20 8000 := (Fd.pair fd1 fd2).mono (by decide) (by decide)
      walk_at "rd"
      refine ⟨_, _, rfl, ?_⟩
      walk_at "rd"
      refine ⟨by show 2 ≤ sizeLine; decide, fun t u ht hu => ?_⟩
      have s7 := same_new (o := u) ht
      have kt : Kt (upd H6 t u) t [v1, v2] := Kt.new hu
      have hv1 := Tp.mono (TS.of s7) _ _ hv1
      have hv2 := Tp.mono (TS.of s7) _ _ hv2
      have hW := hW.same s7
      generalize upd H6 t u = H7 at *
      walk_at "rd"
      refine r_rp (Tp.dp _ _ (.tup kt (.cons hv1 (.cons hv2 .nil)))) fd12 ?_
      walk_at "rd"
      refine ⟨v1, v2, n1, n2, ps1, qs, rfl, hv1, hv2, n2b, s2b, nd1, nd2, kb1.kb, kb2.kb, fun ra rsa H8 s8 hpa hra => ?_⟩
      have hv1 := Tp.mono (TS.of s8) _ _ hv1
      have hv2 := Tp.mono (TS.of s8) _ _ hv2
      have hW := hW.same s8
      have fda : Fd (fmD (n1 + 1 * n2) rsa) 20 8000 := hpa.fd n12 n22 one1 kb1.kb kb2.kb s1 s2
      walk_at "rd"
      refine r_rp (Tp.dp _ _ hra) fda ?_
      walk_at "rd"
      refine ⟨v1, v2, 1, n1, n2, ps1, qs, rfl, hv1, hv2, one1b, n2b, s2b, nd1, nd2, kb1, kb2, fun rb rsb H9 s9 hpb hrb => ?_⟩
      have hv1 := Tp.mono (TS.of s9) _ _ hv1
      have hv2 := Tp.mono (TS.of s9) _ _ hv2
      have hW := hW.same s9
      rw [← hpa.uniq hpb] at hrb
      walk_at "rd"
      refine r_rp (Tp.dp _ _ hrb) fda ?_
      walk_at "rd"
      refine r_ne rfl ?_
      walk_at "rd"
      refine ifN (fun h => absurd rfl h) (fun _ => ?_)
      walk_at "rd"
      clear hra hrb hpa hpb fda
      refine ⟨rfl, rfl, v2, v1, n2, n1, qs, ps1, rfl, hv2, hv1, n1b, s1b, nd2, nd1, kb2.kb, kb1.kb, fun ra rsa H10 s10 hpa hra => ?_⟩
      have hv1 := Tp.mono (TS.of s10) _ _ hv1
      have hv2 := Tp.mono (TS.of s10) _ _ hv2
      have hW := hW.same s10
      have fda : Fd (fmD (n2 + 1 * n1) rsa) 20 8000 := hpa.fd n22 n12 one1 kb2.kb kb1.kb s2 s1
      walk_at "rd"
      refine r_rp (Tp.dp _ _ hra) fda ?_
      walk_at "rd"
      refine ⟨v2, v1, 1, n2, n1, qs, ps1, rfl, hv2, hv1, one1b, n1b, s1b, nd2, nd1, kb2, kb1, fun rb rsb H11 s11 hpb hrb => ?_⟩
      have hv1 := Tp.mono (TS.of s11) _ _ hv1
      have hv2 := Tp.mono (TS.of s11) _ _ hv2
      have hW := hW.same s11
      rw [← hpa.uniq hpb] at hrb
      walk_at "rd"
      refine r_rp (Tp.dp _ _ hrb) fda ?_
      walk_at "rd"
      refine r_ne rfl ?_
      walk_at "rd"
      refine ifN (fun h => absurd rfl h) (fun _ => ?_)
      walk_at "rd"
      clear hra hrb hpa hpb fda
      refine ⟨v1, v2, n1, n2, ps1, qs, rfl, hv1, hv2, n2b, s2b, nd1, nd2, kb1.kb, kb2.kb, fun ra rsa H12 s12 hpa hra => ?_⟩
      have hv1 := Tp.mono (TS.of s12) _ _ hv1
      have hv2 := Tp.mono (TS.of s12) _ _ hv2
      have hW := hW.same s12
      have fda : Fd (fmD (n1 + -1 * n2) rsa) 20 8000 := hpa.fd n12 n22 oneM kb1.kb kb2.kb s1 s2
      walk_at "rd"
      refine r_rp (Tp.dp _ _ hra) fda ?_
      walk_at "rd"
      refine ⟨v1, v2, -1, n1, n2, ps1, qs, rfl, hv1, hv2, oneMb, n2b, s2b, nd1, nd2, kb1, kb2, fun rb rsb H13 s13 hpb hrb => ?_⟩
      have hv1 := Tp.mono (TS.of s13) _ _ hv1
      have hv2 := Tp.mono (TS.of s13) _ _ hv2
      have hW := hW.same s13
      rw [← hpa.uniq hpb] at hrb
      walk_at "rd"
      refine r_rp (Tp.dp _ _ hrb) fda ?_
      walk_at "rd"
      refine r_ne rfl ?_
      walk_at "rd"
      refine ifN (fun h => absurd rfl h) (fun _ => ?_)
      walk_at "rd"
      clear hra hrb hpa hpb fda
      refine ⟨rfl, rfl, v2, v1, n2, n1, qs, ps1, rfl, hv2, hv1, n1b, s1b, nd2, nd1, kb2.kb, kb1.kb, fun ra rsa H14 s14 hpa hra => ?_⟩
      have hv1 := Tp.mono (TS.of s14) _ _ hv1
      have hv2 := Tp.mono (TS.of s14) _ _ hv2
      have hW := hW.same s14
      have fda : Fd (fmD (n2 + -1 * n1) rsa) 20 8000 := hpa.fd n22 n12 oneM kb2.kb kb1.kb s2 s1
      walk_at "rd"
      refine r_rp (Tp.dp _ _ hra) fda ?_
      walk_at "rd"
      refine ⟨v2, v1, -1, n2, n1, qs, ps1, rfl, hv2, hv1, oneMb, n1b, s1b, nd2, nd1, kb2, kb1, fun rb rsb H15 s15 hpb hrb => ?_⟩
      have hv1 := Tp.mono (TS.of s15) _ _ hv1
      have hv2 := Tp.mono (TS.of s15) _ _ hv2
      have hW := hW.same s15
      rw [← hpa.uniq hpb] at hrb
      walk_at "rd"
      refine r_rp (Tp.dp _ _ hrb) fda ?_
      walk_at "rd"
      refine r_ne rfl ?_
      walk_at "rd"
      refine ifN (fun h => absurd rfl h) (fun _ => ?_)
      walk_at "rd"
      clear hra hrb hpa hpb fda
      refine ⟨v1, z, n1, ps1, rfl, hv1, zb, n1b, s1b, nd1, kb1.kb, fun ra rsa H16 s16 hpa hra => ?_⟩
      have hv1 := Tp.mono (TS.of s16) _ _ hv1
      have hv2 := Tp.mono (TS.of s16) _ _ hv2
      have hW := hW.same s16
      have fda : Fd (fmD (0 + z * n1) rsa) 20 8000 := hpa.fd nul n12 z12 Kb.nil kb1.kb s0 s1
      walk_at "rd"
      refine r_rp (Tp.dp _ _ hra) fda ?_
      walk_at "rd"
      refine ⟨Nat.zero_le _, fun t u ht hu => ?_⟩
      have s17 := same_new (o := u) ht
      have kt := Kt.new (H := H16) (a := t) hu
      have hv1 := Tp.mono (TS.of s17) _ _ hv1
      have hv2 := Tp.mono (TS.of s17) _ _ hv2
      have hW := hW.same s17
      generalize upd H16 t u = H17 at *
      walk_at "rd"
      refine ⟨by show 2 ≤ sizeLine; decide, fun t2 u2 ht2 hu2 => ?_⟩
      have s18 := same_new (o := u2) ht2
      have kt2 := Kt.new (H := H17) (a := t2) hu2
      have kt := kt.mono (TS.of s18)
      have hv1 := Tp.mono (TS.of s18) _ _ hv1
      have hv2 := Tp.mono (TS.of s18) _ _ hv2
      have hW := hW.same s18
      generalize upd H17 t2 u2 = H18 at *
      walk_at "rd"
      refine ⟨_, v1, z, 0, n1, [], ps1, rfl, .tup kt2 (.cons (.int _) (.cons (.tup kt .nil) .nil)), hv1, zb, n1b, s1b, ndn, nd1, k34n, kb1, fun rb rsb H19 s19 hpb hrb => ?_⟩
      have hv1 := Tp.mono (TS.of s19) _ _ hv1
      have hv2 := Tp.mono (TS.of s19) _ _ hv2
      have hW := hW.same s19
      rw [← hpa.uniq hpb] at hrb
      walk_at "rd"
      refine r_rp (Tp.dp _ _ hrb) fda ?_
      walk_at "rd"
      refine r_ne rfl ?_
      walk_at "rd"
      refine ifN (fun h => absurd rfl h) (fun _ => ?_)
      walk_at "rd"
      clear hra hrb hpa hpb fda kt kt2
      refine ⟨rfl, rfl, v2, z, n2, qs, rfl, hv2, zb, n2b, s2b, nd2, kb2.kb, fun ra rsa H20 s20 hpa hra => ?_⟩
      have hv1 := Tp.mono (TS.of s20) _ _ hv1
      have hv2 := Tp.mono (TS.of s20) _ _ hv2
      have hW := hW.same s20
      have fda : Fd (fmD (0 + z * n2) rsa) 20 8000 := hpa.fd nul n22 z12 Kb.nil kb2.kb s0 s2
      walk_at "rd"
      refine r_rp (Tp.dp _ _ hra) fda ?_
      walk_at "rd"
      refine ⟨Nat.zero_le _, fun t u ht hu => ?_⟩
      have s21 := same_new (o := u) ht
      have kt := Kt.new (H := H20) (a := t) hu
      have hv1 := Tp.mono (TS.of s21) _ _ hv1
      have hv2 := Tp.mono (TS.of s21) _ _ hv2
      have hW := hW.same s21
      generalize upd H20 t u = H21 at *
      walk_at "rd"
      refine ⟨by show 2 ≤ sizeLine; decide, fun t2 u2 ht2 hu2 => ?_⟩
      have s22 := same_new (o := u2) ht2
      have kt2 := Kt.new (H := H21) (a := t2) hu2
      have kt := kt.mono (TS.of s22)
      have hv1 := Tp.mono (TS.of s22) _ _ hv1
      have hv2 := Tp.mono (TS.of s22) _ _ hv2
      have hW := hW.same s22
      generalize upd H21 t2 u2 = H22 at *
      walk_at "rd"
      refine ⟨_, v2, z, 0, n2, [], qs, rfl, .tup kt2 (.cons (.int _) (.cons (.tup kt .nil) .nil)), hv2, zb, n2b, s2b, ndn, nd2, k34n, kb2, fun rb rsb H23 s23 hpb hrb => ?_⟩
      have hv1 := Tp.mono (TS.of s23) _ _ hv1
      have hv2 := Tp.mono (TS.of s23) _ _ hv2
      have hW := hW.same s23
      rw [← hpa.uniq hpb] at hrb
      walk_at "rd"
      refine r_rp (Tp.dp _ _ hrb) fda ?_
      walk_at "rd"
      refine r_ne rfl ?_
      walk_at "rd"
      refine ifN (fun h => absurd rfl h) (fun _ => ?_)
      walk_at "rd"
      clear hra hrb hpa hpb fda kt kt2
      have fdk : Fd (fmD 0 [(k, 1)]) 10 300 := Fd.form20 (nul.mono (by decide)) (fun p q => by
          rw [List.mem_singleton.mp q]
          show 0 ≤ k ∧ k < 60
          omega) (by simp) (fun p q => by
          rw [List.mem_singleton.mp q]
          exact one1.mono (by decide))
      have fdz : Fd (fmD z []) 10 300 := Fd.form20 (z12.mono (by decide)) Kb.nil (by simp) (fun p q => absurd q List.not_mem_nil)
      have fdk2 := fdk.mono (show 10 ≤ 20 by decide) (show 300 ≤ 8000 by decide)
      have fdz2 := fdz.mono (show 10 ≤ 20 by decide) (show 300 ≤ 8000 by decide)
      refine ⟨k, rfl, fun ra H24 s24 hra => ?_⟩
      have hv1 := Tp.mono (TS.of s24) _ _ hv1
      have hv2 := Tp.mono (TS.of s24) _ _ hv2
      have hW := hW.same s24
      walk_at "rd"
      refine r_rp (Tp.dp _ _ hra) fdk2 ?_
      walk_at "rd"
      refine ⟨by show 2 ≤ sizeLine; decide, fun t u ht hu => ?_⟩
      have s25 := same_new (o := u) ht
      have kt := Kt.new (H := H24) (a := t) hu
      have hv1 := Tp.mono (TS.of s25) _ _ hv1
      have hv2 := Tp.mono (TS.of s25) _ _ hv2
      have hW := hW.same s25
      generalize upd H24 t u = H25 at *
      walk_at "rd"
      refine ⟨by show 1 ≤ sizeLine; decide, fun t2 u2 ht2 hu2 => ?_⟩
      have s26 := same_new (o := u2) ht2
      have kt2 := Kt.new (H := H25) (a := t2) hu2
      have kt := kt.mono (TS.of s26)
      have hv1 := Tp.mono (TS.of s26) _ _ hv1
      have hv2 := Tp.mono (TS.of s26) _ _ hv2
      have hW := hW.same s26
      generalize upd H25 t2 u2 = H26 at *
      walk_at "rd"
      refine ⟨by show 2 ≤ sizeLine; decide, fun t3 u3 ht3 hu3 => ?_⟩
      have s27 := same_new (o := u3) ht3
      have kt3 := Kt.new (H := H26) (a := t3) hu3
      have kt := kt.mono (TS.of s27)
      have kt2 := kt2.mono (TS.of s27)
      have hv1 := Tp.mono (TS.of s27) _ _ hv1
      have hv2 := Tp.mono (TS.of s27) _ _ hv2
      have hW := hW.same s27
      generalize upd H26 t3 u3 = H27 at *
      walk_at "rd"
      refine r_rp (d := fmD 0 [(k, 1)]) (Tp.dp _ _ (.tup kt3 (.cons (.int _) (.cons (.tup kt2 (.cons (.tup kt (.cons (.int _) (.cons (.int _) .nil))) .nil)) .nil)))) fdk2 ?_
      walk_at "rd"
      refine r_ne rfl ?_
      walk_at "rd"
      rw [dec_same, Bool.not_true]
      walk_at "rd"
      clear hra kt kt2 kt3
      refine ⟨z, rfl, fun ra H28 s28 hra => ?_⟩
      have hv1 := Tp.mono (TS.of s28) _ _ hv1
      have hv2 := Tp.mono (TS.of s28) _ _ hv2
      have hW := hW.same s28
      walk_at "rd"
      refine r_rp (Tp.dp _ _ hra) fdz2 ?_
      walk_at "rd"
      refine ⟨Nat.zero_le _, fun t u ht hu => ?_⟩
      have s29 := same_new (o := u) ht
      have kt := Kt.new (H := H28) (a := t) hu
      have hv1 := Tp.mono (TS.of s29) _ _ hv1
      have hv2 := Tp.mono (TS.of s29) _ _ hv2
      have hW := hW.same s29
      generalize upd H28 t u = H29 at *
      walk_at "rd"
      refine ⟨by show 2 ≤ sizeLine; decide, fun t2 u2 ht2 hu2 => ?_⟩
      have s30 := same_new (o := u2) ht2
      have kt2 := Kt.new (H := H29) (a := t2) hu2
      have kt := kt.mono (TS.of s30)
      have hv1 := Tp.mono (TS.of s30) _ _ hv1
      have hv2 := Tp.mono (TS.of s30) _ _ hv2
      have hW := hW.same s30
      generalize upd H29 t2 u2 = H30 at *
      walk_at "rd"
      refine r_rp (d := fmD z []) (Tp.dp _ _ (.tup kt2 (.cons (.int _) (.cons (.tup kt .nil) .nil)))) fdz2 ?_
      walk_at "rd"
      refine r_ne rfl ?_
      walk_at "rd"
      rw [dec_same, Bool.not_true]
      walk_at "rd"
      clear hra kt kt2
      refine ⟨rfl, rfl, k, rfl, fun ra H31 s31 hra => ?_⟩
      have hv1 := Tp.mono (TS.of s31) _ _ hv1
      have hv2 := Tp.mono (TS.of s31) _ _ hv2
      have hW := hW.same s31
      walk_at "rd"
      refine ⟨k, rfl, fun rb H32 s32 hrb => ?_⟩
      have hra := Tp.mono (TS.of s32) _ _ hra
      have hv1 := Tp.mono (TS.of s32) _ _ hv1
      have hv2 := Tp.mono (TS.of s32) _ _ hv2
      have hW := hW.same s32
      walk_at "rd"
      refine r_neF (Tp.dp _ _ hra) (Tp.dp _ _ hrb) (fdk.mono (by decide) (by decide)) (fdk.mono (by decide) (by decide)) ?_
      rw [neqv_self fdk.f]
      walk_at "rd"
      clear hra hrb
      refine ⟨rfl, rfl, z, rfl, fun ra H33 s33 hra => ?_⟩
      have hv1 := Tp.mono (TS.of s33) _ _ hv1
      have hv2 := Tp.mono (TS.of s33) _ _ hv2
      have hW := hW.same s33
      walk_at "rd"
      refine ⟨z, rfl, fun rb H34 s34 hrb => ?_⟩
      have hra := Tp.mono (TS.of s34) _ _ hra
      have hv1 := Tp.mono (TS.of s34) _ _ hv1
      have hv2 := Tp.mono (TS.of s34) _ _ hv2
      have hW := hW.same s34
      walk_at "rd"
      refine r_neF (Tp.dp _ _ hra) (Tp.dp _ _ hrb) (fdz.mono (by decide) (by decide)) (fdz.mono (by decide) (by decide)) ?_
      rw [neqv_self fdz.f]
      walk_at "rd"
      refine ⟨by show 2 ≤ sizeLine; decide, fun t u ht hu => ?_⟩
      have s35 := same_new (o := u) ht
      have kt : Kt (upd H34 t u) t [v1, v2] := Kt.new hu
      clear hra hrb
      have hv1 := Tp.mono (TS.of s35) _ _ hv1
      have hv2 := Tp.mono (TS.of s35) _ _ hv2
      have hW := hW.same s35
      generalize upd H34 t u = H35 at *
      walk_at "rd"
      refine r_rp (Tp.dp _ _ (.tup kt (.cons hv1 (.cons hv2 .nil)))) fd12 ?_
      walk_at "rd"
      refine r_ne rfl ?_
      walk_at "rd"
      rw [dec_same, Bool.not_true]
      walk_at "rd"
      exact ⟨_, _, _, _, _, _, _, _, rfl, hW⟩
    · intro U kj
      walk_at "rd"
      refine ⟨wl, 3, rfl, hW4, by decide, by decide, fun r H5 r0 r3 d5 => ?_⟩
      have hv1 := Tp.mono (hW4.ts d5.frm) _ _ hv1
      have hv2 := Tp.mono (hW4.ts d5.frm) _ _ hv2
      have hW5 := d5.wl
      walk_at "rd"
      refine r_eq rfl ?_
      walk_at "rd"
      refine ifD (fun hy => ?_) (fun hy => ?_)
      · obtain ⟨a1, x, y, rfl, ha1, hx, hy⟩ := id hv1.pair
        obtain rfl := hx.of_int
        obtain ⟨b1, xs1, rfl, hb1, hxs1⟩ := hy.of_tuple
        obtain ⟨a2, x, y, rfl, ha2, hx, hy⟩ := id hv2.pair
        obtain rfl := hx.of_int
        have xl : xs1.length = ps1.length := by rw [hxs1.length, List.length_map]
        walk_at "rd"
        refine r_ix (.inr ha1.sq) rfl ?_
        refine ⟨b1, rfl, ⟨_, hb1.sq⟩, fun D hD => lc_tup (K := K) (a := b1) (xs := xs1) (fun i H' => Drawn wl H5 H' ∧ Same H5 H' ∧ ∃ zs, H' D = some (.lst zs) ∧ TpAll H' zs (((ps1.take i).map fun p => (p.1, 0 - p.2)).map prD) ∧ zs.length = i) ?_ ?_ ?_ ?_⟩
        · exact ⟨Drawn.new hW5 hD, same_new hD, [], upd_same, .nil, rfl⟩
        · rintro i H2 _ ⟨_, s2, _⟩
          exact (hb1.mono (TS.of s2)).sq
        · rintro i z H6 hz ⟨d6, s6, zs, hL, hZ, hzl⟩
          obtain ⟨e, he, hT⟩ := hxs1.get hz
          rw [List.getElem?_map, Option.map_eq_some_iff] at he
          obtain ⟨q, hq, rfl⟩ := he
          obtain ⟨c, x, y, rfl, hc', hx, hy⟩ := hT.pair
          obtain rfl := hx.of_int
          obtain rfl := hy.of_int
          have il : i < ps1.length := (List.getElem?_eq_some_iff.mp hq).1
          have eq : ps1.take (i + 1) = ps1.take i ++ [q] := by
            rw [List.take_add_one, hq] <;> rfl
          refine r_gtup (hc'.mono (TS.of s6)).sq rfl ?_
          walk_at "rd"
          refine ⟨rfl, ?_⟩
          walk_at "rd"
          refine ⟨by show 2 ≤ sizeLine; decide, fun t u ht hu => ?_⟩
          have nDt : D ≠ t := ne_of_none hL ht
          have hLu : upd H6 t u D = some (.lst zs) := by
            rw [upd_ne nDt]
            exact hL
          have ts1 : TS H6 (upd H6 t u) := TS.of (same_new ht)
          have ts2 : TS (upd H6 t u) (upd (upd H6 t u) D (.lst (zs ++ [V.ref t]))) := Frm.upd.ts hLu
          refine ⟨zs, hLu, Nat.lt_of_lt_of_le (show zs.length < 64 by omega) (by decide), (d6.more ht).mut hD (hW5.ne hD), ?_, zs ++ [V.ref t], upd_same, ?_, ?_⟩
          · intro b0 o0 h
            rw [upd_ne (fun e => by rw [e, hD] at h; cases h), upd_ne (ne_of_none (s6 _ _ h) ht)]
            exact s6 _ _ h
          · rw [eq, List.map_append, List.map_append]
            exact (Tp.monoAll (ts1.trans ts2) _ _ hZ).append (.cons (.tup ((Kt.new hu).mono ts2) (.cons (.int _) (.cons (.int _) .nil))) .nil)
          · rw [List.length_append, List.length_singleton]
            omega
        · rintro H6 ⟨d6, s6, zs, hL, hZ, hzl⟩
          rw [xl, List.take_length] at hZ
          walk_at "rd"
          refine ⟨D, zs, rfl, .inl ⟨SqL.of hL, fun t u ht hu => ?_⟩⟩
          have s7 := same_new (o := u) ht
          have kA : Kt (upd H6 t u) t zs := Kt.new hu
          have hZ := Tp.monoAll (TS.of s7) _ _ hZ
          have s57 := s6.trans s7
          have hW7 := d6.wl.same s7
          have hv1 := Tp.mono (TS.of s57) _ _ hv1
          generalize upd H6 t u = H7 at *
          walk_at "rd"
          refine r_ix (.inr (ha2.mono (TS.of s57)).sq) rfl ?_
          walk_at "rd"
          refine r_irng2 ?_
          walk_at "rd"
          refine ⟨wl, 3, rfl, hW7, by decide, by decide, fun r H8 r0 r3 d8 => ?_⟩
          have t78 := hW7.ts d8.frm
          have kA := kA.mono t78
          have hZ := Tp.monoAll t78 _ _ hZ
          have hv1 := Tp.mono t78 _ _ hv1
          have hW8 := d8.wl
          walk_at "rd"
          refine ⟨m, m + r, rfl, ⟨by omega, by omega, by omega, by omega⟩, fun B hB => lc_range (lo := m) (n := (m + r - m).toNat) (fun i H' => Same H8 H' ∧ ∃ ws, H' B = some (.lst ws) ∧ TpAll H' ws (((List.range i).map fun (i : Nat) => (m + (i : Int), (1 : Int))).map prD) ∧ ws.length = i) ?_ ?_ ?_⟩
          · exact ⟨same_new hB, [], upd_same, .nil, rfl⟩
          · rintro i H9 hi ⟨s9, ws, hL, hY, hwl⟩
            walk_at "rd"
            refine ⟨rfl, ?_⟩
            walk_at "rd"
            refine ⟨by show 2 ≤ sizeLine; decide, fun t u ht hu => ?_⟩
            have nDt : B ≠ t := ne_of_none hL ht
            have hLu : upd H9 t u B = some (.lst ws) := by
              rw [upd_ne nDt]
              exact hL
            have ts1 : TS H9 (upd H9 t u) := TS.of (same_new ht)
            have ts2 : TS (upd H9 t u) (upd (upd H9 t u) B (.lst (ws ++ [V.ref t]))) := Frm.upd.ts hLu
            refine ⟨ws, hLu, Nat.lt_of_lt_of_le (show ws.length < 64 by omega) (by decide), ?_, ws ++ [V.ref t], upd_same, ?_, ?_⟩
            · intro b0 o0 h
              rw [upd_ne (fun e => by rw [e, hB] at h; cases h), upd_ne (ne_of_none (s9 _ _ h) ht)]
              exact s9 _ _ h
            · rw [List.range_succ, List.map_append, List.map_append]
              exact (Tp.monoAll (ts1.trans ts2) _ _ hY).append (.cons (.tup ((Kt.new hu).mono ts2) (.cons (.int _) (.cons (.int _) .nil))) .nil)
            · rw [List.length_append, List.length_singleton]
              omega
          · rintro H9 ⟨s9, ws, hL, hY, hwl⟩
            walk_at "rd"
            refine ⟨B, ws, rfl, .inl ⟨SqL.of hL, fun t u ht hu => ?_⟩⟩
            have s10 := same_new (o := u) ht
            have kB : Kt (upd H9 t u) t ws := Kt.new hu
            have s810 := s9.trans s10
            have hY := Tp.monoAll (TS.of s10) _ _ hY
            have hZ := Tp.monoAll (TS.of s810) _ _ hZ
            have kA := kA.mono (TS.of s810)
            have hv1 := Tp.mono (TS.of s810) _ _ hv1
            have hW10 := hW8.same s810
            generalize upd H9 t u = H10 at *
            walk_at "rd"
            refine r_catK kA kB (Nat.le_trans (show zs.length + ws.length ≤ 100 by omega) (by decide)) fun p H11 s11 kC => ?_
            have hC := Tp.monoAll (TS.of s11) _ _ (hZ.append hY)
            have hv1 := Tp.mono (TS.of s11) _ _ hv1
            have hW11 := hW10.same s11
            walk_at "rd"
            refine ⟨by show 2 ≤ sizeLine; decide, fun t3 u3 ht3 hu3 => ?_⟩
            have s12 := same_new (o := u3) ht3
            refine r_name ?_
            rw [← List.map_append] at hC
            exact kj _ _ ⟨V.ref t3, n2, nwP ps1 m (m + r - m).toNat, _, _, _, _, rfl, hW11.same s12, Tp.mono (TS.of s12) _ _ hv1, .tup (Kt.new hu3) (.cons (.int _) (.cons (.tup (kC.mono (TS.of s12)) (Tp.monoAll (TS.of s12) _ _ hC)) .nil)), hn2, nwP_nodup _ hp1, nwP_34 hp1 m0 m30 (by omega), nwP_sz s1⟩
      · refine r_next ?_
        exact kj _ _ ⟨v2, n2, ps2, _, _, _, _, rfl, hW5, hv1, hv2, hn2, hp2.nodup, (fun p hp => by have := hp2.at_ p hp; omega), fun p hp => (hp2.at_ p hp).2.2.2.sz.mono (by decide)⟩
  · rintro σ H' ⟨c2, c3, c4, c5, c6, c7, c8, c9, rfl, _⟩
    walk_at "rd"
    exact kk _
end
end Tug
set_option Elab.async false
set_option linter.all false
set_option maxRecDepth 100000
set_option maxHeartbeats 0
namespace Tug
open PySem PySem.Spec L2
open PyProof.Rows hiding St
def d_form_of : He.DefD := ⟨("form_of", none), "form_of", "form_of", defArgs s_form_of, defBody s_form_of, defScope s_form_of, [], []⟩
def d_plain_form : He.DefD := ⟨("plain_form", none), "plain_form", "plain_form", defArgs s_plain_form, defBody s_plain_form, defScope s_plain_form, [], []⟩
def d_put_together : He.DefD := ⟨("put_together", none), "put_together", "put_together", defArgs s_put_together, defBody s_put_together, defScope s_put_together, [], []⟩
def d_added : He.DefD := ⟨("added", none), "added", "added", defArgs s_added, defBody s_added, defScope s_added, [], []⟩
def d_taken : He.DefD := ⟨("taken", none), "taken", "taken", defArgs s_taken, defBody s_taken, defScope s_taken, [], []⟩
def d_times : He.DefD := ⟨("times", none), "times", "times", defArgs s_times, defBody s_times, defScope s_times, [], []⟩
def d_well : He.DefD := ⟨("_law_well", none), "_law_well", "_law_well", defArgs s_well, defBody s_well, defScope s_well, [], []⟩
def d_draw : He.DefD := ⟨("_law_draw", none), "_law_draw", "_law_draw", defArgs s_draw, defBody s_draw, defScope s_draw, [], []⟩
def d_pick : He.DefD := ⟨("_law_pick", none), "_law_pick", "_law_pick", defArgs s_pick, defBody s_pick, defScope s_pick, [], []⟩
def d_number : He.DefD := ⟨("_law_number", none), "_law_number", "_law_number", defArgs s_number, defBody s_number, defScope s_number, [], []⟩
def d_form : He.DefD := ⟨("_law_form", none), "_law_form", "_law_form", defArgs s_form, defBody s_form, defScope s_form, [], []⟩
def d_put : He.DefD := ⟨("_law_put", none), "_law_put", "_law_put", defArgs s_put, defBody s_put, defScope s_put, [], []⟩
def d_law : He.DefD := ⟨("law", none), "law", "law", defArgs s_law, defBody s_law, defScope s_law, [], []⟩
def fn : List He.DefD := [d_form_of, d_plain_form, d_put_together, d_added, d_taken, d_times, d_well, d_draw, d_pick, d_number, d_form, d_put, d_law]
def fa : List He.Fa := [.glo "form_of", .glo "plain_form", .glo "put_together", .glo "added", .glo "taken", .glo "times", .glo "_law_well", .glo "_law_draw", .glo "_law_pick", .glo "_law_number", .glo "_law_form", .glo "_law_put", .glo "law", .free "len", .free "range", .free "tuple", .free "repr", .free "dict", .free "sorted"]
abbrev R : PySem.W.OpenRow := PySem.W.OpenLaw.row PySem.Challenge.rw_tugline_k19_forms_put_together
abbrev hk : PySem.W.Hook := He.hookD 5 fa fn
def ob (s : PySem.W.SharedT) : He.AlD := He.obsDG 5 fa fn (HandSHeadRun.getT s)
theorem ob_eq (s : PySem.W.SharedT) : ob s = hk.obs s.abs := He.obsDG_eq (HandSHeadRun.getT_eq s)
abbrev loose : List PySem.Str := ["form_of", "plain_form", "put_together", "added", "taken", "times", "_law_well", "_law_draw", "_law_pick", "_law_number", "_law_form", "_law_put"]
abbrev lawAt : Nat := 14
theorem run (w : World) : HandSHeadRun.RunEq R (PySem.W.view R.prog [lawAt]) hk ob 2000 loose w := by
  intro os
  kernel_rfl
theorem facts {P : Program} {w : World} {K : PySem.W.Frag} {h : Heap} {mg : Str → Option Value} {f : Addr} (X : K.In h) (G : h.Ns mainGlobals mg) (hf : mg ("law" : Str) = some (.ref f)) (c : He.SaysD fa fn K) :
    ∃ fd : FuncData, (∀ (s : Shared) (v : Value), BindsTo s fd ⟨[v], []⟩ [("script", v)]) ∧ ∀ base : Heap, K.In base → base.Ns mainGlobals mg → FnG P w K mg base CX0 5 f fd ["script"] (spLaw K) := by
  obtain ⟨fd_form_of, F_form_of⟩ := c.def_ 0 (d := d_form_of) rfl
  obtain ⟨fd_plain_form, F_plain_form⟩ := c.def_ 1 (d := d_plain_form) rfl
  obtain ⟨fd_put_together, F_put_together⟩ := c.def_ 2 (d := d_put_together) rfl
  obtain ⟨fd_added, F_added⟩ := c.def_ 3 (d := d_added) rfl
  obtain ⟨fd_taken, F_taken⟩ := c.def_ 4 (d := d_taken) rfl
  obtain ⟨fd_times, F_times⟩ := c.def_ 5 (d := d_times) rfl
  obtain ⟨fd_well, F_well⟩ := c.def_ 6 (d := d_well) rfl
  obtain ⟨fd_draw, F_draw⟩ := c.def_ 7 (d := d_draw) rfl
  obtain ⟨fd_pick, F_pick⟩ := c.def_ 8 (d := d_pick) rfl
  obtain ⟨fd_number, F_number⟩ := c.def_ 9 (d := d_number) rfl
  obtain ⟨fd_form, F_form⟩ := c.def_ 10 (d := d_form) rfl
  obtain ⟨fd_put, F_put⟩ := c.def_ 11 (d := d_put) rfl
  obtain ⟨fd_law, F_law⟩ := c.def_ 12 (d := d_law) rfl
  have m_form_of := He.glo_ok X G (c.fact 0 (f := .glo "form_of") rfl)
  have m_plain_form := He.glo_ok X G (c.fact 1 (f := .glo "plain_form") rfl)
  have m_put_together := He.glo_ok X G (c.fact 2 (f := .glo "put_together") rfl)
  have m_added := He.glo_ok X G (c.fact 3 (f := .glo "added") rfl)
  have m_taken := He.glo_ok X G (c.fact 4 (f := .glo "taken") rfl)
  have m_times := He.glo_ok X G (c.fact 5 (f := .glo "times") rfl)
  have m_well := He.glo_ok X G (c.fact 6 (f := .glo "_law_well") rfl)
  have m_draw := He.glo_ok X G (c.fact 7 (f := .glo "_law_draw") rfl)
  have m_pick := He.glo_ok X G (c.fact 8 (f := .glo "_law_pick") rfl)
  have m_number := He.glo_ok X G (c.fact 9 (f := .glo "_law_number") rfl)
  have m_form := He.glo_ok X G (c.fact 10 (f := .glo "_law_form") rfl)
  have m_put := He.glo_ok X G (c.fact 11 (f := .glo "_law_put") rfl)
  have m_law := He.glo_ok X G (c.fact 12 (f := .glo "law") rfl)
  have z_len := He.free_ok X G (c.fact 13 (f := .free "len") rfl)
  have z_range := He.free_ok X G (c.fact 14 (f := .free "range") rfl)
  have z_tuple := He.free_ok X G (c.fact 15 (f := .free "tuple") rfl)
  have z_repr := He.free_ok X G (c.fact 16 (f := .free "repr") rfl)
  have z_dict := He.free_ok X G (c.fact 17 (f := .free "dict") rfl)
  have z_sorted := He.free_ok X G (c.fact 18 (f := .free "sorted") rfl)
  have e := hf.symm.trans m_law
  cases e
  have b := FunD.bindsA (ps := ["script"]) F_law fun _ _ _ _ _ _ us hl => match us, hl with | [_], _ => rfl
  refine ⟨fd_law, fun s v => b s [v] rfl, fun base _ _ => ?_⟩
  have C_well : C_ P w K mg base "_law_well" 1 P_well (spWell K) := cal_of F_well m_well (fun _ _ _ _ _ _ us hl => match us, hl with | [_, _], _ => rfl) (ok_well F_well z_len)
  have C_draw : C_ P w K mg base "_law_draw" 1 P_draw spDraw := cal_of F_draw m_draw (fun _ _ _ _ _ _ us hl => match us, hl with | [_, _], _ => rfl) (ok_draw F_draw )
  have C_pick : C_ P w K mg base "_law_pick" 2 P_pick (spPick K) := cal_of F_pick m_pick (fun _ _ _ _ _ _ us hl => match us, hl with | [_, _], _ => rfl) (ok_pick F_pick z_len C_draw)
  have C_number : C_ P w K mg base "_law_number" 3 P_number spNumber := cal_of F_number m_number (fun _ _ _ _ _ _ us hl => match us, hl with | [_], _ => rfl) (ok_number F_number C_draw C_pick)
  have C_form : C_ P w K mg base "_law_form" 4 P_form spForm := cal_of F_form m_form (fun _ _ _ _ _ _ us hl => match us, hl with | [_, _], _ => rfl) (ok_form F_form z_range z_tuple C_draw C_number)
  have C_put_together : C_ P w K mg base "put_together" 1 P_put_together spPut := cal_of F_put_together m_put_together (fun _ _ _ _ _ _ us hl => match us, hl with | [_, _, _], _ => rfl) (ok_put_together F_put_together z_dict z_sorted z_tuple)
  have C_put : C_ P w K mg base "_law_put" 1 P_put spLput := cal_of F_put m_put (fun _ _ _ _ _ _ us hl => match us, hl with | [_, _, _], _ => rfl) (ok_put F_put z_dict z_range z_tuple)
  have C_added : C_ P w K mg base "added" 2 P_added (spAdd 1) := cal_of F_added m_added (fun _ _ _ _ _ _ us hl => match us, hl with | [_, _], _ => rfl) (ok_added F_added C_put_together)
  have C_taken : C_ P w K mg base "taken" 2 P_taken (spAdd (-1)) := cal_of F_taken m_taken (fun _ _ _ _ _ _ us hl => match us, hl with | [_, _], _ => rfl) (ok_taken F_taken C_put_together)
  have C_times : C_ P w K mg base "times" 2 P_times spTimes := cal_of F_times m_times (fun _ _ _ _ _ _ us hl => match us, hl with | [_, _], _ => rfl) (ok_times F_times C_put_together)
  have C_form_of : C_ P w K mg base "form_of" 1 P_form_of spForm1 := cal_of F_form_of m_form_of (fun _ _ _ _ _ _ us hl => match us, hl with | [_], _ => rfl) (ok_form_of F_form_of )
  have C_plain_form : C_ P w K mg base "plain_form" 1 P_plain_form spPlain := cal_of F_plain_form m_plain_form (fun _ _ _ _ _ _ us hl => match us, hl with | [_], _ => rfl) (ok_plain_form F_plain_form )
  have K_added : CalK P w K mg base CX0 "added" 2 P_added 0 ["other", "one"] gSw (spAdd 1) := calK_of F_added m_added (fun _ ws => ws.drop 1 ++ ws.take 1) (fun _ r => (r.drop 1).append (r.take 1))
    (fun _ _ _ _ _ _ us ws h1 h2 => match us, ws, h1, h2 with | [], [_, _], _, _ => rfl) (ok_added F_added C_put_together)
  have K_taken : CalK P w K mg base CX0 "taken" 2 P_taken 0 ["other", "one"] gSw (spAdd (-1)) := calK_of F_taken m_taken (fun _ ws => ws.drop 1 ++ ws.take 1) (fun _ r => (r.drop 1).append (r.take 1))
    (fun _ _ _ _ _ _ us ws h1 h2 => match us, ws, h1, h2 with | [], [_, _], _, _ => rfl) (ok_taken F_taken C_put_together)
  have K_times : CalK P w K mg base CX0 "times" 2 P_times 0 ["number", "form"] gSw spTimes := calK_of F_times m_times (fun _ ws => ws.drop 1 ++ ws.take 1) (fun _ r => (r.drop 1).append (r.take 1))
    (fun _ _ _ _ _ _ us ws h1 h2 => match us, ws, h1, h2 with | [], [_, _], _, _ => rfl) (ok_times F_times C_put_together)
  have K_form_of : CalK P w K mg base CX0 "form_of" 1 P_form_of 0 ["knob"] gId spForm1 := calK_of F_form_of m_form_of (fun _ ws => ws) (fun _ r => r)
    (fun _ _ _ _ _ _ us ws h1 h2 => match us, ws, h1, h2 with | [], [_], _, _ => rfl) (ok_form_of F_form_of)
  have K_plain_form : CalK P w K mg base CX0 "plain_form" 1 P_plain_form 0 ["number"] gId spPlain := calK_of F_plain_form m_plain_form (fun _ ws => ws) (fun _ r => r)
    (fun _ _ _ _ _ _ us ws h1 h2 => match us, ws, h1, h2 with | [], [_], _, _ => rfl) (ok_plain_form F_plain_form)
  exact ok_law F_law z_range z_repr z_tuple C_well C_draw C_pick C_number C_form C_put C_added C_taken C_times K_added K_taken K_times C_form_of C_plain_form K_form_of K_plain_form
end Tug
open PySem PySem.W PySem.Calls PyProof.Rows
theorem PySem.Challenge.cw_tugline_k19_forms_put_together_holds : PySem.Challenge.rw_tugline_k19_forms_put_together.Holds := by
  w_on; o_law
  refine HandSHeadRun.head_any (r := OpenLaw.row PySem.Challenge.rw_tugline_k19_forms_put_together) (q := view (OpenLaw.row PySem.Challenge.rw_tugline_k19_forms_put_together).prog [Tug.lawAt]) (H := Tug.hk) (ob := Tug.ob) (M := 2000) (loose := Tug.loose) (d := HandSHeadRun.topDef (OpenLaw.row PySem.Challenge.rw_tugline_k19_forms_put_together).prog Tug.lawAt) (kwd := []) Tug.ob_eq
    (by kernel_rfl) (fun s => by kernel_rfl) Tug.run (by kernel_rfl) (by kernel_rfl) (by kernel_rfl) (by rfl) (by first | assumption | decide +kernel) (by decide +kernel) ⟨rfl, rfl, rfl, rfl, rfl, by decide +kernel⟩ ?hw ?hc
  case hw => w_witness2
  case hc =>
    refine Tug.walk_end (l := PySem.Challenge.rw_tugline_k19_forms_put_together) (n := 63) (k := 5) (x := "script") (CX := L2.CX0) rfl (by decide) (by kernel_rfl) ⟨rfl, by decide, by decide⟩ ?F (fun _ _ _ _ z => z)
    intro w mg f h Y G hmg0
    obtain ⟨K, KX, c⟩ := Y
    have hmg : mg ("law" : PySem.Str) = some (.ref f) := by
      have e : (HandSHeadRun.topDef (OpenLaw.row PySem.Challenge.rw_tugline_k19_forms_put_together).prog Tug.lawAt).name = ("law" : PySem.Str) := by kernel_rfl
      rw [← e]
      exact hmg0
    obtain ⟨fd, hb, hF⟩ := Tug.facts (P := (PySem.Challenge.rw_tugline_k19_forms_put_together).prog) (w := w) KX G hmg c
    exact ⟨K, fd, Tug.spLaw K, KX, hb, fun H a ns hl hbits _ hS => ⟨a, ns, rfl, hS, hl, hbits, fun _ => rfl⟩, hF⟩
