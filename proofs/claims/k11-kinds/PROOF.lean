import PyProof.Rows.All
import Wide.All
import OpenK.AllK
import Wide.FinOn
import HandS.ForMost
import HandS.ForExc
import HandS.Wide
import HandS.TupAny
import HandS.IsInst
import HandS.Style
import HandS.Flow
import HandS.Walk
import HandS.Evl
import HandS.Defaults
import HandS.Head0
import HandS.Head1
import HandS.Head2
import HandS.HeadEnd
import HandS.HeadHook1
import HandS.HeadHook2
import HandS.TupMul
import PySem.Challenge.RW_vouchchains_k11_kinds_known
set_option Elab.async false
set_option linter.all false
set_option maxRecDepth 100000
set_option maxHeartbeats 4000000
/-! The common part: growing heaps with one bag of draws; rules that lack; a def that may be called only where no repr runs. -/
namespace VB
open PySem PySem.Spec PyProof.Rows L2

/-! ### heaps that grow, a bag of draws apart -/
def bagSh : HO → Bool
  | .lst [.int _, .int _, .int _, .ref _] => true
  | _ => false
def bagO (z s i : Int) (c : Addr) : HO := .lst [.int z, .int s, .int i, .ref c]
def BagV (z s i : Int) : Prop := 0 ≤ z ∧ 0 ≤ s ∧ s < 2147483647 ∧ 0 ≤ i
structure Gr (H H' : Hp) : Prop where
  keep : ∀ a o, H a = some o → bagSh o = false → H' a = some o
  bag : ∀ b z s i c, H b = some (bagO z s i c) → BagV z s i → ∃ z' s' i', H' b = some (bagO z' s' i' c) ∧ BagV z' s' i'
  free : ∀ a, H' a = none → H a = none
theorem Gr.refl (H : Hp) : Gr H H := ⟨fun _ _ e _ => e, fun _ z s i _ e v => ⟨z, s, i, e, v⟩, fun _ e => e⟩
theorem Gr.trans {H H1 H2 : Hp} (a : Gr H H1) (b : Gr H1 H2) : Gr H H2 :=
  ⟨fun x o e n => b.keep x o (a.keep x o e n) n, fun x z s i c e v => by
    obtain ⟨z1, s1, i1, e1, v1⟩ := a.bag x z s i c e v
    exact b.bag x z1 s1 i1 c e1 v1, fun x e => a.free x (b.free x e)⟩
theorem Gr.same {H H' : Hp} (h : ∀ a o, H a = some o → H' a = some o) : Gr H H' :=
  ⟨fun a o e _ => h a o e, fun _ z s i _ e v => ⟨z, s, i, h _ _ e, v⟩, fun a e => by
    cases q : H a with
    | none => rfl
    | some o =>
      have := h a o q
      rw [e] at this
      cases this⟩
theorem Gr.new {H : Hp} {p : Addr} {o : HO} (n : H p = none) : Gr H (upd H p o) := Gr.same fun a u e => by
  rw [upd_ne (ne_of_none e n)]
  exact e
/-- what H0 does not know may change -/
theorem Gr.mut {H0 H : Hp} {p : Addr} {o : HO} (g : Gr H0 H) (n : H0 p = none) : Gr H0 (upd H p o) :=
  ⟨fun a u e nb => by
    rw [upd_ne (ne_of_none e n)]
    exact g.keep a u e nb, fun b z s i c e v => by
    obtain ⟨z1, s1, i1, e1, v1⟩ := g.bag b z s i c e v
    refine ⟨z1, s1, i1, ?_, v1⟩
    rw [upd_ne (ne_of_none e n)]
    exact e1, fun a e => by
    by_cases h : a = p
    · rw [h]
      exact n
    · rw [upd_ne h] at e
      exact g.free a e⟩
/-- the bag is written -/
theorem Gr.bagW {H : Hp} {b c : Addr} {z s i z' s' i' : Int} (e : H b = some (bagO z s i c)) (v : BagV z' s' i') : Gr H (upd H b (bagO z' s' i' c)) :=
  ⟨fun a o ea nb => by
    by_cases h : a = b
    · subst h
      rw [e] at ea
      cases ea
      cases nb
    · rw [upd_ne h]
      exact ea, fun b' z1 s1 i1 c1 e1 v1 => by
    by_cases h : b' = b
    · subst h
      rw [e] at e1
      have q := Option.some.inj e1
      unfold bagO at q
      injection q with q
      simp only [List.cons.injEq, V.ref.injEq, and_true] at q
      obtain ⟨_, _, _, rfl⟩ := q
      exact ⟨z', s', i', upd_same, v⟩
    · exact ⟨z1, s1, i1, by rw [upd_ne h]; exact e1, v1⟩, fun a ea => by
    by_cases h : a = b
    · rw [h, upd_same] at ea
      cases ea
    · rw [upd_ne h] at ea
      exact ea⟩
/-- a bag stands at b -/
def BagAt (H : Hp) (b : Addr) : Prop := ∃ (z s i : Int) (c : Addr) (ns : List Int), H b = some (bagO z s i c) ∧ BagV z s i ∧ H c = some (.lst (ns.map V.int)) ∧ ∀ n ∈ ns, 0 ≤ n
theorem ints_sh (ns : List Int) : bagSh (.lst (ns.map V.int)) = false := by
  match ns with
  | [] => rfl
  | [_] => rfl
  | [_, _] => rfl
  | [_, _, _] => rfl
  | [_, _, _, _] => rfl
  | _ :: _ :: _ :: _ :: _ :: _ => rfl
theorem strs_sh (xs : List Str) : bagSh (.lst (xs.map V.str)) = false := by
  match xs with
  | [] => rfl
  | _ :: _ => rfl
theorem BagAt.gr {H H' : Hp} {b : Addr} (h : BagAt H b) (g : Gr H H') : BagAt H' b := by
  obtain ⟨z, s, i, c, ns, e, v, ec, hn⟩ := h
  obtain ⟨z', s', i', e', v'⟩ := g.bag b z s i c e v
  exact ⟨z', s', i', c, ns, e', v', g.keep c _ ec (ints_sh ns), hn⟩
theorem Gr.tup {K : PySem.W.Frag} {H H' : Hp} {a : Addr} {xs : List V} (g : Gr H H') (h : SqT K H a xs) : SqT K H' a xs := by
  rcases h with (h | ⟨o, h⟩) | h
  · exact .inl (.inl (g.keep _ _ h rfl))
  · exact .inl (.inr ⟨o, g.keep _ _ h rfl⟩)
  · exact .inr h
theorem Gr.lst {K : PySem.W.Frag} {H H' : Hp} {a : Addr} {xs : List V} (g : Gr H H') (n : bagSh (.lst xs) = false) (h : SqL K H a xs) : SqL K H' a xs := by
  rcases h with (h | ⟨o, h⟩) | h
  · exact .inl (.inl (g.keep _ _ h n))
  · exact .inl (.inr ⟨o, g.keep _ _ h rfl⟩)
  · exact .inr h
theorem Gr.lst1 {H H' : Hp} {a : Addr} {xs : List V} (g : Gr H H') (n : bagSh (.lst xs) = false) (h : H a = some (.lst xs)) : H' a = some (.lst xs) := g.keep _ _ h n

/-! ### rules that lack -/
section
variable {X : Cx}
/-- xs[k] read for xs[k] op= e -/
def rGetL : V → V → Hp → VK → Prop := fun o i H Q => ∃ (p : Addr) (xs : List V) (k : Int) (v : V), o = .ref p ∧ i = .int k ∧ 0 ≤ k ∧ k < 2 ^ 63 ∧ H p = some (.lst xs) ∧ xs[k.toNat]? = some v ∧ Q v H
theorem get_list : PGet X rGetL := by
  intro pins s σ H o i ov iv Q I ro ri h
  obtain ⟨p, xs, k, v, rfl, rfl, k0, k1, hp, hv, q⟩ := h
  cases ro
  obtain ⟨t, rfl⟩ := ri
  obtain ⟨its, r, pl, _⟩ := I.list (SqL.of hp)
  obtain ⟨w, ew, rw'⟩ := r.get hv
  exact wpAny_getItem_list pl.isList k0 k1 (by simpa using ew) ⟨v, H, I, rw', q⟩
/-- repr of data, where no repr runs -/
def rRepr (K : PySem.W.Frag) : List V → Hp → VK → Prop := fun vs H Q => ∃ (x : V) (d : PyData), vs = [x] ∧ Dp K H x d ∧ d.showable = true ∧ d.hasDict = false ∧ d.depth ≤ 30 ∧ d.shown.length ≤ sizeLine ∧ Q (.str d.shown) H
theorem call_repr {K : PySem.W.Frag} (hK : X.K = K) (hg : X.A.guards = some []) (hu : X.A.units + 64 < cLine) : CallR X (.builtin "repr") (rRepr K) := by
  subst hK
  intro pins s σ H xs us Q I r h
  obtain ⟨x, d, rfl, hd, h1, h2, h3, h4, q⟩ := h
  cases r with
  | cons r0 rn =>
    cases rn
    obtain ⟨as, hr⟩ := Dp.reads I d x _ hd r0
    have leaf : ∀ {h' : Heap} {tk : Nat} {t : Tok}, (∀ b o, s.heap.get? b = some o → h'.get? b = some o) → EP X pins σ Q (.str d.shown t) { s with heap := h', toks := tk } :=
      fun hk => ⟨.str d.shown, H, I.kept hk, ⟨_, rfl⟩, q⟩
    cases hd with
    | non => cases r0; exact P.repr_of_none (leaf fun _ _ e => e)
    | bl b => cases r0; exact P.repr_of_bool (leaf fun _ _ e => e)
    | int i => obtain ⟨_, rfl⟩ := r0; exact P.repr_of_int (by simpa [PyData.showable] using h1) (leaf fun _ _ e => e)
    | str z => obtain ⟨_, rfl⟩ := r0; exact P.repr_of_str (leaf fun _ _ e => e) (hsz := h4)
    | lst hs ha => cases r0; exact repr_of_reads' hr h1 (fun z => by rw [h2] at z; cases z) hg (by omega) (fun _ _ e => e) (fun h' u tk hk => leaf hk) h4
    | tup hs ha => cases r0; exact repr_of_reads' hr h1 (fun z => by rw [h2] at z; cases z) hg (by omega) (fun _ _ e => e) (fun h' u tk hk => leaf hk) h4
/-- s * n, a text some times -/
def rMulS : R2 := fun x y H Q => ∃ (z : Str) (k : Int), x = .str z ∧ y = .int k ∧ 0 ≤ k ∧ k ≤ 5000 ∧ z.length ≤ 1000 ∧ Q (.str (Txt.mul z k)) H
theorem op_mul_str : OpR X (binaryOp .Mult) rMulS := by
  intro pins s σ H x y v u Q I rx ry h
  obtain ⟨z, k, rfl, rfl, h0, h1, h2, q⟩ := h
  obtain ⟨t, rfl⟩ := rx
  obtain ⟨t', rfl⟩ := ry
  refine SB.mul ⟨?_, fun _ _ => ?_, fun _ _ => ?_⟩ fun t2 k2 => ⟨.str _, H, I.tok _, ⟨_, rfl⟩, q⟩
  · rw [decide_eq_false (by omega), decide_eq_false (by omega)]
    rfl
  · have hk : 0 < k := by omega
    have : (1000 : Int) ≤ (2 ^ 63 - 1) / k := by
      rw [Int.le_ediv_iff_mul_le hk]
      omega
    omega
  · unfold Builtin.Str.tooLong
    have h3 : z.length * k.toNat ≤ 1000 * 5000 := Nat.mul_le_mul h2 (by omega)
    have e : sizeLine = 16777216 := by decide
    simp only [decide_eq_false_iff_not]
    omega
end

/-! ### the same rules, the written part by its name (within a comprehension's block) -/
section
variable {X : Cx} {K : PySem.W.Frag} {pos : Pos}
theorem kIxL (h : X.K = K) : IxR X (rIxL K) := h ▸ ix_list
theorem kIxT (h : X.K = K) : IxR X (rIxT K) := h ▸ ix_tup
theorem kSlL (h : X.K = K) : SlR X (rSlL K) := h ▸ sl_list
theorem kSlA (h : X.K = K) : SlR X (rSlA K) := h ▸ sl_tupA
theorem kEqD (h : X.K = K) (hu : X.A.units + 64 < cLine) : OpR X (compareOp .Eq) (rEqD K) := h ▸ op_eqD hu
theorem kNeD (h : X.K = K) (hu : X.A.units + 64 < cLine) : OpR X (compareOp .NotEq) (rNeD K) := h ▸ op_neD hu
theorem kCatA (h : X.K = K) : OpR X (binaryOp .Add) (rCatA K) := h ▸ op_catA
def rLenK (K : PySem.W.Frag) : List V → Hp → VK → Prop := fun xs H Q => ∃ x n, xs = [x] ∧ LenV K x H n ∧ Q (.int (n : Nat)) H
theorem kLen (h : X.K = K) : CallR X (.builtin "len") (rLenK K) := h ▸ call_len
theorem kIsi (h : X.K = K) : CallR X (.builtin "isinstance") (rIsi K) := h ▸ call_isi
theorem kIsiT (h : X.K = K) : CallR X (.builtin "isinstance") (rIsiT K) := h ▸ call_isiT
theorem kAll (h : X.K = K) (hc : X.calm = true) : CallR X (.builtin "all") (rAll K) := h ▸ cr_all hc
theorem kAny (h : X.K = K) (hc : X.calm = true) : CallR X (.builtin "any") (rAny K) := h ▸ cr_any hc
def rTupK (K : PySem.W.Frag) : List V → Hp → VK → Prop := fun xs H Q => ∃ p ys, xs = [.ref p] ∧ ((SqL K H p ys ∧ ∀ l, H l = none → Q (.ref l) (upd H l (.tup ys))) ∨ (SqT K H p ys ∧ Q (.ref p) H))
theorem kTup (h : X.K = K) : CallR X (.type "tuple") (rTupK K) := h ▸ call_tuple_of
def rLstK (K : PySem.W.Frag) : List V → Hp → VK → Prop := fun xs H Q => ∃ p ys, xs = [.ref p] ∧ (SqL K H p ys ∨ SqT K H p ys) ∧ ∀ l, H l = none → Q (.ref l) (upd H l (.lst ys))
theorem kPiL {tg l : Expr} {tl : TE} (h : X.K = K) (hl : PE X l tl) : PI X tg l (iList K tl) := h ▸ pi_list hl
theorem kPiT {tg l : Expr} {tl : TE} (h : X.K = K) (hl : PE X l tl) : PI X tg l (iTup K tl) := h ▸ pi_tup hl
theorem kOrT {a b : Expr} {rest : List Expr} {pos : Pos} {ta tb : TE} (h : X.K = K) (ha : PE X a ta) (hb : PE X (.BoolOp .Or (b :: rest) pos) tb) : PE X (.BoolOp .Or (a :: b :: rest) pos) (tOrT K ta tb) := h ▸ pe_orT ha hb
def rJoinK (K : PySem.W.Frag) : V → List V → Hp → VK → Prop := fun x xs H Q => ∃ a p, ∃ ys : List Str, x = .str a ∧ xs = [.ref p] ∧ (SqL K H p (ys.map V.str) ∨ SqT K H p (ys.map V.str)) ∧ (ys.map (·.length)).sum + ys.length * a.length ≤ 16777216 ∧ Q (.str (Txt.join a ys)) H
def rSplitK : V → List V → Hp → VK → Prop := fun x xs H Q => ∃ a b, x = .str a ∧ xs = [.str b] ∧ (b.length == 0) = false ∧ a.length + 2 ≤ sizeLine ∧ rNewStrs (Txt.split a b) H Q
theorem kJoin {o e : Expr} {to te : TE} {apos pos : Pos} (h : X.K = K) (ho : PE X o to) (he : PE X e te) (hs : starEach [e] X.env = [(false, eval e X.env)] := by rfl) (hb : attributeBase o "join" X.env (eval o X.env) = eval o X.env := by rfl) (hl : (apos.endLine == pos.line) = true := by rfl) :
    PE X (.Call (.Attribute o "join" apos) [e] [] pos) (tM1 (rJoinK K) to te) := h ▸ pe_join ho he hs hb hl
theorem kSplit {o e : Expr} {to te : TE} {apos pos : Pos} (ho : PE X o to) (he : PE X e te) (hs : starEach [e] X.env = [(false, eval e X.env)] := by rfl) (hb : attributeBase o "split" X.env (eval o X.env) = eval o X.env := by rfl) (hl : (apos.endLine == pos.line) = true := by rfl) :
    PE X (.Call (.Attribute o "split" apos) [e] [] pos) (tM1 rSplitK to te) := pe_split ho he hs hb hl
theorem kTg {es : List Expr} {k n : Nat} {t : TGs} (h : X.K = K) (hc : X.calm = true) (hp : PGs X es t) (hn : (assignEach es X.env).length = n := by rfl) (hst : (assignEach es X.env).findIdx? (·.1) = none := by rfl) : PG X (.Tuple es k pos) (gTup K n t) := h ▸ pg_tup hc hp hn hst
theorem kLst (h : X.K = K) : CallR X (.type "list") (rLstK K) := h ▸ call_list_of
end
/-! ### a def that may be called only where no repr runs -/
structure FnG (P : Program) (w : World) (K : PySem.W.Frag) (mg : Str → Option Value) (base : Heap) (CX : CXT) (k : Nat) (f : Addr) (fd : FuncData) (ps : List Str) (sp : Sp) : Prop where
  len : ∀ vs H Q E, sp vs H Q E → List.length vs = List.length ps
  run : ∀ A outer s H args us vs Q E, A.guards = some [] → Room k A → Env0 P w K mg base A outer s H → BindsTo s fd args (ps.zip us) → Vals vs us → sp vs H Q E →
      codeAny (model P w) A (.call (.ref f) args) (CR CX outer P w H s Q E) s
section
variable {P : Program} {w : World} {K : PySem.W.Frag} {mg : Str → Option Value} {base : Heap} {CX : CXT} {f : Addr} {fd : FuncData} {ps : List Str} {k : Nat} {sp : Sp}
theorem FnG.of (F : FnOk P w K mg base CX k f fd ps sp) : FnG P w K mg base CX k f fd ps sp :=
  ⟨F.len, fun A outer s H args us vs Q E _ => F.run A outer s H args us vs Q E⟩
theorem FnG.mono {j : Nat} (F : FnG P w K mg base CX k f fd ps sp) (h : k ≤ j) : FnG P w K mg base CX j f fd ps sp :=
  ⟨F.len, fun A outer s H args us vs Q E g r => F.run A outer s H args us vs Q E g (r.mono h)⟩
/-- the body's rule -/
theorem okG {x qual : Str} {pa : Arguments} {body : List Stmt} {sc : Scope} {dvs : List V} {kws : List (Str × V)} {N : List Str} (F : FunD K x qual pa body sc dvs kws f fd) (S : FnScope N ps sc) (len : ∀ vs H Q E, sp vs H Q E → List.length vs = List.length ps)
    (hb : ∀ (cdv : Value) (A : Around) (outer : List Env) (s : Shared) (H : Hp) (vs : List V) (Q : VK) (E : XK), A.guards = some [] → Room k (A.deeper (envOfC qual sc s.heap.objs.size f cdv)) → sp vs H Q E →
      ∃ t, PSs (cxOf CX P w K mg base N qual sc f cdv A outer s H E) body t ∧ t ⟨fun _ H' => Q .non H', Q, fun _ _ => False, fun _ _ => False⟩ (start N vs) H) : FnG P w K mg base CX (k + 1) f fd ps sp := by
  obtain ⟨oc, od, dV, kV, doc, pm, an, cdv, ct, osl, rfl, lk, hcd, _⟩ := F.ex
  refine ⟨len, fun A outer s H args us vs Q E hg hr e0 hbi rv hs => ?_⟩
  have inK : K.In s.heap := e0.mod.kin.keeps fun b o e => (e0.bs b o e).1
  have lim : s.heap.NoLimit := e0.mod.nolimit.keeps fun b o e => (e0.bs b o e).1
  refine codeAny_call_function hr.depth (inK _ _ lk) rfl S.co S.gen rfl (PySem.W.codeRec_of inK hcd) (hbi _ _ _ _ ?_)
  refine wpAny_newFunctionEnv_cells S.kind (fun y hy => ?_) fun env he s1 x1 => ?_
  · rcases S.par y.1 (List.of_mem_zip hy).1 with q | q
    · exact Or.inl q
    · exact Or.inr ⟨q, PySem.W.cellsFrom_some _ _ _ (Or.inl q)⟩
  · subst he
    refine ⟨lim.keeps x1.toInCall.keep, codeAny_func ?_⟩
    obtain ⟨t, ht, hq⟩ := hb cdv A outer s H vs Q E hg (hr.deeper _) hs
    refine wpAny_mono (ht.run [] s1 _ H _ (inv_start S hr.hd e0 (len vs H Q E hs) rv x1) hq) (fun fl s' hf => ?_) fun _ _ hf => hf
    match fl, hf with
    | .ret u, ⟨v, σ', H', J, r2, q⟩ => exact ⟨v, H', J.os, J.bare, J.base, J.hok, r2, q⟩
    | .next, ⟨σ', H', J, q⟩ => exact ⟨V.non, H', J.os, J.bare, J.base, J.hok, rfl, q⟩
    | .brk, ⟨_, _, _, q⟩ => exact q.elim
    | .cont, ⟨_, _, _, q⟩ => exact q.elim
end
section
variable {X : Cx} {CX : CXT} {k : Nat} {f : Addr} {fd : FuncData} {ps : List Str} {sp : Sp} {ds : List Value} {dvs : List V} {E : XK} {x : Str} {p pos : Pos} {e : Expr} {es : List Expr} {t : TA}
theorem run_G {pins : List (Addr × Obj)} {σ : L2.St} {H : Hp} {s : Shared} {Q : VK} {us : List Value} {vs : List V} (F : FnG X.prog X.w X.K X.mg X.base CX k f fd ps sp) (g : X.A.guards = some []) (hr : Room k X.A) (hb : Binds X.K fd ps ds) (hd : Vals dvs ds)
    (hx : Passes CX X E) (I : Inv X pins σ H s) (r : Vals vs us) (h : sp (vs ++ dvs) H Q E) : wpAny (model X.prog X.w) X.A (call (.ref f) us) (EP X pins σ Q) X.xe s := by
  have ra := r.append hd
  refine wpAny_call (codeAny_mono (F.run X.A X.stack s H ⟨us, []⟩ _ _ Q E g hr I.env0 (hb s us I.kIn (by rw [← ra.length]; exact F.len _ _ _ _ h)) ra h) fun res s' hq => ?_)
  match res, hq with
  | .error er, hq => exact hx pins σ H s er s' I hq
  | .ok (.ret u), hq => exact I.after hq
  | .ok .next, hq => exact False.elim hq
  | .ok .brk, hq => exact False.elim hq
  | .ok .cont, hq => exact False.elim hq
theorem pe_callG (F : FnG X.prog X.w X.K X.mg X.base CX k f fd ps sp) (g : X.A.guards = some []) (hr : Room k X.A) (hg : Gl X x) (hm : X.mg x = some (.ref f)) (hk : PySem.W.keepIn X.K (.ref f) = true) (hb : Binds X.K fd ps ds) (hd : Vals dvs ds)
    (hx : Passes CX X E) (ha : PA X (e :: es) t) (hdb : (x == ("__debug__" : Str)) = false := by decide) (he : starEach (e :: es) X.env = (false, eval e X.env) :: starEach es X.env := by rfl)
    (hpl : (backTo pos (starEach es X.env)).any (·.1) = false := by rfl) : PE X (.Call (.Name x p) (e :: es) [] pos) (tCall sp dvs E t) :=
  ⟨fun pins s σ H Q I h => wpAny_Call_Name_kw (ld_glob I hg hm (PySem.W.callWith_K (h₀ := X.base) I.ok.mod.kin hk
    (thn (ha.run pos pins s σ H _ I h) fun us s1 ⟨vs, H1, I1, r, q⟩ => ⟨I1.kIn, run_G F g hr hb hd hx I1 r q⟩) he hpl) hdb)⟩
end

/-! ### the end of a law whose def runs where no repr runs -/
theorem law_G {P : Program} {w : World} {K : PySem.W.Frag} {mg mb : Str → Option Value} {CX : CXT} {k : Nat} {fa a : Addr} {fd : FuncData} {x : Str} {sp : Sp} {s1 : Shared} {vs : List Value} {ns : List Int}
    (KX : K.In s1.heap) (hns : s1.heap.Ns mainGlobals mg) (hb : s1.heap.Ns builtinsNs mb) (hbb : ∀ x : Str, x ≠ "__name__" → mb x = bootBuiltins x) (hlim : s1.heap.NoLimit) (hg : s1.gens = #[])
    (ha : s1.heap.get? a = some { cls := .type "list", data := .seq vs.toArray }) (hi : IntsAre vs ns) (hl : ns.length ≤ sizeLine) (hr : Room k callerA)
    (F : ∀ base : Heap, K.In base → base.Ns mainGlobals mg → FnG P w K mg base CX k fa fd [x] sp) (hbind : ∀ (s : Shared) (u : Value), BindsTo s fd ⟨[u], []⟩ [(x, u)])
    (hsp : ∀ H : Hp, Only H → SqL K H a (ns.map V.int) → sp [.ref a] H (fun v _ => v = .bl true) fun _ _ _ => False)
    (hCX : ∀ H e s', CX [] H s1 (fun _ _ _ => False) e s' → False) :
    codeAny (model P w) callerA (.call (.ref fa) ⟨[.ref a], []⟩) (fun r s' => r = .ok (.ret (.bool true)) ∧ OldK s1.heap s'.heap ∧ s'.os = s1.os ∧ AllBare s'.gens) s1 := by
  have vi := vals_ints hi
  have go : ∀ H : Hp, Only H → SqL K H a (ns.map V.int) → HOk P w H s1.heap → (∀ b, H b ≠ none → b = a) → (H a ≠ none → K.lookup a = none) →
      codeAny (model P w) callerA (.call (.ref fa) ⟨[.ref a], []⟩) (fun r s' => r = .ok (.ret (.bool true)) ∧ OldK s1.heap s'.heap ∧ s'.os = s1.os ∧ AllBare s'.gens) s1 := by
    intro H hO hS hok only kno
    -- what is a dict of names is not tracked
    have keepNs : ∀ {b : Addr} {m : Str → Option Value}, s1.heap.Ns b m → (hidT s1.heap H).Ns b m := fun {b m} ⟨o, es, ep, e, d, r⟩ => by
      refine ⟨o, es, ep, hidT_get e ?_, d, r⟩
      cases hq : H b with
      | none => rfl
      | some u =>
        have hba := only b (by rw [hq]; exact Option.some_ne_none u)
        rw [hba, ha] at e
        have := Option.some.inj e
        rw [← this] at d
        cases d
    have kin2 : K.In (hidT s1.heap H) := fun b o e => hidT_get (KX b o e) (by
      cases hq : H b with
      | none => rfl
      | some u =>
        have hba := only b (by rw [hq]; exact Option.some_ne_none u)
        rw [hba] at e hq
        rw [kno (by rw [hq]; exact Option.some_ne_none u)] at e
        cases e)
    obtain ⟨mc, l1, l2⟩ := hlim
    have md : Mod K mg (hidT s1.heap H) := ⟨kin2, keepNs hns, ⟨mb, keepNs hb, hbb⟩, ⟨mc, keepNs l1, l2⟩⟩
    have nomem : ∀ {b : Addr}, b ∉ frs [] := fun {b} z => by
      have z2 : b ∈ ([] : List Addr) := z
      cases z2
    have en : Env0 P w K mg (hidT s1.heap H) callerA [] s1 H :=
      { frames := rfl, mod := md, bs := fun b o e => of_hidT e, bsz := Nat.le_of_eq (hidT_size _ _), funs := trivial, frf := fun b z => (nomem z).elim, hok := hok, bare := AllBare.of_eq hg }
    refine codeAny_mono ((F _ kin2 (keepNs hns)).run callerA [] s1 H ⟨[.ref a], []⟩ [.ref a] [.ref a] _ _ rfl hr en (hbind s1 (.ref a)) (.cons rfl .nil) (hsp H hO hS)) fun r s' h => ?_
    match r, h with
    | .error e, h => exact (hCX H e s' h).elim
    | .ok .next, h => exact False.elim h
    | .ok .brk, h => exact False.elim h
    | .ok .cont, h => exact False.elim h
    | .ok (.ret u), ⟨v, H', os, bare, un, hok', r', q⟩ =>
      have q' : v = .bl true := q
      subst q'
      have r2 : u = Value.bool true := r'
      subst r2
      refine ⟨rfl, OldK.of_keep fun b o e => ?_, os, bare⟩
      rcases hO b with z | ⟨ob, ys, z⟩
      · exact un.keep b o e z nomem List.not_mem_nil
      · have old := (hok b _ z).1
        rw [e] at old
        rw [Option.some.inj old]
        exact (hok' b _ (un.frzs b ob _ z)).1
  cases hk : K.lookup a with
  | some o =>
    have e := KX a o hk
    rw [ha] at e
    cases e
    refine go (fun _ => none) (fun _ => Or.inl rfl) (Or.inr ⟨_, vs.toArray, _, hk, rfl, rfl, rfl, ?_, ?_⟩) (fun b u z => nomatch z) (fun b z => absurd rfl z) fun z => absurd rfl z
    · rw [List.size_toArray, hi.length]
      exact hl
    · simpa using vi
  | none =>
    have here : (fun b => if b = a then some (HO.frz { cls := .type "list", data := .seq vs.toArray } (.lst (ns.map V.int))) else none : Hp) a = some (HO.frz { cls := .type "list", data := .seq vs.toArray } (.lst (ns.map V.int))) := if_pos rfl
    refine go (fun b => if b = a then some (.frz { cls := .type "list", data := .seq vs.toArray } (.lst (ns.map V.int))) else none) (fun b => ?_) (Or.inl (Or.inr ⟨_, here⟩)) (fun b u z => ?_) (fun b z => ?_) fun _ => hk
    · by_cases h : b = a
      · exact Or.inr ⟨_, _, if_pos h⟩
      · exact Or.inl (if_neg h)
    · by_cases h : b = a
      · subst h
        have z2 := here.symm.trans z
        cases z2
        exact ⟨ha, by rw [List.length_map]; exact hl, vs, _, vi, ha⟩
      · have z2 := (if_neg h).symm.trans z
        cases z2
    · by_cases h : b = a
      · exact h
      · exact absurd (if_neg h) z
theorem walk_G {l : PySem.W.OpenLaw} {n k : Nat} {q : Program} {loose : List Str} {XP : (Str → Option Value) → Heap → Prop} {YP : World → Heap → Prop} {d : DefRec} {CX : CXT} {x : Str}
    (hn : l.most = some n) (hn2 : n ≤ sizeLine) (hdf : d.params.defaults = []) (hr : Room k callerA)
    (F : ∀ w mg fa h, YP w h → h.Ns mainGlobals mg → mg d.name = some (.ref fa) →
      ∃ (K : PySem.W.Frag) (fd : FuncData) (sp : Sp), K.In h ∧ (∀ (s : Shared) (u : Value), BindsTo s fd ⟨[u], []⟩ [(x, u)]) ∧
        (∀ H a ns, List.length ns ≤ n → Only H → SqL K H a (ns.map V.int) → sp [.ref a] H (fun v _ => v = .bl true) fun _ _ _ => False) ∧
        ∀ base : Heap, K.In base → base.Ns mainGlobals mg → FnG l.prog w K mg base CX k fa fd [x] sp)
    (hCX : ∀ H s e s', CX [] H s (fun _ _ _ => False) e s' → False) : PySem.W.WalkO q loose XP YP l.row.toRowW d [] (fun f vs => PySem.call f vs) :=
  Att.attach_call hn hdf fun w s0 s1 mg mb fa o pm cd doc a vs ns G Y ho hd hcd hmg hobj hints hlen hg => by
    obtain ⟨K, fd, sp, KX, hb, hs, hF⟩ := F w mg fa _ Y G.T.g hmg
    exact law_G KX G.T.g G.T.b G.T.builtins G.T.nolimit hg hobj hints (Nat.le_trans hlen hn2) hr hF hb (fun H hO hS => hs H a ns hlen hO hS) (fun H e s' => hCX H s1 e s')
theorem pos_ {j : Int} (h : 0 < j) : 0 < j := h
theorem cmul_ {i j : Int} (h : -(2 ^ 64) < i) (k : i < 2 ^ 64) : CMul i j := Or.inl ⟨h, k⟩
theorem iteNT {A B : Prop} (h : B) : if (!true) = true then A else B := iteF h
theorem iteNF {A B : Prop} (h : A) : if (!false) = true then A else B := iteT h
theorem iteD {c A B : Prop} [Decidable c] (h1 : c → A) (h2 : ¬ c → B) : if decide c = true then A else B := by
  by_cases h : c
  · rw [decide_eq_true h]
    exact iteT (h1 h)
  · rw [decide_eq_false h]
    exact iteF (h2 h)
theorem iteND {c A B : Prop} [Decidable c] (h1 : ¬ c → A) (h2 : c → B) : if (!decide c) = true then A else B := by
  by_cases h : c
  · rw [decide_eq_true h]
    exact iteF (h2 h)
  · rw [decide_eq_false h]
    exact iteT (h1 h)
end VB

set_option Elab.async false
set_option linter.all false
set_option maxRecDepth 100000
set_option maxHeartbeats 4000000
/-! Readings over data: what an expression, a statement of a law is worth, no heap in sight. -/
namespace VB
open PySem PySem.Spec PyProof.Rows L2

/-- data: what never changes behind its back; raw: an address as it is (the bag) -/
inductive D where
  | non | bl (b : Bool) | int (i : Int) | str (x : Str) | ty (n : String) | tup (ds : List D) | lst (ds : List D) | raw (a : Addr)
  | dic (ks : List Key) (ds : List D) | ins (C : Addr) (ks : List Str) (ds : List D)

/-! ### heaps: all but W stays; the bags of W stay bags -/
structure Gw (W : List Addr) (H H' : Hp) : Prop where
  keep : ∀ a o, a ∉ W → H a = some o → H' a = some o
  free : ∀ a, H' a = none → H a = none
theorem Gw.refl {W : List Addr} {H : Hp} : Gw W H H := ⟨fun _ _ _ e => e, fun _ e => e⟩
theorem Gw.trans {W : List Addr} {H H1 H2 : Hp} (a : Gw W H H1) (b : Gw W H1 H2) : Gw W H H2 := ⟨fun x o n e => b.keep x o n (a.keep x o n e), fun x e => a.free x (b.free x e)⟩
theorem Gw.mono {W B : List Addr} {H H' : Hp} (g : Gw W H H') (s : ∀ a ∈ W, a ∈ B) : Gw B H H' := ⟨fun a o n e => g.keep a o (fun z => n (s a z)) e, g.free⟩
theorem Gw.new {W : List Addr} {H : Hp} {p : Addr} {o : HO} (n : H p = none) : Gw W H (upd H p o) := ⟨fun a u _ e => by
  rw [upd_ne (ne_of_none e n)]
  exact e, fun a e => by
  by_cases h : a = p
  · rw [h]
    exact n
  · rw [upd_ne h] at e
    exact e⟩
theorem Gw.wr {W : List Addr} {H : Hp} {p : Addr} {o : HO} (m : p ∈ W) (n : H p ≠ none) : Gw W H (upd H p o) := ⟨fun a u na e => by
  have q : a ≠ p := fun z => by
    subst z
    exact na m
  rw [upd_ne q]
  exact e, fun a e => by
  by_cases h : a = p
  · rw [h, upd_same] at e
    cases e
  · rw [upd_ne h] at e
    exact e⟩
/-- the bag at b, its cells at c -/
def BagC (H : Hp) (b c : Addr) (ns : List Int) : Prop := (∃ z s i : Int, H b = some (bagO z s i c) ∧ BagV z s i) ∧ H c = some (.lst (ns.map V.int)) ∧ ∀ n ∈ ns, 0 ≤ n
structure Gs (W : List Addr) (H H' : Hp) : Prop where
  gw : Gw W H H'
  bag : ∀ b ∈ W, ∀ c ns, c ∉ W → BagC H b c ns → BagC H' b c ns
theorem Gs.refl {W : List Addr} {H : Hp} : Gs W H H := ⟨Gw.refl, fun _ _ _ _ _ h => h⟩
theorem Gs.trans {W : List Addr} {H H1 H2 : Hp} (a : Gs W H H1) (b : Gs W H1 H2) : Gs W H H2 := ⟨a.gw.trans b.gw, fun x m c ns n h => b.bag x m c ns n (a.bag x m c ns n h)⟩
theorem BagC.wr {H : Hp} {p b c : Addr} {o : HO} {ns : List Int} (h : BagC H b c ns) (n1 : b ≠ p) (n2 : c ≠ p) : BagC (upd H p o) b c ns := by
  obtain ⟨⟨z, s, i, e, v⟩, ec, hn⟩ := h
  refine ⟨⟨z, s, i, ?_, v⟩, ?_, hn⟩
  · rw [upd_ne n1]
    exact e
  · rw [upd_ne n2]
    exact ec
theorem BagC.new {H : Hp} {p b c : Addr} {o : HO} {ns : List Int} (h : BagC H b c ns) (n : H p = none) : BagC (upd H p o) b c ns :=
  h.wr (by
    obtain ⟨⟨z, s, i, e, v⟩, _⟩ := h
    exact ne_of_none e n) (ne_of_none h.2.1 n)
theorem Gs.new {W : List Addr} {H : Hp} {p : Addr} {o : HO} (n : H p = none) : Gs W H (upd H p o) := ⟨Gw.new n, fun b _ c ns _ h => h.new n⟩
theorem Gs.bagW {W : List Addr} {H : Hp} {b c : Addr} {z s i z' s' i' : Int} (m : b ∈ W) (e : H b = some (bagO z s i c)) (v : BagV z' s' i') : Gs W H (upd H b (bagO z' s' i' c)) :=
  ⟨Gw.wr m (by rw [e]; exact Option.some_ne_none _), fun b1 m1 c1 ns n1 h => by
    obtain ⟨⟨z1, s1, i1, e1, v1⟩, ec, hn⟩ := h
    have hc : c1 ≠ b := fun q => n1 (q ▸ m)
    by_cases h : b1 = b
    · subst h
      rw [e] at e1
      have q := Option.some.inj e1
      unfold bagO at q
      injection q with q
      simp only [List.cons.injEq, V.ref.injEq, and_true] at q
      obtain ⟨_, _, _, rfl⟩ := q
      refine ⟨⟨z', s', i', upd_same, v⟩, ?_, hn⟩
      rw [upd_ne hc]
      exact ec
    · refine ⟨⟨z1, s1, i1, ?_, v1⟩, ?_, hn⟩
      · rw [upd_ne h]
        exact e1
      · rw [upd_ne hc]
        exact ec⟩

/-! ### a value stands for data, whatever happens at B -/
mutual
inductive Sg (K : PySem.W.Frag) (B : List Addr) (H : Hp) : V → D → Prop
  | non : Sg K B H .non .non
  | bl (b : Bool) : Sg K B H (.bl b) (.bl b)
  | int (i : Int) : Sg K B H (.int i) (.int i)
  | str (x : Str) : Sg K B H (.str x) (.str x)
  | ty (n : String) : Sg K B H (.ty n) (.ty n)
  | raw (a : Addr) : Sg K B H (.ref a) (.raw a)
  | tup {a : Addr} {xs : List V} {ds : List D} : a ∉ B → Rd H a (.tup xs) → SgA K B H xs ds → Sg K B H (.ref a) (.tup ds)
  | tupK {a : Addr} {xs : List V} {ds : List D} : (∀ h : Hp, SqT K h a xs) → SgA K B H xs ds → Sg K B H (.ref a) (.tup ds)
  | lst {a : Addr} {xs : List V} {ds : List D} : a ∉ B → H a = some (.lst xs) → SgA K B H xs ds → Sg K B H (.ref a) (.lst ds)
  | dic {a : Addr} {kvs : List (Key × V)} {ks : List Key} {ds : List D} : a ∉ B → H a = some (.dK kvs) → kvs.map (·.1) = ks → SgA K B H (kvs.map (·.2)) ds → Sg K B H (.ref a) (.dic ks ds)
  | ins {a C dx : Addr} {fs : List (Str × V)} {ks : List Str} {ds : List D} : a ∉ B → H a = some (.ins C dx fs) → fs.map (·.1) = ks → SgA K B H (fs.map (·.2)) ds → Sg K B H (.ref a) (.ins C ks ds)
inductive SgA (K : PySem.W.Frag) (B : List Addr) (H : Hp) : List V → List D → Prop
  | nil : SgA K B H [] []
  | cons {v : V} {vs : List V} {d : D} {ds : List D} : Sg K B H v d → SgA K B H vs ds → SgA K B H (v :: vs) (d :: ds)
end
theorem rd_gw {W : List Addr} {H H' : Hp} {a : Addr} {u : HO} (n : a ∉ W) (g : Gw W H H') (h : Rd H a u) : Rd H' a u := by
  rcases h with h | ⟨o, h⟩
  · exact Or.inl (g.keep _ _ n h)
  · exact Or.inr ⟨o, g.keep _ _ n h⟩
theorem rd_kn {H : Hp} {a p : Addr} {u : HO} (h : Rd H a u) (n : H p = none) : a ≠ p := by
  rintro rfl
  rcases h with h | ⟨o, h⟩
  · rw [n] at h
    cases h
  · rw [n] at h
    cases h
section
variable {K : PySem.W.Frag} {B : List Addr} {H H' : Hp}
mutual
theorem Sg.gw (g : Gw B H H') : ∀ {v : V} {d : D}, Sg K B H v d → Sg K B H' v d
  | _, _, .non => .non
  | _, _, .bl b => .bl b
  | _, _, .int i => .int i
  | _, _, .str x => .str x
  | _, _, .ty n => .ty n
  | _, _, .raw a => .raw a
  | _, _, .tup n h r => .tup n (rd_gw n g h) (SgA.gw g r)
  | _, _, .tupK h r => .tupK h (SgA.gw g r)
  | _, _, .lst n h r => .lst n (g.keep _ _ n h) (SgA.gw g r)
  | _, _, .dic n h e r => .dic n (g.keep _ _ n h) e (SgA.gw g r)
  | _, _, .ins n h e r => .ins n (g.keep _ _ n h) e (SgA.gw g r)
theorem SgA.gw (g : Gw B H H') : ∀ {vs : List V} {ds : List D}, SgA K B H vs ds → SgA K B H' vs ds
  | _, _, .nil => .nil
  | _, _, .cons h r => .cons (Sg.gw g h) (SgA.gw g r)
end
mutual
/-- fewer places left out -/
theorem Sg.less {B' : List Addr} (s : ∀ a ∈ B', a ∈ B) : ∀ {v : V} {d : D}, Sg K B H v d → Sg K B' H v d
  | _, _, .non => .non
  | _, _, .bl b => .bl b
  | _, _, .int i => .int i
  | _, _, .str x => .str x
  | _, _, .ty n => .ty n
  | _, _, .raw a => .raw a
  | _, _, .tup n h r => .tup (fun z => n (s _ z)) h (SgA.less s r)
  | _, _, .tupK h r => .tupK h (SgA.less s r)
  | _, _, .lst n h r => .lst (fun z => n (s _ z)) h (SgA.less s r)
  | _, _, .dic n h e r => .dic (fun z => n (s _ z)) h e (SgA.less s r)
  | _, _, .ins n h e r => .ins (fun z => n (s _ z)) h e (SgA.less s r)
theorem SgA.less {B' : List Addr} (s : ∀ a ∈ B', a ∈ B) : ∀ {vs : List V} {ds : List D}, SgA K B H vs ds → SgA K B' H vs ds
  | _, _, .nil => .nil
  | _, _, .cons h r => .cons (Sg.less s h) (SgA.less s r)
end
mutual
/-- one more, that is new -/
theorem Sg.out {p : Addr} {u : HO} (n : H p = none) : ∀ {v : V} {d : D}, Sg K B H v d → Sg K (p :: B) (upd H p u) v d
  | _, _, .non => .non
  | _, _, .bl b => .bl b
  | _, _, .int i => .int i
  | _, _, .str x => .str x
  | _, _, .ty n => .ty n
  | _, _, .raw a => .raw a
  | _, _, .tup m h r => .tup (fun z => (List.mem_cons.mp z).elim (rd_kn h n) m) (rd_gw m (Gw.new n) h) (SgA.out n r)
  | _, _, .tupK h r => .tupK h (SgA.out n r)
  | _, _, .lst m h r => .lst (fun z => (List.mem_cons.mp z).elim (ne_of_none h n) m) ((Gw.new n).keep _ _ m h) (SgA.out n r)
  | _, _, .dic m h e r => .dic (fun z => (List.mem_cons.mp z).elim (ne_of_none h n) m) ((Gw.new n).keep _ _ m h) e (SgA.out n r)
  | _, _, .ins m h e r => .ins (fun z => (List.mem_cons.mp z).elim (ne_of_none h n) m) ((Gw.new n).keep _ _ m h) e (SgA.out n r)
theorem SgA.out {p : Addr} {u : HO} (n : H p = none) : ∀ {vs : List V} {ds : List D}, SgA K B H vs ds → SgA K (p :: B) (upd H p u) vs ds
  | _, _, .nil => .nil
  | _, _, .cons h r => .cons (Sg.out n h) (SgA.out n r)
end
theorem Sg.sqT {a : Addr} {ds : List D} (h : Sg K B H (.ref a) (.tup ds)) : ∃ xs, SqT K H a xs ∧ SgA K B H xs ds := by
  cases h with
  | tup _ h r => exact ⟨_, Or.inl h, r⟩
  | tupK h r => exact ⟨_, h H, r⟩
theorem SgA.length : ∀ {vs : List V} {ds : List D}, SgA K B H vs ds → vs.length = ds.length
  | _, _, .nil => rfl
  | _, _, .cons _ r => congrArg (· + 1) (SgA.length r)
theorem SgA.get : ∀ {vs : List V} {ds : List D} {i : Nat} {d : D}, SgA K B H vs ds → ds[i]? = some d → ∃ v, vs[i]? = some v ∧ Sg K B H v d
  | _, _, _, _, .nil, e => by simp at e
  | _, _, 0, _, .cons h _, e => by simp at e; subst e; exact ⟨_, rfl, h⟩
  | _, _, i + 1, d, .cons _ r, e => by
    obtain ⟨v, h1, h2⟩ := SgA.get (i := i) (d := d) r (by simpa using e)
    exact ⟨v, by simpa using h1, h2⟩
theorem SgA.getV : ∀ {vs : List V} {ds : List D} {i : Nat} {v : V}, SgA K B H vs ds → vs[i]? = some v → ∃ d, ds[i]? = some d ∧ Sg K B H v d
  | _, _, _, _, .nil, e => by simp at e
  | _, _, 0, _, .cons h _, e => by simp at e; subst e; exact ⟨_, rfl, h⟩
  | _, _, i + 1, v, .cons _ r, e => by
    obtain ⟨d, h1, h2⟩ := SgA.getV (i := i) (v := v) r (by simpa using e)
    exact ⟨d, by simpa using h1, h2⟩
theorem SgA.append : ∀ {xs ys : List V} {ds es : List D}, SgA K B H xs ds → SgA K B H ys es → SgA K B H (xs ++ ys) (ds ++ es)
  | _, _, _, _, .nil, s => s
  | _, _, _, _, .cons h r, s => .cons h (SgA.append r s)
theorem SgA.take : ∀ {xs : List V} {ds : List D} (n : Nat), SgA K B H xs ds → SgA K B H (xs.take n) (ds.take n)
  | _, _, 0, _ => .nil
  | _, _, _ + 1, .nil => .nil
  | _, _, n + 1, .cons h r => .cons h (SgA.take n r)
theorem SgA.drop : ∀ {xs : List V} {ds : List D} (n : Nat), SgA K B H xs ds → SgA K B H (xs.drop n) (ds.drop n)
  | _, _, 0, r => r
  | _, _, _ + 1, .nil => .nil
  | _, _, n + 1, .cons _ r => SgA.drop n r
theorem SgA.strs : ∀ {xs : List V} {ss : List Str}, SgA K B H xs (ss.map D.str) → xs = ss.map V.str
  | _, [], .nil => rfl
  | _, s :: ss, .cons (.str _) r => by rw [SgA.strs (ss := ss) r]; rfl
theorem SgA.bls : ∀ {xs : List V} {ss : List Bool}, SgA K B H xs (ss.map D.bl) → xs = ss.map V.bl
  | _, [], .nil => rfl
  | _, s :: ss, .cons (.bl _) r => by rw [SgA.bls (ss := ss) r]; rfl
theorem SgA.ints : ∀ {xs : List V} {ss : List Int}, SgA K B H xs (ss.map D.int) → xs = ss.map V.int
  | _, [], .nil => rfl
  | _, s :: ss, .cons (.int _) r => by rw [SgA.ints (ss := ss) r]; rfl
theorem SgA.ofStrs : ∀ {ss : List Str}, SgA K B H (ss.map V.str) (ss.map D.str)
  | [] => .nil
  | s :: ss => .cons (.str s) SgA.ofStrs
end

/-! ### the slots -/
inductive En where
  | no | dat (d : D) | bag (b : Addr)
def EnOk (K : PySem.W.Frag) (B W : List Addr) (H : Hp) (o : Option (Option V)) : En → Prop
  | .no => True
  | .dat d => ∃ v, o = some (some v) ∧ Sg K B H v d
  | .bag b => o = some (some (.ref b)) ∧ b ∈ W ∧ ∃ c ns, c ∉ B ∧ BagC H b c ns
structure BW (B W : List Addr) (H : Hp) : Prop where
  sub : ∀ a ∈ W, a ∈ B
  kn : ∀ a ∈ B, H a ≠ none
structure EnvOk (K : PySem.W.Frag) (B W : List Addr) (H : Hp) (σ : L2.St) (ρ : List En) : Prop where
  bw : BW B W H
  len : σ.length = ρ.length
  sl : ∀ (i : Nat) (e : En), ρ[i]? = some e → EnOk K B W H (σ[i]?) e
section
variable {K : PySem.W.Frag} {B W : List Addr} {H H' : Hp} {σ : L2.St} {ρ : List En}
theorem BW.gs (b : BW B W H) (g : Gs W H H') : BW B W H' := ⟨b.sub, fun a m z => b.kn a m (g.gw.free a z)⟩
theorem BW.gw (b : BW B W H) (g : Gs W H H') : Gw B H H' := g.gw.mono b.sub
theorem EnOk.gs {o : Option (Option V)} {e : En} (b : BW B W H) (g : Gs W H H') (h : EnOk K B W H o e) : EnOk K B W H' o e := by
  cases e with
  | no => trivial
  | dat d =>
    obtain ⟨v, e, s⟩ := h
    exact ⟨v, e, s.gw (b.gw g)⟩
  | bag q =>
    obtain ⟨e, m, c, ns, nc, hb⟩ := h
    exact ⟨e, m, c, ns, nc, g.bag q m c ns (fun z => nc (b.sub c z)) hb⟩
theorem EnvOk.gs (h : EnvOk K B W H σ ρ) (g : Gs W H H') : EnvOk K B W H' σ ρ := ⟨h.bw.gs g, h.len, fun i e q => (h.sl i e q).gs h.bw g⟩
theorem EnvOk.set {i : Nat} {v : V} {d : D} (h : EnvOk K B W H σ ρ) (s : Sg K B H v d) : EnvOk K B W H (σ.set i (some v)) (ρ.set i (.dat d)) := by
  refine ⟨h.bw, by rw [List.length_set, List.length_set]; exact h.len, fun j e q => ?_⟩
  by_cases hj : i = j
  · subst hj
    have hi : i < ρ.length := by
      have := (List.getElem?_eq_some_iff.mp q).1
      rw [List.length_set] at this
      exact this
    rw [List.getElem?_set_self hi] at q
    cases q
    rw [List.getElem?_set_self (by rw [h.len]; exact hi)]
    exact ⟨v, rfl, s⟩
  · rw [List.getElem?_set_ne hj] at q
    rw [List.getElem?_set_ne hj]
    exact h.sl j e q
theorem EnvOk.clr {i : Nat} (h : EnvOk K B W H σ ρ) : EnvOk K B W H (σ.set i none) (ρ.set i .no) := by
  refine ⟨h.bw, by rw [List.length_set, List.length_set]; exact h.len, fun j e q => ?_⟩
  by_cases hj : i = j
  · subst hj
    have hi : i < ρ.length := by
      have := (List.getElem?_eq_some_iff.mp q).1
      rw [List.length_set] at this
      exact this
    rw [List.getElem?_set_self hi] at q
    cases q
    trivial
  · rw [List.getElem?_set_ne hj] at q
    rw [List.getElem?_set_ne hj]
    exact h.sl j e q
/-- a new place p, written, may be left out from here on -/
theorem EnvOk.out {p : Addr} {u : HO} (h : EnvOk K B W H σ ρ) (n : H p = none) : EnvOk K (p :: B) W (upd H p u) σ ρ := by
  refine ⟨⟨fun a m => List.mem_cons_of_mem _ (h.bw.sub a m), fun a m => ?_⟩, h.len, fun i e q => ?_⟩
  · by_cases z : a = p
    · rw [z, upd_same]
      exact Option.some_ne_none _
    · rw [upd_ne z]
      rcases List.mem_cons.mp m with q | q
      · exact absurd q z
      · exact h.bw.kn a q
  · have r := h.sl i e q
    cases e with
    | no => trivial
    | dat d =>
      obtain ⟨v, e1, s⟩ := r
      exact ⟨v, e1, s.out n⟩
    | bag b =>
      obtain ⟨e1, m, c, ns, nc, hb⟩ := r
      refine ⟨e1, m, c, ns, fun z => ?_, hb.new n⟩
      rcases List.mem_cons.mp z with q | q
      · exact ne_of_none hb.2.1 n q
      · exact nc q
/-- a place of B that no bag is, is written -/
theorem EnvOk.wr {p : Addr} {u : HO} (h : EnvOk K B W H σ ρ) (m : p ∈ B) (n : p ∉ W) : EnvOk K B W (upd H p u) σ ρ := by
  refine ⟨⟨h.bw.sub, fun a ma => ?_⟩, h.len, fun i e q => ?_⟩
  · by_cases z : a = p
    · rw [z, upd_same]
      exact Option.some_ne_none _
    · rw [upd_ne z]
      exact h.bw.kn a ma
  · have r := h.sl i e q
    cases e with
    | no => trivial
    | dat d =>
      obtain ⟨v, e1, s⟩ := r
      exact ⟨v, e1, s.gw (Gw.wr m (h.bw.kn p m))⟩
    | bag b =>
      obtain ⟨e1, mb, c, ns, nc, hb⟩ := r
      refine ⟨e1, mb, c, ns, nc, hb.wr (fun z => n (z ▸ mb)) (fun z => nc (z ▸ m))⟩
/-- back to fewer -/
theorem EnvOk.back {B' : List Addr} (h : EnvOk K B W H σ ρ) (s : ∀ a ∈ B', a ∈ B) (sw : ∀ a ∈ W, a ∈ B') : EnvOk K B' W H σ ρ := by
  refine ⟨⟨sw, fun a m => h.bw.kn a (s a m)⟩, h.len, fun i e q => ?_⟩
  have r := h.sl i e q
  cases e with
  | no => trivial
  | dat d =>
    obtain ⟨v, e1, z⟩ := r
    exact ⟨v, e1, z.less s⟩
  | bag b =>
    obtain ⟨e1, m, c, ns, nc, hb⟩ := r
    exact ⟨e1, m, c, ns, fun z => nc (s c z), hb⟩
end

/-! ### what an expression, its arguments, a test are worth -/
def EV (K : PySem.W.Frag) (te : TE) (ρ : List En) (P : D → Prop) : Prop := ∀ (B W : List Addr) (H : Hp) (σ : L2.St), EnvOk K B W H σ ρ → ∀ Q : VK, (∀ v d H', Gs W H H' → Sg K B H' v d → P d → Q v H') → te σ H Q
def EA (K : PySem.W.Frag) (ta : TA) (ρ : List En) (P : List D → Prop) : Prop := ∀ (B W : List Addr) (H : Hp) (σ : L2.St), EnvOk K B W H σ ρ → ∀ Q : List V → Hp → Prop, (∀ vs ds H', Gs W H H' → SgA K B H' vs ds → P ds → Q vs H') → ta σ H Q
def ET (K : PySem.W.Frag) (tt : TT) (ρ : List En) (P : Bool → Prop) : Prop := ∀ (B W : List Addr) (H : Hp) (σ : L2.St), EnvOk K B W H σ ρ → ∀ Q : Bool → Hp → Prop, (∀ b H', Gs W H H' → P b → Q b H') → tt σ H Q
def EO (K : PySem.W.Frag) (to : L2.St → Hp → (Option Int → Hp → Prop) → Prop) (ρ : List En) (P : Option Int → Prop) : Prop := ∀ (B W : List Addr) (H : Hp) (σ : L2.St), EnvOk K B W H σ ρ → ∀ Q : Option Int → Hp → Prop, (∀ b H', Gs W H H' → P b → Q b H') → to σ H Q
/-- an operation on two values; a call on values -/
def RD (K : PySem.W.Frag) (r : R2) (x y : D) (P : D → Prop) : Prop := ∀ (B W : List Addr) (H : Hp) (v u : V), BW B W H → Sg K B H v x → Sg K B H u y → ∀ Q : VK, (∀ z d H', Gs W H H' → Sg K B H' z d → P d → Q z H') → r v u H Q
def RC (K : PySem.W.Frag) (r : List V → Hp → VK → Prop) (ρ : List En) (ds : List D) (P : D → Prop) : Prop := ∀ (B W : List Addr) (H : Hp) (σ : L2.St) (vs : List V), EnvOk K B W H σ ρ → SgA K B H vs ds → ∀ Q : VK, (∀ z d H', Gs W H H' → Sg K B H' z d → P d → Q z H') → r vs H Q
section
variable {K : PySem.W.Frag} {ρ : List En} {P : D → Prop} {PB : Bool → Prop} {te ta tb tc : TE} {tt tu : TT} {r r2 : R2}
theorem EV.var {i : Nat} {d : D} (h : ρ[i]? = some (.dat d)) (p : P d) : EV K (tVar i) ρ P := fun B W H σ e Q q => by
  obtain ⟨v, e1, s⟩ := e.sl i _ h
  exact ⟨v, e1, q v d H Gs.refl s p⟩
theorem EV.bag {i : Nat} {b : Addr} (h : ρ[i]? = some (.bag b)) (p : P (.raw b)) : EV K (tVar i) ρ P := fun B W H σ e Q q => by
  obtain ⟨e1, _⟩ := e.sl i _ h
  exact ⟨_, e1, q _ (.raw b) H Gs.refl (.raw b) p⟩
theorem EV.int {i : Int} (p : P (.int i)) : EV K (tC (.int i)) ρ P := fun B W H σ e Q q => q _ _ H Gs.refl (.int i) p
theorem EV.str {x : Str} (p : P (.str x)) : EV K (tC (.str x)) ρ P := fun B W H σ e Q q => q _ _ H Gs.refl (.str x) p
theorem EV.bl {b : Bool} (p : P (.bl b)) : EV K (tC (.bl b)) ρ P := fun B W H σ e Q q => q _ _ H Gs.refl (.bl b) p
theorem EV.ty {n : String} (p : P (.ty n)) : EV K (tC (.ty n)) ρ P := fun B W H σ e Q q => q _ _ H Gs.refl (.ty n) p
theorem EV.non (p : P .non) : EV K (tC .non) ρ P := fun B W H σ e Q q => q _ _ H Gs.refl .non p
theorem EV.imp {P' : D → Prop} (h : EV K te ρ P') (k : ∀ d, P' d → P d) : EV K te ρ P := fun B W H σ e Q q => h B W H σ e Q fun v d H' g s p => q v d H' g s (k d p)
theorem EV.op (h : EV K ta ρ fun x => EV K tb ρ fun y => RD K r x y P) : EV K (tOp r ta tb) ρ P := fun B W H σ e Q q =>
  h B W H σ e _ fun v x H1 g1 s1 h1 => h1 B W H1 σ (e.gs g1) _ fun u y H2 g2 s2 h2 =>
    h2 B W H2 v u ((e.gs g1).gs g2).bw (s1.gw ((e.gs g1).bw.gw g2)) s2 Q fun z d H3 g3 s3 p => q z d H3 ((g1.trans g2).trans g3) s3 p
theorem EV.un {ru : V → Hp → VK → Prop} (h : EV K ta ρ fun x => ∃ i j, x = .int i ∧ (∀ H Q, Q (.int j) H → ru (.int i) H Q) ∧ P (.int j)) : EV K (tUn ru ta) ρ P := fun B W H σ e Q q =>
  h B W H σ e _ fun v x H1 g1 s1 h1 => by
    obtain ⟨i, j, rfl, h2, p⟩ := h1
    cases s1
    exact h2 _ _ (q _ _ H1 g1 (.int j) p)
theorem EV.chain (h : EV K ta ρ fun x => EV K tb ρ fun y => RD K r x y fun z => ∃ k, z = .bl k ∧ (if k = true then EV K tc ρ (fun w => RD K r2 y w P) else P (.bl false))) : EV K (tChain r r2 ta tb tc) ρ P := fun B W H σ e Q q =>
  h B W H σ e _ fun v x H1 g1 s1 h1 => h1 B W H1 σ (e.gs g1) _ fun u y H2 g2 s2 h2 =>
    h2 B W H2 v u ((e.gs g1).gs g2).bw (s1.gw ((e.gs g1).bw.gw g2)) s2 _ fun z d H3 g3 s3 p => by
      obtain ⟨k, rfl, p⟩ := p
      cases s3
      have e3 := ((e.gs g1).gs g2).gs g3
      refine ⟨k, rfl, ?_⟩
      cases k with
      | true =>
        rw [if_pos rfl] at p ⊢
        exact p B W H3 σ e3 _ fun w d H4 g4 s4 p4 => p4 B W H4 u w (e3.gs g4).bw (s2.gw (((e.gs g1).gs g2).bw.gw (g3.trans g4))) s4 Q fun z d H5 g5 s5 p5 => q z d H5 ((((g1.trans g2).trans g3).trans g4).trans g5) s5 p5
      | false =>
        rw [if_neg Bool.false_ne_true] at p ⊢
        exact q _ _ H3 ((g1.trans g2).trans g3) (.bl false) p
/-- truth values by and, or, not -/
theorem EV.andV (h : EV K ta ρ fun x => ∃ c, x = .bl c ∧ (if c = true then EV K tb ρ P else P (.bl false))) : EV K (tAndV ta tb) ρ P := fun B W H σ e Q q =>
  h B W H σ e _ fun v x H1 g1 s1 h1 => by
    obtain ⟨c, rfl, h2⟩ := h1
    cases s1
    refine ⟨c, rfl, ?_⟩
    cases c with
    | true =>
      rw [if_pos rfl] at h2 ⊢
      exact h2 B W H1 σ (e.gs g1) Q fun z d H2 g2 s2 p => q z d H2 (g1.trans g2) s2 p
    | false =>
      rw [if_neg Bool.false_ne_true] at h2 ⊢
      exact q _ _ H1 g1 (.bl false) h2
theorem EV.orV (h : EV K ta ρ fun x => ∃ c, x = .bl c ∧ (if c = true then P (.bl true) else EV K tb ρ P)) : EV K (tOrV ta tb) ρ P := fun B W H σ e Q q =>
  h B W H σ e _ fun v x H1 g1 s1 h1 => by
    obtain ⟨c, rfl, h2⟩ := h1
    cases s1
    refine ⟨c, rfl, ?_⟩
    cases c with
    | true =>
      rw [if_pos rfl] at h2 ⊢
      exact q _ _ H1 g1 (.bl true) h2
    | false =>
      rw [if_neg Bool.false_ne_true] at h2 ⊢
      exact h2 B W H1 σ (e.gs g1) Q fun z d H2 g2 s2 p => q z d H2 (g1.trans g2) s2 p
theorem EV.notV (h : EV K ta ρ fun x => ∃ c, x = .bl c ∧ P (.bl (!c))) : EV K (tNotV ta) ρ P := fun B W H σ e Q q =>
  h B W H σ e _ fun v x H1 g1 s1 h1 => by
    obtain ⟨c, rfl, h2⟩ := h1
    cases s1
    exact ⟨c, rfl, q _ _ H1 g1 (.bl _) h2⟩
/-- a text or what stands in its place -/
theorem EV.orT (h : EV K ta ρ fun x => ∃ z : Str, x = .str z ∧ z.length ≤ sizeLine ∧ (if z.length = 0 then EV K tb ρ P else P (.str z))) : EV K (tOrT K ta tb) ρ P := fun B W H σ e Q q =>
  h B W H σ e _ fun v x H1 g1 s1 h1 => by
    obtain ⟨z, rfl, hz, h2⟩ := h1
    cases s1
    refine ⟨_, ⟨hz, rfl⟩, ?_⟩
    by_cases h0 : z.length = 0
    · rw [if_pos h0] at h2
      rw [h0]
      exact iteF (h2 B W H1 σ (e.gs g1) Q fun z d H2 g2 s2 p => q z d H2 (g1.trans g2) s2 p)
    · rw [if_neg h0] at h2
      rw [show (((z.length : Int) != 0) = true) by simpa using h0]
      exact iteT (q _ _ H1 g1 (.str z) h2)
theorem EV.ifx (h : ET K tt ρ fun b => if b = true then EV K ta ρ P else EV K tb ρ P) : EV K (tIf tt ta tb) ρ P := fun B W H σ e Q q =>
  h B W H σ e _ fun b H1 g1 h1 => by
    cases b with
    | true =>
      rw [if_pos rfl] at h1 ⊢
      exact h1 B W H1 σ (e.gs g1) Q fun z d H2 g2 s2 p => q z d H2 (g1.trans g2) s2 p
    | false =>
      rw [if_neg Bool.false_ne_true] at h1 ⊢
      exact h1 B W H1 σ (e.gs g1) Q fun z d H2 g2 s2 p => q z d H2 (g1.trans g2) s2 p
/-! tests -/
theorem ET.test (h : EV K te ρ fun x => ∃ k, x = .bl k ∧ PB k) : ET K (tTest te) ρ PB := fun B W H σ e Q q =>
  h B W H σ e _ fun v x H1 g1 s1 h1 => by
    obtain ⟨k, rfl, p⟩ := h1
    cases s1
    exact ⟨k, rfl, q k H1 g1 p⟩
theorem ET.b (h : EV K te ρ fun x => ∃ k, x = .bl k ∧ PB k) : ET K (tB te) ρ PB := fun B W H σ e Q q =>
  h B W H σ e _ fun v x H1 g1 s1 h1 => by
    obtain ⟨k, rfl, p⟩ := h1
    cases s1
    exact ⟨k, rfl, q k H1 g1 p⟩
theorem ET.and (h : ET K tt ρ fun c => if c = true then ET K tu ρ PB else PB false) : ET K (tAnd tt tu) ρ PB := fun B W H σ e Q q =>
  h B W H σ e _ fun c H1 g1 h1 => by
    cases c with
    | true =>
      rw [if_pos rfl] at h1 ⊢
      exact h1 B W H1 σ (e.gs g1) Q fun b H2 g2 p => q b H2 (g1.trans g2) p
    | false =>
      rw [if_neg Bool.false_ne_true] at h1 ⊢
      exact q false H1 g1 h1
theorem ET.or (h : ET K tt ρ fun c => if c = true then PB true else ET K tu ρ PB) : ET K (tOr tt tu) ρ PB := fun B W H σ e Q q =>
  h B W H σ e _ fun c H1 g1 h1 => by
    cases c with
    | true =>
      rw [if_pos rfl] at h1 ⊢
      exact q true H1 g1 h1
    | false =>
      rw [if_neg Bool.false_ne_true] at h1 ⊢
      exact h1 B W H1 σ (e.gs g1) Q fun b H2 g2 p => q b H2 (g1.trans g2) p
theorem ET.not (h : ET K tt ρ fun c => PB (!c)) : ET K (tNot tt) ρ PB := fun B W H σ e Q q => h B W H σ e _ fun c H1 g1 h1 => q _ H1 g1 h1
theorem ET.yes (p : PB true) : ET K tYes ρ PB := fun B W H σ e Q q => q true H Gs.refl p
/-! arguments, displays -/
theorem EA.nil {PA : List D → Prop} (p : PA []) : EA K tNil ρ PA := fun B W H σ e Q q => q _ _ H Gs.refl .nil p
theorem EA.cons {PA : List D → Prop} {tr : TA} (h : EV K ta ρ fun x => EA K tr ρ fun xs => PA (x :: xs)) : EA K (tCons ta tr) ρ PA := fun B W H σ e Q q =>
  h B W H σ e _ fun v x H1 g1 s1 h1 => h1 B W H1 σ (e.gs g1) _ fun vs ds H2 g2 s2 p => q _ _ H2 (g1.trans g2) (.cons (s1.gw ((e.gs g1).bw.gw g2)) s2) p
theorem BW.notNew {B W : List Addr} {H : Hp} {p : Addr} (b : BW B W H) (n : H p = none) : p ∉ B := fun m => b.kn p m n
theorem EV.tup {t : TA} (h : EA K t ρ fun ds => ds.length ≤ sizeLine ∧ P (.tup ds)) : EV K (tTup t) ρ P := fun B W H σ e Q q =>
  h B W H σ e _ fun vs ds H1 g1 s1 p => ⟨by rw [s1.length]; exact p.1, fun a n => q _ _ _ (g1.trans (Gs.new n)) (.tup ((e.gs g1).bw.notNew n) (Or.inl upd_same) (s1.gw (Gw.new n))) p.2⟩
theorem EV.lst {t : TA} (h : EA K t ρ fun ds => ds.length ≤ sizeLine ∧ P (.lst ds)) : EV K (tLst t) ρ P := fun B W H σ e Q q =>
  h B W H σ e _ fun vs ds H1 g1 s1 p => ⟨by rw [s1.length]; exact p.1, fun a n => q _ _ _ (g1.trans (Gs.new n)) (.lst ((e.gs g1).bw.notNew n) upd_same (s1.gw (Gw.new n))) p.2⟩
theorem EV.cb {rc : List V → Hp → VK → Prop} {t : TA} (h : EA K t ρ fun ds => RC K rc ρ ds P) : EV K (tCB rc t) ρ P := fun B W H σ e Q q =>
  h B W H σ e _ fun vs ds H1 g1 s1 p => p B W H1 σ vs (e.gs g1) s1 Q fun z d H2 g2 s2 p2 => q z d H2 (g1.trans g2) s2 p2
theorem EO.none {PO : Option Int → Prop} (p : PO none) : EO K tNoPart ρ PO := fun B W H σ e Q q => q _ H Gs.refl p
theorem EO.some {PO : Option Int → Prop} (h : EV K te ρ fun x => ∃ i, x = .int i ∧ PO (some i)) : EO K (tPart te) ρ PO := fun B W H σ e Q q =>
  h B W H σ e _ fun v x H1 g1 s1 h1 => by
    obtain ⟨i, rfl, p⟩ := h1
    cases s1
    exact ⟨i, rfl, q _ H1 g1 p⟩
end
end VB

set_option Elab.async false
set_option linter.all false
set_option maxRecDepth 100000
set_option maxHeartbeats 4000000
/-! Rules by values, comprehensions, statements, defs: over data. -/
namespace VB
open PySem PySem.Spec PyProof.Rows L2

/-! ### data as the library's own -/
/-- a dict's key as data -/
def kD : Key → PyData
  | .inl i => .int i
  | .inr x => .str x
mutual
def D.py : D → PyData
  | .non => .none
  | .bl b => .bool b
  | .int i => .int i
  | .str x => .str x
  | .tup ds => .tuple (D.pyA ds)
  | .lst ds => .list (D.pyA ds)
  | .dic ks ds => .dict ((ks.map kD).zip (D.pyA ds))
  | .ty _ => .none
  | .raw _ => .none
  | .ins _ _ _ => .none
def D.pyA : List D → List PyData
  | [] => []
  | d :: ds => D.py d :: D.pyA ds
end
mutual
def D.pu : D → Bool
  | .tup ds => D.puA ds
  | .lst ds => D.puA ds
  | .ty _ => false
  | .raw _ => false
  | .dic _ _ => false
  | .ins _ _ _ => false
  | _ => true
def D.puA : List D → Bool
  | [] => true
  | d :: ds => D.pu d && D.puA ds
end
section
variable {K : PySem.W.Frag} {B : List Addr} {H : Hp}
mutual
theorem Sg.dp : ∀ {v : V} {d : D}, Sg K B H v d → d.pu = true → Dp K H v d.py
  | _, _, .non, _ => .non
  | _, _, .bl b, _ => .bl b
  | _, _, .int i, _ => .int i
  | _, _, .str x, _ => .str x
  | _, _, .ty n, p => by simp [D.pu] at p
  | _, _, .raw a, p => by simp [D.pu] at p
  | _, _, .dic _ _ _ _, p => by simp [D.pu] at p
  | _, _, .ins _ _ _ _, p => by simp [D.pu] at p
  | _, _, .tup n h r, p => by
    unfold D.py
    exact .tup (Or.inl h) (SgA.dp r (by simpa [D.pu] using p))
  | _, _, .tupK h r, p => by
    unfold D.py
    exact .tup (h H) (SgA.dp r (by simpa [D.pu] using p))
  | _, _, .lst n h r, p => by
    unfold D.py
    exact .lst (SqL.of h) (SgA.dp r (by simpa [D.pu] using p))
theorem SgA.dp : ∀ {vs : List V} {ds : List D}, SgA K B H vs ds → D.puA ds = true → DpAll K H vs (D.pyA ds)
  | _, _, .nil, _ => .nil
  | _, _, .cons h r, p => by
    have q := Bool.and_eq_true_iff.mp (show (_ && _) = true from p)
    exact .cons (Sg.dp h q.1) (SgA.dp r q.2)
end
theorem SgA.atI {xs : List V} {ds : List D} {i : Int} {d : D} (r : SgA K B H xs ds) (e : atI ds i = some d) : ∃ v, atI xs i = some v ∧ Sg K B H v d := by
  unfold L2.atI at e ⊢
  rw [r.length]
  cases h : ixN ds.length i with
  | none =>
    rw [h] at e
    cases e
  | some j =>
    rw [h] at e
    exact r.get (show ds[j]? = some d from e)
end
theorem atI_map {α β : Type} {f : α → β} {xs : List α} {i : Int} {x : α} (h : atI xs i = some x) : atI (xs.map f) i = some (f x) := by
  unfold L2.atI at h ⊢
  rw [List.length_map]
  cases e : ixN xs.length i with
  | none =>
    rw [e] at h
    cases h
  | some j =>
    rw [e] at h
    have h2 : xs[j]? = some x := h
    show (xs.map f)[j]? = some (f x)
    rw [List.getElem?_map, h2]
    rfl
/-- a slice of a list -/
def cutG {α : Type} (xs : List α) (lo hi : Option Int) : List α := (xs.drop (HT.sIx xs.length 0 lo)).take (HT.sIx xs.length xs.length hi - HT.sIx xs.length 0 lo)

/-! ### operations -/
section
variable {K : PySem.W.Frag} {P : D → Prop}
theorem RD.i0 {f : Int → Int → Int} {i j : Int} (p : P (.int (f i j))) : RD K (rI0 fun i j => .int (f i j)) (.int i) (.int j) P := fun B W H v u b sv su Q q => by
  cases sv
  cases su
  exact ⟨i, j, rfl, rfl, q _ _ H Gs.refl (.int _) p⟩
theorem RD.i0b {f : Int → Int → Bool} {i j : Int} (p : P (.bl (f i j))) : RD K (rI0 fun i j => .bl (f i j)) (.int i) (.int j) P := fun B W H v u b sv su Q q => by
  cases sv
  cases su
  exact ⟨i, j, rfl, rfl, q _ _ H Gs.refl (.bl _) p⟩
theorem RD.iC {C : Int → Int → Prop} {f : Int → Int → Int} {i j : Int} (c : C i j) (p : P (.int (f i j))) : RD K (rI C fun i j => .int (f i j)) (.int i) (.int j) P := fun B W H v u b sv su Q q => by
  cases sv
  cases su
  exact ⟨i, j, rfl, rfl, c, q _ _ H Gs.refl (.int _) p⟩
theorem RD.eqI {i j : Int} (p : P (.bl (decide (i = j)))) : RD K rEq (.int i) (.int j) P := fun B W H v u b sv su Q q => by
  cases sv
  cases su
  exact ⟨rfl, q _ _ H Gs.refl (.bl _) (by simpa using p)⟩
theorem RD.neI {i j : Int} (p : P (.bl (!decide (i = j)))) : RD K rNe (.int i) (.int j) P := fun B W H v u b sv su Q q => by
  cases sv
  cases su
  exact ⟨rfl, q _ _ H Gs.refl (.bl _) (by simpa using p)⟩
theorem RD.eqS {i j : Str} (p : P (.bl (decide (i = j)))) : RD K rEq (.str i) (.str j) P := fun B W H v u b sv su Q q => by
  cases sv
  cases su
  exact ⟨rfl, q _ _ H Gs.refl (.bl _) (by simpa using p)⟩
theorem RD.neS {i j : Str} (p : P (.bl (!decide (i = j)))) : RD K rNe (.str i) (.str j) P := fun B W H v u b sv su Q q => by
  cases sv
  cases su
  exact ⟨rfl, q _ _ H Gs.refl (.bl _) (by simpa using p)⟩
theorem RD.isB {i j : Bool} (p : P (.bl (decide (i = j)))) : RD K rIsB (.bl i) (.bl j) P := fun B W H v u b sv su Q q => by
  cases sv
  cases su
  exact ⟨i, j, rfl, rfl, q _ _ H Gs.refl (.bl _) p⟩
theorem RD.notB {i j : Bool} (p : P (.bl (!decide (i = j)))) : RD K rNotB (.bl i) (.bl j) P := fun B W H v u b sv su Q q => by
  cases sv
  cases su
  exact ⟨i, j, rfl, rfl, q _ _ H Gs.refl (.bl _) p⟩
def D.isN : D → Bool
  | .non => true
  | _ => false
theorem Sg.isN {B : List Addr} {H : Hp} {v : V} {d : D} (s : Sg K B H v d) : decide (v = .non) = d.isN := by
  cases s <;> rfl
theorem RD.isNon {d : D} (p : P (.bl d.isN)) : RD K (fun x y H Q => y = .non ∧ Q (.bl (decide (x = .non))) H) d .non P := fun B W H v u b sv su Q q => by
  cases su
  refine ⟨rfl, ?_⟩
  rw [sv.isN]
  exact q _ _ H Gs.refl (.bl _) p
theorem RD.notNon {d : D} (p : P (.bl (!d.isN))) : RD K (fun x y H Q => y = .non ∧ Q (.bl (!decide (x = .non))) H) d .non P := fun B W H v u b sv su Q q => by
  cases su
  refine ⟨rfl, ?_⟩
  rw [sv.isN]
  exact q _ _ H Gs.refl (.bl _) p
theorem RD.eqD {x y : D} (h : x.pu = true ∧ y.pu = true ∧ SeqAt.shaped x.py = true ∧ SeqAt.shaped y.py = true) (p : P (.bl (PyData.eqv x.py y.py))) : RD K (rEqD K) x y P := fun B W H v u b sv su Q q =>
  ⟨x.py, y.py, sv.dp h.1, su.dp h.2.1, h.2.2.1, h.2.2.2, q _ _ H Gs.refl (.bl _) p⟩
theorem RD.neD {x y : D} (h : x.pu = true ∧ y.pu = true ∧ SeqAt.shaped x.py = true ∧ SeqAt.shaped y.py = true) (p : P (.bl (!PyData.eqv x.py y.py))) : RD K (rNeD K) x y P := fun B W H v u b sv su Q q =>
  ⟨x.py, y.py, sv.dp h.1, su.dp h.2.1, h.2.2.1, h.2.2.2, q _ _ H Gs.refl (.bl _) p⟩
theorem RD.ixL {ds : List D} {i : Int} {d : D} (e : atI ds i = some d) (p : P d) : RD K (rIxL K) (.lst ds) (.int i) P := fun B W H v u b sv su Q q => by
  cases su
  cases sv with
  | lst n h r =>
    obtain ⟨v, e1, s⟩ := r.atI e
    exact ⟨_, _, i, v, rfl, rfl, SqL.of h, e1, q _ _ H Gs.refl s p⟩
theorem RD.ixT {ds : List D} {i : Int} {d : D} (e : atI ds i = some d) (p : P d) : RD K (rIxT K) (.tup ds) (.int i) P := fun B W H v u b sv su Q q => by
  cases su
  have go : ∀ {a : Addr}, Sg K B H (.ref a) (.tup ds) → rIxT K (.ref a) (.int i) H Q := fun {a} s => by
    obtain ⟨xs, h, r⟩ := s.sqT
    obtain ⟨v, e1, s⟩ := r.atI e
    exact ⟨_, _, i, v, rfl, rfl, h, e1, q _ _ H Gs.refl s p⟩
  cases sv with
  | tup n h r => exact go (.tup n h r)
  | tupK h r => exact go (.tupK h r)
theorem RD.ixS {z : Str} {i : Int} {c : Nat} (hz : z.length ≤ sizeLine) (e : atI z.cps.toList i = some c) (p : P (.str ⟨#[c]⟩)) : RD K rIxS (.str z) (.int i) P := fun B W H v u b sv su Q q => by
  cases su
  cases sv
  exact ⟨z, i, c, rfl, rfl, hz, e, q _ _ H Gs.refl (.str _) p⟩
theorem RD.addS {x y : Str} (hz : x.length + y.length ≤ sizeLine) (p : P (.str (x ++ y))) : RD K (fun x y H Q => ∃ i j, x = .str i ∧ y = .str j ∧ i.length + j.length ≤ sizeLine ∧ Q (.str (i ++ j)) H) (.str x) (.str y) P := fun B W H v u b sv su Q q => by
  cases su
  cases sv
  exact ⟨x, y, rfl, rfl, hz, q _ _ H Gs.refl (.str _) p⟩
theorem RD.mulS {z : Str} {k : Int} (h : 0 ≤ k ∧ k ≤ 5000 ∧ z.length ≤ 1000) (p : P (.str (Txt.mul z k))) : RD K rMulS (.str z) (.int k) P := fun B W H v u b sv su Q q => by
  cases su
  cases sv
  exact ⟨z, k, rfl, rfl, h.1, h.2.1, h.2.2, q _ _ H Gs.refl (.str _) p⟩
theorem RD.inS {c : Nat} {z : Str} (p : P (.bl (decide (c ∈ z.cps.toList)))) : RD K (fun x y H Q => ∃ (c : Nat) (z : Str), x = .str ⟨#[c]⟩ ∧ y = .str z ∧ Q (.bl (decide (c ∈ z.cps.toList))) H) (.str ⟨#[c]⟩) (.str z) P := fun B W H v u b sv su Q q => by
  cases su
  cases sv
  exact ⟨c, z, rfl, rfl, q _ _ H Gs.refl (.bl _) p⟩
theorem RD.ninS {c : Nat} {z : Str} (p : P (.bl (!decide (c ∈ z.cps.toList)))) : RD K (fun x y H Q => ∃ (c : Nat) (z : Str), x = .str ⟨#[c]⟩ ∧ y = .str z ∧ Q (.bl (!decide (c ∈ z.cps.toList))) H) (.str ⟨#[c]⟩) (.str z) P := fun B W H v u b sv su Q q => by
  cases su
  cases sv
  exact ⟨c, z, rfl, rfl, q _ _ H Gs.refl (.bl _) p⟩
theorem RD.cat {xs ys : List D} (hz : xs.length + ys.length ≤ sizeLine) (p : P (.lst (xs ++ ys))) : RD K rCat (.lst xs) (.lst ys) P := fun B W H v u b sv su Q q => by
  cases sv with
  | lst n h r =>
    cases su with
    | lst n2 h2 r2 =>
      refine ⟨_, _, _, _, rfl, rfl, h, h2, by rw [r.length, r2.length]; exact hz, fun a na => q _ _ _ (Gs.new na) (.lst (b.notNew na) upd_same ((r.append r2).gw (Gw.new na))) p⟩
theorem RD.catA {xs ys : List D} (hz : xs.length + ys.length ≤ sizeLine) (p : P (.tup (xs ++ ys))) : RD K (rCatA K) (.tup xs) (.tup ys) P := fun B W H v u b sv su Q q => by
  have go : ∀ {a c : Addr}, Sg K B H (.ref a) (.tup xs) → Sg K B H (.ref c) (.tup ys) → rCatA K (.ref a) (.ref c) H Q := fun {a c} s s2 => by
    obtain ⟨vs, h, r⟩ := s.sqT
    obtain ⟨us, h2, r2⟩ := s2.sqT
    refine ⟨_, _, _, _, rfl, rfl, h, h2, by rw [r.length, r2.length]; exact hz, fun e => ?_, fun _ e => ?_, fun _ _ p1 n => ?_⟩
    · subst e
      cases r
      exact q _ _ H Gs.refl s2 p
    · subst e
      cases r2
      exact q _ _ H Gs.refl s (by simpa using p)
    · exact q _ _ _ (Gs.new n) (.tup (b.notNew n) (Or.inl upd_same) ((r.append r2).gw (Gw.new n))) p
  cases sv with
  | tup n h r =>
    cases su with
    | tup n2 h2 r2 => exact go (.tup n h r) (.tup n2 h2 r2)
    | tupK h2 r2 => exact go (.tup n h r) (.tupK h2 r2)
  | tupK h r =>
    cases su with
    | tup n2 h2 r2 => exact go (.tupK h r) (.tup n2 h2 r2)
    | tupK h2 r2 => exact go (.tupK h r) (.tupK h2 r2)
end

/-! ### slices -/
def SD (K : PySem.W.Frag) (r : V → Option Int → Option Int → Hp → VK → Prop) (x : D) (lo hi : Option Int) (P : D → Prop) : Prop := ∀ (B W : List Addr) (H : Hp) (v : V), BW B W H → Sg K B H v x → ∀ Q : VK, (∀ z d H', Gs W H H' → Sg K B H' z d → P d → Q z H') → r v lo hi H Q
section
variable {K : PySem.W.Frag} {P : D → Prop} {ρ : List En}
theorem EV.sl {r : V → Option Int → Option Int → Hp → VK → Prop} {te : TE} {tl th : L2.St → Hp → (Option Int → Hp → Prop) → Prop} (h : EV K te ρ fun x => EO K tl ρ fun lo => EO K th ρ fun hi => SD K r x lo hi P) : EV K (tSl r te tl th) ρ P := fun B W H σ e Q q =>
  h B W H σ e _ fun v x H1 g1 s1 h1 => h1 B W H1 σ (e.gs g1) _ fun lo H2 g2 h2 => h2 B W H2 σ ((e.gs g1).gs g2) _ fun hi H3 g3 h3 =>
    h3 B W H3 v (((e.gs g1).gs g2).gs g3).bw (s1.gw ((e.gs g1).bw.gw (g2.trans g3))) Q fun z d H4 g4 s4 p => q z d H4 (((g1.trans g2).trans g3).trans g4) s4 p
theorem SgA.cut {B : List Addr} {H : Hp} {xs : List V} {ds : List D} (r : SgA K B H xs ds) (lo hi : Option Int) : SgA K B H (cutV xs lo hi) (cutG ds lo hi) := by
  unfold cutV cutG
  rw [r.length]
  exact (r.drop _).take _
theorem SD.slL {ds : List D} {lo hi : Option Int} (p : P (.lst (cutG ds lo hi))) : SD K (rSlL K) (.lst ds) lo hi P := fun B W H v b sv Q q => by
  cases sv with
  | lst n h r => exact ⟨_, _, rfl, SqL.of h, fun a na => q _ _ _ (Gs.new na) (.lst (b.notNew na) upd_same ((r.cut lo hi).gw (Gw.new na))) p⟩
theorem cutG_whole {α : Type} {xs : List α} {lo hi : Option Int} (h : HT.sIx xs.length 0 lo = 0 ∧ HT.sIx xs.length xs.length hi = xs.length) : cutG xs lo hi = xs := by
  unfold cutG
  rw [h.1, h.2]
  simp
theorem SD.slA {ds : List D} {lo hi : Option Int} (p : P (.tup (cutG ds lo hi))) : SD K (rSlA K) (.tup ds) lo hi P := fun B W H v b sv Q q => by
  have go : ∀ {a : Addr}, Sg K B H (.ref a) (.tup ds) → rSlA K (.ref a) lo hi H Q := fun {a} s => by
    obtain ⟨xs, h, r⟩ := s.sqT
    refine ⟨_, _, rfl, h, fun w => ?_, fun w a na => q _ _ _ (Gs.new na) (.tup (b.notNew na) (Or.inl upd_same) ((r.cut lo hi).gw (Gw.new na))) p⟩
    rw [r.length] at w
    rw [cutG_whole w] at p
    exact q _ _ H Gs.refl s p
  cases sv with
  | tup n h r => exact go (.tup n h r)
  | tupK h r => exact go (.tupK h r)
theorem SD.slS {z : Str} {lo hi : Option Int} (hz : z.length ≤ sizeLine) (p : P (.str (cutS z lo hi))) : SD K rSlS (.str z) lo hi P := fun B W H v b sv Q q => by
  cases sv
  exact ⟨z, rfl, hz, q _ _ H Gs.refl (.str _) p⟩
end

/-! ### calls on values -/
section
variable {K : PySem.W.Frag} {P : D → Prop} {ρ : List En}
theorem EV.neg {ta : TE} (h : EV K ta ρ fun x => ∃ i, x = .int i ∧ P (.int (-i))) : EV K (tUn (rU fun i => .int (-i)) ta) ρ P := EV.un (EV.imp h fun x ⟨i, e, p⟩ => ⟨i, -i, e, fun _ _ q => ⟨i, rfl, q⟩, p⟩)
theorem RC.lenS {z : Str} (hz : z.length ≤ sizeLine) (p : P (.int z.length)) : RC K (rLenK K) ρ [.str z] P := fun B W H σ vs e s Q q => by
  cases s with
  | cons s1 s2 =>
    cases s2
    cases s1
    exact ⟨_, _, rfl, ⟨hz, rfl⟩, q _ _ H Gs.refl (.int _) p⟩
theorem RC.lenL {ds : List D} (p : P (.int ds.length)) : RC K (rLenK K) ρ [.lst ds] P := fun B W H σ vs e s Q q => by
  cases s with
  | cons s1 s2 =>
    cases s2
    cases s1 with
    | lst n h r =>
      refine ⟨_, _, rfl, Or.inl ⟨_, SqL.of h, rfl⟩, ?_⟩
      rw [r.length]
      exact q _ _ H Gs.refl (.int _) p
theorem RC.lenT {ds : List D} (p : P (.int ds.length)) : RC K (rLenK K) ρ [.tup ds] P := fun B W H σ vs e s Q q => by
  have go : ∀ {a : Addr}, Sg K B H (.ref a) (.tup ds) → ∃ x n, [V.ref a] = [x] ∧ LenV K x H n ∧ Q (.int (n : Nat)) H := fun {a} s => by
    obtain ⟨xs, h, r⟩ := s.sqT
    refine ⟨_, _, rfl, Or.inr ⟨_, h, rfl⟩, ?_⟩
    rw [r.length]
    exact q _ _ H Gs.refl (.int _) p
  cases s with
  | cons s1 s2 =>
    cases s2
    cases s1 with
    | tup n h r => exact go (.tup n h r)
    | tupK h r => exact go (.tupK h r)
theorem RC.abs {i : Int} (p : P (.int (if i < 0 then -i else i))) : RC K (fun xs H Q => ∃ i, xs = [.int i] ∧ Q (.int (if i < 0 then -i else i)) H) ρ [.int i] P := fun B W H σ vs e s Q q => by
  cases s with
  | cons s1 s2 =>
    cases s2
    cases s1
    exact ⟨i, rfl, q _ _ H Gs.refl (.int _) p⟩
theorem RC.intI {i : Int} (p : P (.int i)) : RC K (fun xs H Q => (∃ i, xs = [.int i] ∧ Q (.int i) H) ∨ ∃ k, xs = [.bl k] ∧ Q (.int (if k then 1 else 0)) H) ρ [.int i] P := fun B W H σ vs e s Q q => by
  cases s with
  | cons s1 s2 =>
    cases s2
    cases s1
    exact Or.inl ⟨i, rfl, q _ _ H Gs.refl (.int _) p⟩
theorem RC.intB {k : Bool} (p : P (.int (if k then 1 else 0))) : RC K (fun xs H Q => (∃ i, xs = [.int i] ∧ Q (.int i) H) ∨ ∃ k, xs = [.bl k] ∧ Q (.int (if k then 1 else 0)) H) ρ [.bl k] P := fun B W H σ vs e s Q q => by
  cases s with
  | cons s1 s2 =>
    cases s2
    cases s1
    exact Or.inr ⟨k, rfl, q _ _ H Gs.refl (.int _) p⟩
theorem RC.all {bs : List Bool} (p : P (.bl (bs.all id))) : RC K (rAll K) ρ [.lst (bs.map D.bl)] P := fun B W H σ vs e s Q q => by
  cases s with
  | cons s1 s2 =>
    cases s2
    cases s1 with
    | lst n h r =>
      rw [r.bls] at h
      exact ⟨_, bs, rfl, SqL.of h, q _ _ H Gs.refl (.bl _) p⟩
theorem RC.any {bs : List Bool} (p : P (.bl (bs.any id))) : RC K (rAny K) ρ [.lst (bs.map D.bl)] P := fun B W H σ vs e s Q q => by
  cases s with
  | cons s1 s2 =>
    cases s2
    cases s1 with
    | lst n h r =>
      rw [r.bls] at h
      exact ⟨_, bs, rfl, SqL.of h, q _ _ H Gs.refl (.bl _) p⟩
theorem RC.tupL {ds : List D} (p : P (.tup ds)) : RC K (rTupK K) ρ [.lst ds] P := fun B W H σ vs e s Q q => by
  cases s with
  | cons s1 s2 =>
    cases s2
    cases s1 with
    | lst n h r => exact ⟨_, _, rfl, Or.inl ⟨SqL.of h, fun a na => q _ _ _ (Gs.new na) (.tup (e.bw.notNew na) (Or.inl upd_same) (r.gw (Gw.new na))) p⟩⟩
theorem RC.listL {ds : List D} (p : P (.lst ds)) : RC K (rLstK K) ρ [.lst ds] P := fun B W H σ vs e s Q q => by
  cases s with
  | cons s1 s2 =>
    cases s2
    cases s1 with
    | lst n h r => exact ⟨_, _, rfl, Or.inl (SqL.of h), fun a na => q _ _ _ (Gs.new na) (.lst (e.bw.notNew na) upd_same (r.gw (Gw.new na))) p⟩
theorem RC.listT {ds : List D} (p : P (.lst ds)) : RC K (rLstK K) ρ [.tup ds] P := fun B W H σ vs e s Q q => by
  have go : ∀ {a : Addr}, Sg K B H (.ref a) (.tup ds) → ∃ p ys, [V.ref a] = [V.ref p] ∧ (SqL K H p ys ∨ SqT K H p ys) ∧ ∀ l, H l = none → Q (.ref l) (upd H l (.lst ys)) := fun {a} s => by
    obtain ⟨xs, h, r⟩ := s.sqT
    exact ⟨_, _, rfl, Or.inr h, fun a na => q _ _ _ (Gs.new na) (.lst (e.bw.notNew na) upd_same (r.gw (Gw.new na))) p⟩
  cases s with
  | cons s1 s2 =>
    cases s2
    cases s1 with
    | tup n h r => exact go (.tup n h r)
    | tupK h r => exact go (.tupK h r)
theorem RC.repr {d : D} (h : d.pu = true ∧ d.py.showable = true ∧ d.py.hasDict = false ∧ d.py.depth ≤ 30 ∧ d.py.shown.length ≤ sizeLine) (p : P (.str d.py.shown)) : RC K (rRepr K) ρ [d] P := fun B W H σ vs e s Q q => by
  cases s with
  | cons s1 s2 =>
    cases s2
    exact ⟨_, d.py, rfl, s1.dp h.1, h.2.1, h.2.2.1, h.2.2.2.1, h.2.2.2.2, q _ _ H Gs.refl (.str _) p⟩
/-- the name of a built-in type -/
def D.tyn : D → Option String
  | .non => some "NoneType"
  | .bl _ => some "bool"
  | .int _ => some "int"
  | .str _ => some "str"
  | .tup _ => some "tuple"
  | .lst _ => some "list"
  | .dic _ _ => some "dict"
  | _ => none
theorem Sg.tyx {B : List Addr} {H : Hp} {v : V} {d : D} {n : String} (s : Sg K B H v d) (e : d.tyn = some n) : TyX K H v (.type n) := by
  cases s with
  | non => cases e; exact .base .non
  | bl b => cases e; exact .base (.bl b)
  | int i => cases e; exact .base (.int i)
  | str x => cases e; exact .base (.str x)
  | ty n => cases e
  | raw a => cases e
  | tup n h r =>
    cases e
    rcases h with h | ⟨o, h⟩
    · exact .base (.tup h)
    · exact .fTuple h
  | tupK h r =>
    cases e
    rcases h (fun _ => none) with (z | ⟨o, z⟩) | ⟨o, its, n, h1, h2, _⟩
    · cases z
    · cases z
    · exact .kTuple h1 h2
  | lst n h r => cases e; exact .base (.lst h)
  | dic n h _ r => cases e; exact .base (.dK h)
  | ins n h _ r => cases e
theorem RC.isi {d : D} {n c : String} {b : Bool} (e : d.tyn = some n) (hk : kitB n c = some b) (p : P (.bl b)) : RC K (rIsi K) ρ [d, .ty c] P := fun B W H σ vs ev s Q q => by
  cases s with
  | cons s1 s2 =>
    cases s2 with
    | cons s2 s3 =>
      cases s3
      cases s2
      exact ⟨_, _, _, _, b, rfl, .ty c, s1.tyx e, kit_ty hk, q _ _ H Gs.refl (.bl _) p⟩
/-! texts -/
theorem EV.join {to te : TE} (h : EV K to ρ fun x => ∃ a : Str, x = .str a ∧ EV K te ρ fun y => ∃ ys : List Str, y = .lst (ys.map D.str) ∧ (ys.map (·.length)).sum + ys.length * a.length ≤ 16777216 ∧ P (.str (Txt.join a ys))) :
    EV K (tM1 (rJoinK K) to te) ρ P := fun B W H σ e Q q =>
  h B W H σ e _ fun v x H1 g1 s1 h1 => by
    obtain ⟨a, rfl, h1⟩ := h1
    cases s1
    refine ⟨⟨a, rfl⟩, h1 B W H1 σ (e.gs g1) _ fun u y H2 g2 s2 h2 => ?_⟩
    obtain ⟨ys, rfl, hz, p⟩ := h2
    cases s2 with
    | lst n h r =>
      rw [r.strs] at h
      exact ⟨a, _, ys, rfl, rfl, Or.inl (SqL.of h), hz, q _ _ H2 (g1.trans g2) (.str _) p⟩
theorem EV.split {to te : TE} (h : EV K to ρ fun x => ∃ a : Str, x = .str a ∧ EV K te ρ fun y => ∃ b : Str, y = .str b ∧ (b.length == 0) = false ∧ a.length + 2 ≤ sizeLine ∧ P (.lst ((Txt.split a b).map D.str))) :
    EV K (tM1 rSplitK to te) ρ P := fun B W H σ e Q q =>
  h B W H σ e _ fun v x H1 g1 s1 h1 => by
    obtain ⟨a, rfl, h1⟩ := h1
    cases s1
    refine ⟨⟨a, rfl⟩, h1 B W H1 σ (e.gs g1) _ fun u y H2 g2 s2 h2 => ?_⟩
    obtain ⟨b, rfl, hb, hz, p⟩ := h2
    cases s2
    exact ⟨a, b, rfl, rfl, hb, hz, fun a na => q _ _ _ ((g1.trans g2).trans (Gs.new na)) (.lst (((e.gs g1).gs g2).bw.notNew na) upd_same SgA.ofStrs) p⟩
end

/-! ### comprehensions -/
theorem Gs.mut {W : List Addr} {H H1 : Hp} {p : Addr} {o : HO} (g : Gs W H H1) (n : H p = none) : Gs W H (upd H1 p o) :=
  ⟨⟨fun a u na e => by
    rw [upd_ne (ne_of_none e n)]
    exact g.gw.keep a u na e, fun a e => by
    by_cases h : a = p
    · rw [h]
      exact n
    · rw [upd_ne h] at e
      exact g.gw.free a e⟩, fun b m c ns nc h => (g.bag b m c ns nc h).wr (by
    obtain ⟨⟨z, s, i, e, v⟩, _⟩ := h
    exact ne_of_none e n) (ne_of_none h.2.1 n)⟩
/-- the state of a comprehension's block between two turns: Dl the new list, es what it holds -/
def LcI (K : PySem.W.Frag) (B W : List Addr) (H1 : Hp) (Dl : Addr) (σ : L2.St) (ρ : List En) (Rel : Nat → List D → Prop) (i : Nat) (H : Hp) : Prop :=
  ∃ (acc : List V) (es : List D), H Dl = some (.lst acc) ∧ SgA K (Dl :: B) H acc es ∧ es.length ≤ i ∧ Rel i es ∧ EnvOk K (Dl :: B) W H σ ρ ∧ Gs W H1 H
section
variable {K : PySem.W.Frag} {P : D → Prop} {ρ : List En} {te : TE} {tt : TT} {j : Nat}
theorem LcI.start {B W : List Addr} {H1 : Hp} {Dl : Addr} {σ : L2.St} {Rel : Nat → List D → Prop} (e : EnvOk K B W H1 σ ρ) (n : H1 Dl = none) (h0 : Rel 0 []) : LcI K B W H1 Dl (wipe σ [j]) (ρ.set j .no) Rel 0 (upd H1 Dl (.lst [])) :=
  ⟨[], [], upd_same, .nil, Nat.le_refl _, h0, (e.out n).clr, Gs.new n⟩
theorem LcI.done {B W : List Addr} {H1 H : Hp} {Dl : Addr} {σ σ' : L2.St} {ρ' : List En} {Rel : Nat → List D → Prop} {i : Nat} {Q : VK} (e : EnvOk K B W H1 σ ρ) (n : H1 Dl = none) (h : LcI K B W H1 Dl σ' ρ' Rel i H) (hP : ∀ es, Rel i es → es.length ≤ i → P (.lst es))
    (q : ∀ v d H', Gs W H1 H' → Sg K B H' v d → P d → Q v H') : Q (.ref Dl) H := by
  obtain ⟨acc, es, hD, sa, hl, hr, _, g⟩ := h
  exact q _ _ H g (.lst (e.bw.notNew n) hD (sa.less fun a m => List.mem_cons_of_mem _ m)) (hP es hr hl)
theorem LcI.turn {B W : List Addr} {H1 H : Hp} {Dl : Addr} {σ : L2.St} {Rel : Nat → List D → Prop} {i : Nat} {v : V} {x : D} (e : EnvOk K B W H1 σ ρ) (n : H1 Dl = none) (hi : i < 16777000) (h : LcI K B W H1 Dl (wipe σ [j]) (ρ.set j .no) Rel i H) (s : Sg K (Dl :: B) H v x)
    (hs : ∀ es, es.length ≤ i → Rel i es → ET K tt (ρ.set j (.dat x)) fun b => if b = true then EV K te (ρ.set j (.dat x)) fun y => Rel (i + 1) (es ++ [y]) else Rel (i + 1) es) :
    gName j v (wipe σ [j]) H fun σ2 H2 => wipe σ2 [j] = wipe σ [j] ∧ tt σ2 H2 fun b H3 => if b = true then te σ2 H3 fun y H4 => ∃ acc, H4 Dl = some (.lst acc) ∧ acc.length < sizeLine ∧ LcI K B W H1 Dl (wipe σ [j]) (ρ.set j .no) Rel (i + 1) (upd H4 Dl (.lst (acc ++ [y])))
      else LcI K B W H1 Dl (wipe σ [j]) (ρ.set j .no) Rel (i + 1) H3 := by
  obtain ⟨acc, es, hD, sa, hl, hr, en, g⟩ := h
  have dW : Dl ∉ W := fun m => (e.bw.notNew n) (e.bw.sub _ m)
  have en2 : EnvOk K (Dl :: B) W H ((wipe σ [j]).set j (some v)) (ρ.set j (.dat x)) := by
    have z := en.set (i := j) s
    rw [List.set_set] at z
    exact z
  refine ⟨?_, ?_⟩
  · show List.set (List.set (List.set σ j none) j (some v)) j none = List.set σ j none
    rw [List.set_set, List.set_set]
  · refine hs es hl hr _ W H _ en2 _ fun b H3 g3 h3 => ?_
    cases b with
    | true =>
      rw [if_pos rfl] at h3 ⊢
      refine h3 _ W H3 _ (en2.gs g3) _ fun y d H4 g4 s4 r4 => ?_
      have g34 := g3.trans g4
      have hD4 : H4 Dl = some (.lst acc) := g34.gw.keep _ _ dW hD
      have en4 := en.gs g34
      refine ⟨acc, hD4, ?_, acc ++ [y], es ++ [d], upd_same, ?_, ?_, r4, en4.wr (List.mem_cons_self ..) dW, (g.trans g34).mut n⟩
      · rw [sa.length]
        have : sizeLine = 16777216 := by decide
        omega
      · exact ((sa.gw (en.bw.gw g34)).append (.cons s4 .nil)).gw (Gw.wr (List.mem_cons_self ..) (en4.bw.kn _ (List.mem_cons_self ..)))
      · rw [List.length_append, List.length_singleton]
        omega
    | false =>
      rw [if_neg Bool.false_ne_true] at h3 ⊢
      exact ⟨acc, es, g3.gw.keep _ _ dW hD, sa.gw (en.bw.gw g3), Nat.le_succ_of_le hl, h3, en.gs g3, g.trans g3⟩
/-- over a range from 0 -/
theorem EV.lcR {ta : TA} (h : EA K ta ρ fun ds => ∃ n : Int, ds = [.int n] ∧ -(2 ^ 62) ≤ n ∧ n ≤ 16777000 ∧ ∃ Rel : Nat → List D → Prop, Rel 0 [] ∧ (∀ (i : Nat) es, i < n.toNat → es.length ≤ i → Rel i es → ∀ ρ', ρ' = ρ.set j (.dat (.int i)) → ET K tt ρ' fun b =>
      if b = true then EV K te ρ' fun y => Rel (i + 1) (es ++ [y]) else Rel (i + 1) es) ∧ ∀ es, Rel n.toNat es → es.length ≤ n.toNat → P (.lst es)) : EV K (tLc (iRng1 ta) (gName j) tt te [j]) ρ P := fun B W H σ e Q q =>
  h B W H σ e _ fun vs ds H1 g1 s1 p => by
    obtain ⟨n, rfl, n0, n1, Rel, r0, rs, rd⟩ := p
    cases s1 with
    | cons s1 s2 =>
      cases s2
      cases s1
      have e1 := e.gs g1
      refine ⟨n, rfl, n0, by omega, fun Dl nD => lc_range (LcI K B W H1 Dl (wipe σ [j]) (ρ.set j .no) Rel) (LcI.start e1 nD r0) (fun i H2 hi h2 => ?_) fun H2 h2 => LcI.done e1 nD h2 rd fun v d H' g s => q v d H' (g1.trans g) s⟩
      rw [Int.zero_add]
      exact LcI.turn e1 nD (by omega) h2 (.int _) fun es hl hr => rs i es hi hl hr _ rfl
/-- over a list -/
theorem EV.lcL {tl : TE} (h : EV K tl ρ fun d => ∃ ds, d = .lst ds ∧ ds.length ≤ 16777000 ∧ ∃ Rel : Nat → List D → Prop, Rel 0 [] ∧ (∀ (i : Nat) x es, ds[i]? = some x → es.length ≤ i → Rel i es → ∀ ρ', ρ' = ρ.set j (.dat x) → ET K tt ρ' fun b =>
      if b = true then EV K te ρ' fun y => Rel (i + 1) (es ++ [y]) else Rel (i + 1) es) ∧ ∀ es, Rel ds.length es → es.length ≤ ds.length → P (.lst es)) : EV K (tLc (iList K tl) (gName j) tt te [j]) ρ P := fun B W H σ e Q q =>
  h B W H σ e _ fun v d H1 g1 s1 p => by
    obtain ⟨ds, rfl, hz, Rel, r0, rs, rd⟩ := p
    cases s1 with
    | @lst a xs _ nB hL r =>
      have e1 := e.gs g1
      have aW : a ∉ W := fun m => nB (e1.bw.sub _ m)
      refine ⟨a, rfl, ⟨xs, SqL.of hL⟩, fun Dl nD => ?_⟩
      have ha : a ≠ Dl := ne_of_none hL nD
      refine lc_list (K := K) (a := a) (xs := xs) (LcI K B W H1 Dl (wipe σ [j]) (ρ.set j .no) Rel) (LcI.start e1 nD r0) (fun i H2 hi h2 => ?_) (fun i x H2 hx h2 => ?_) fun H2 h2 => LcI.done e1 nD (by rw [r.length] at h2; exact h2) rd fun v d H' g s => q v d H' (g1.trans g) s
      · obtain ⟨_, _, _, _, _, _, _, g⟩ := h2
        exact SqL.of (g.gw.keep _ _ aW hL)
      · obtain ⟨d, hd, sd⟩ := r.getV hx
        have hi : i < ds.length := (List.getElem?_eq_some_iff.mp hd).1
        have s2 : Sg K (Dl :: B) H2 x d := by
          obtain ⟨acc, es, hD, sa, _, _, en, g⟩ := id h2
          have z := sd.out (u := .lst acc) nD
          refine z.gw ⟨fun b o nb eb => ?_, fun b eb => ?_⟩
          · have hb : b ≠ Dl := fun q => nb (q ▸ List.mem_cons_self ..)
            rw [upd_ne hb] at eb
            exact g.gw.keep b o (fun m => nb (List.mem_cons_of_mem _ (e1.bw.sub _ m))) eb
          · have hb : b ≠ Dl := fun q => by
              rw [q, hD] at eb
              cases eb
            rw [upd_ne hb]
            exact g.gw.free b eb
        exact LcI.turn e1 nD (by omega) h2 s2 fun es hl hr => rs i d es hd hl hr _ rfl
/-- over a tuple -/
theorem EV.lcT {tl : TE} (h : EV K tl ρ fun d => ∃ ds, d = .tup ds ∧ ds.length ≤ 16777000 ∧ ∃ Rel : Nat → List D → Prop, Rel 0 [] ∧ (∀ (i : Nat) x es, ds[i]? = some x → es.length ≤ i → Rel i es → ∀ ρ', ρ' = ρ.set j (.dat x) → ET K tt ρ' fun b =>
      if b = true then EV K te ρ' fun y => Rel (i + 1) (es ++ [y]) else Rel (i + 1) es) ∧ ∀ es, Rel ds.length es → es.length ≤ ds.length → P (.lst es)) : EV K (tLc (iTup K tl) (gName j) tt te [j]) ρ P := fun B W H σ e Q q =>
  h B W H σ e _ fun v d H1 g1 s1 p => by
    obtain ⟨ds, rfl, hz, Rel, r0, rs, rd⟩ := p
    have e1 := e.gs g1
    have go : ∀ {a : Addr} {xs : List V}, (∀ H', Gs W H1 H' → SqT K H' a xs) → SgA K B H1 xs ds → iTup K (fun _ H R => R (.ref a) H) σ H1 fun J H1 => ∀ Dl, H1 Dl = none → ∃ W' : Nat → Nat → Hp → Prop, (∃ m, W' 0 m (upd H1 Dl (.lst []))) ∧ ∀ i m H, W' i m H →
        (J.stop i H ∧ Q (.ref Dl) H) ∨ (J.go i H ∧ ∃ Nx : Hp → Prop, (∀ H', Nx H' → ∃ m', m' < m ∧ W' (i + 1) m' H') ∧ ∀ x H', J.yld i H x H' → gName j x (wipe σ [j]) H' fun σ2 H2 => wipe σ2 [j] = wipe σ [j] ∧ tt σ2 H2 fun b H3 =>
          if b = true then te σ2 H3 fun y H4 => ∃ acc, H4 Dl = some (.lst acc) ∧ acc.length < sizeLine ∧ Nx (upd H4 Dl (.lst (acc ++ [y]))) else Nx H3) := fun {a xs} hT r => by
      refine ⟨a, rfl, ⟨xs, hT _ Gs.refl⟩, fun Dl nD => ?_⟩
      refine lc_tup (K := K) (a := a) (xs := xs) (LcI K B W H1 Dl (wipe σ [j]) (ρ.set j .no) Rel) (LcI.start e1 nD r0) (fun i H2 hi h2 => ?_) (fun i x H2 hx h2 => ?_) fun H2 h2 => LcI.done e1 nD (by rw [r.length] at h2; exact h2) rd fun v d H' g s => q v d H' (g1.trans g) s
      · obtain ⟨_, _, _, _, _, _, _, g⟩ := h2
        exact hT _ g
      · obtain ⟨d, hd, sd⟩ := r.getV hx
        have hi : i < ds.length := (List.getElem?_eq_some_iff.mp hd).1
        have s2 : Sg K (Dl :: B) H2 x d := by
          obtain ⟨acc, es, hD, sa, _, _, en, g⟩ := id h2
          have z := sd.out (u := .lst acc) nD
          refine z.gw ⟨fun b o nb eb => ?_, fun b eb => ?_⟩
          · have hb : b ≠ Dl := fun q => nb (q ▸ List.mem_cons_self ..)
            rw [upd_ne hb] at eb
            exact g.gw.keep b o (fun m => nb (List.mem_cons_of_mem _ (e1.bw.sub _ m))) eb
          · have hb : b ≠ Dl := fun q => by
              rw [q, hD] at eb
              cases eb
            rw [upd_ne hb]
            exact g.gw.free b eb
        exact LcI.turn e1 nD (by omega) h2 s2 fun es hl hr => rs i d es hd hl hr _ rfl
    cases s1 with
    | tup nB h r => exact go (fun H' g => Or.inl (rd_gw (fun m => nB (e1.bw.sub _ m)) g.gw h)) r
    | tupK h r => exact go (fun H' g => h H') r
/-- over a text's signs -/
theorem EV.lcS {tl : TE} (h : EV K tl ρ fun d => ∃ z : Str, d = .str z ∧ z.length ≤ 16777000 ∧ ∃ Rel : Nat → List D → Prop, Rel 0 [] ∧ (∀ (i : Nat) c es, z.cps[i]? = some c → es.length ≤ i → Rel i es → ∀ ρ', ρ' = ρ.set j (.dat (.str ⟨#[c]⟩)) → ET K tt ρ' fun b =>
      if b = true then EV K te ρ' fun y => Rel (i + 1) (es ++ [y]) else Rel (i + 1) es) ∧ ∀ es, Rel z.cps.size es → es.length ≤ z.cps.size → P (.lst es)) : EV K (tLc (iStr tl) (gName j) tt te [j]) ρ P := fun B W H σ e Q q =>
  h B W H σ e _ fun v d H1 g1 s1 p => by
    obtain ⟨z, rfl, hz, Rel, r0, rs, rd⟩ := p
    cases s1
    have e1 := e.gs g1
    refine ⟨z, rfl, fun Dl nD => lc_it walk_str (LcI K B W H1 Dl (wipe σ [j]) (ρ.set j .no) Rel) (LcI.start e1 nD r0) (fun _ _ _ _ => trivial) (fun i x H2 H3 hi h2 hy => ?_) fun H2 h2 => LcI.done e1 nD h2 rd fun v d H' g s => q v d H' (g1.trans g) s⟩
    obtain ⟨rfl, c, hc, rfl⟩ := hy
    exact LcI.turn e1 nD (by have : z.cps.size = z.length := rfl; omega) h2 (.str _) fun es hl hr => rs i c es hc hl hr _ rfl
end

/-! ### statements -/
structure Po where
  nx : List En → Prop
  rt : D → Prop
  bk : List En → Prop := fun _ => False
  ct : List En → Prop := fun _ => False
def ST (K : PySem.W.Frag) (t : TS) (ρ : List En) (P : Po) : Prop := ∀ (B W : List Addr) (H : Hp) (σ : L2.St), EnvOk K B W H σ ρ → ∀ E : Ends,
  (∀ ρ' σ' H', Gs W H H' → EnvOk K B W H' σ' ρ' → P.nx ρ' → E.nx σ' H') → (∀ v d H', Gs W H H' → Sg K B H' v d → P.rt d → E.rt v H') →
  (∀ ρ' σ' H', Gs W H H' → EnvOk K B W H' σ' ρ' → P.bk ρ' → E.bk σ' H') → (∀ ρ' σ' H', Gs W H H' → EnvOk K B W H' σ' ρ' → P.ct ρ' → E.ct σ' H') → t E σ H
section
variable {K : PySem.W.Frag} {P : Po} {ρ : List En} {te : TE} {tt : TT} {t u : TS} {ta : TA} {i j : Nat}
theorem ST.seq (h : ST K t ρ { P with nx := fun ρ' => ST K u ρ' P }) : ST K (tSeq t u) ρ P := fun B W H σ e E q1 q2 q3 q4 =>
  h B W H σ e { E with nx := u E } (fun ρ' σ' H' g e' p => p B W H' σ' e' E (fun ρ2 σ2 H2 g2 => q1 ρ2 σ2 H2 (g.trans g2)) (fun v d H2 g2 => q2 v d H2 (g.trans g2)) (fun ρ2 σ2 H2 g2 => q3 ρ2 σ2 H2 (g.trans g2)) (fun ρ2 σ2 H2 g2 => q4 ρ2 σ2 H2 (g.trans g2))) q2 q3 q4
/-- M: what holds between the two -/
theorem ST.cut (M : List En → Prop) (h : ST K t ρ { P with nx := M }) (k : ∀ ρ', M ρ' → ST K u ρ' P) : ST K (Evl.tCut t u) ρ P := fun B W H σ e E q1 q2 q3 q4 =>
  ⟨fun σ' H' => ∃ ρ', Gs W H H' ∧ EnvOk K B W H' σ' ρ' ∧ M ρ', h B W H σ e { E with nx := fun σ' H' => ∃ ρ', Gs W H H' ∧ EnvOk K B W H' σ' ρ' ∧ M ρ' } (fun ρ' σ' H' g e' m => ⟨ρ', g, e', m⟩) q2 q3 q4,
    fun σ' H' ⟨ρ', g, e', m⟩ => k ρ' m B W H' σ' e' E (fun ρ2 σ2 H2 g2 => q1 ρ2 σ2 H2 (g.trans g2)) (fun v d H2 g2 => q2 v d H2 (g.trans g2)) (fun ρ2 σ2 H2 g2 => q3 ρ2 σ2 H2 (g.trans g2)) (fun ρ2 σ2 H2 g2 => q4 ρ2 σ2 H2 (g.trans g2))⟩
/-- the same, each way goes on by itself -/
theorem ST.cut2 (h : ST K t ρ { P with nx := fun ρ' => ST K u ρ' P }) : ST K (Evl.tCut t u) ρ P := ST.cut (fun ρ' => ST K u ρ' P) h fun _ m => m
theorem ST.next (h : P.nx ρ) : ST K tNext ρ P := fun B W H σ e E q1 q2 q3 q4 => q1 ρ σ H Gs.refl e h
theorem ST.brk (h : P.bk ρ) : ST K tBreak ρ P := fun B W H σ e E q1 q2 q3 q4 => q3 ρ σ H Gs.refl e h
theorem ST.cont (h : P.ct ρ) : ST K tCont ρ P := fun B W H σ e E q1 q2 q3 q4 => q4 ρ σ H Gs.refl e h
theorem ST.asg (h : EV K te ρ fun d => ∀ ρ', ρ' = ρ.set i (.dat d) → P.nx ρ') : ST K (tAsg te (gName i)) ρ P := fun B W H σ e E q1 q2 q3 q4 =>
  h B W H σ e _ fun v d H1 g1 s1 p => q1 _ _ H1 g1 ((e.gs g1).set s1) (p _ rfl)
theorem ST.ret (h : EV K te ρ P.rt) : ST K (tRet te) ρ P := fun B W H σ e E q1 q2 q3 q4 => h B W H σ e _ fun v d H1 g1 s1 p => q2 v d H1 g1 s1 p
theorem ST.retN (h : P.rt .non) : ST K tRetN ρ P := fun B W H σ e E q1 q2 q3 q4 => q2 _ _ H Gs.refl .non h
theorem ST.drop (h : EV K te ρ fun _ => P.nx ρ) : ST K (tDrop te) ρ P := fun B W H σ e E q1 q2 q3 q4 => h B W H σ e _ fun v d H1 g1 s1 p => q1 _ _ H1 g1 (e.gs g1) p
theorem ST.ifs (h : ET K tt ρ fun b => if b = true then ST K t ρ P else ST K u ρ P) : ST K (tIfS tt t u) ρ P := fun B W H σ e E q1 q2 q3 q4 =>
  h B W H σ e _ fun b H1 g1 h1 => by
    cases b with
    | true =>
      rw [if_pos rfl] at h1 ⊢
      exact h1 B W H1 σ (e.gs g1) E (fun ρ2 σ2 H2 g2 => q1 ρ2 σ2 H2 (g1.trans g2)) (fun v d H2 g2 => q2 v d H2 (g1.trans g2)) (fun ρ2 σ2 H2 g2 => q3 ρ2 σ2 H2 (g1.trans g2)) (fun ρ2 σ2 H2 g2 => q4 ρ2 σ2 H2 (g1.trans g2))
    | false =>
      rw [if_neg Bool.false_ne_true] at h1 ⊢
      exact h1 B W H1 σ (e.gs g1) E (fun ρ2 σ2 H2 g2 => q1 ρ2 σ2 H2 (g1.trans g2)) (fun v d H2 g2 => q2 v d H2 (g1.trans g2)) (fun ρ2 σ2 H2 g2 => q3 ρ2 σ2 H2 (g1.trans g2)) (fun ρ2 σ2 H2 g2 => q4 ρ2 σ2 H2 (g1.trans g2))
theorem ET.imp {A A' : Bool → Prop} (h : ET K tt ρ A) (k : ∀ b, A b → A' b) : ET K tt ρ A' := fun B W H σ e Q q => h B W H σ e _ fun b H1 g1 h1 => q b H1 g1 (k b h1)
/-- an if that may go on: what follows is walked once -/
theorem ST.ifN (k : ST K u ρ P) {c : TS} (h : ET K tt ρ fun b => b = true → ST K c ρ { P with nx := fun ρ' => ST K u ρ' P }) : ST K (tSeq (tIfS tt c tNext) u) ρ P :=
  ST.seq (ST.ifs (h.imp fun b hb => by
    cases b with
    | true => exact hb rfl
    | false => exact ST.next k))
theorem ST.par (h : EA K ta ρ fun ds => ∃ x y, ds = [x, y] ∧ ∀ ρ', ρ' = (ρ.set i (.dat x)).set j (.dat y) → P.nx ρ') : ST K (tPar i j ta) ρ P := fun B W H σ e E q1 q2 q3 q4 =>
  h B W H σ e _ fun vs ds H1 g1 s1 p => by
    obtain ⟨x, y, rfl, p⟩ := p
    cases s1 with
    | cons s1 s2 =>
      cases s2 with
      | cons s2 s3 =>
        cases s3
        exact ⟨_, _, rfl, q1 _ _ H1 g1 (((e.gs g1).set s1).set s2) (p _ rfl)⟩
/-- x, y = a tuple -/
theorem ST.tup2 (h : EV K te ρ fun d => ∃ x y, d = .tup [x, y] ∧ ∀ ρ', ρ' = (ρ.set i (.dat x)).set j (.dat y) → P.nx ρ') : ST K (tAsg te (gTup K 2 (gCons (gName i) (gCons (gName j) gNil)))) ρ P := fun B W H σ e E q1 q2 q3 q4 =>
  h B W H σ e _ fun v d H1 g1 s1 p => by
    obtain ⟨x, y, rfl, p⟩ := p
    have go : ∀ {a : Addr}, Sg K B H1 (.ref a) (.tup [x, y]) → gTup K 2 (gCons (gName i) (gCons (gName j) gNil)) (.ref a) σ H1 E.nx := fun {a} s => by
      obtain ⟨xs, hT, r⟩ := s.sqT
      cases r with
      | cons s1 s2 =>
        cases s2 with
        | cons s2 s3 =>
          cases s3
          exact ⟨a, _, rfl, hT, rfl, _, _, rfl, _, _, rfl, rfl, q1 _ _ H1 g1 (((e.gs g1).set s1).set s2) (p _ rfl)⟩
    cases s1 with
    | tup n h r => exact go (.tup n h r)
    | tupK h r => exact go (.tupK h r)
/-- for over range(n): I between the turns -/
theorem ST.forR (h : EA K ta ρ fun ds => ∃ n : Int, ds = [.int n] ∧ -(2 ^ 62) ≤ n ∧ n < 2 ^ 62 ∧ ∃ I : Nat → List En → Prop, I 0 ρ ∧ (∀ (i : Nat) ρ', i < n.toNat → I i ρ' → ∀ ρ2, ρ2 = ρ'.set j (.dat (.int i)) → ST K t ρ2 ⟨I (i + 1), P.rt, P.nx, I (i + 1)⟩) ∧ ∀ ρ', I n.toNat ρ' → P.nx ρ') :
    ST K (tFor (iRng1 ta) (gName j) t) ρ P := fun B W H σ e E q1 q2 q3 q4 =>
  h B W H σ e _ fun vs ds H1 g1 s1 p => by
    obtain ⟨n, rfl, n0, n1, I, i0, is_, id_⟩ := p
    cases s1 with
    | cons s1 s2 =>
      cases s2
      cases s1
      refine ⟨n, rfl, n0, n1, for_range (fun i σ' H' => ∃ ρ', Gs W H1 H' ∧ EnvOk K B W H' σ' ρ' ∧ I i ρ') ⟨ρ, Gs.refl, e.gs g1, i0⟩ (fun i σ' H' hi ⟨ρ', g, e', hI⟩ => ?_) fun σ' H' ⟨ρ', g, e', hI⟩ => q1 ρ' σ' H' (g1.trans g) e' (id_ ρ' hI)⟩
      rw [Int.zero_add]
      exact is_ i ρ' hi hI _ rfl B W H' _ (e'.set (.int _)) _ (fun ρ2 σ2 H2 g2 e2 p => ⟨ρ2, g.trans g2, e2, p⟩) (fun v d H2 g2 => q2 v d H2 ((g1.trans g).trans g2)) (fun ρ2 σ2 H2 g2 e2 p => q1 ρ2 σ2 H2 ((g1.trans g).trans g2) e2 p) (fun ρ2 σ2 H2 g2 e2 p => ⟨ρ2, g.trans g2, e2, p⟩)
/-- for over a list -/
theorem ST.forL {tl : TE} (h : EV K tl ρ fun d => ∃ ds, d = .lst ds ∧ ∃ I : Nat → List En → Prop, I 0 ρ ∧ (∀ (i : Nat) x ρ', ds[i]? = some x → I i ρ' → ∀ ρ2, ρ2 = ρ'.set j (.dat x) → ST K t ρ2 ⟨I (i + 1), P.rt, P.nx, I (i + 1)⟩) ∧ ∀ ρ', I ds.length ρ' → P.nx ρ') :
    ST K (tFor (iList K tl) (gName j) t) ρ P := fun B W H σ e E q1 q2 q3 q4 =>
  h B W H σ e _ fun v d H1 g1 s1 p => by
    obtain ⟨ds, rfl, I, i0, is_, id_⟩ := p
    cases s1 with
    | @lst a xs _ nB hL r =>
      have e1 := e.gs g1
      have aW : a ∉ W := fun m => nB (e1.bw.sub _ m)
      refine ⟨a, rfl, ⟨xs, SqL.of hL⟩, for_list (K := K) (a := a) (xs := xs) (fun i σ' H' => ∃ ρ', Gs W H1 H' ∧ EnvOk K B W H' σ' ρ' ∧ I i ρ') ⟨ρ, Gs.refl, e1, i0⟩ (fun i σ' H' hi ⟨ρ', g, e', hI⟩ => SqL.of (g.gw.keep _ _ aW hL)) (fun i x σ' H' hx ⟨ρ', g, e', hI⟩ => ?_) fun σ' H' ⟨ρ', g, e', hI⟩ => q1 ρ' σ' H' (g1.trans g) e' (id_ ρ' (by rw [r.length] at hI; exact hI))⟩
      obtain ⟨d, hd, sd⟩ := r.getV hx
      exact is_ i d ρ' hd hI _ rfl B W H' _ (e'.set (sd.gw (e1.bw.gw g))) _ (fun ρ2 σ2 H2 g2 e2 p => ⟨ρ2, g.trans g2, e2, p⟩) (fun v d H2 g2 => q2 v d H2 ((g1.trans g).trans g2)) (fun ρ2 σ2 H2 g2 e2 p => q1 ρ2 σ2 H2 ((g1.trans g).trans g2) e2 p) (fun ρ2 σ2 H2 g2 e2 p => ⟨ρ2, g.trans g2, e2, p⟩)
end

/-! ### defs -/
/-- an argument as it is handed over: data, or a bag by its address -/
def D.en : D → En
  | .raw b => .bag b
  | d => .dat d
/-- a promise over data: the arguments are enc x for some x of dom, post tells the answer -/
def spA (K : PySem.W.Frag) {α : Type} (enc : α → List D) (dom : α → Prop) (post : α → D → Prop) : Sp := fun vs H Q _ => ∃ (B W : List Addr) (x : α), EnvOk K B W H (vs.map some) ((enc x).map D.en) ∧ dom x ∧ ∀ v d H', Gs W H H' → Sg K B H' v d → post x d → Q v H'
theorem spA_len {K : PySem.W.Frag} {α : Type} {enc : α → List D} {dom : α → Prop} {post : α → D → Prop} {n : Nat} {vs : List V} {H : Hp} {Q : VK} {E : XK} (h : spA K enc dom post vs H Q E) (hp : ∀ x, (enc x).length = n) : vs.length = n := by
  obtain ⟨B, W, x, e, p, _⟩ := h
  have := e.len
  rw [List.length_map, List.length_map] at this
  rw [this]
  exact hp x
theorem Sg.en {K : PySem.W.Frag} {B W : List Addr} {H : Hp} {σ : L2.St} {ρ : List En} {v : V} {d : D} (e : EnvOk K B W H σ ρ) (s : Sg K B H v d) (hb : ∀ b, d = .raw b → En.bag b ∈ ρ) : EnOk K B W H (some (some v)) d.en := by
  cases d with
  | raw b =>
    cases s
    obtain ⟨i, hi, ei⟩ := List.mem_iff_getElem.mp (hb b rfl)
    have q : ρ[i]? = some (.bag b) := by rw [List.getElem?_eq_getElem hi, ei]
    obtain ⟨_, h2⟩ := e.sl i _ q
    exact ⟨rfl, h2⟩
  | non => exact ⟨v, rfl, s⟩
  | bl b => exact ⟨v, rfl, s⟩
  | int b => exact ⟨v, rfl, s⟩
  | str b => exact ⟨v, rfl, s⟩
  | ty b => exact ⟨v, rfl, s⟩
  | tup b => exact ⟨v, rfl, s⟩
  | lst b => exact ⟨v, rfl, s⟩
  | dic b c => exact ⟨v, rfl, s⟩
  | ins b c d => exact ⟨v, rfl, s⟩
theorem SgA.ens {K : PySem.W.Frag} {B W : List Addr} {H : Hp} {σ : L2.St} {ρ : List En} {vs : List V} {ds : List D} (e : EnvOk K B W H σ ρ) (s : SgA K B H vs ds) (hb : ∀ b, D.raw b ∈ ds → En.bag b ∈ ρ) : EnvOk K B W H (vs.map some) (ds.map D.en) := by
  refine ⟨e.bw, by rw [List.length_map, List.length_map]; exact s.length, fun i q hq => ?_⟩
  rw [List.getElem?_map] at hq
  cases hd : ds[i]? with
  | none =>
    rw [hd] at hq
    cases hq
  | some d =>
    rw [hd] at hq
    cases hq
    obtain ⟨v, hv, sv⟩ := s.get hd
    rw [List.getElem?_map, hv]
    exact sv.en e fun b z => hb b (z ▸ List.mem_of_getElem? hd)
theorem EV.call {K : PySem.W.Frag} {P : D → Prop} {ρ : List En} {α : Type} {enc : α → List D} {dom : α → Prop} {post : α → D → Prop} {E : XK} {ta : TA} (h : EA K ta ρ fun ds => ∃ x, ds = enc x ∧ (∀ b, D.raw b ∈ ds → En.bag b ∈ ρ) ∧ dom x ∧ ∀ d, post x d → P d) : EV K (tCall (spA K enc dom post) [] E ta) ρ P := fun B W H σ e Q q =>
  h B W H σ e _ fun vs ds H1 g1 s1 p => by
    obtain ⟨x, rfl, hb, hd, p⟩ := p
    have e1 := e.gs g1
    refine ⟨B, W, x, ?_, hd, fun v d H2 g2 s2 p2 => q v d H2 (g1.trans g2) s2 (p d p2)⟩
    rw [List.append_nil]
    exact s1.ens e1 hb
/-- the draw's promise -/
abbrev spTake (K : PySem.W.Frag) : Sp := spA K (fun x : Addr × Int => [.raw x.1, .int x.2]) (fun x => 0 < x.2 ∧ x.2 < 2 ^ 200) fun x d => ∃ r, d = .int r ∧ 0 ≤ r ∧ r < x.2
theorem EV.take {K : PySem.W.Frag} {P : D → Prop} {ρ : List En} {E : XK} {te : TE} {i : Nat} {b : Addr} (hi : ρ[i]? = some (.bag b)) (h : EV K te ρ fun x => ∃ n : Int, x = .int n ∧ 0 < n ∧ n < 2 ^ 200 ∧ ∀ r, 0 ≤ r → r < n → P (.int r)) :
    EV K (tCall (spTake K) [] E (tCons (tVar i) (tCons te tNil))) ρ P := by
  refine EV.call (EA.cons (EV.bag hi (EA.cons (EV.imp h fun d hd => ?_))))
  obtain ⟨n, rfl, n0, n1, hr⟩ := hd
  refine EA.nil ⟨(b, n), rfl, fun b' m => ?_, ⟨n0, n1⟩, fun d hd => ?_⟩
  · have : b' = b := by simpa using m
    rw [this]
    exact List.mem_of_getElem? hi
  · obtain ⟨r, rfl, r0, r1⟩ := hd
    exact hr r r0 r1
/-- a body, from its promise -/
theorem body_ok {K : PySem.W.Frag} {N : List Str} {t : TS} {α : Type} {enc : α → List D} {dom : α → Prop} {post : α → D → Prop} {vs : List V} {H : Hp} {Q : VK} {E : XK} (h : spA K enc dom post vs H Q E)
    (hb : ∀ x, dom x → ∃ ρ, (enc x).map D.en ++ List.replicate (N.length - (enc x).length) .no = ρ ∧ ST K t ρ ⟨fun _ => post x .non, post x, fun _ => False, fun _ => False⟩) :
    t ⟨fun _ H' => Q .non H', Q, fun _ _ => False, fun _ _ => False⟩ (start N vs) H := by
  obtain ⟨B, W, x, e, p, q⟩ := h
  have hl : vs.length = (enc x).length := by
    have := e.len
    rw [List.length_map, List.length_map] at this
    exact this
  obtain ⟨ρ, rfl, hb⟩ := hb x p
  refine hb B W H _ ⟨e.bw, ?_, fun i en hi => ?_⟩ _ (fun ρ' σ' H' g _ p => q _ _ H' g .non p) (fun v d H' g s p => q v d H' g s p) (fun _ _ _ _ _ z => z.elim) fun _ _ _ _ _ z => z.elim
  · unfold L2.start
    rw [List.length_append, List.length_append, List.length_map, List.length_map, List.length_replicate, List.length_replicate, hl]
  · by_cases hlt : i < (enc x).length
    · rw [List.getElem?_append_left (by rw [List.length_map]; exact hlt)] at hi
      unfold L2.start
      rw [List.getElem?_append_left (by rw [List.length_map, hl]; exact hlt)]
      exact e.sl i en hi
    · rw [List.getElem?_append_right (by rw [List.length_map]; omega)] at hi
      rw [List.getElem?_replicate] at hi
      split at hi
      · cases hi
        trivial
      · cases hi
end VB

set_option Elab.async false
set_option linter.all false
set_option maxRecDepth 100000
set_option maxHeartbeats 4000000
/-! Texts, names: the mathematics. -/
namespace VB
open PySem PySem.Spec PyProof.Rows L2

abbrev LET : Str := "abcdefghijklmnopqrstuvwxyz"
def Lw (z : Str) : Prop := ∀ c ∈ z.cps.toList, c ∈ LET.cps.toList
def Wd (z : Str) : Prop := 1 ≤ z.length ∧ z.length ≤ 8 ∧ Lw z
def lwB (z : Str) : Bool := z.cps.toList.all fun c => decide (c ∈ LET.cps.toList)
theorem lwB_iff {z : Str} : lwB z = true ↔ Lw z := by
  unfold lwB Lw
  rw [List.all_eq_true]
  exact ⟨fun h c m => of_decide_eq_true (h c m), fun h c m => decide_eq_true (h c m)⟩
instance (z : Str) : Decidable (Wd z) := decidable_of_iff (1 ≤ z.length ∧ z.length ≤ 8 ∧ lwB z = true) (by unfold Wd; rw [lwB_iff])
theorem len_cps (z : Str) : z.cps.toList.length = z.length := by simp [Str.length]
theorem Lw.app {x y : Str} (h : Lw x) (k : Lw y) : Lw (x ++ y) := fun c m => by
  rw [Str.cps_append, Array.toList_append, List.mem_append] at m
  exact m.elim (h c) (k c)
theorem Lw.cut {x : Str} (h : Lw x) (lo hi : Option Int) : Lw (cutS x lo hi) := fun c m => by
  unfold cutS at m
  exact h c (List.mem_of_mem_drop (List.mem_of_mem_take (by simpa using m)))
theorem Lw.empty : Lw Str.empty := fun c m => by
  have : c ∈ ([] : List Nat) := m
  cases this
theorem foldl_mem (p : Nat → Prop) : ∀ (l : List (Array Nat)) (acc : Array Nat), (∀ c ∈ acc.toList, p c) → (∀ x ∈ l, ∀ c ∈ x.toList, p c) → ∀ c ∈ (l.foldl (· ++ ·) acc).toList, p c
  | [], acc, h, _ => h
  | x :: l, acc, h, k => foldl_mem p l (acc ++ x) (fun c m => by
    rw [Array.toList_append, List.mem_append] at m
    exact m.elim (h c) (k x List.mem_cons_self c)) fun y m => k y (List.mem_cons_of_mem _ m)
theorem foldl_len : ∀ (l : List (Array Nat)) (acc : Array Nat), (l.foldl (· ++ ·) acc).size = acc.size + (l.map (·.size)).sum
  | [], acc => by simp
  | x :: l, acc => by
    show (List.foldl (· ++ ·) (acc ++ x) l).size = _
    rw [foldl_len l (acc ++ x), Array.size_append, List.map_cons, List.sum_cons]
    omega
theorem Lw.mul {x : Str} (h : Lw x) (n : Int) : Lw (Txt.mul x n) := by
  unfold Txt.mul
  split
  · exact Lw.empty
  · split
    · exact h
    · exact fun c m => foldl_mem (fun c => c ∈ LET.cps.toList) _ #[] (fun c m => by cases m) (fun y my c mc => by
        rw [(List.mem_replicate.mp my).2] at mc
        exact h c mc) c m
theorem mul_len (x : Str) (n : Int) (h0 : 0 ≤ n) : (Txt.mul x n).length = n.toNat * x.length := by
  unfold Txt.mul
  split
  · have : n.toNat = 0 := by omega
    rw [this]
    simp [Str.empty, Str.length]
  · split
    · rename_i h1 h2
      rw [Bool.or_eq_true] at h2
      rcases h2 with h2 | h2
      · have : n = 1 := by simpa using h2
        rw [this]
        simp
      · have : x.length = 0 := by simpa using h2
        rw [this]
        simp
    · show (List.foldl (· ++ ·) #[] (List.replicate n.toNat x.cps)).size = _
      rw [foldl_len]
      simp [Str.length]
theorem joinR_empty : ∀ l : List Str, (Str.join "" l).cps.toList = (l.map fun z => z.cps.toList).flatten
  | [] => rfl
  | [x] => by simp [Str.join]
  | x :: y :: l => by
    show (x ++ "" ++ Str.join "" (y :: l)).cps.toList = _
    rw [Str.cps_append, Str.cps_append, Array.toList_append, Array.toList_append, joinR_empty (y :: l)]
    simp [show (("" : Str).cps.toList) = [] from by decide]
theorem join_empty (l : List Str) : (Txt.join "" l).cps.toList = (l.map fun z => z.cps.toList).flatten := by
  show (Builtin.Str.glued "" l).cps.toList = _
  rw [StrLaws.glued_eq_join]
  exact joinR_empty l
/-- a text cut in two -/
theorem cut_lo (z : Str) (k : Nat) (hk : k ≤ z.length) : (cutS z none (some (k : Int))).cps.toList = z.cps.toList.take k := by
  unfold cutS
  simp only [HT.sIx_none, HT.sIx_nat]
  rw [Nat.min_eq_left hk]
  simp
theorem cut_hi (z : Str) (k : Nat) (hk : k ≤ z.length) : (cutS z (some (k : Int)) none).cps.toList = z.cps.toList.drop k := by
  unfold cutS
  simp only [HT.sIx_none, HT.sIx_nat]
  rw [Nat.min_eq_left hk, ← len_cps, ← List.length_drop, List.take_length]
theorem cut_lo_len (z : Str) (k : Nat) (hk : k ≤ z.length) : (cutS z none (some (k : Int))).length = k := by
  rw [← len_cps, cut_lo z k hk, List.length_take, len_cps]
  omega
theorem cut_hi_len (z : Str) (k : Nat) (hk : k ≤ z.length) : (cutS z (some (k : Int)) none).length = z.length - k := by
  rw [← len_cps, cut_hi z k hk, List.length_drop, len_cps]
theorem cutG_len {α : Type} (xs : List α) (lo hi : Option Int) : (cutG xs lo hi).length ≤ xs.length := by
  unfold cutG
  rw [List.length_take, List.length_drop]
  omega
theorem cutG_mem {α : Type} {xs : List α} {lo hi : Option Int} {x : α} (h : x ∈ cutG xs lo hi) : x ∈ xs := List.mem_of_mem_drop (List.mem_of_mem_take h)
theorem cutG_map {α β : Type} (f : α → β) (xs : List α) (lo hi : Option Int) : cutG (xs.map f) lo hi = (cutG xs lo hi).map f := by
  unfold cutG
  rw [List.length_map, List.map_take, List.map_drop]
theorem cutG_lo {α : Type} (xs : List α) (k : Nat) : cutG xs none (some (k : Int)) = xs.take k := by
  unfold cutG
  simp only [HT.sIx_none, HT.sIx_nat, List.drop_zero, Nat.sub_zero]
  by_cases h : k ≤ xs.length
  · rw [Nat.min_eq_left h]
  · rw [Nat.min_eq_right (by omega), List.take_length, List.take_of_length_le (by omega)]
theorem cutG_hi {α : Type} (xs : List α) (k : Nat) : cutG xs (some (k : Int)) none = xs.drop k := by
  unfold cutG
  simp only [HT.sIx_none, HT.sIx_nat]
  by_cases h : k ≤ xs.length
  · rw [Nat.min_eq_left h, ← List.length_drop, List.take_length]
  · rw [Nat.min_eq_right (by omega), List.drop_length, List.drop_of_length_le (by omega)]
    simp
/-- an item by a place in bounds -/
theorem atI_of {α : Type} {xs : List α} {i : Int} (h0 : 0 ≤ i) (h1 : i < xs.length) : ∃ x ∈ xs, atI xs i = some x := by
  have hj : i.toNat < xs.length := by omega
  have e : i = ((i.toNat : Nat) : Int) := by omega
  refine ⟨xs[i.toNat], List.getElem_mem hj, ?_⟩
  have z := atI_nat (List.getElem?_eq_getElem hj)
  rw [← e] at z
  exact z
theorem LET_len : LET.cps.toList.length = 26 := by decide
/-- a letter of the alphabet -/
theorem let_at {i : Int} (h0 : 0 ≤ i) (h1 : i < 26) : ∃ c, atI LET.cps.toList i = some c ∧ Lw ⟨#[c]⟩ := by
  obtain ⟨c, hc, e⟩ := atI_of (xs := LET.cps.toList) h0 (by rw [LET_len]; exact h1)
  refine ⟨c, e, fun d m => ?_⟩
  have : d ∈ [c] := m
  rw [List.mem_singleton] at this
  rw [this]
  exact hc
theorem let_wd {c : Nat} (h : Lw ⟨#[c]⟩) : Wd ⟨#[c]⟩ := ⟨by show 1 ≤ 1; decide, by show 1 ≤ 8; decide, h⟩
theorem words_ok : (Txt.split ("lists paper anchor notice trust arrive renew back all none any named open shut soft strict ok root" ++ " a b ab zz ask days") " ").length = 24 ∧ ∀ x ∈ Txt.split ("lists paper anchor notice trust arrive renew back all none any named open shut soft strict ok root" ++ " a b ab zz ask days") " ", Wd x := by decide +kernel
theorem sum_ones (ws : List Str) (h : ∀ x ∈ ws, x.length = 1) : (ws.map (·.length)).sum = ws.length := by
  induction ws with
  | nil => rfl
  | cons x r ih =>
    rw [List.map_cons, List.sum_cons, h x List.mem_cons_self, ih fun y m => h y (List.mem_cons_of_mem _ m), List.length_cons]
    omega
theorem join_len (ws : List Str) : (Txt.join "" ws).length = (ws.map (·.length)).sum := by
  rw [← len_cps, join_empty, List.length_flatten, List.map_map]
  exact congrArg List.sum (List.map_congr_left fun z _ => len_cps z)
theorem join_lw (ws : List Str) (h : ∀ x ∈ ws, Lw x) : Lw (Txt.join "" ws) := fun c m => by
  rw [join_empty, List.mem_flatten] at m
  obtain ⟨l, hl, hc⟩ := m
  obtain ⟨z, hz, rfl⟩ := List.mem_map.mp hl
  exact h z hz c hc
theorem rot_mem {α : Type} {xs : List α} {t k : Option Int} {x : α} (h : x ∈ cutG (cutG xs t none ++ cutG xs none t) none k) : x ∈ xs := by
  rcases List.mem_append.mp (cutG_mem h) with m | m
  · exact cutG_mem m
  · exact cutG_mem m
theorem rot_len {α : Type} (xs : List α) (t k : Nat) (ht : t ≤ xs.length) (hk : k ≤ xs.length) : (cutG (cutG xs (some (t : Int)) none ++ cutG xs none (some (t : Int))) none (some (k : Int))).length = k := by
  rw [cutG_lo, cutG_lo, cutG_hi, List.length_take, List.length_append, List.length_drop, List.length_take]
  omega
theorem mul_one_lw {c : Nat} (h : Lw ⟨#[c]⟩) {k : Int} (h1 : 1 ≤ k) (h8 : k ≤ 8) : Wd (Txt.mul ⟨#[c]⟩ k) := by
  have e : (Txt.mul ⟨#[c]⟩ k).length = k.toNat := by
    rw [mul_len _ _ (by omega)]
    show k.toNat * 1 = _
    omega
  exact ⟨by omega, by omega, h.mul k⟩
theorem cutS_len (z : Str) (lo hi : Option Int) : (cutS z lo hi).length ≤ z.length := by
  rw [← len_cps, ← len_cps z]
  unfold cutS
  show (List.take _ (List.drop _ z.cps.toList)).toArray.toList.length ≤ _
  rw [List.length_take, List.length_drop]
  omega
theorem mul_zero' (z : Str) : (Txt.mul z 0).length = 0 := by rw [mul_len _ _ (by decide)]; simp
theorem mul_one' (z : Str) : Txt.mul z 1 = z := by
  unfold Txt.mul
  rw [if_neg (by decide), if_pos (by rfl)]
mutual
/-- data of the kinds that the words' tests meet, its texts and tuples below the line -/
def D.sz : D → Bool
  | .str z => decide (z.length ≤ 16777000)
  | .tup ds => decide (ds.length ≤ 16777000) && D.szA ds
  | .ty _ => false
  | .raw _ => false
  | .ins _ _ _ => false
  | .lst ds => D.szA ds
  | .dic _ ds => D.szA ds
  | _ => true
def D.szA : List D → Bool
  | [] => true
  | d :: ds => D.sz d && D.szA ds
end
def D.isWord : D → Bool
  | .str z => decide (1 ≤ z.length) && (decide (z.length ≤ 8) && lwB z)
  | _ => false
def D.isName : D → Bool
  | .tup ds => ds.all D.isWord
  | _ => false
def D.isHolder : D → Bool
  | .tup [x, y] => x.isName && y.isWord
  | _ => false
theorem lwB_map (z : Str) : ((z.cps.toList.map fun c => decide (c ∈ LET.cps.toList)).all id) = lwB z := by
  unfold lwB
  rw [List.all_map]
  rfl
theorem takeMap {α β : Type} (f : α → β) {xs : List α} {i : Nat} {x : α} (h : xs[i]? = some x) : (xs.take (i + 1)).map f = (xs.take i).map f ++ [f x] := by
  rw [List.take_add_one, h, List.map_append]
  rfl
/-- what isinstance tells of data -/
def D.isTy (d : D) (n : String) : Bool := match d.tyn with
  | some m => (kitB m n).getD false
  | none => false
theorem sz_tyn {d : D} (h : d.sz = true) : ∃ n, d.tyn = some n ∧ (n = "NoneType" ∨ n = "bool" ∨ n = "int" ∨ n = "str" ∨ n = "tuple" ∨ n = "list" ∨ n = "dict") := by
  cases d with
  | raw a => simp [D.sz] at h
  | ty a => simp [D.sz] at h
  | non => exact ⟨_, rfl, by simp⟩
  | bl b => exact ⟨_, rfl, by simp⟩
  | int i => exact ⟨_, rfl, by simp⟩
  | str z => exact ⟨_, rfl, by simp⟩
  | tup ds => exact ⟨_, rfl, by simp⟩
  | lst ds => exact ⟨_, rfl, by simp⟩
  | dic ks ds => exact ⟨_, rfl, by simp⟩
  | ins C ks ds => simp [D.sz] at h
def D.isStr : D → Bool
  | .str _ => true
  | _ => false
def D.isTup : D → Bool
  | .tup _ => true
  | _ => false
theorem RC.isiStr {K : PySem.W.Frag} {ρ : List En} {P : D → Prop} {d : D} (h : d.sz = true) (p : P (.bl d.isStr)) : RC K (rIsi K) ρ [d, .ty "str"] P := by
  cases d with
  | raw a => simp [D.sz] at h
  | ty a => simp [D.sz] at h
  | non => exact RC.isi (b := false) rfl (by decide +kernel) p
  | bl b => exact RC.isi (b := false) rfl (by decide +kernel) p
  | int i => exact RC.isi (b := false) rfl (by decide +kernel) p
  | str z => exact RC.isi (b := true) rfl (by decide +kernel) p
  | tup ds => exact RC.isi (b := false) rfl (by decide +kernel) p
  | lst ds => exact RC.isi (b := false) rfl (by decide +kernel) p
  | dic ks ds => exact RC.isi (b := false) rfl (by decide +kernel) p
  | ins C ks ds => simp [D.sz] at h
theorem RC.isiTup {K : PySem.W.Frag} {ρ : List En} {P : D → Prop} {d : D} (h : d.sz = true) (p : P (.bl d.isTup)) : RC K (rIsi K) ρ [d, .ty "tuple"] P := by
  cases d with
  | raw a => simp [D.sz] at h
  | ty a => simp [D.sz] at h
  | non => exact RC.isi (b := false) rfl (by decide +kernel) p
  | bl b => exact RC.isi (b := false) rfl (by decide +kernel) p
  | int i => exact RC.isi (b := false) rfl (by decide +kernel) p
  | str z => exact RC.isi (b := false) rfl (by decide +kernel) p
  | tup ds => exact RC.isi (b := true) rfl (by decide +kernel) p
  | lst ds => exact RC.isi (b := false) rfl (by decide +kernel) p
  | dic ks ds => exact RC.isi (b := false) rfl (by decide +kernel) p
  | ins C ks ds => simp [D.sz] at h
theorem D.not_str {d : D} (h : d.isStr = false) : d.isWord = false := by
  cases d with
  | str z => cases h
  | _ => rfl
theorem D.not_tup {d : D} (h : d.isTup = false) : d.isName = false ∧ d.isHolder = false := by
  cases d with
  | tup z => cases h
  | _ => exact ⟨rfl, rfl⟩
theorem szA_get {ds : List D} (h : D.szA ds = true) : ∀ d ∈ ds, d.sz = true := by
  induction ds with
  | nil => exact fun d m => nomatch m
  | cons x r ih =>
    have q := Bool.and_eq_true_iff.mp (show (_ && _) = true from h)
    intro d m
    rcases List.mem_cons.mp m with e | m
    · rw [e]
      exact q.1
    · exact ih q.2 d m
theorem RC.allF {K : PySem.W.Frag} {ρ : List En} {P : D → Prop} {α : Type} {f : α → Bool} {xs : List α} (p : P (.bl (xs.all f))) : RC K (rAll K) ρ [.lst (xs.map fun x => D.bl (f x))] P := by
  have e : (xs.map fun x => D.bl (f x)) = (xs.map f).map D.bl := by rw [List.map_map]; rfl
  rw [e]
  refine RC.all ?_
  rw [List.all_map]
  exact p
/-! data of texts, of ints: == -/
theorem pyA_strs : ∀ xs : List Str, D.pyA (xs.map D.str) = xs.map PyData.str
  | [] => rfl
  | x :: r => by
    show D.py (.str x) :: D.pyA (r.map D.str) = _
    rw [pyA_strs r]
    rfl
theorem puA_strs : ∀ xs : List Str, D.puA (xs.map D.str) = true
  | [] => rfl
  | x :: r => by
    show (true && D.puA (r.map D.str)) = true
    rw [puA_strs r]
    rfl
theorem wd_ok {x : Str} (h : Lw x) : PyData.strOk x = true := by
  unfold PyData.strOk
  rw [Array.all_eq_true]
  intro i hi
  have m : x.cps[i] ∈ x.cps.toList := by simp
  have c := h _ m
  have all : ∀ c ∈ LET.cps.toList, c < 0x110000 := by decide
  exact decide_eq_true (all _ c)
theorem lay_strs : ∀ xs : List Str, (∀ x ∈ xs, Lw x) → PyData.canLayAll0 (xs.map PyData.str) = true
  | [], _ => rfl
  | x :: r, h => by
    show (PyData.canLay0 (.str x) && PyData.canLayAll0 (r.map PyData.str)) = true
    rw [lay_strs r fun y m => h y (List.mem_cons_of_mem _ m), Bool.and_true]
    show PyData.canLay0 (.str x) = true
    unfold PyData.canLay0
    exact wd_ok (h x List.mem_cons_self)
theorem depth_strs : ∀ xs : List Str, PyData.depthAll (xs.map PyData.str) = 0
  | [] => rfl
  | x :: r => by
    show max (PyData.depth (.str x)) (PyData.depthAll (r.map PyData.str)) = 0
    rw [depth_strs r]
    rfl
theorem strs_shaped {xs ys : List Str} (hx : ∀ x ∈ xs, Wd x) (hy : ∀ x ∈ ys, Wd x) : (D.tup (xs.map D.str)).pu = true ∧ (D.tup (ys.map D.str)).pu = true ∧ SeqAt.shaped (D.tup (xs.map D.str)).py = true ∧ SeqAt.shaped (D.tup (ys.map D.str)).py = true := by
  have one : ∀ zs : List Str, (∀ x ∈ zs, Wd x) → SeqAt.shaped (D.tup (zs.map D.str)).py = true := fun zs hz => by
    unfold D.py SeqAt.shaped
    rw [pyA_strs]
    unfold PyData.canLay0 PyData.depth
    rw [lay_strs zs fun x m => (hz x m).2.2, depth_strs]
    rfl
  exact ⟨by unfold D.pu; exact puA_strs xs, by unfold D.pu; exact puA_strs ys, one xs hx, one ys hy⟩
theorem eqvAll_strs : ∀ xs ys : List Str, PyData.eqvAll (xs.map PyData.str) (ys.map PyData.str) = decide (xs = ys)
  | [], [] => rfl
  | [], _ :: _ => by simp [PyData.eqvAll]
  | _ :: _, [] => by simp [PyData.eqvAll]
  | x :: xs, y :: ys => by
    show (PyData.eqv (.str x) (.str y) && PyData.eqvAll (xs.map PyData.str) (ys.map PyData.str)) = _
    rw [eqvAll_strs xs ys]
    unfold PyData.eqv
    rw [Bool.eq_iff_iff]
    simp
theorem strs_eqv (xs ys : List Str) : PyData.eqv (D.tup (xs.map D.str)).py (D.tup (ys.map D.str)).py = decide (xs = ys) := by
  unfold D.py
  rw [pyA_strs, pyA_strs]
  unfold PyData.eqv
  exact eqvAll_strs xs ys
theorem pyA_ints : ∀ xs : List Int, D.pyA (xs.map D.int) = xs.map PyData.int
  | [] => rfl
  | x :: r => by
    show D.py (.int x) :: D.pyA (r.map D.int) = _
    rw [pyA_ints r]
    rfl
theorem puA_ints : ∀ xs : List Int, D.puA (xs.map D.int) = true
  | [] => rfl
  | x :: r => by
    show (true && D.puA (r.map D.int)) = true
    rw [puA_ints r]
    rfl
theorem lay_ints : ∀ xs : List Int, PyData.canLayAll0 (xs.map PyData.int) = true
  | [] => rfl
  | x :: r => by
    show (PyData.canLay0 (.int x) && PyData.canLayAll0 (r.map PyData.int)) = true
    rw [lay_ints r]
    unfold PyData.canLay0
    rfl
theorem depth_ints : ∀ xs : List Int, PyData.depthAll (xs.map PyData.int) = 0
  | [] => rfl
  | x :: r => by
    show max (PyData.depth (.int x)) (PyData.depthAll (r.map PyData.int)) = 0
    rw [depth_ints r]
    rfl
theorem ints_shaped {ks ls : List Int} : (D.lst (ks.map D.int)).pu = true ∧ (D.lst (ls.map D.int)).pu = true ∧ SeqAt.shaped (D.lst (ks.map D.int)).py = true ∧ SeqAt.shaped (D.lst (ls.map D.int)).py = true := by
  have one : ∀ zs : List Int, SeqAt.shaped (D.lst (zs.map D.int)).py = true := fun zs => by
    unfold D.py SeqAt.shaped
    rw [pyA_ints]
    unfold PyData.canLay0 PyData.depth
    rw [lay_ints zs, depth_ints]
    rfl
  exact ⟨by unfold D.pu; exact puA_ints ks, by unfold D.pu; exact puA_ints ls, one ks, one ls⟩
theorem ints_nil (ks : List Int) : PyData.eqv (D.lst (ks.map D.int)).py (D.lst []).py = ks.isEmpty := by
  unfold D.py
  rw [pyA_ints]
  unfold PyData.eqv
  cases ks with
  | nil => rfl
  | cons x r => simp [PyData.eqvAll, D.pyA]
theorem iteTT {A B : Prop} (h : B) : if (!decide (true = true)) = true then A else B := by simpa using h
theorem iteFF {A B : Prop} (h : B) : if (!decide (false = false)) = true then A else B := by simpa using h
theorem iteTF {A B : Prop} (h : A) : if (!decide (true = false)) = true then A else B := by simpa using h
theorem iteFT {A B : Prop} (h : A) : if (!decide (false = true)) = true then A else B := by simpa using h
/-! ### names as data -/
abbrev nm (xs : List Str) : D := .tup (xs.map D.str)
theorem wd_isWord {x : Str} (h : Wd x) : (D.str x).isWord = true := by
  show (decide (1 ≤ x.length) && (decide (x.length ≤ 8) && lwB x)) = true
  rw [decide_eq_true h.1, decide_eq_true h.2.1, lwB_iff.mpr h.2.2]
  rfl
theorem nm_isName : ∀ {xs : List Str}, (∀ x ∈ xs, Wd x) → (nm xs).isName = true := fun {xs} h => by
  show (xs.map D.str).all D.isWord = true
  rw [List.all_eq_true]
  intro d m
  obtain ⟨x, mx, rfl⟩ := List.mem_map.mp m
  exact wd_isWord (h x mx)
theorem nm_notHolder (xs : List Str) : (nm xs).isHolder = false := by
  match xs with
  | [] => rfl
  | [_] => rfl
  | [_, _] => rfl
  | _ :: _ :: _ :: _ => rfl
theorem szA_strs : ∀ {xs : List Str}, (∀ x ∈ xs, Wd x) → D.szA (xs.map D.str) = true
  | [], _ => rfl
  | x :: r, h => by
    show (decide (x.length ≤ 16777000) && D.szA (r.map D.str)) = true
    rw [szA_strs (fun y m => h y (List.mem_cons_of_mem _ m)), decide_eq_true (by have := (h x (List.mem_cons_self ..)).2.1; omega)]
    rfl
theorem nm_sz {xs : List Str} (h : ∀ x ∈ xs, Wd x) (hl : xs.length ≤ 100000) : (nm xs).sz = true := by
  show (decide ((xs.map D.str).length ≤ 16777000) && D.szA (xs.map D.str)) = true
  rw [szA_strs h, decide_eq_true (by rw [List.length_map]; omega)]
  rfl
/-! ### a law's frame: the bag first, then data -/
abbrev spBag (K : PySem.W.Frag) : Sp := fun vs H Q _ => ∃ (a : Addr) (ns : List Int), vs = [.ref a] ∧ SqL K H a (ns.map V.int) ∧ ns.length ≤ 63 ∧ ∀ H' b c ns', BagC H' b c ns' → b ≠ c → Q (.ref b) H'
abbrev spLaw (K : PySem.W.Frag) : Sp := fun vs H Q _ => ∃ (a : Addr) (ns : List Int), vs = [.ref a] ∧ SqL K H a (ns.map V.int) ∧ ns.length ≤ 63 ∧ ∀ H', Q (.bl true) H'
theorem law_start {K : PySem.W.Frag} {H : Hp} {a : Addr} {ns : List Int} {O : Prop} (hl : ns.length ≤ 63) (_ : O) (hS : SqL K H a (ns.map V.int)) : spLaw K [.ref a] H (fun v _ => v = .bl true) fun _ _ _ => False := ⟨a, ns, rfl, hS, hl, fun _ => rfl⟩
theorem law_body {K : PySem.W.Frag} {N : List Str} {u : TS} {vs : List V} {H : Hp} {Q : VK} {E E1 : XK} (h : spLaw K vs H Q E) (hN : 2 ≤ N.length)
    (hb : ∀ b, ∃ ρ, En.no :: En.bag b :: List.replicate (N.length - 2) En.no = ρ ∧ ST K u ρ ⟨fun _ => False, fun d => d = .bl true, fun _ => False, fun _ => False⟩) :
    tSeq (tAsg (tCall (spBag K) [] E1 (tCons (tVar 0) tNil)) (gName 1)) u ⟨fun _ H' => Q .non H', Q, fun _ _ => False, fun _ _ => False⟩ (start N vs) H := by
  obtain ⟨a, ns, rfl, hS, hl, q⟩ := h
  refine ⟨_, rfl, a, ns, rfl, hS, hl, fun H' b c ns' hB hbc => ?_⟩
  obtain ⟨ρ, rfl, hs⟩ := hb b
  refine hs [b] [b] H' _ ⟨⟨fun _ m => m, fun x m => ?_⟩, ?_, fun i e hi => ?_⟩ _ (fun _ _ _ _ _ z => z.elim) (fun v d H2 g s p => ?_) (fun _ _ _ _ _ z => z.elim) fun _ _ _ _ _ z => z.elim
  · rw [List.mem_singleton.mp m]
    obtain ⟨⟨z, s, i, hz, _⟩, _, _⟩ := hB
    rw [hz]
    exact fun z => (nomatch z)
  · unfold L2.start
    simp
    omega
  · match i with
    | 0 =>
      cases hi
      trivial
    | 1 =>
      cases hi
      refine ⟨?_, List.mem_singleton_self _, c, ns', fun m => hbc (List.mem_singleton.mp m).symm, hB⟩
      unfold L2.start
      match N, hN with
      | _ :: _ :: _, _ => rfl
    | i + 2 =>
      have : e = .no := by
        have z : (List.replicate (N.length - 2) En.no)[i]? = some e := hi
        rw [List.getElem?_replicate] at z
        split at z
        · exact (Option.some.inj z).symm
        · cases z
      rw [this]
      trivial
  · rw [p] at s
    cases s
    exact q H2
end VB

set_option Elab.async false
set_option linter.all false
set_option maxRecDepth 100000
set_option maxHeartbeats 4000000
/-! Further rules: repr of data with dicts, a hook that sees the table of modules, tuple * int, list == [], displays of dicts, powers, upper. -/
namespace VB
open PySem PySem.Spec PyProof.Rows L2

/-! ### the written part with the table of modules -/
def sysOk (K : PySem.W.Frag) : Bool := match K.lookup sysModules with
  | some o => decide (o.cls = .type "dict")
  | none => false
def obsE (fa : List He.Fa) (fn : List He.DefD) (K : PySem.W.Frag) : Bool × He.AlD := (sysOk K, He.obsD fa fn K)
def obsEG (n : Nat) (fa : List He.Fa) (fn : List He.DefD) (g : Addr → Option Obj) : Bool × He.AlD := obsE fa fn (He.frG g (sysModules :: He.asD g n))
def hookE (n : Nat) (fa : List He.Fa) (fn : List He.DefD) : PySem.W.Hook where
  α := Bool × He.AlD
  obs := fun s => obsEG n fa fn s.heap.get?
  val := fun _ => (true, He.valD fn)
  says := fun _ h => ∃ K : PySem.W.Frag, K.In h ∧ sysOk K = true ∧ He.SaysD fa fn K
  of := fun _ _ e => ⟨_, He.frG_in, congrArg Prod.fst e, congrArg Prod.snd e⟩
  keeps := fun _ _ _ ⟨K, hK, c⟩ k => ⟨K, PySem.W.Frag.In.keeps hK k, c⟩
theorem obsEG_eq {n : Nat} {fa : List He.Fa} {fn : List He.DefD} {g : Addr → Option Obj} {s : Shared} (h : ∀ a, g a = s.heap.get? a) : obsEG n fa fn g = (hookE n fa fn).obs s := by
  have e : g = s.heap.get? := funext h
  rw [e]
  rfl
theorem sysOk_at {K : PySem.W.Frag} (h : sysOk K = true) : ∃ o, K.lookup sysModules = some o ∧ o.cls = .type "dict" := by
  unfold sysOk at h
  cases e : K.lookup sysModules with
  | none =>
    rw [e] at h
    cases h
  | some o =>
    rw [e] at h
    exact ⟨o, rfl, of_decide_eq_true h⟩

/-! ### data with dicts -/
mutual
inductive Dq (K : PySem.W.Frag) (H : Hp) : V → PyData → Prop
  | non : Dq K H .non .none
  | bl (b : Bool) : Dq K H (.bl b) (.bool b)
  | int (i : Int) : Dq K H (.int i) (.int i)
  | str (x : Str) : Dq K H (.str x) (.str x)
  | lst {a : Addr} {xs : List V} {ds : List PyData} : SqL K H a xs → DqA K H xs ds → Dq K H (.ref a) (.list ds)
  | tup {a : Addr} {xs : List V} {ds : List PyData} : SqT K H a xs → DqA K H xs ds → Dq K H (.ref a) (.tuple ds)
  | dic {a : Addr} {kvs : List (Key × V)} {ks : List Key} {es : List PyData} : H a = some (.dK kvs) → kvs.map (·.1) = ks → DqA K H (kvs.map (·.2)) es → Dq K H (.ref a) (.dict ((ks.map kD).zip es))
inductive DqA (K : PySem.W.Frag) (H : Hp) : List V → List PyData → Prop
  | nil : DqA K H [] []
  | cons {v : V} {vs : List V} {d : PyData} {ds : List PyData} : Dq K H v d → DqA K H vs ds → DqA K H (v :: vs) (d :: ds)
end
theorem DqA.length {K : PySem.W.Frag} {H : Hp} : ∀ {vs : List V} {ds : List PyData}, DqA K H vs ds → vs.length = ds.length
  | _, _, .nil => rfl
  | _, _, .cons _ r => congrArg (· + 1) (DqA.length r)
theorem reads_keys {h : Heap} {P : Program} {w : World} : ∀ {es : List DictEntry} {vs : List (Key × Value)}, Pairs (mixKind P w) es vs → ReadsAll h (es.map (·.key)) ((vs.map (·.1)).map kD) []
  | _, _, .nil => ReadsAll.nil
  | _, _, @Pairs.cons _ _ _ _ _ e kv es kvs h1 _ r => by
    have one : Reads h e.key (kD kv.1) [] := by
      rcases keyIs_shape h1 with ⟨i, t, e1, e2⟩ | ⟨x, t, e1, e2⟩
      · rw [e1, e2]
        exact Reads.int i t
      · rw [e1, e2]
        exact Reads.str x t
    exact ReadsAll.cons one (reads_keys r)
theorem pairs_vals {P : Program} {w : World} : ∀ {es : List DictEntry} {vs : List (Key × Value)}, Pairs (mixKind P w) es vs → es.map (·.val) = vs.map (·.2)
  | _, _, .nil => rfl
  | _, _, .cons _ h2 r => by
    rw [List.map_cons, List.map_cons, h2, pairs_vals r]
theorem kv_split : ∀ {kvs : List (Key × V)} {vs : List (Key × Value)}, KV kvs vs → kvs.map (·.1) = vs.map (·.1) ∧ Vals (kvs.map (·.2)) (vs.map (·.2)) := by
  intro kvs vs r
  unfold KV at r
  induction r with
  | nil => exact ⟨rfl, .nil⟩
  | @cons p q ps qs h t ih =>
    refine ⟨?_, .cons h.2 ih.2⟩
    rw [List.map_cons, List.map_cons, ih.1, h.1]
section
variable {X : Cx} {pins : List (Addr × Obj)} {σ : L2.St} {H : Hp} {s : Shared}
theorem no_sys (I : Inv X pins σ H s) (hs : sysOk X.K = true) {a : Addr} {o : Obj} (e : s.heap.get? a = some o) (c : o.cls ≠ .type "dict") : a ≠ sysModules := by
  rintro rfl
  obtain ⟨o', e1, e2⟩ := sysOk_at hs
  have := I.kIn _ _ e1
  rw [e] at this
  cases this
  exact c e2
mutual
theorem Dq.reads (I : Inv X pins σ H s) (hs : sysOk X.K = true) : ∀ {v : V} {d : PyData}, Dq X.K H v d → ∀ u, RelV v u → ∃ as, Reads s.heap u d as ∧ sysModules ∉ as
  | _, _, .non, _, r => by
    cases r
    exact ⟨_, Reads.none, by simp⟩
  | _, _, .bl b, _, r => by
    cases r
    exact ⟨_, Reads.bool b, by simp⟩
  | _, _, .int i, _, r => by
    obtain ⟨t, rfl⟩ := r
    exact ⟨_, Reads.int i t, by simp⟩
  | _, _, .str x, _, r => by
    obtain ⟨t, rfl⟩ := r
    exact ⟨_, Reads.str x t, by simp⟩
  | _, _, .lst hl ha, _, r => by
    cases r
    obtain ⟨its, rv, ⟨o, n, ho, hc, _, hd⟩, _⟩ := I.list hl
    obtain ⟨as, hr, na⟩ := DqA.reads I hs ha _ rv
    refine ⟨_, Reads.list ho hc hd hr, fun m => ?_⟩
    rcases List.mem_cons.mp m with m | m
    · exact no_sys I hs ho (by rw [hc]; decide) m.symm
    · exact na m
  | _, _, .tup hl ha, _, r => by
    cases r
    obtain ⟨its, rv, ⟨o, ho, hc, n, hd⟩, _⟩ := I.tuple hl
    obtain ⟨as, hr, na⟩ := DqA.reads I hs ha _ rv
    exact ⟨_, Reads.tuple ho hc hd hr, na⟩
  | _, _, .dic (kvs := kvs) (es := ds) hl ek ha, _, r => by
    cases r
    obtain ⟨_, hn, vs, kv, o, es, ep, ho, hx, hd, _, hp, _⟩ := dk_of I.hok hl
    obtain ⟨k1, k2⟩ := kv_split kv
    obtain ⟨as, hr, na⟩ := DqA.reads I hs ha _ k2
    have len := ha.length
    rw [List.length_map] at len
    subst ek
    have zl : ((kvs.map (·.1)).map kD).length = ds.length := by
      rw [List.length_map, List.length_map]
      exact len
    have e1 : (((kvs.map (·.1)).map kD).zip ds).map (·.1) = (kvs.map (·.1)).map kD := List.map_fst_zip (Nat.le_of_eq zl)
    have e2 : (((kvs.map (·.1)).map kD).zip ds).map (·.2) = ds := List.map_snd_zip (Nat.le_of_eq zl.symm)
    refine ⟨_, Reads.dict (as := []) (bs := as) ho hx.1 hd ?_ ?_, fun m => ?_⟩
    · rw [e1, k1]
      exact reads_keys hp
    · rw [e2, pairs_vals hp]
      exact hr
    · rcases List.mem_append.mp m with m | m
      · rw [← List.mem_singleton.mp m] at hn
        simp at hn
      · exact na m
theorem DqA.reads (I : Inv X pins σ H s) (hs : sysOk X.K = true) : ∀ {vs : List V} {ds : List PyData}, DqA X.K H vs ds → ∀ us, Vals vs us → ∃ as, ReadsAll s.heap us ds as ∧ sysModules ∉ as
  | _, _, .nil, _, r => by
    cases r
    exact ⟨_, ReadsAll.nil, by simp⟩
  | _, _, .cons h1 h2, _, r => by
    cases r with
    | cons r1 r2 =>
      obtain ⟨as, q1, n1⟩ := Dq.reads I hs h1 _ r1
      obtain ⟨bs, q2, n2⟩ := DqA.reads I hs h2 _ r2
      exact ⟨_, ReadsAll.cons q1 q2, fun m => (List.mem_append.mp m).elim n1 n2⟩
end
end
def rReprX (K : PySem.W.Frag) : List V → Hp → VK → Prop := fun vs H Q => ∃ (x : V) (d : PyData), vs = [x] ∧ Dq K H x d ∧ d.showable = true ∧ d.depth ≤ 60 ∧ d.shown.length ≤ sizeLine ∧ Q (.str d.shown) H
theorem call_reprX {X : Cx} {K : PySem.W.Frag} (hK : X.K = K) (hs : sysOk K = true) (hg : X.A.guards = some []) (hu : X.A.units + 64 < cLine) : CallR X (.builtin "repr") (rReprX K) := by
  subst hK
  intro pins s σ H xs us Q I r h
  obtain ⟨x, d, rfl, hd, h1, h3, h4, q⟩ := h
  cases r with
  | cons r0 rn =>
    cases rn
    obtain ⟨as, hr, na⟩ := Dq.reads I hs hd _ r0
    have leaf : ∀ {h' : Heap} {tk : Nat} {t : Tok}, (∀ b o, s.heap.get? b = some o → h'.get? b = some o) → EP X pins σ Q (.str d.shown t) { s with heap := h', toks := tk } :=
      fun hk => ⟨.str d.shown, H, I.kept hk, ⟨_, rfl⟩, q⟩
    cases hd with
    | non => cases r0; exact P.repr_of_none (leaf fun _ _ e => e)
    | bl b => cases r0; exact P.repr_of_bool (leaf fun _ _ e => e)
    | int i => obtain ⟨_, rfl⟩ := r0; exact P.repr_of_int (by simpa [PyData.showable] using h1) (leaf fun _ _ e => e)
    | str z => obtain ⟨_, rfl⟩ := r0; exact P.repr_of_str (leaf fun _ _ e => e) (hsz := h4)
    | lst hs ha => cases r0; exact repr_of_reads' hr h1 (fun _ => na) hg (by omega) (fun _ _ e => e) (fun h' u tk hk => leaf hk) h4
    | tup hs ha => cases r0; exact repr_of_reads' hr h1 (fun _ => na) hg (by omega) (fun _ _ e => e) (fun h' u tk hk => leaf hk) h4
    | dic hs ek ha => cases r0; exact repr_of_reads' hr h1 (fun _ => na) hg (by omega) (fun _ _ e => e) (fun h' u tk hk => leaf hk) h4
mutual
/-- plain data: no own objects -/
def D.pl : D → Bool
  | .tup ds => D.plA ds
  | .lst ds => D.plA ds
  | .dic _ ds => D.plA ds
  | .ty _ => false
  | .raw _ => false
  | .ins _ _ _ => false
  | _ => true
def D.plA : List D → Bool
  | [] => true
  | d :: ds => D.pl d && D.plA ds
end
section
variable {K : PySem.W.Frag} {B : List Addr} {H : Hp}
mutual
theorem Sg.dq : ∀ {v : V} {d : D}, Sg K B H v d → d.pl = true → Dq K H v d.py
  | _, _, .non, _ => .non
  | _, _, .bl b, _ => .bl b
  | _, _, .int i, _ => .int i
  | _, _, .str x, _ => .str x
  | _, _, .ty n, p => by simp [D.pl] at p
  | _, _, .raw a, p => by simp [D.pl] at p
  | _, _, .ins _ _ _ _, p => by simp [D.pl] at p
  | _, _, .tup n h r, p => by
    unfold D.py
    exact .tup (Or.inl h) (SgA.dq r (by simpa [D.pl] using p))
  | _, _, .tupK h r, p => by
    unfold D.py
    exact .tup (h H) (SgA.dq r (by simpa [D.pl] using p))
  | _, _, .lst n h r, p => by
    unfold D.py
    exact .lst (SqL.of h) (SgA.dq r (by simpa [D.pl] using p))
  | _, _, .dic n h e r, p => by
    unfold D.py
    exact .dic h e (SgA.dq r (by simpa [D.pl] using p))
theorem SgA.dq : ∀ {vs : List V} {ds : List D}, SgA K B H vs ds → D.plA ds = true → DqA K H vs (D.pyA ds)
  | _, _, .nil, _ => .nil
  | _, _, .cons h r, p => by
    have q := Bool.and_eq_true_iff.mp (show (_ && _) = true from p)
    exact .cons (Sg.dq h q.1) (SgA.dq r q.2)
end
end
theorem RC.reprX {K : PySem.W.Frag} {ρ : List En} {P : D → Prop} {d : D} (h : d.pl = true ∧ d.py.showable = true ∧ d.py.depth ≤ 60 ∧ d.py.shown.length ≤ sizeLine) (p : P (.str d.py.shown)) : RC K (rReprX K) ρ [d] P := fun B W H σ vs e s Q q => by
  cases s with
  | cons s1 s2 =>
    cases s2
    exact ⟨_, _, rfl, s1.dq h.1, h.2.1, h.2.2.1, h.2.2.2, q _ _ H Gs.refl (.str _) p⟩
/-! ### tuple * int -/
theorem tup_mulS (l : Addr) (items : Array Value) (n : Nat) (dd : Option Addr) (sl : Array (Option Value)) (x : Int) (u : Tok) (c0 : (decide (x < -(2 ^ 63)) || decide (x ≥ 2 ^ 63)) = false) (c1 : (items.isEmpty || x == 1) = true) :
    Meets (Builtin.«tuple.__mul__» ⟨[.ref l, .int x u], []⟩) (fun _ R s => s.heap.get? l = some { cls := .type "tuple", dict := dd, data := .seq items n, slots := sl } ∧ R (.ok (.ret (Value.ref l))) s) :=
  .of_wp fun prog w A R s h => by
    obtain ⟨hp, g, d, tk, os⟩ := s
    obtain ⟨hl, h⟩ := h
    have f1 := AutoSeq1.idx_int
    wp_walk using wpAny_loadPart' hl
    repeat (first
      | (refine wpAny_ite_false (decide_eq_false (by rw [c0]; exact Bool.false_ne_true)) ?_; wp_walk using wpAny_loadPart' hl)
      | (refine wpAny_ite_true (decide_eq_true (by rw [c1])) ?_; wp_walk using wpAny_loadPart' hl))
    exact ⟨_, rfl, h⟩
theorem tup_mulZ (l : Addr) (items : Array Value) (n : Nat) (dd : Option Addr) (sl : Array (Option Value)) (x : Int) (u : Tok) (c0 : (decide (x < -(2 ^ 63)) || decide (x ≥ 2 ^ 63)) = false) (c1 : (items.isEmpty || x == 1) = false) (c2 : (decide (x ≤ 0) || items.isEmpty) = true) :
    Meets (Builtin.«tuple.__mul__» ⟨[.ref l, .int x u], []⟩) (fun _ R s => s.heap.get? l = some { cls := .type "tuple", dict := dd, data := .seq items n, slots := sl } ∧
      R (.ok (.ret (Value.ref s.heap.objs.size))) { s with heap := s.heap.push { cls := Value.type "tuple", data := Data.seq #[] }, toks := s.toks }) :=
  .of_wp fun prog w A R s h => by
    obtain ⟨hp, g, d, tk, os⟩ := s
    obtain ⟨hl, h⟩ := h
    have f1 := AutoSeq1.idx_int
    wp_walk using wpAny_loadPart' hl
    repeat (first
      | (refine wpAny_ite_false (decide_eq_false (by rw [c0]; exact Bool.false_ne_true)) ?_; wp_walk using wpAny_loadPart' hl)
      | (refine wpAny_ite_false (decide_eq_false (by rw [c1]; exact Bool.false_ne_true)) ?_; wp_walk using wpAny_loadPart' hl)
      | (refine wpAny_ite_true (decide_eq_true (by rw [c2])) ?_; wp_walk using wpAny_loadPart' hl))
    exact ⟨_, rfl, h⟩
def rRepA (K : PySem.W.Frag) : R2 := fun x y H Q => ∃ l k xs, x = .ref l ∧ y = .int k ∧ SqT K H l xs ∧ xs ≠ [] ∧ 0 ≤ k ∧ k ≤ 1000 ∧ xs.length ≤ 1000 ∧ (k = 1 → Q (.ref l) H) ∧ (k ≠ 1 → ∀ p, H p = none → Q (.ref p) (upd H p (.tup (List.replicate k.toNat xs).flatten)))
theorem op_repA {X : Cx} {K : PySem.W.Frag} (hK : X.K = K) : OpR X (binaryOp .Mult) (rRepA K) := by
  subst hK
  intro pins s σ H x y v u Q I rx ry h
  obtain ⟨l, k, xs, rfl, rfl, hT, hne, h1, h2, hz, q1, q2⟩ := h
  by_cases hk : 2 ≤ k
  · exact op_repT pins s σ H _ _ v u Q I rx ry ⟨l, k, xs, rfl, rfl, hT, hne, hk, h2, hz, q2 (by omega)⟩
  · cases rx
    obtain ⟨t, rfl⟩ := ry
    obtain ⟨its, r, ⟨⟨cls, dd, data, sl⟩, ho, hc, n, hd⟩, hs⟩ := I.tuple hT
    simp only at hc hd
    subst hc hd
    have hle : its.length = xs.length := r.length.symm
    have hn : its ≠ [] := fun e => hne (List.eq_nil_of_length_eq_zero (by rw [← hle, e]; rfl))
    have hi : its.toArray.isEmpty = false := by
      cases its with
      | nil => exact absurd rfl hn
      | cons a b => rfl
    have c0 : (decide (k < -(2 ^ 63)) || decide (k ≥ 2 ^ 63)) = false := by
      rw [decide_eq_false (by omega), decide_eq_false (by omega)]
      rfl
    have go : ∀ {R : Prop}, R → R := fun r => r
    by_cases h1k : k = 1
    · have c1 : (its.toArray.isEmpty || k == 1) = true := by
        rw [h1k, hi]
        rfl
      refine wpAny_binaryOp_repeat_ref (T := "tuple") (U := "int") (by decide) ⟨_, ho, rfl⟩ (fun s' => typeIs_int s' k t) noFill_tuple_mul F.fills_int_mul F.slot_int_rmul repeat_tuple F.slot_int_index.lookup
        (call_meets F.slot_int_rmul (typeIs_int s k t) F.entry_int_rmul (F.args_int_rmul_2 _ _) (int_rmul_tuple k t l its.toArray n dd sl)
          ⟨ho, rfl, ⟨_, ho, rfl⟩, call_meets F.slot_tuple_mul ⟨_, ho, rfl⟩ F.entry_tuple_mul (F.args_tuple_mul_2 _ _) (tup_mulS l its.toArray n dd sl k t c0 c1) ⟨ho, ?_⟩⟩)
      exact ⟨.ref l, H, I, rfl, q1 h1k⟩
    · have k0 : k = 0 := by omega
      have c1 : (its.toArray.isEmpty || k == 1) = false := by
        rw [k0, hi]
        rfl
      have c2 : (decide (k ≤ 0) || its.toArray.isEmpty) = true := by
        rw [k0]
        rfl
      refine wpAny_binaryOp_repeat_ref (T := "tuple") (U := "int") (by decide) ⟨_, ho, rfl⟩ (fun s' => typeIs_int s' k t) noFill_tuple_mul F.fills_int_mul F.slot_int_rmul repeat_tuple F.slot_int_index.lookup
        (call_meets F.slot_int_rmul (typeIs_int s k t) F.entry_int_rmul (F.args_int_rmul_2 _ _) (int_rmul_tuple k t l its.toArray n dd sl)
          ⟨ho, rfl, ⟨_, ho, rfl⟩, call_meets F.slot_tuple_mul ⟨_, ho, rfl⟩ F.entry_tuple_mul (F.args_tuple_mul_2 _ _) (tup_mulZ l its.toArray n dd sl k t c0 c1 c2) ⟨ho, ?_⟩⟩)
      have qq := q2 h1k
      rw [k0] at qq
      refine ⟨.ref s.heap.objs.size, _, I.laid (t' := s.toks) (o := .tup []) (fun b ob q => Heap.get?_push_of_some _ q) (Nat.le_refl _) ?_, rfl, qq _ (I.hok.fresh (Nat.le_refl _))⟩
      exact ⟨Nat.zero_le _, [], .nil, IsTup.new _ _⟩
theorem SgA.rep {K : PySem.W.Frag} {B : List Addr} {H : Hp} {xs : List V} {ds : List D} (r : SgA K B H xs ds) : ∀ n : Nat, SgA K B H (List.replicate n xs).flatten (List.replicate n ds).flatten
  | 0 => .nil
  | n + 1 => by
    rw [List.replicate_succ, List.replicate_succ, List.flatten_cons, List.flatten_cons]
    exact r.append (SgA.rep r n)
theorem RD.repA {K : PySem.W.Frag} {P : D → Prop} {ds : List D} {k : Int} (h : ds ≠ [] ∧ 0 ≤ k ∧ k ≤ 1000 ∧ ds.length ≤ 1000) (p : P (.tup (List.replicate k.toNat ds).flatten)) : RD K (rRepA K) (.tup ds) (.int k) P := fun B W H v u b sv su Q q => by
  cases su
  have go : ∀ {a : Addr}, Sg K B H (.ref a) (.tup ds) → rRepA K (.ref a) (.int k) H Q := fun {a} s => by
    obtain ⟨xs, h1, r⟩ := s.sqT
    have hl := r.length
    refine ⟨_, _, xs, rfl, rfl, h1, fun z => h.1 (List.eq_nil_of_length_eq_zero (by rw [← hl, z]; rfl)), h.2.1, h.2.2.1, by rw [hl]; exact h.2.2.2, fun k1 => ?_, fun _ a na => q _ _ _ (Gs.new na) (.tup (b.notNew na) (Or.inl upd_same) ((r.rep _).gw (Gw.new na))) p⟩
    have e : (List.replicate k.toNat ds).flatten = ds := by
      rw [k1]
      show (List.replicate 1 ds).flatten = ds
      simp
    rw [e] at p
    exact q _ _ H Gs.refl s p
  cases sv with
  | tup n h r => exact go (.tup n h r)
  | tupK h r => exact go (.tupK h r)
/-! ### a list == [] -/
def rEqNil : R2 := fun x y H Q => ∃ a b xs, x = .ref a ∧ y = .ref b ∧ H a = some (.lst xs) ∧ H b = some (.lst []) ∧ Q (.bl xs.isEmpty) H
theorem op_eqNil {X : Cx} (hu : X.A.units + 64 < cLine) : OpR X (compareOp .Eq) rEqNil := by
  intro pins s σ H x y v u Q I rx ry h
  obtain ⟨a, b, xs, rfl, rfl, h1, h2, q⟩ := h
  cases rx
  cases ry
  cases xs with
  | nil =>
    refine op_eqD hu pins s σ H (.ref a) (.ref b) _ _ Q I rfl rfl ⟨.list [], .list [], .lst (SqL.of h1) .nil, .lst (SqL.of h2) .nil, by decide +kernel, by decide +kernel, q⟩
  | cons x r =>
    obtain ⟨z, its, n, r1, hl, e⟩ := I.lstM h1
    obtain ⟨z2, its2, n2, r2, hl2, e2⟩ := I.lstM h2
    refine P.eq_list_lengths e e2 ?_ (by omega) ⟨.bl false, H, I, rfl, q⟩
    rw [List.size_toArray, List.size_toArray, ← hl, ← hl2]
    simp
theorem RD.eqNil {K : PySem.W.Frag} {P : D → Prop} {ds : List D} (p : P (.bl ds.isEmpty)) : RD K rEqNil (.lst ds) (.lst []) P := fun B W H v u b sv su Q q => by
  cases sv with
  | lst n h r =>
    cases su with
    | lst n2 h2 r2 =>
      cases r2
      refine ⟨_, _, _, rfl, rfl, h, h2, ?_⟩
      cases r with
      | nil => exact q _ _ H Gs.refl (.bl _) p
      | cons _ _ => exact q _ _ H Gs.refl (.bl _) p
/-! ### dicts written out, powers, upper -/
theorem EV.dnew {K : PySem.W.Frag} {ρ : List En} {P : D → Prop} (p : P (.dic [] [])) : EV K tDNewK ρ P := fun B W H σ e Q q a na =>
  q _ _ _ (Gs.new na) (.dic (e.bw.notNew na) upd_same rfl .nil) p
theorem EV.disp1 {K : PySem.W.Frag} {ρ : List En} {P : D → Prop} {z : Str} {tv : TE} (h : EV K tv ρ fun d => P (.dic [.inr z] [d])) : EV K (tDisp [(tC (.str z), tv)]) ρ P := fun B W H σ e Q q a na => by
  have e1 : EnvOk K (a :: B) W (upd H a (.dK [])) σ ρ := e.out na
  refine h (a :: B) W _ σ e1 _ fun v d H2 g s p => ?_
  have aW : a ∉ W := fun m => e.bw.notNew na (e.bw.sub _ m)
  have h2 : H2 a = some (.dK []) := g.gw.keep _ _ aW upd_same
  refine ⟨h2, [(.inr z, v)], rfl, by show 1 ≤ 15; decide, ?_⟩
  have g1 : Gs W H H2 := (Gs.new na).trans g
  have gw : Gw (a :: B) H2 (upd H2 a (.dK [(.inr z, v)])) := Gw.wr (List.mem_cons_self ..) (by rw [h2]; exact fun z => nomatch z)
  refine q _ _ _ (g1.mut na) (.dic (kvs := [(.inr z, v)]) (e.bw.notNew na) upd_same rfl (.cons ((s.gw gw).less fun x m => List.mem_cons_of_mem _ m) .nil)) p
theorem cpow_ {i j : Int} (h1 : 0 ≤ j) (h2 : j ≤ 1000000) (h3 : i.natAbs < 2 ^ 64) : CPow i j := ⟨h1, h2, h3⟩
theorem EV.upper {K : PySem.W.Frag} {ρ : List En} {P : D → Prop} {te : TE} (h : EV K te ρ fun x => ∃ z : Str, x = .str z ∧ z.length ≤ 5592405 ∧ P (.str (Txt.upper z))) : EV K (tM0 (fun x xs H Q => ∃ a, x = .str a ∧ xs = [] ∧ a.length ≤ 5592405 ∧ Q (.str (Txt.upper a)) H) te) ρ P := fun B W H σ e Q q =>
  h B W H σ e _ fun v d H1 g1 s1 p => by
    obtain ⟨z, rfl, hz, p⟩ := p
    cases s1
    exact ⟨⟨z, rfl⟩, z, rfl, rfl, hz, q _ _ H1 g1 (.str _) p⟩
/-! ### isinstance of data -/
def D.isInt : D → Bool
  | .int _ => true
  | .bl _ => true
  | _ => false
def D.isBl : D → Bool
  | .bl _ => true
  | _ => false
theorem RC.isiInt {K : PySem.W.Frag} {ρ : List En} {P : D → Prop} {d : D} (h : d.sz = true) (p : P (.bl d.isInt)) : RC K (rIsi K) ρ [d, .ty "int"] P := by
  cases d with
  | raw a => simp [D.sz] at h
  | ty a => simp [D.sz] at h
  | ins C ks ds => simp [D.sz] at h
  | non => exact RC.isi (b := false) rfl (by decide +kernel) p
  | bl b => exact RC.isi (b := true) rfl (by decide +kernel) p
  | int i => exact RC.isi (b := true) rfl (by decide +kernel) p
  | str z => exact RC.isi (b := false) rfl (by decide +kernel) p
  | tup ds => exact RC.isi (b := false) rfl (by decide +kernel) p
  | lst ds => exact RC.isi (b := false) rfl (by decide +kernel) p
  | dic ks ds => exact RC.isi (b := false) rfl (by decide +kernel) p
theorem RC.isiBl {K : PySem.W.Frag} {ρ : List En} {P : D → Prop} {d : D} (h : d.sz = true) (p : P (.bl d.isBl)) : RC K (rIsi K) ρ [d, .ty "bool"] P := by
  cases d with
  | raw a => simp [D.sz] at h
  | ty a => simp [D.sz] at h
  | ins C ks ds => simp [D.sz] at h
  | non => exact RC.isi (b := false) rfl (by decide +kernel) p
  | bl b => exact RC.isi (b := true) rfl (by decide +kernel) p
  | int i => exact RC.isi (b := false) rfl (by decide +kernel) p
  | str z => exact RC.isi (b := false) rfl (by decide +kernel) p
  | tup ds => exact RC.isi (b := false) rfl (by decide +kernel) p
  | lst ds => exact RC.isi (b := false) rfl (by decide +kernel) p
  | dic ks ds => exact RC.isi (b := false) rfl (by decide +kernel) p
def D.isI : D → Bool
  | .int _ => true
  | _ => false
def D.inR (lo hi : Int) : D → Bool
  | .int i => decide (lo ≤ i) && decide (i ≤ hi)
  | _ => false
def D.isPair : D → Bool
  | .tup [x, y] => x.isWord && y.isWord
  | _ => false
def D.isTwo : D → Bool
  | .tup [_, _] => true
  | _ => false
end VB

set_option Elab.async false
set_option linter.all false
set_option maxRecDepth 100000
set_option maxHeartbeats 4000000
/-! Data of bounded size. -/
namespace VB
open PySem PySem.Spec PyProof.Rows L2
def Sm (z : Str) : Prop := ∀ c ∈ z.cps.toList, c < 65536
def smB (z : Str) : Bool := decide (z.length ≤ 5000) && z.cps.toList.all fun c => decide (c < 65536)
def kft : Key → Bool
  | .inl i => decide (i.natAbs < 10 ^ 45)
  | .inr z => smB z
mutual
def D.ft : D → Bool
  | .non => true
  | .bl _ => true
  | .int i => decide (i.natAbs < 10 ^ 45)
  | .str z => smB z
  | .tup ds => decide (ds.length ≤ 100000) && D.ftA ds
  | .lst ds => D.ftA ds
  | .dic ks ds => ks.all kft && D.ftA ds
  | .ty _ => false
  | .raw _ => false
  | .ins _ _ _ => false
def D.ftA : List D → Bool
  | [] => true
  | d :: ds => D.ft d && D.ftA ds
end
theorem smB_iff {z : Str} : smB z = true ↔ z.length ≤ 5000 ∧ Sm z := by
  unfold smB Sm
  rw [Bool.and_eq_true_iff, decide_eq_true_iff, List.all_eq_true]
  constructor
  · rintro ⟨h1, h2⟩
    exact ⟨h1, fun c m => of_decide_eq_true (h2 c m)⟩
  · rintro ⟨h1, h2⟩
    exact ⟨h1, fun c m => decide_eq_true (h2 c m)⟩
theorem int_short {i : Int} (h : i.natAbs < 10 ^ 45) : (PyData.shown (.int i)).length ≤ 60 := by
  have e := PySem.int_text_length_le10 (k := 45) (by decide) h
  show (Str.ofString (toString i)).length ≤ 60
  rw [PySem.ofString_length]
  omega
theorem nat_log {n : Nat} (h : n < 10 ^ 45) : n.log2 < 150 := by
  by_cases h0 : n = 0
  · rw [h0]
    decide
  · rw [Nat.log2_lt h0]
    exact Nat.lt_of_lt_of_le h (by decide +kernel)
theorem sm_short {z : Str} (h : Sm z) : (PyData.str z).leavesShort 60 = true := by
  show (z.cps.toList.all fun c => decide (c < 16 ^ 8)) = true
  rw [List.all_eq_true]
  intro c m
  exact decide_eq_true (Nat.lt_trans (h c m) (by decide))
theorem kD_ok {k : Key} (h : kft k = true) : (kD k).showable = true ∧ (kD k).leavesShort 60 = true := by
  cases k with
  | inl i =>
    have hi : i.natAbs < 10 ^ 45 := of_decide_eq_true h
    exact ⟨decide_eq_true (Nat.lt_trans (nat_log hi) (by decide)), decide_eq_true (int_short hi)⟩
  | inr z => exact ⟨rfl, sm_short (smB_iff.mp h).2⟩
mutual
theorem D.ft_ok : ∀ {d : D}, d.ft = true → d.sz = true ∧ d.pl = true ∧ d.py.showable = true ∧ d.py.leavesShort 60 = true
  | .non, _ => ⟨rfl, rfl, rfl, rfl⟩
  | .bl _, _ => ⟨rfl, rfl, rfl, rfl⟩
  | .int i, h => by
    have hi : i.natAbs < 10 ^ 45 := of_decide_eq_true h
    exact ⟨rfl, rfl, decide_eq_true (Nat.lt_trans (nat_log hi) (by decide)), decide_eq_true (int_short hi)⟩
  | .str z, h => by
    obtain ⟨h1, h2⟩ := smB_iff.mp (show smB z = true from h)
    exact ⟨decide_eq_true (by omega), rfl, rfl, sm_short h2⟩
  | .tup ds, h => by
    obtain ⟨h1, h2⟩ := Bool.and_eq_true_iff.mp (show (decide (ds.length ≤ 100000) && D.ftA ds) = true from h)
    obtain ⟨a, b, c, e⟩ := D.ftA_ok h2
    have h1 := of_decide_eq_true h1
    refine ⟨?_, b, c, e⟩
    show (decide (ds.length ≤ 16777000) && D.szA ds) = true
    rw [a, decide_eq_true (by omega)]
    rfl
  | .lst ds, h => D.ftA_ok (show D.ftA ds = true from h)
  | .dic ks ds, h => by
    obtain ⟨h1, h2⟩ := Bool.and_eq_true_iff.mp (show (ks.all kft && D.ftA ds) = true from h)
    obtain ⟨a, b, c, e⟩ := D.ftA_ok h2
    have go : ∀ (ks : List Key) (es : List PyData), ks.all kft = true → PyData.showableAll es = true → PyData.leavesShortAll 60 es = true → PyData.showableKv ((ks.map kD).zip es) = true ∧ PyData.leavesShortKv 60 ((ks.map kD).zip es) = true := by
      intro ks
      induction ks with
      | nil => exact fun _ _ _ _ => ⟨rfl, rfl⟩
      | cons k r ih =>
        intro es hk hs hl
        cases es with
        | nil => exact ⟨rfl, rfl⟩
        | cons y q =>
          rw [List.all_cons] at hk
          obtain ⟨k1, k2⟩ := Bool.and_eq_true_iff.mp hk
          obtain ⟨s1, s2⟩ := Bool.and_eq_true_iff.mp (show (PyData.showable y && PyData.showableAll q) = true from hs)
          obtain ⟨l1, l2⟩ := Bool.and_eq_true_iff.mp (show (PyData.leavesShort 60 y && PyData.leavesShortAll 60 q) = true from hl)
          obtain ⟨i1, i2⟩ := ih q k2 s2 l2
          obtain ⟨q1, q2⟩ := kD_ok k1
          constructor
          · show (PyData.showable (kD k) && PyData.showable y && PyData.showableKv ((r.map kD).zip q)) = true
            rw [q1, s1, i1]
            rfl
          · show (PyData.leavesShort 60 (kD k) && PyData.leavesShort 60 y && PyData.leavesShortKv 60 ((r.map kD).zip q)) = true
            rw [q2, l1, i2]
            rfl
    obtain ⟨g1, g2⟩ := go ks (D.pyA ds) h1 c e
    exact ⟨a, b, g1, g2⟩
  | .ty _, h => by cases h
  | .raw _, h => by cases h
  | .ins _ _ _, h => by cases h
theorem D.ftA_ok : ∀ {ds : List D}, D.ftA ds = true → D.szA ds = true ∧ D.plA ds = true ∧ PyData.showableAll (D.pyA ds) = true ∧ PyData.leavesShortAll 60 (D.pyA ds) = true
  | [], _ => ⟨rfl, rfl, rfl, rfl⟩
  | d :: ds, h => by
    obtain ⟨h1, h2⟩ := Bool.and_eq_true_iff.mp (show (D.ft d && D.ftA ds) = true from h)
    obtain ⟨a1, b1, c1, e1⟩ := D.ft_ok h1
    obtain ⟨a2, b2, c2, e2⟩ := D.ftA_ok h2
    refine ⟨?_, ?_, ?_, ?_⟩
    · show (_ && _) = true
      rw [a1, a2]
      rfl
    · show (_ && _) = true
      rw [b1, b2]
      rfl
    · show (PyData.showable _ && PyData.showableAll _) = true
      rw [c1, c2]
      rfl
    · show (PyData.leavesShort _ _ && PyData.leavesShortAll _ _) = true
      rw [e1, e2]
      rfl
end
structure Fit (w k : Nat) (d : D) : Prop where
  ft : d.ft = true
  wt : d.py.weight ≤ w
  dp : d.py.depth ≤ k
theorem Fit.mono {w k w' k' : Nat} {d : D} (h : Fit w k d) (hw : w ≤ w') (hk : k ≤ k') : Fit w' k' d := ⟨h.ft, Nat.le_trans h.wt hw, Nat.le_trans h.dp hk⟩
theorem fitA {w k : Nat} : ∀ {ds : List D}, (∀ d ∈ ds, Fit w k d) → D.ftA ds = true ∧ PyData.weightAll (D.pyA ds) ≤ ds.length * (w + 1) ∧ PyData.depthAll (D.pyA ds) ≤ k
  | [], _ => ⟨rfl, Nat.zero_le _, Nat.zero_le _⟩
  | d :: ds, h => by
    have h1 := h d (List.mem_cons_self ..)
    obtain ⟨a, b, c⟩ := fitA (ds := ds) fun x m => h x (List.mem_cons_of_mem _ m)
    refine ⟨?_, ?_, ?_⟩
    · show (_ && _) = true
      rw [h1.ft, a]
      rfl
    · show PyData.weight _ + 1 + PyData.weightAll _ ≤ (ds.length + 1) * (w + 1)
      have := h1.wt
      rw [Nat.succ_mul]
      omega
    · show max (PyData.depth _) (PyData.depthAll _) ≤ k
      have := h1.dp
      omega
theorem Fit.tup {w k l : Nat} {ds : List D} (h : ∀ d ∈ ds, Fit w k d) (hl : ds.length ≤ l) (hs : l ≤ 100000) : Fit (l * (w + 1)) (k + 1) (.tup ds) := by
  obtain ⟨a, b, c⟩ := fitA h
  refine ⟨?_, Nat.le_trans b (Nat.mul_le_mul_right _ hl), Nat.succ_le_succ c⟩
  show (decide (ds.length ≤ 100000) && D.ftA ds) = true
  rw [a, decide_eq_true (by omega)]
  rfl
theorem Fit.lst {w k l : Nat} {ds : List D} (h : ∀ d ∈ ds, Fit w k d) (hl : ds.length ≤ l) : Fit (l * (w + 1)) (k + 1) (.lst ds) := by
  obtain ⟨a, b, c⟩ := fitA h
  exact ⟨a, Nat.le_trans b (Nat.mul_le_mul_right _ hl), Nat.succ_le_succ c⟩
theorem Fit.str {n : Nat} {z : Str} (h : z.length ≤ n) (hn : n ≤ 5000) (s : Sm z) : Fit n 0 (.str z) := ⟨smB_iff.mpr ⟨Nat.le_trans h hn, s⟩, h, Nat.le_refl _⟩
theorem Fit.int {i : Int} (h : i.natAbs < 10 ^ 45) : Fit 150 0 (.int i) := by
  refine ⟨decide_eq_true h, ?_, Nat.le_refl _⟩
  show (if (i == 0) = true then 0 else i.natAbs.log2 + 1) ≤ 150
  have := nat_log h
  split <;> omega
theorem Fit.sz {w k : Nat} {d : D} (h : Fit w k d) : d.sz = true := (D.ft_ok h.ft).1
theorem Fit.rp {d : D} (h : Fit 200000 20 d) : d.pl = true ∧ d.py.showable = true ∧ d.py.depth ≤ 60 ∧ d.py.shown.length ≤ sizeLine := by
  obtain ⟨_, b, c, e⟩ := D.ft_ok h.ft
  refine ⟨b, c, Nat.le_trans h.dp (by decide), ?_⟩
  have := PyData.shown_le 60 (by decide) _ e
  have := h.wt
  rw [sizeLine_eq]
  omega
theorem Sm.app {x y : Str} (h : Sm x) (k : Sm y) : Sm (x ++ y) := fun c m => by
  rw [Str.cps_append, Array.toList_append, List.mem_append] at m
  exact m.elim (h c) (k c)
theorem Sm.cut {x : Str} (h : Sm x) (lo hi : Option Int) : Sm (cutS x lo hi) := fun c m => by
  unfold cutS at m
  exact h c (List.mem_of_mem_drop (List.mem_of_mem_take (by simpa using m)))
theorem Lw.sm {x : Str} (h : Lw x) : Sm x := fun c m => by
  have : ∀ c ∈ LET.cps.toList, c < 65536 := by decide +kernel
  exact this c (h c m)
end VB

open PySem PySem.Spec PyProof.Rows L2 VB
local macro_rules | `(tactic| walk_at "d") => `(tactic| first
  | with_reducible refine EV.op ?_
  | ((with_reducible refine' EV.var ?h ?_); (case h => rfl))
  | ((with_reducible refine' EV.bag ?h ?_); (case h => rfl))
  | with_reducible refine EV.int ?_
  | with_reducible refine EV.str ?_
  | with_reducible refine EV.bl ?_
  | with_reducible refine EV.non ?_
  | with_reducible refine EV.ty ?_
  | with_reducible refine EV.cb ?_
  | with_reducible refine EA.cons ?_
  | with_reducible refine EA.nil ?_
  | ((with_reducible refine' EV.take ?h ?_); (case h => rfl))
  | with_reducible refine EV.call ?_
  | with_reducible refine EV.neg ?_
  | with_reducible refine EV.tup ?_
  | with_reducible refine EV.lst ?_
  | with_reducible refine EV.sl ?_
  | with_reducible refine EO.none ?_
  | with_reducible refine EO.some ?_
  | with_reducible refine EV.andV ?_
  | with_reducible refine EV.orV ?_
  | with_reducible refine EV.notV ?_
  | with_reducible refine EV.orT ?_
  | with_reducible refine EV.ifx ?_
  | with_reducible refine EV.chain ?_
  | with_reducible refine EV.join ?_
  | with_reducible refine EV.split ?_
  | with_reducible refine ET.test ?_
  | with_reducible refine ET.b ?_
  | with_reducible refine ET.and ?_
  | with_reducible refine ET.or ?_
  | with_reducible refine ET.not ?_
  | with_reducible refine ET.yes ?_
  | with_reducible refine ST.seq ?_
  | (with_reducible refine ST.asg ?_)
  | with_reducible refine ST.ret ?_
  | with_reducible refine ST.drop ?_
  | with_reducible refine ST.ifs ?_
  | with_reducible refine ST.par ?_
  | with_reducible refine ST.tup2 ?_
  | with_reducible refine ST.next ?_
  | with_reducible refine ST.brk ?_
  | with_reducible refine ST.cont ?_
  | with_reducible refine ST.retN ?_
  | with_reducible refine RD.i0 ?_
  | with_reducible refine RD.i0b ?_
  | with_reducible refine RD.eqI ?_
  | with_reducible refine RD.neI ?_
  | with_reducible refine RD.eqS ?_
  | with_reducible refine RD.neS ?_
  | with_reducible refine RD.isB ?_
  | with_reducible refine RD.notB ?_
  | with_reducible refine RD.isNon ?_
  | with_reducible refine RD.notNon ?_
  | with_reducible refine RD.inS ?_
  | with_reducible refine RD.ninS ?_
  | with_reducible refine RD.iC (wide_div (b := 200) (by decide) (by decide) (by decide) (by decide)) ?_
  | with_reducible refine RD.iC (VB.pos_ (by decide)) ?_
  | with_reducible refine RD.iC (VB.cmul_ (by decide) (by decide)) ?_
  | with_reducible refine SD.slL ?_
  | with_reducible refine SD.slA ?_
  | with_reducible refine RC.lenL ?_
  | with_reducible refine RC.lenT ?_
  | with_reducible refine RC.abs ?_
  | with_reducible refine RC.intI ?_
  | with_reducible refine RC.intB ?_
  | with_reducible refine RC.tupL ?_
  | with_reducible refine RC.listL ?_
  | with_reducible refine RC.listT ?_
  | with_reducible refine RD.addS (by decide +kernel) ?_
  | with_reducible refine iteT ?_
  | with_reducible refine iteF ?_
  | with_reducible refine VB.iteNT ?_
  | with_reducible refine VB.iteNF ?_
  | with_reducible refine VB.iteTT ?_
  | with_reducible refine VB.iteFF ?_
  | with_reducible refine VB.iteTF ?_
  | with_reducible refine VB.iteFT ?_
  | refine ⟨Nat.le_of_ble_eq_true rfl, ?_⟩
  | (intro ρ1 e1; simp only [List.set_cons_succ, List.set_cons_zero] at e1; subst e1)
  | refine ⟨_, rfl, ?_⟩
  | refine ⟨_, _, rfl, ?_⟩)
local macro_rules | `(tactic| walk_at "d") => `(tactic| first
  | with_reducible refine EV.dnew ?_
  | with_reducible refine EV.disp1 ?_
  | with_reducible refine EV.upper ?_
  | with_reducible refine RD.eqNil ?_
  | with_reducible refine RD.iC (VB.cpow_ (by decide) (by decide) (by decide)) ?_)
namespace K11
open PySem PySem.Spec PyProof.Rows L2 VB
def top (i : Nat) : Stmt := PySem.Challenge.pw_vouchchains_k11_kinds_known.main.body.getD i (.Pass ⟨0, 0, 0, 0⟩)
abbrev s_is_integer : Stmt := top 5
abbrev s_is_word : Stmt := top 6
abbrev s_is_name : Stmt := top 7
abbrev s_is_holder : Stmt := top 8
abbrev s_is_day : Stmt := top 9
abbrev s_is_count : Stmt := top 10
abbrev s_is_pair : Stmt := top 11
abbrev s_law_bag : Stmt := top 13
abbrev s_law_take : Stmt := top 14
abbrev s_law_within : Stmt := top 15
abbrev s_law_is_word : Stmt := top 16
abbrev s_law_is_name : Stmt := top 17
abbrev s_law_is_couple : Stmt := top 18
abbrev s_law_number : Stmt := top 19
abbrev s_law_text : Stmt := top 20
abbrev s_law_any_name : Stmt := top 21
abbrev s_law_odd : Stmt := top 22
abbrev s_law_bent : Stmt := top 23
abbrev s_law_thing : Stmt := top 24
abbrev s_law_due : Stmt := top 25
abbrev s_law_asked : Stmt := top 26
abbrev s_law : Stmt := top 27
theorem sc_is_integer : FnScope ["thing"] ["thing"] (defScope s_is_integer) := ⟨rfl, rfl, rfl, by decide +kernel, rfl, by decide +kernel, by decide +kernel⟩
theorem sc_is_word : FnScope ["thing", "letter"] ["thing"] (defScope s_is_word) := ⟨rfl, rfl, rfl, by decide +kernel, rfl, by decide +kernel, by decide +kernel⟩
theorem sc_is_name : FnScope ["thing", "label"] ["thing"] (defScope s_is_name) := ⟨rfl, rfl, rfl, by decide +kernel, rfl, by decide +kernel, by decide +kernel⟩
theorem sc_is_holder : FnScope ["thing"] ["thing"] (defScope s_is_holder) := ⟨rfl, rfl, rfl, by decide +kernel, rfl, by decide +kernel, by decide +kernel⟩
theorem sc_is_day : FnScope ["thing"] ["thing"] (defScope s_is_day) := ⟨rfl, rfl, rfl, by decide +kernel, rfl, by decide +kernel, by decide +kernel⟩
theorem sc_is_count : FnScope ["thing"] ["thing"] (defScope s_is_count) := ⟨rfl, rfl, rfl, by decide +kernel, rfl, by decide +kernel, by decide +kernel⟩
theorem sc_is_pair : FnScope ["thing"] ["thing"] (defScope s_is_pair) := ⟨rfl, rfl, rfl, by decide +kernel, rfl, by decide +kernel, by decide +kernel⟩
theorem sc_law_bag : FnScope ["_law_script", "_law_cell"] ["_law_script"] (defScope s_law_bag) := ⟨rfl, rfl, rfl, by decide +kernel, rfl, by decide +kernel, by decide +kernel⟩
theorem sc_law_take : FnScope ["_law_bag_here", "_law_many", "_law_cell", "_law_more", "_law_drawn", "_law_begin", "_law_second"] ["_law_bag_here", "_law_many"] (defScope s_law_take) := ⟨rfl, rfl, rfl, by decide +kernel, rfl, by decide +kernel, by decide +kernel⟩
theorem sc_law_within : FnScope ["_law_thing_here", "_law_low", "_law_high"] ["_law_thing_here", "_law_low", "_law_high"] (defScope s_law_within) := ⟨rfl, rfl, rfl, by decide +kernel, rfl, by decide +kernel, by decide +kernel⟩
theorem sc_law_is_word : FnScope ["_law_thing_here", "_law_sign"] ["_law_thing_here"] (defScope s_law_is_word) := ⟨rfl, rfl, rfl, by decide +kernel, rfl, by decide +kernel, by decide +kernel⟩
theorem sc_law_is_name : FnScope ["_law_thing_here", "_law_part"] ["_law_thing_here"] (defScope s_law_is_name) := ⟨rfl, rfl, rfl, by decide +kernel, rfl, by decide +kernel, by decide +kernel⟩
theorem sc_law_is_couple : FnScope ["_law_thing_here"] ["_law_thing_here"] (defScope s_law_is_couple) := ⟨rfl, rfl, rfl, by decide +kernel, rfl, by decide +kernel, by decide +kernel⟩
theorem sc_law_number : FnScope ["_law_bag_here", "_law_some"] ["_law_bag_here"] (defScope s_law_number) := ⟨rfl, rfl, rfl, by decide +kernel, rfl, by decide +kernel, by decide +kernel⟩
theorem sc_law_text : FnScope ["_law_bag_here", "_law_letters", "_law_others", "_law_many", "_law_text_here", "_law_spot", "_law_k"] ["_law_bag_here"] (defScope s_law_text) := ⟨rfl, rfl, rfl, by decide +kernel, rfl, by decide +kernel, by decide +kernel⟩
theorem sc_law_any_name : FnScope ["_law_bag_here", "_law_many", "_law_way", "_law_k"] ["_law_bag_here"] (defScope s_law_any_name) := ⟨rfl, rfl, rfl, by decide +kernel, rfl, by decide +kernel, by decide +kernel⟩
theorem sc_law_odd : FnScope ["_law_bag_here", "_law_odd_here"] ["_law_bag_here"] (defScope s_law_odd) := ⟨rfl, rfl, rfl, by decide +kernel, rfl, by decide +kernel, by decide +kernel⟩
theorem sc_law_bent : FnScope ["_law_bag_here", "_law_thing_here", "_law_spot", "_law_way"] ["_law_bag_here", "_law_thing_here"] (defScope s_law_bent) := ⟨rfl, rfl, rfl, by decide +kernel, rfl, by decide +kernel, by decide +kernel⟩
theorem sc_law_thing : FnScope ["_law_bag_here", "_law_way", "_law_thing_here"] ["_law_bag_here"] (defScope s_law_thing) := ⟨rfl, rfl, rfl, by decide +kernel, rfl, by decide +kernel, by decide +kernel⟩
theorem sc_law_due : FnScope ["_law_thing_here", "_law_holder", "_law_pair", "_law_found"] ["_law_thing_here"] (defScope s_law_due) := ⟨rfl, rfl, rfl, by decide +kernel, rfl, by decide +kernel, by decide +kernel⟩
theorem sc_law_asked : FnScope ["_law_thing_here", "_law_found"] ["_law_thing_here"] (defScope s_law_asked) := ⟨rfl, rfl, rfl, by decide +kernel, rfl, by decide +kernel, by decide +kernel⟩
theorem sc_law : FnScope ["_law_script", "_law_bag_here", "_law_k", "_law_thing_here", "_law_shown", "_law_due_here", "_law_again"] ["_law_script"] (defScope s_law) := ⟨rfl, rfl, rfl, by decide +kernel, rfl, by decide +kernel, by decide +kernel⟩
structure Ad where
  f_is_integer : Addr
  d_is_integer : FuncData
  f_is_word : Addr
  d_is_word : FuncData
  f_is_name : Addr
  d_is_name : FuncData
  f_is_holder : Addr
  d_is_holder : FuncData
  f_is_day : Addr
  d_is_day : FuncData
  f_is_count : Addr
  d_is_count : FuncData
  f_is_pair : Addr
  d_is_pair : FuncData
  f_law_bag : Addr
  d_law_bag : FuncData
  f_law_take : Addr
  d_law_take : FuncData
  f_law_within : Addr
  d_law_within : FuncData
  f_law_is_word : Addr
  d_law_is_word : FuncData
  f_law_is_name : Addr
  d_law_is_name : FuncData
  f_law_is_couple : Addr
  d_law_is_couple : FuncData
  f_law_number : Addr
  d_law_number : FuncData
  f_law_text : Addr
  d_law_text : FuncData
  f_law_any_name : Addr
  d_law_any_name : FuncData
  f_law_odd : Addr
  d_law_odd : FuncData
  f_law_bent : Addr
  d_law_bent : FuncData
  f_law_thing : Addr
  d_law_thing : FuncData
  f_law_due : Addr
  d_law_due : FuncData
  f_law_asked : Addr
  d_law_asked : FuncData
  f_law : Addr
  d_law : FuncData
  t_LETTERS : Tok
  t_MOST_LETTERS : Tok
  t_LAST_DAY : Tok
  t_MOST_COUNT : Tok
structure Tx (K : PySem.W.Frag) (mg : Str → Option Value) (a : Ad) : Prop where
  F_is_integer : FunD K "is_integer" "is_integer" (defArgs s_is_integer) (defBody s_is_integer) (defScope s_is_integer) [] [] a.f_is_integer a.d_is_integer
  m_is_integer : mg "is_integer" = some (.ref a.f_is_integer)
  k_is_integer : PySem.W.keepIn K (.ref a.f_is_integer) = true
  b_is_integer : Binds K a.d_is_integer ["thing"] []
  F_is_word : FunD K "is_word" "is_word" (defArgs s_is_word) (defBody s_is_word) (defScope s_is_word) [] [] a.f_is_word a.d_is_word
  m_is_word : mg "is_word" = some (.ref a.f_is_word)
  k_is_word : PySem.W.keepIn K (.ref a.f_is_word) = true
  b_is_word : Binds K a.d_is_word ["thing"] []
  F_is_name : FunD K "is_name" "is_name" (defArgs s_is_name) (defBody s_is_name) (defScope s_is_name) [] [] a.f_is_name a.d_is_name
  m_is_name : mg "is_name" = some (.ref a.f_is_name)
  k_is_name : PySem.W.keepIn K (.ref a.f_is_name) = true
  b_is_name : Binds K a.d_is_name ["thing"] []
  F_is_holder : FunD K "is_holder" "is_holder" (defArgs s_is_holder) (defBody s_is_holder) (defScope s_is_holder) [] [] a.f_is_holder a.d_is_holder
  m_is_holder : mg "is_holder" = some (.ref a.f_is_holder)
  k_is_holder : PySem.W.keepIn K (.ref a.f_is_holder) = true
  b_is_holder : Binds K a.d_is_holder ["thing"] []
  F_is_day : FunD K "is_day" "is_day" (defArgs s_is_day) (defBody s_is_day) (defScope s_is_day) [] [] a.f_is_day a.d_is_day
  m_is_day : mg "is_day" = some (.ref a.f_is_day)
  k_is_day : PySem.W.keepIn K (.ref a.f_is_day) = true
  b_is_day : Binds K a.d_is_day ["thing"] []
  F_is_count : FunD K "is_count" "is_count" (defArgs s_is_count) (defBody s_is_count) (defScope s_is_count) [] [] a.f_is_count a.d_is_count
  m_is_count : mg "is_count" = some (.ref a.f_is_count)
  k_is_count : PySem.W.keepIn K (.ref a.f_is_count) = true
  b_is_count : Binds K a.d_is_count ["thing"] []
  F_is_pair : FunD K "is_pair" "is_pair" (defArgs s_is_pair) (defBody s_is_pair) (defScope s_is_pair) [] [] a.f_is_pair a.d_is_pair
  m_is_pair : mg "is_pair" = some (.ref a.f_is_pair)
  k_is_pair : PySem.W.keepIn K (.ref a.f_is_pair) = true
  b_is_pair : Binds K a.d_is_pair ["thing"] []
  F_law_bag : FunD K "_law_bag" "_law_bag" (defArgs s_law_bag) (defBody s_law_bag) (defScope s_law_bag) [] [] a.f_law_bag a.d_law_bag
  m_law_bag : mg "_law_bag" = some (.ref a.f_law_bag)
  k_law_bag : PySem.W.keepIn K (.ref a.f_law_bag) = true
  b_law_bag : Binds K a.d_law_bag ["_law_script"] []
  F_law_take : FunD K "_law_take" "_law_take" (defArgs s_law_take) (defBody s_law_take) (defScope s_law_take) [] [] a.f_law_take a.d_law_take
  m_law_take : mg "_law_take" = some (.ref a.f_law_take)
  k_law_take : PySem.W.keepIn K (.ref a.f_law_take) = true
  b_law_take : Binds K a.d_law_take ["_law_bag_here", "_law_many"] []
  F_law_within : FunD K "_law_within" "_law_within" (defArgs s_law_within) (defBody s_law_within) (defScope s_law_within) [] [] a.f_law_within a.d_law_within
  m_law_within : mg "_law_within" = some (.ref a.f_law_within)
  k_law_within : PySem.W.keepIn K (.ref a.f_law_within) = true
  b_law_within : Binds K a.d_law_within ["_law_thing_here", "_law_low", "_law_high"] []
  F_law_is_word : FunD K "_law_is_word" "_law_is_word" (defArgs s_law_is_word) (defBody s_law_is_word) (defScope s_law_is_word) [] [] a.f_law_is_word a.d_law_is_word
  m_law_is_word : mg "_law_is_word" = some (.ref a.f_law_is_word)
  k_law_is_word : PySem.W.keepIn K (.ref a.f_law_is_word) = true
  b_law_is_word : Binds K a.d_law_is_word ["_law_thing_here"] []
  F_law_is_name : FunD K "_law_is_name" "_law_is_name" (defArgs s_law_is_name) (defBody s_law_is_name) (defScope s_law_is_name) [] [] a.f_law_is_name a.d_law_is_name
  m_law_is_name : mg "_law_is_name" = some (.ref a.f_law_is_name)
  k_law_is_name : PySem.W.keepIn K (.ref a.f_law_is_name) = true
  b_law_is_name : Binds K a.d_law_is_name ["_law_thing_here"] []
  F_law_is_couple : FunD K "_law_is_couple" "_law_is_couple" (defArgs s_law_is_couple) (defBody s_law_is_couple) (defScope s_law_is_couple) [] [] a.f_law_is_couple a.d_law_is_couple
  m_law_is_couple : mg "_law_is_couple" = some (.ref a.f_law_is_couple)
  k_law_is_couple : PySem.W.keepIn K (.ref a.f_law_is_couple) = true
  b_law_is_couple : Binds K a.d_law_is_couple ["_law_thing_here"] []
  F_law_number : FunD K "_law_number" "_law_number" (defArgs s_law_number) (defBody s_law_number) (defScope s_law_number) [] [] a.f_law_number a.d_law_number
  m_law_number : mg "_law_number" = some (.ref a.f_law_number)
  k_law_number : PySem.W.keepIn K (.ref a.f_law_number) = true
  b_law_number : Binds K a.d_law_number ["_law_bag_here"] []
  F_law_text : FunD K "_law_text" "_law_text" (defArgs s_law_text) (defBody s_law_text) (defScope s_law_text) [] [] a.f_law_text a.d_law_text
  m_law_text : mg "_law_text" = some (.ref a.f_law_text)
  k_law_text : PySem.W.keepIn K (.ref a.f_law_text) = true
  b_law_text : Binds K a.d_law_text ["_law_bag_here"] []
  F_law_any_name : FunD K "_law_any_name" "_law_any_name" (defArgs s_law_any_name) (defBody s_law_any_name) (defScope s_law_any_name) [] [] a.f_law_any_name a.d_law_any_name
  m_law_any_name : mg "_law_any_name" = some (.ref a.f_law_any_name)
  k_law_any_name : PySem.W.keepIn K (.ref a.f_law_any_name) = true
  b_law_any_name : Binds K a.d_law_any_name ["_law_bag_here"] []
  F_law_odd : FunD K "_law_odd" "_law_odd" (defArgs s_law_odd) (defBody s_law_odd) (defScope s_law_odd) [] [] a.f_law_odd a.d_law_odd
  m_law_odd : mg "_law_odd" = some (.ref a.f_law_odd)
  k_law_odd : PySem.W.keepIn K (.ref a.f_law_odd) = true
  b_law_odd : Binds K a.d_law_odd ["_law_bag_here"] []
  F_law_bent : FunD K "_law_bent" "_law_bent" (defArgs s_law_bent) (defBody s_law_bent) (defScope s_law_bent) [] [] a.f_law_bent a.d_law_bent
  m_law_bent : mg "_law_bent" = some (.ref a.f_law_bent)
  k_law_bent : PySem.W.keepIn K (.ref a.f_law_bent) = true
  b_law_bent : Binds K a.d_law_bent ["_law_bag_here", "_law_thing_here"] []
  F_law_thing : FunD K "_law_thing" "_law_thing" (defArgs s_law_thing) (defBody s_law_thing) (defScope s_law_thing) [] [] a.f_law_thing a.d_law_thing
  m_law_thing : mg "_law_thing" = some (.ref a.f_law_thing)
  k_law_thing : PySem.W.keepIn K (.ref a.f_law_thing) = true
  b_law_thing : Binds K a.d_law_thing ["_law_bag_here"] []
  F_law_due : FunD K "_law_due" "_law_due" (defArgs s_law_due) (defBody s_law_due) (defScope s_law_due) [] [] a.f_law_due a.d_law_due
  m_law_due : mg "_law_due" = some (.ref a.f_law_due)
  k_law_due : PySem.W.keepIn K (.ref a.f_law_due) = true
  b_law_due : Binds K a.d_law_due ["_law_thing_here"] []
  F_law_asked : FunD K "_law_asked" "_law_asked" (defArgs s_law_asked) (defBody s_law_asked) (defScope s_law_asked) [] [] a.f_law_asked a.d_law_asked
  m_law_asked : mg "_law_asked" = some (.ref a.f_law_asked)
  k_law_asked : PySem.W.keepIn K (.ref a.f_law_asked) = true
  b_law_asked : Binds K a.d_law_asked ["_law_thing_here"] []
  F_law : FunD K "law" "law" (defArgs s_law) (defBody s_law) (defScope s_law) [] [] a.f_law a.d_law
  m_law : mg "law" = some (.ref a.f_law)
  k_law : PySem.W.keepIn K (.ref a.f_law) = true
  b_law : Binds K a.d_law ["_law_script"] []
  g_LETTERS : mg "LETTERS" = some (.str "abcdefghijklmnopqrstuvwxyz" a.t_LETTERS)
  g_MOST_LETTERS : mg "MOST_LETTERS" = some (.int 8 a.t_MOST_LETTERS)
  g_LAST_DAY : mg "LAST_DAY" = some (.int 1000000000 a.t_LAST_DAY)
  g_MOST_COUNT : mg "MOST_COUNT" = some (.int 8 a.t_MOST_COUNT)
  n_abs : mg "abs" = none
  n_all : mg "all" = none
  n_bool : mg "bool" = none
  n_int : mg "int" = none
  n_isinstance : mg "isinstance" = none
  n_len : mg "len" = none
  n_list : mg "list" = none
  n_range : mg "range" = none
  n_repr : mg "repr" = none
  n_str : mg "str" = none
  n_tuple : mg "tuple" = none
  sys : VB.sysOk K = true
variable {P : Program} {w : World} {K : PySem.W.Frag} {mg : Str → Option Value} {base : Heap} {a : Ad}
/-! ### the draw -/
theorem bag_rd {K : PySem.W.Frag} {σ : L2.St} {H : Hp} {Q : VK} {b c : Addr} {z s i k : Int} {v : V} (h0 : σ[0]? = some (some (.ref b))) (hb : H b = some (bagO z s i c)) (e : atI [V.int z, .int s, .int i, .ref c] k = some v) (q : Q v H) : tOp (rIxL K) (tVar 0) (tC (.int k)) σ H Q :=
  ⟨_, h0, b, _, k, v, rfl, rfl, SqL.of hb, e, q⟩
theorem ok_law_take (T : Tx K mg a) : FnOk P w K mg base CX0 1 a.f_law_take a.d_law_take ["_law_bag_here", "_law_many"] (spTake K) := by
  refine T.F_law_take.ok (k := 0) sc_law_take (fun vs H Q E h => ?_) (fun cdv A outer s H vs Q E hr h => ?_)
  · exact spA_len h fun _ => rfl
  · obtain ⟨B, W, ⟨b, n⟩, en, ⟨n0, n1⟩, q⟩ := h
    have n0 : 0 < n := n0
    have n1 : n < 2 ^ 200 := n1
    have hv : vs = [.ref b, .int n] := by
      have hl := en.len
      match vs, en, hl with
      | [x, y], en, _ =>
        obtain ⟨e0, _⟩ := en.sl 0 _ rfl
        obtain ⟨v1, e1, s1⟩ := en.sl 1 _ rfl
        cases s1
        cases e0
        cases e1
        rfl
    subst hv
    obtain ⟨_, bW, c, ns, cB, hC⟩ := en.sl 0 _ rfl
    have cW : c ∉ W := fun m => cB (en.bw.sub _ m)
    refine ⟨_, PSs.nox (Evl.pss_cut (ps_if (pt_cmpR op_eq (pe_ix (VB.kIxL (K := K) rfl) (pv 0) pe_int (fun _ _ => rfl)) pe_int (nomark _)) (pss_cons (ps_set (i := 2) sc_law_take.nd rfl (Or.inl rfl) pe_int)
    (Evl.pss_cut (ps_if (pt_cmpR op_lt (pe_ix (VB.kIxL (K := K) rfl) (pv 0) pe_int (fun _ _ => rfl)) (pe_callB (VB.kLen (K := K) rfl) (by rfl) T.n_len (by decide +kernel) (pa_cons (pe_ix (VB.kIxL (K := K) rfl) (pv 0) pe_int (fun _ _ => rfl)) pa_nil)) (nomark _)) (pss_one (ps_set (i := 2) sc_law_take.nd rfl (Or.inl rfl) (pe_ix (VB.kIxL (K := K) rfl) (pe_ix (VB.kIxL (K := K) rfl) (pv 0) pe_int (fun _ _ => rfl)) (pe_ix (VB.kIxL (K := K) rfl) (pv 0) pe_int (fun _ _ => rfl)) (fun _ _ => rfl)))) pss_nil)
    (pss_cons (ps_augS (pv 0) pe_int VB.get_list pe_int ip_add set_list)
    (Evl.pss_cut (ps_if (pt_cmpR op_ge (pv 2) pe_int (nomark _)) (pss_one (ps_asg (pv 2) (pg_sub (pv 0) pe_int set_list))) pss_nil)
    (pss_cons (ps_set (i := 3) sc_law_take.nd rfl (Or.inl rfl) (pe_op op_add (pe_op op_mod (pe_callTy call_int1 (by rfl) T.n_int (by decide +kernel) (pa_cons (pv 2) pa_nil)) pe_int) (pe_op op_mul pe_int (pe_ix (VB.kIxL (K := K) rfl) (pv 0) pe_int (fun _ _ => rfl)))))
    (pss_one (ps_asg (pe_op op_mod (pe_callTy call_int1 (by rfl) T.n_int (by decide +kernel) (pa_cons (pe_op op_add (pe_op op_mul (pe_ix (VB.kIxL (K := K) rfl) (pv 0) pe_int (fun _ _ => rfl)) pe_int) (pv 3)) pa_nil)) pe_int) (pg_sub (pv 0) pe_int set_list)))))))) pss_nil)
    (pss_cons (ps_if (pt_cmpR op_gt (pe_ix (VB.kIxL (K := K) rfl) (pv 0) pe_int (fun _ _ => rfl)) pe_int (nomark _)) (pss_cons (ps_set (i := 4) sc_law_take.nd rfl (Or.inl rfl) (pe_op op_mod (pe_callTy call_int1 (by rfl) T.n_int (by decide +kernel) (pa_cons (pe_ix (VB.kIxL (K := K) rfl) (pv 0) pe_int (fun _ _ => rfl)) pa_nil)) (pv 1)))
    (pss_cons (ps_asg (pe_op op_fdivW (pe_ix (VB.kIxL (K := K) rfl) (pv 0) pe_int (fun _ _ => rfl)) (pv 1)) (pg_sub (pv 0) pe_int set_list))
    (pss_one (ps_ret (pv 4))))) pss_nil)
    (pss_cons (ps_set (i := 5) sc_law_take.nd rfl (Or.inl rfl) (pe_op op_mod (pe_callTy call_int1 (by rfl) T.n_int (by decide +kernel) (pa_cons (pe_op op_mul (pe_op op_add (pe_ix (VB.kIxL (K := K) rfl) (pv 0) pe_int (fun _ _ => rfl)) pe_int) pe_int) pa_nil)) pe_int))
    (pss_cons (ps_set (i := 6) sc_law_take.nd rfl (Or.inl rfl) (pe_op op_mod (pe_callTy call_int1 (by rfl) T.n_int (by decide +kernel) (pa_cons (pe_op op_mul (pe_op op_mod (pe_callTy call_int1 (by rfl) T.n_int (by decide +kernel) (pa_cons (pe_op op_mul (pv 5) (pv 5)) pa_nil)) pe_int) pe_int) pa_nil)) pe_int))
    (pss_cons (ps_if (pt_cmpR op_gt (pv 1) pe_int (nomark _)) (pss_one (ps_ret (pe_op op_mod (pe_callTy call_int1 (by rfl) T.n_int (by decide +kernel) (pa_cons (pe_op op_add (pe_op op_mul (pv 6) pe_int) (pv 5)) pa_nil)) (pv 1)))) pss_nil)
    (pss_one (ps_ret (pe_op op_mod (pe_callTy call_int1 (by rfl) T.n_int (by decide +kernel) (pa_cons (pe_op op_fdivW (pv 6) pe_int) pa_nil)) (pv 1))))))))), ?_⟩
    have fin : ∀ H' r, Gs W H H' → 0 ≤ r → r < n → Q (.int r) H' := fun H' r g h0 h1 => q _ _ H' g (.int r) ⟨r, rfl, h0, h1⟩
    have n9 : CDivW 0 n := wide_div (b := 200) n0 (by omega) (by decide) (by decide)
    -- the first if, whose two ways meet
    refine ⟨fun σ' H' => ∃ c2 c3, σ' = [some (.ref b), some (.int n), c2, c3, none, none, none] ∧ Gs W H H', ?_, ?_⟩
    · obtain ⟨⟨z, s1, i, hb, v1, v2, v3, v4⟩, hc, hn⟩ := hC
      refine bag_rd (v := .int z) rfl hb rfl ⟨rfl, _, rfl, ite2 (fun _ => ?_) (fun _ => ⟨none, none, rfl, Gs.refl⟩)⟩
      refine ⟨fun σ' H' => ∃ k : Int, σ' = [some (.ref b), some (.int n), some (.int k), none, none, none, none] ∧ 0 ≤ k ∧ H' = H, ?_, ?_⟩
      · refine bag_rd (v := .int i) rfl hb rfl (bag_rd (v := .ref c) rfl hb rfl ⟨_, _, rfl, Or.inl ⟨_, SqL.of hc, rfl⟩, _, _, rfl, rfl, _, rfl, ite2 (fun lt => ?_) (fun _ => ⟨0, rfl, Int.le_refl _, rfl⟩)⟩)
        have lt2 : i.toNat < ns.length := by
          have := of_decide_eq_true lt
          rw [List.length_map] at this
          omega
        refine bag_rd (v := .ref c) rfl hb rfl (bag_rd (v := .int i) rfl hb rfl ⟨c, _, i, .int (ns[i.toNat]), rfl, rfl, SqL.of hc, ?_, ?_⟩)
        · have e : i = ((i.toNat : Nat) : Int) := by omega
          have z : (ns.map V.int)[i.toNat]? = some (.int ns[i.toNat]) := by
            rw [List.getElem?_map, List.getElem?_eq_getElem lt2]
            rfl
          have z2 := atI_nat z
          rw [← e] at z2
          exact z2
        · exact ⟨_, rfl, hn _ (List.getElem_mem lt2), rfl⟩
      · rintro σ1 H1 ⟨k, rfl, k0, rfl⟩
        -- the place goes on
        refine ⟨_, rfl, b, _, 2, .int i, rfl, rfl, by decide, by decide, hb, rfl, _, _, rfl, rfl, b, _, 2, 2, rfl, rfl, hb, rfl, ?_⟩
        have g1 : Gs W H1 (upd H1 b (bagO z s1 (i + 1) c)) := Gs.bagW bW hb ⟨v1, v2, v3, by omega⟩
        have hb1 : (upd H1 b (bagO z s1 (i + 1) c)) b = some (bagO z s1 (i + 1) c) := upd_same
        show Evl.tCut _ _ _ _ (upd H1 b (bagO z s1 (i + 1) c))
        generalize upd H1 b (bagO z s1 (i + 1) c) = H2 at g1 hb1 ⊢
        refine ⟨fun σ' H' => ∃ z2 : Int, σ' = [some (.ref b), some (.int n), some (.int k), none, none, none, none] ∧ 0 ≤ z2 ∧ Gs W H1 H' ∧ H' b = some (bagO z2 s1 (i + 1) c), ?_, ?_⟩
        · refine ⟨_, rfl, _, _, rfl, rfl, _, rfl, ite2 (fun _ => ?_) (fun _ => ⟨z, rfl, v1, g1, hb1⟩)⟩
          refine ⟨_, rfl, _, rfl, b, _, 0, 0, rfl, rfl, hb1, rfl, k, rfl, k0, ?_, upd_same⟩
          exact g1.trans (Gs.bagW bW hb1 ⟨k0, v2, v3, by omega⟩)
        · rintro σ3 H3 ⟨z2, rfl, z0, g3, hb3⟩
          -- more
          refine ⟨_, rfl, Or.inl ⟨_, rfl, _, _, rfl, rfl, pos_ (by decide), bag_rd (v := .int (i + 1)) rfl hb3 rfl ⟨_, _, rfl, rfl, (by constructor <;> decide), _, _, rfl, rfl, ?_⟩⟩⟩
          refine bag_rd (v := .int s1) rfl hb3 rfl ⟨_, _, rfl, rfl, (by constructor <;> omega), _, rfl, _, _, rfl, rfl, Or.inl ⟨_, rfl, _, _, rfl, rfl, pos_ (by decide), _, rfl, b, _, 1, 1, rfl, rfl, hb3, rfl, _, _, rfl, ?_⟩⟩
          refine g3.trans (Gs.bagW bW hb3 ⟨z0, Int.emod_nonneg _ (by decide), Int.emod_lt_of_pos _ (by decide), by omega⟩)
    · rintro σ1 H1 ⟨c2, c3, rfl, g⟩
      obtain ⟨⟨z, s1, i, hb, v1, v2, v3, v4⟩, hc, hn⟩ := g.bag b bW c ns cW hC
      refine bag_rd (v := .int z) rfl hb rfl ⟨_, _, rfl, rfl, _, rfl, ite2 (fun zp => ?_) (fun _ => ?_)⟩
      · -- the cell is drawn from
        refine bag_rd (v := .int z) rfl hb rfl (Or.inl ⟨_, rfl, _, rfl, _, _, rfl, rfl, n0, ?_⟩)
        refine bag_rd (v := .int z) rfl hb rfl ⟨_, rfl, _, _, rfl, rfl, n9, _, rfl, b, _, 0, 0, rfl, rfl, hb, rfl, _, rfl, ?_⟩
        refine fin _ _ (g.trans (Gs.bagW (z' := z / n) bW hb ⟨Int.ediv_nonneg v1 (Int.le_of_lt n0), v2, v3, v4⟩)) (Int.emod_nonneg _ (by omega)) (Int.emod_lt_of_pos _ n0)
      · -- a number of its own
        refine bag_rd (v := .int s1) rfl hb rfl ⟨_, _, rfl, rfl, _, _, rfl, rfl, (by constructor <;> omega), Or.inl ⟨_, rfl, _, _, rfl, rfl, pos_ (by decide), ?_⟩⟩
        have p1 : 0 ≤ ((s1 + 1) * 39373) % 1000000007 := Int.emod_nonneg _ (by decide)
        have p2 : ((s1 + 1) * 39373) % 1000000007 < 1000000007 := Int.emod_lt_of_pos _ (by decide)
        generalize ((s1 + 1) * 39373) % 1000000007 = m at p1 p2 ⊢
        refine ⟨_, rfl, _, rfl, _, _, rfl, rfl, (by constructor <;> omega), Or.inl ⟨_, rfl, _, _, rfl, rfl, pos_ (by decide), _, _, rfl, rfl, ?_, Or.inl ⟨_, rfl, _, _, rfl, rfl, pos_ (by decide), ?_⟩⟩⟩
        · have q1 : 0 ≤ m * m % 998244353 := Int.emod_nonneg _ (by decide)
          have q2 : m * m % 998244353 < 998244353 := Int.emod_lt_of_pos _ (by decide)
          constructor <;> omega
        have p3 : 0 ≤ (m * m % 998244353 * 30011) % 998244353 := Int.emod_nonneg _ (by decide)
        have p4 : (m * m % 998244353 * 30011) % 998244353 < 998244353 := Int.emod_lt_of_pos _ (by decide)
        generalize (m * m % 998244353 * 30011) % 998244353 = m2 at p3 p4 ⊢
        refine ⟨_, rfl, _, _, rfl, rfl, _, rfl, ite2 (fun _ => ?_) (fun _ => ?_)⟩
        · exact ⟨_, rfl, _, _, rfl, rfl, (by constructor <;> omega), _, rfl, _, _, rfl, rfl, Or.inl ⟨_, rfl, _, rfl, _, _, rfl, rfl, n0, fin _ _ g (Int.emod_nonneg _ (by omega)) (Int.emod_lt_of_pos _ n0)⟩⟩
        · exact ⟨_, rfl, _, _, rfl, rfl, wide_div (b := 200) (by decide) (by decide) (by decide) (by decide), Or.inl ⟨_, rfl, _, rfl, _, _, rfl, rfl, n0, fin _ _ g (Int.emod_nonneg _ (by omega)) (Int.emod_lt_of_pos _ n0)⟩⟩

/-! ### the bag of draws -/
theorem ok_law_bag (T : Tx K mg a) : FnOk P w K mg base CX0 1 a.f_law_bag a.d_law_bag ["_law_script"] (spBag K) := by
  refine T.F_law_bag.ok (k := 0) sc_law_bag (fun vs H Q E h => ?_) (fun cdv A outer s H vs Q E hr h => ?_)
  · obtain ⟨x, ns, rfl, _⟩ := h
    rfl
  · obtain ⟨x, ns, rfl, hS, hl, q⟩ := h
    refine ⟨_, PSs.nox (pss_one (ps_ret (pe_lst (pa_cons pe_int (pa_cons pe_int (pa_cons pe_int (pa_cons (pe_lc (own := [("_law_cell", 1)]) (g := gName 1) (tt := tYes) rfl sc_law_bag.nd (VB.kPiL (K := K) rfl (pe_slice (VB.kSlL (K := K) rfl) (pv 0) po_none (po_some pe_int))) (blkOk_by (N := ["_law_script", "_law_cell"]) (sc := defScope s_law_bag) (by decide +kernel)) (fun _ _ _ _ _ => pg_name (i := 1) sc_law_bag.nd rfl (Or.inl rfl)) (fun _ _ _ _ _ => pts_nil) (fun _ _ _ _ _ => (pe_callB call_abs (by rfl) T.n_abs (by decide +kernel) (pa_cons (pv 1) pa_nil)))) pa_nil))))))), ?_⟩
    refine ⟨_, rfl, 63, rfl, x, _, rfl, hS, fun p np => ?_⟩
    have ecut : cutV (ns.map V.int) none (some 63) = (cutG ns none (some 63)).map V.int := cutG_map V.int ns none (some 63)
    have hp : (upd H p (.lst (cutV (ns.map V.int) none (some 63)))) p = some (.lst ((cutG ns none (some 63)).map V.int)) := by rw [upd_same, ecut]
    generalize upd H p (.lst (cutV (ns.map V.int) none (some 63))) = H1 at hp ⊢
    have ml : (cutG ns none (some 63)).length ≤ 63 := Nat.le_trans (cutG_len ns none (some 63)) hl
    generalize cutG ns none (some 63) = ms at hp ml
    refine ⟨p, rfl, ⟨_, SqL.of hp⟩, fun D nD => ?_⟩
    have pD : p ≠ D := ne_of_none hp nD
    refine lc_list (K := K) (a := p) (xs := ms.map V.int) (fun i H2 => ∃ ks : List Int, H2 D = some (.lst (ks.map V.int)) ∧ ks.length = i ∧ (∀ k ∈ ks, 0 ≤ k) ∧ H2 p = some (.lst (ms.map V.int)))
      ⟨[], upd_same, rfl, (fun _ m => nomatch m), by rw [upd_ne pD]; exact hp⟩ (fun i H2 _ ⟨_, _, _, _, h4⟩ => SqL.of h4) ?_ ?_
    · rintro i y H2 hy ⟨ks, h1, h2, h3, h4⟩
      obtain ⟨m, rfl⟩ : ∃ m, y = V.int m := by
        rw [List.getElem?_map] at hy
        cases e : ms[i]? with
        | none =>
          rw [e] at hy
          cases hy
        | some m =>
          rw [e] at hy
          exact ⟨m, (Option.some.inj hy).symm⟩
      have hi : i < 63 := by
        have := (List.getElem?_eq_some_iff.mp hy).1
        rw [List.length_map] at this
        omega
      refine ⟨rfl, ?_⟩
      unfold tYes
      simp only [if_true]
      refine ⟨_, rfl, m, rfl, _, h1, ?_, ks ++ [if m < 0 then -m else m], ?_, ?_, ?_, ?_⟩
      · rw [List.length_map]
        have : sizeLine = 16777216 := by decide
        omega
      · rw [upd_same, List.map_append]
        rfl
      · rw [List.length_append, h2]
        rfl
      · intro k mk
        rcases List.mem_append.mp mk with z | z
        · exact h3 k z
        · rw [List.mem_singleton.mp z]
          split <;> omega
      · rw [upd_ne pD]
        exact h4
    · rintro H2 ⟨ks, h1, h2, h3, h4⟩
      refine ⟨by show 4 ≤ sizeLine; decide, fun b nb => ?_⟩
      have bD : D ≠ b := ne_of_none h1 nb
      refine q _ b D ks ⟨⟨0, 1234567891, 0, upd_same, by decide, by decide, by decide, by decide⟩, ?_, h3⟩ bD.symm
      rw [upd_ne bD]
      exact h1


/-! ### words, names, holders -/
abbrev spWord (K : PySem.W.Frag) : Sp := spA K (fun x : D => [x]) (fun x => x.sz = true) fun x d => d = .bl x.isWord
theorem ok_is_word (T : Tx K mg a) : FnOk P w K mg base CX0 1 a.f_is_word a.d_is_word ["thing"] (spWord K) := by
  refine T.F_is_word.ok (k := 0) sc_is_word (fun vs H Q E h => ?_) (fun cdv A outer s H vs Q E hr h => ?_)
  · exact spA_len h fun _ => rfl
  · refine ⟨_, PSs.nox (pss_cons (ps_if (PW.pt (pw_or (pt_not (pt_val (pe_callB (VB.kIsi (K := K) rfl) (by rfl) T.n_isinstance (by decide +kernel) (pa_cons (pv 0) (pa_cons (pe_bltn (v := .ty "str") (u := .type "str") (by rfl) T.n_str (by decide +kernel) rfl) pa_nil))))) (pw_or1 (pt_not (pt_chain op_le op_le pe_int (pe_callB (VB.kLen (K := K) rfl) (by rfl) T.n_len (by decide +kernel) (pa_cons (pv 0) pa_nil)) (pe_glob (v := .int 8) (by rfl) T.g_MOST_LETTERS ⟨_, rfl⟩)))))) (pss_one (ps_ret pe_bl)) pss_nil)
    (pss_one (ps_ret (pe_callB (VB.kAll (K := K) rfl rfl) (by rfl) T.n_all (by decide +kernel) (pa_cons (pe_lc (own := [("letter", 1)]) (g := gName 1) (tt := tYes) rfl sc_is_word.nd (pi_str (pv 0)) (blkOk_by (N := ["thing", "letter"]) (sc := defScope s_is_word) (by decide +kernel)) (fun _ _ _ _ _ => pg_name (i := 1) sc_is_word.nd rfl (Or.inl rfl)) (fun _ _ _ _ _ => pts_nil) (fun _ _ _ _ _ => (pe_cmpR op_in_sign (pv 1) (pe_glob (v := .str "abcdefghijklmnopqrstuvwxyz") (by rfl) T.g_LETTERS ⟨_, rfl⟩) (by rfl)))) pa_nil))))), body_ok h fun d pu => ?_⟩
    by_cases hs : d.isStr = true
    · obtain ⟨z, rfl⟩ : ∃ z, d = .str z := by
        cases d with
        | str z => exact ⟨z, rfl⟩
        | _ => cases hs
      have z1 : z.length ≤ 16777000 := of_decide_eq_true pu
      refine ⟨[.dat (.str z), .no], rfl, ?_⟩
      repeat walk_at "d"
      refine RC.isiStr pu ?_
      show ∃ k, D.bl true = .bl k ∧ _
      repeat walk_at "d"
      refine RC.lenS (by rw [sizeLine_eq]; omega) ?_
      repeat walk_at "d"
      have nots : ¬ (1 ≤ z.length ∧ z.length ≤ 8) → D.bl false = .bl (D.str z).isWord := fun q => by
        show D.bl false = .bl (decide (1 ≤ z.length) && (decide (z.length ≤ 8) && lwB z))
        by_cases a1 : 1 ≤ z.length
        · rw [decide_eq_true a1, decide_eq_false (fun a2 => q ⟨a1, a2⟩)]
          rfl
        · rw [decide_eq_false a1]
          rfl
      refine iteD (fun h1 => ?_) (fun h1 => ?_)
      · repeat walk_at "d"
        refine iteND (fun h8 => ?_) (fun h8 => ?_)
        · repeat walk_at "d"
          exact nots (by omega)
        · repeat walk_at "d"
          refine EV.lcS ?_
          repeat walk_at "d"
          refine ⟨z1, fun i es => es = (z.cps.toList.take i).map fun c => D.bl (decide (c ∈ LET.cps.toList)), rfl, ?_, ?_⟩
          · rintro i c es hc hl rfl
            repeat walk_at "d"
            exact (takeMap _ (by simpa using hc)).symm
          · rintro es rfl _
            repeat walk_at "d"
            rw [show z.cps.size = z.cps.toList.length by simp, List.take_length]
            refine RC.allF ?_
            show D.bl (lwB z) = .bl (decide (1 ≤ z.length) && (decide (z.length ≤ 8) && lwB z))
            rw [decide_eq_true (by omega), decide_eq_true (by omega)]
            rfl
      · repeat walk_at "d"
        exact nots (by omega)
    · have hs' : d.isStr = false := by simpa using hs
      refine ⟨[.dat d, .no], by cases d <;> first | rfl | simp [D.sz] at pu, ?_⟩
      repeat walk_at "d"
      refine RC.isiStr pu ?_
      rw [hs']
      repeat walk_at "d"
      rw [D.not_str hs']
abbrev spIsName (K : PySem.W.Frag) : Sp := spA K (fun x : D => [x]) (fun x => x.sz = true) fun x d => d = .bl x.isName
theorem ok_is_name (T : Tx K mg a) : FnOk P w K mg base CX0 2 a.f_is_name a.d_is_name ["thing"] (spIsName K) := by
  refine T.F_is_name.ok (k := 1) sc_is_name (fun vs H Q E h => ?_) (fun cdv A outer s H vs Q E hr h => ?_)
  · exact spA_len h fun _ => rfl
  · refine ⟨_, PSs.nox (pss_one (ps_ret (pe_and (pe_callB (VB.kIsi (K := K) rfl) (by rfl) T.n_isinstance (by decide +kernel) (pa_cons (pv 0) (pa_cons (pe_bltn (v := .ty "tuple") (u := .type "tuple") (by rfl) T.n_tuple (by decide +kernel) rfl) pa_nil))) (pe_one (pe_callB (VB.kAll (K := K) rfl rfl) (by rfl) T.n_all (by decide +kernel) (pa_cons (pe_lc (own := [("label", 1)]) (g := gName 1) (tt := tYes) rfl sc_is_name.nd (VB.kPiT (K := K) rfl (pv 0)) (blkOk_by (N := ["thing", "label"]) (sc := defScope s_is_name) (by decide +kernel)) (fun _ _ _ _ _ => pg_name (i := 1) sc_is_name.nd rfl (Or.inl rfl)) (fun _ _ _ _ _ => pts_nil) (fun _ _ _ _ _ => (pe_call (ok_is_word (K := K) T) (hr.mono (by decide)) (by rfl) T.m_is_word T.k_is_word T.b_is_word .nil pass0 (pa_cons (pv 1) pa_nil)))) pa_nil)))))), body_ok h fun d pu => ?_⟩
    refine ⟨[.dat d, .no], by cases d <;> first | rfl | simp [D.sz] at pu, ?_⟩
    repeat walk_at "d"
    refine RC.isiTup pu ?_
    by_cases hs : d.isTup = true
    · obtain ⟨ds, rfl⟩ : ∃ z, d = .tup z := by
        cases d with
        | tup z => exact ⟨z, rfl⟩
        | _ => cases hs
      obtain ⟨d1, d2⟩ := Bool.and_eq_true_iff.mp (show (_ && _) = true from pu)
      show ∃ k, D.bl true = .bl k ∧ _
      repeat walk_at "d"
      refine EV.lcT ?_
      repeat walk_at "d"
      refine ⟨of_decide_eq_true d1, fun i es => es = (ds.take i).map fun c => D.bl c.isWord, rfl, ?_, ?_⟩
      · rintro i c es hc hl rfl
        repeat walk_at "d"
        refine ⟨fun b m => ?_, szA_get d2 c (List.mem_of_getElem? hc), ?_⟩
        · have hcz := szA_get d2 c (List.mem_of_getElem? hc)
          rw [← List.mem_singleton.mp m] at hcz
          cases hcz
        · rintro d rfl
          exact (takeMap _ hc).symm
      · rintro es rfl _
        repeat walk_at "d"
        rw [List.take_length]
        refine RC.allF ?_
        rfl
    · have hs' : d.isTup = false := by simpa using hs
      rw [hs']
      repeat walk_at "d"
      rw [(D.not_tup hs').1]

/-! ### holders -/
abbrev spHolder (K : PySem.W.Frag) : Sp := spA K (fun x : D => [x]) (fun x => x.sz = true) fun x d => d = .bl x.isHolder
theorem ok_is_holder (T : Tx K mg a) : FnOk P w K mg base CX0 3 a.f_is_holder a.d_is_holder ["thing"] (spHolder K) := by
  refine T.F_is_holder.ok (k := 2) sc_is_holder (fun vs H Q E h => ?_) (fun cdv A outer s H vs Q E hr h => ?_)
  · exact spA_len h fun _ => rfl
  · refine ⟨_, PSs.nox (pss_one (ps_ret (pe_and (pe_callB (VB.kIsi (K := K) rfl) (by rfl) T.n_isinstance (by decide +kernel) (pa_cons (pv 0) (pa_cons (pe_bltn (v := .ty "tuple") (u := .type "tuple") (by rfl) T.n_tuple (by decide +kernel) rfl) pa_nil))) (pe_and (pe_cmpR op_eq (pe_callB (VB.kLen (K := K) rfl) (by rfl) T.n_len (by decide +kernel) (pa_cons (pv 0) pa_nil)) pe_int (nomark _)) (pe_and (pe_call (ok_is_name (K := K) T) (hr.mono (by decide)) (by rfl) T.m_is_name T.k_is_name T.b_is_name .nil pass0 (pa_cons (pe_ix (VB.kIxT (K := K) rfl) (pv 0) pe_int (fun _ _ => rfl)) pa_nil)) (pe_one (pe_call (ok_is_word (K := K) T) (hr.mono (by decide)) (by rfl) T.m_is_word T.k_is_word T.b_is_word .nil pass0 (pa_cons (pe_ix (VB.kIxT (K := K) rfl) (pv 0) pe_int (fun _ _ => rfl)) pa_nil)))))))), body_ok h fun d pu => ?_⟩
    refine ⟨[.dat d], by cases d <;> first | rfl | simp [D.sz] at pu, ?_⟩
    repeat walk_at "d"
    refine RC.isiTup pu ?_
    by_cases hs : d.isTup = true
    · obtain ⟨ds, rfl⟩ : ∃ z, d = .tup z := by
        cases d with
        | tup z => exact ⟨z, rfl⟩
        | _ => cases hs
      obtain ⟨d1, d2⟩ := Bool.and_eq_true_iff.mp (show (_ && _) = true from pu)
      show ∃ k, D.bl true = .bl k ∧ _
      repeat walk_at "d"
      have no : ds.length ≠ 2 → D.bl false = .bl (D.tup ds).isHolder := fun q => by
        match ds, q with
        | [], _ => rfl
        | [_], _ => rfl
        | [_, _], q => exact absurd rfl q
        | _ :: _ :: _ :: _, _ => rfl
      refine iteD (fun l2 => ?_) (fun l2 => no (by omega))
      obtain ⟨x, y, rfl⟩ : ∃ x y, ds = [x, y] := by
        match ds, l2 with
        | [x, y], _ => exact ⟨x, y, rfl⟩
      have zx := szA_get d2 x (List.mem_cons_self ..)
      have zy := szA_get d2 y (List.mem_cons_of_mem _ (List.mem_cons_self ..))
      repeat walk_at "d"
      refine RD.ixT (d := x) rfl ?_
      repeat walk_at "d"
      refine ⟨fun b m => ?_, zx, ?_⟩
      · rw [← List.mem_singleton.mp m] at zx
        cases zx
      · rintro _ rfl
        show ∃ k, D.bl x.isName = .bl k ∧ _
        repeat walk_at "d"
        by_cases hx : x.isName = true
        · rw [hx, if_pos rfl]
          refine EV.call ?_
          repeat walk_at "d"
          refine RD.ixT (d := y) rfl ?_
          repeat walk_at "d"
          refine ⟨fun b m => ?_, zy, ?_⟩
          · rw [← List.mem_singleton.mp m] at zy
            cases zy
          · rintro _ rfl
            show D.bl y.isWord = .bl (x.isName && y.isWord)
            rw [hx]
            rfl
        · have hx : x.isName = false := by simpa using hx
          rw [hx, if_neg Bool.false_ne_true]
          show D.bl false = .bl (x.isName && y.isWord)
          rw [hx]
          rfl
    · have hs' : d.isTup = false := by simpa using hs
      rw [hs']
      repeat walk_at "d"
      rw [(D.not_tup hs').2]


/-! ### integers, days, counts, pairs -/
abbrev spIsInteger (K : PySem.W.Frag) : Sp := spA K (fun x : D => [x]) (fun x => x.sz = true) fun x d => d = .bl x.isI
theorem ok_is_integer (T : Tx K mg a) : FnOk P w K mg base CX0 1 a.f_is_integer a.d_is_integer ["thing"] (spIsInteger K) := by
  refine T.F_is_integer.ok (k := 0) sc_is_integer (fun vs H Q E h => ?_) (fun cdv A outer s H vs Q E hr h => ?_)
  · exact spA_len h fun _ => rfl
  · refine ⟨_, PSs.nox (pss_one (ps_ret (pe_and (pe_callB (VB.kIsi (K := K) rfl) (by rfl) T.n_isinstance (by decide +kernel) (pa_cons (pv 0) (pa_cons (pe_bltn (v := .ty "int") (u := .type "int") (by rfl) T.n_int (by decide +kernel) rfl) pa_nil))) (pe_one (pe_not (pe_callB (VB.kIsi (K := K) rfl) (by rfl) T.n_isinstance (by decide +kernel) (pa_cons (pv 0) (pa_cons (pe_bltn (v := .ty "bool") (u := .type "bool") (by rfl) T.n_bool (by decide +kernel) rfl) pa_nil)))))))), body_ok h fun d pu => ?_⟩
    refine ⟨[.dat d], by cases d <;> first | rfl | simp [D.sz] at pu, ?_⟩
    repeat walk_at "d"
    refine RC.isiInt pu ?_
    by_cases h1 : d.isInt = true
    · rw [h1]
      repeat walk_at "d"
      refine RC.isiBl pu ?_
      repeat walk_at "d"
      show D.bl (!d.isBl) = .bl d.isI
      cases d <;> first | rfl | cases h1
    · have h1 : d.isInt = false := by simpa using h1
      rw [h1]
      repeat walk_at "d"
      show D.bl false = .bl d.isI
      cases d <;> first | rfl | cases h1
theorem sz_one {d : D} (h : d.sz = true) : ∀ b, D.raw b ∈ [d] → En.bag b ∈ ([] : List En) := fun b m => by
  rw [← List.mem_singleton.mp m] at h
  cases h
theorem sz_raw {d : D} (h : d.sz = true) {ρ : List En} : ∀ b, D.raw b ∈ [d] → En.bag b ∈ ρ := fun b m => by
  rw [← List.mem_singleton.mp m] at h
  cases h
theorem isI_at {d : D} (h : d.isI = true) : ∃ i, d = .int i := by
  cases d with
  | int i => exact ⟨i, rfl⟩
  | _ => cases h
theorem notI_inR {d : D} {lo hi : Int} (h : d.isI = false) : d.inR lo hi = false := by
  cases d with
  | int i => cases h
  | _ => rfl
abbrev spIsDay (K : PySem.W.Frag) : Sp := spA K (fun x : D => [x]) (fun x => x.sz = true) fun x d => d = .bl (x.inR 0 1000000000)
theorem ok_is_day (T : Tx K mg a) : FnOk P w K mg base CX0 2 a.f_is_day a.d_is_day ["thing"] (spIsDay K) := by
  refine T.F_is_day.ok (k := 1) sc_is_day (fun vs H Q E h => ?_) (fun cdv A outer s H vs Q E hr h => ?_)
  · exact spA_len h fun _ => rfl
  · refine ⟨_, PSs.nox (pss_one (ps_ret (pe_and (pe_call (ok_is_integer (K := K) T) (hr.mono (by decide)) (by rfl) T.m_is_integer T.k_is_integer T.b_is_integer .nil pass0 (pa_cons (pv 0) pa_nil)) (pe_one (pe_chain op_le op_le pe_int (pv 0) (pe_glob (v := .int 1000000000) (by rfl) T.g_LAST_DAY ⟨_, rfl⟩)))))), body_ok h fun d pu => ?_⟩
    refine ⟨[.dat d], by cases d <;> first | rfl | simp [D.sz] at pu, ?_⟩
    repeat walk_at "d"
    refine ⟨sz_raw pu, pu, ?_⟩
    rintro _ rfl
    by_cases h1 : d.isI = true
    · obtain ⟨i, rfl⟩ := isI_at h1
      show ∃ k, D.bl true = .bl k ∧ _
      repeat walk_at "d"
      refine iteD (fun h0 => ?_) (fun h0 => ?_)
      · repeat walk_at "d"
        show D.bl _ = D.bl (decide (0 ≤ i) && decide (i ≤ 1000000000))
        rw [decide_eq_true h0]
        rfl
      · show D.bl _ = D.bl (decide (0 ≤ i) && decide (i ≤ 1000000000))
        rw [decide_eq_false h0]
        rfl
    · have h1 : d.isI = false := by simpa using h1
      rw [h1]
      repeat walk_at "d"
      rw [notI_inR h1]
abbrev spIsCount (K : PySem.W.Frag) : Sp := spA K (fun x : D => [x]) (fun x => x.sz = true) fun x d => d = .bl (x.isN || x.inR 0 8)
theorem ok_is_count (T : Tx K mg a) : FnOk P w K mg base CX0 2 a.f_is_count a.d_is_count ["thing"] (spIsCount K) := by
  refine T.F_is_count.ok (k := 1) sc_is_count (fun vs H Q E h => ?_) (fun cdv A outer s H vs Q E hr h => ?_)
  · exact spA_len h fun _ => rfl
  · refine ⟨_, PSs.nox (pss_one (ps_ret (pe_or (pe_cmpR op_isN (pv 0) pe_non (nomark _)) (pe_one (pe_and (pe_call (ok_is_integer (K := K) T) (hr.mono (by decide)) (by rfl) T.m_is_integer T.k_is_integer T.b_is_integer .nil pass0 (pa_cons (pv 0) pa_nil)) (pe_one (pe_chain op_le op_le pe_int (pv 0) (pe_glob (v := .int 8) (by rfl) T.g_MOST_COUNT ⟨_, rfl⟩)))))))), body_ok h fun d pu => ?_⟩
    refine ⟨[.dat d], by cases d <;> first | rfl | simp [D.sz] at pu, ?_⟩
    repeat walk_at "d"
    by_cases hn : d.isN = true
    · rw [hn]
      repeat walk_at "d"
      rfl
    have hn : d.isN = false := by simpa using hn
    rw [hn]
    repeat walk_at "d"
    refine ⟨sz_raw pu, pu, ?_⟩
    rintro _ rfl
    by_cases h1 : d.isI = true
    · obtain ⟨i, rfl⟩ := isI_at h1
      show ∃ k, D.bl true = .bl k ∧ _
      repeat walk_at "d"
      refine iteD (fun h0 => ?_) (fun h0 => ?_)
      · repeat walk_at "d"
        show D.bl _ = D.bl (false || (decide (0 ≤ i) && decide (i ≤ 8)))
        rw [decide_eq_true h0]
        rfl
      · show D.bl _ = D.bl (false || (decide (0 ≤ i) && decide (i ≤ 8)))
        rw [decide_eq_false h0]
        rfl
    · have h1 : d.isI = false := by simpa using h1
      rw [h1]
      repeat walk_at "d"
      rw [notI_inR h1]
      rfl
abbrev spIsPair (K : PySem.W.Frag) : Sp := spA K (fun x : D => [x]) (fun x => x.sz = true) fun x d => d = .bl x.isPair
theorem ok_is_pair (T : Tx K mg a) : FnOk P w K mg base CX0 2 a.f_is_pair a.d_is_pair ["thing"] (spIsPair K) := by
  refine T.F_is_pair.ok (k := 1) sc_is_pair (fun vs H Q E h => ?_) (fun cdv A outer s H vs Q E hr h => ?_)
  · exact spA_len h fun _ => rfl
  · refine ⟨_, PSs.nox (pss_one (ps_ret (pe_and (pe_callB (VB.kIsi (K := K) rfl) (by rfl) T.n_isinstance (by decide +kernel) (pa_cons (pv 0) (pa_cons (pe_bltn (v := .ty "tuple") (u := .type "tuple") (by rfl) T.n_tuple (by decide +kernel) rfl) pa_nil))) (pe_and (pe_cmpR op_eq (pe_callB (VB.kLen (K := K) rfl) (by rfl) T.n_len (by decide +kernel) (pa_cons (pv 0) pa_nil)) pe_int (nomark _)) (pe_and (pe_call (ok_is_word (K := K) T) (hr.mono (by decide)) (by rfl) T.m_is_word T.k_is_word T.b_is_word .nil pass0 (pa_cons (pe_ix (VB.kIxT (K := K) rfl) (pv 0) pe_int (fun _ _ => rfl)) pa_nil)) (pe_one (pe_call (ok_is_word (K := K) T) (hr.mono (by decide)) (by rfl) T.m_is_word T.k_is_word T.b_is_word .nil pass0 (pa_cons (pe_ix (VB.kIxT (K := K) rfl) (pv 0) pe_int (fun _ _ => rfl)) pa_nil)))))))), body_ok h fun d pu => ?_⟩
    refine ⟨[.dat d], by cases d <;> first | rfl | simp [D.sz] at pu, ?_⟩
    repeat walk_at "d"
    refine RC.isiTup pu ?_
    by_cases hs : d.isTup = true
    · obtain ⟨ds, rfl⟩ : ∃ z, d = .tup z := by
        cases d with
        | tup z => exact ⟨z, rfl⟩
        | _ => cases hs
      obtain ⟨d1, d2⟩ := Bool.and_eq_true_iff.mp (show (_ && _) = true from pu)
      show ∃ k, D.bl true = .bl k ∧ _
      repeat walk_at "d"
      have no : ds.length ≠ 2 → D.bl false = .bl (D.tup ds).isPair := fun q => by
        match ds, q with
        | [], _ => rfl
        | [_], _ => rfl
        | [_, _], q => exact absurd rfl q
        | _ :: _ :: _ :: _, _ => rfl
      refine iteD (fun l2 => ?_) (fun l2 => no (by omega))
      obtain ⟨x, y, rfl⟩ : ∃ x y, ds = [x, y] := by
        match ds, l2 with
        | [x, y], _ => exact ⟨x, y, rfl⟩
      have zx := szA_get d2 x (List.mem_cons_self ..)
      have zy := szA_get d2 y (List.mem_cons_of_mem _ (List.mem_cons_self ..))
      repeat walk_at "d"
      refine RD.ixT (d := x) rfl ?_
      repeat walk_at "d"
      refine ⟨sz_raw zx, zx, ?_⟩
      rintro _ rfl
      show ∃ k, D.bl x.isWord = .bl k ∧ _
      repeat walk_at "d"
      by_cases hx : x.isWord = true
      · rw [hx, if_pos rfl]
        repeat walk_at "d"
        refine RD.ixT (d := y) rfl ?_
        repeat walk_at "d"
        refine ⟨sz_raw zy, zy, ?_⟩
        rintro _ rfl
        show D.bl y.isWord = .bl (x.isWord && y.isWord)
        rw [hx]
        rfl
      · have hx : x.isWord = false := by simpa using hx
        rw [hx, if_neg Bool.false_ne_true]
        show D.bl false = .bl (x.isWord && y.isWord)
        rw [hx]
        rfl
    · have hs' : d.isTup = false := by simpa using hs
      rw [hs']
      repeat walk_at "d"
      cases d <;> first | rfl | cases hs'


/-! ### the law's own looks -/
abbrev spWithin (K : PySem.W.Frag) : Sp := spA K (fun x : D × Int × Int => [x.1, .int x.2.1, .int x.2.2]) (fun x => x.1.sz = true) fun x d => d = .bl (x.1.inR x.2.1 x.2.2)
theorem ok_law_within (T : Tx K mg a) : FnOk P w K mg base CX0 1 a.f_law_within a.d_law_within ["_law_thing_here", "_law_low", "_law_high"] (spWithin K) := by
  refine T.F_law_within.ok (k := 0) sc_law_within (fun vs H Q E h => ?_) (fun cdv A outer s H vs Q E hr h => ?_)
  · exact spA_len h fun _ => rfl
  · refine ⟨_, PSs.nox (pss_one (ps_ret (pe_and (pe_callB (VB.kIsi (K := K) rfl) (by rfl) T.n_isinstance (by decide +kernel) (pa_cons (pv 0) (pa_cons (pe_bltn (v := .ty "int") (u := .type "int") (by rfl) T.n_int (by decide +kernel) rfl) pa_nil))) (pe_and (pe_not (pe_callB (VB.kIsi (K := K) rfl) (by rfl) T.n_isinstance (by decide +kernel) (pa_cons (pv 0) (pa_cons (pe_bltn (v := .ty "bool") (u := .type "bool") (by rfl) T.n_bool (by decide +kernel) rfl) pa_nil)))) (pe_one (pe_chain op_le op_le (pv 1) (pv 0) (pv 2))))))), body_ok h fun ⟨d, lo, hi⟩ pu => ?_⟩
    have pu : d.sz = true := pu
    refine ⟨[.dat d, .dat (.int lo), .dat (.int hi)], by cases d <;> first | rfl | simp [D.sz] at pu, ?_⟩
    repeat walk_at "d"
    refine RC.isiInt pu ?_
    by_cases h1 : d.isInt = true
    · rw [h1]
      repeat walk_at "d"
      refine RC.isiBl pu ?_
      repeat walk_at "d"
      by_cases h2 : d.isBl = true
      · rw [h2]
        repeat walk_at "d"
        show D.bl false = .bl (d.inR lo hi)
        cases d <;> first | rfl | cases h2
      · have h2 : d.isBl = false := by simpa using h2
        rw [h2]
        obtain ⟨i, rfl⟩ : ∃ i, d = .int i := by
          cases d with
          | int i => exact ⟨i, rfl⟩
          | bl b => cases h2
          | _ => cases h1
        show if true = true then _ else _
        repeat walk_at "d"
        refine iteD (fun h0 => ?_) (fun h0 => ?_)
        · repeat walk_at "d"
          show D.bl _ = D.bl (decide (lo ≤ i) && decide (i ≤ hi))
          rw [decide_eq_true h0]
          rfl
        · show D.bl _ = D.bl (decide (lo ≤ i) && decide (i ≤ hi))
          rw [decide_eq_false h0]
          rfl
    · have h1 : d.isInt = false := by simpa using h1
      rw [h1]
      repeat walk_at "d"
      show D.bl false = .bl (d.inR lo hi)
      cases d <;> first | rfl | cases h1
theorem takeFilt {α β : Type} (p : α → Bool) (f : α → β) {xs : List α} {i : Nat} {x : α} (h : xs[i]? = some x) : ((xs.take (i + 1)).filter p).map f = ((xs.take i).filter p).map f ++ if p x = true then [f x] else [] := by
  rw [List.take_add_one, h, List.filter_append, List.map_append]
  congr 1
  show ([x].filter p).map f = _
  by_cases q : p x = true
  · rw [if_pos q, List.filter_cons_of_pos q]
    rfl
  · rw [if_neg q, List.filter_cons_of_neg q]
    rfl
theorem filt_all {α β : Type} (p : α → Bool) (f : α → β) (xs : List α) : ((xs.filter fun c => !p c).map f).isEmpty = xs.all p := by
  rw [List.isEmpty_map, Bool.eq_iff_iff, List.isEmpty_iff, List.filter_eq_nil_iff, List.all_eq_true]
  constructor
  · intro q c m
    simpa using q c m
  · intro q c m
    simpa using q c m
abbrev spLWord (K : PySem.W.Frag) : Sp := spA K (fun x : D => [x]) (fun x => x.sz = true) fun x d => d = .bl x.isWord
theorem ok_law_is_word (T : Tx K mg a) : FnOk P w K mg base CX0 1 a.f_law_is_word a.d_law_is_word ["_law_thing_here"] (spLWord K) := by
  refine T.F_law_is_word.ok (k := 0) sc_law_is_word (fun vs H Q E h => ?_) (fun cdv A outer s H vs Q E hr h => ?_)
  · exact spA_len h fun _ => rfl
  · refine ⟨_, PSs.nox (pss_cons (ps_if (PW.pt (pw_or (pt_not (pt_val (pe_callB (VB.kIsi (K := K) rfl) (by rfl) T.n_isinstance (by decide +kernel) (pa_cons (pv 0) (pa_cons (pe_bltn (v := .ty "str") (u := .type "str") (by rfl) T.n_str (by decide +kernel) rfl) pa_nil))))) (pw_or (pt_cmpR op_lt (pe_callB (VB.kLen (K := K) rfl) (by rfl) T.n_len (by decide +kernel) (pa_cons (pv 0) pa_nil)) pe_int (nomark _)) (pw_or1 (pt_cmpR op_gt (pe_callB (VB.kLen (K := K) rfl) (by rfl) T.n_len (by decide +kernel) (pa_cons (pv 0) pa_nil)) pe_int (nomark _)))))) (pss_one (ps_ret pe_bl)) pss_nil)
    (pss_one (ps_ret (pe_cmpR (VB.op_eqNil hr.units) (pe_lc (own := [("_law_sign", 1)]) (g := gName 1) rfl sc_law_is_word.nd (pi_str (pv 0)) (blkOk_by (N := ["_law_thing_here", "_law_sign"]) (sc := defScope s_law_is_word) (by decide +kernel)) (fun _ _ _ _ _ => pg_name (i := 1) sc_law_is_word.nd rfl (Or.inl rfl)) (fun _ _ _ _ _ => pts_one (pt_cmpR op_notIn_sign (pv 1) pe_str (by rfl))) (fun _ _ _ _ _ => (pv 1))) (pe_lst pa_nil) (nomark _))))), body_ok h fun d pu => ?_⟩
    by_cases hs : d.isStr = true
    · obtain ⟨z, rfl⟩ : ∃ z, d = .str z := by
        cases d with
        | str z => exact ⟨z, rfl⟩
        | _ => cases hs
      have z1 : z.length ≤ 16777000 := of_decide_eq_true pu
      refine ⟨[.dat (.str z), .no], rfl, ?_⟩
      repeat walk_at "d"
      refine RC.isiStr pu ?_
      show ∃ k, D.bl true = .bl k ∧ _
      repeat walk_at "d"
      have nots : ¬ (1 ≤ z.length ∧ z.length ≤ 8) → D.bl false = .bl (D.str z).isWord := fun q => by
        show D.bl false = .bl (decide (1 ≤ z.length) && (decide (z.length ≤ 8) && lwB z))
        by_cases a1 : 1 ≤ z.length
        · rw [decide_eq_true a1, decide_eq_false (fun a2 => q ⟨a1, a2⟩)]
          rfl
        · rw [decide_eq_false a1]
          rfl
      refine RC.lenS (by rw [sizeLine_eq]; omega) ?_
      repeat walk_at "d"
      refine iteD (fun h1 => ?_) (fun h1 => ?_)
      · repeat walk_at "d"
        exact nots (by omega)
      repeat walk_at "d"
      refine RC.lenS (by rw [sizeLine_eq]; omega) ?_
      repeat walk_at "d"
      refine iteD (fun h8 => ?_) (fun h8 => ?_)
      · repeat walk_at "d"
        exact nots (by omega)
      repeat walk_at "d"
      refine EV.lcS ?_
      repeat walk_at "d"
      refine ⟨z1, fun i es => es = ((z.cps.toList.take i).filter fun c => !decide (c ∈ LET.cps.toList)).map fun c => D.str ⟨#[c]⟩, rfl, ?_, ?_⟩
      · rintro i c es hc hl rfl
        repeat walk_at "d"
        have e := takeFilt (fun c => !decide (c ∈ LET.cps.toList)) (fun c => D.str ⟨#[c]⟩) (xs := z.cps.toList) (i := i) (x := c) (by simpa using hc)
        by_cases hm : c ∈ LET.cps.toList
        · rw [decide_eq_true hm] at e ⊢
          repeat walk_at "d"
          refine Eq.trans ?_ e.symm
          simp
        · rw [decide_eq_false hm] at e ⊢
          repeat walk_at "d"
          refine Eq.trans ?_ e.symm
          simp
      · rintro es rfl _
        repeat walk_at "d"
        rw [show z.cps.size = z.cps.toList.length by simp, List.take_length, filt_all]
        show D.bl (lwB z) = .bl (decide (1 ≤ z.length) && (decide (z.length ≤ 8) && lwB z))
        rw [decide_eq_true (by omega), decide_eq_true (by omega)]
        rfl
    · have hs' : d.isStr = false := by simpa using hs
      refine ⟨[.dat d, .no], by cases d <;> first | rfl | simp [D.sz] at pu, ?_⟩
      repeat walk_at "d"
      refine RC.isiStr pu ?_
      rw [hs']
      repeat walk_at "d"
      rw [D.not_str hs']
abbrev spLName (K : PySem.W.Frag) : Sp := spA K (fun x : D => [x]) (fun x => x.sz = true) fun x d => d = .bl x.isName
theorem ok_law_is_name (T : Tx K mg a) : FnOk P w K mg base CX0 2 a.f_law_is_name a.d_law_is_name ["_law_thing_here"] (spLName K) := by
  refine T.F_law_is_name.ok (k := 1) sc_law_is_name (fun vs H Q E h => ?_) (fun cdv A outer s H vs Q E hr h => ?_)
  · exact spA_len h fun _ => rfl
  · refine ⟨_, PSs.nox (pss_one (ps_ret (pe_and (pe_callB (VB.kIsi (K := K) rfl) (by rfl) T.n_isinstance (by decide +kernel) (pa_cons (pv 0) (pa_cons (pe_bltn (v := .ty "tuple") (u := .type "tuple") (by rfl) T.n_tuple (by decide +kernel) rfl) pa_nil))) (pe_one (pe_cmpR (VB.op_eqNil hr.units) (pe_lc (own := [("_law_part", 1)]) (g := gName 1) rfl sc_law_is_name.nd (VB.kPiT (K := K) rfl (pv 0)) (blkOk_by (N := ["_law_thing_here", "_law_part"]) (sc := defScope s_law_is_name) (by decide +kernel)) (fun _ _ _ _ _ => pg_name (i := 1) sc_law_is_name.nd rfl (Or.inl rfl)) (fun _ _ _ _ _ => pts_one (pt_not (pt_val (pe_call (ok_law_is_word (K := K) T) (hr.mono (by decide)) (by rfl) T.m_law_is_word T.k_law_is_word T.b_law_is_word .nil pass0 (pa_cons (pv 1) pa_nil))))) (fun _ _ _ _ _ => (pv 1))) (pe_lst pa_nil) (nomark _)))))), body_ok h fun d pu => ?_⟩
    refine ⟨[.dat d, .no], by cases d <;> first | rfl | simp [D.sz] at pu, ?_⟩
    repeat walk_at "d"
    refine RC.isiTup pu ?_
    by_cases hs : d.isTup = true
    · obtain ⟨ds, rfl⟩ : ∃ z, d = .tup z := by
        cases d with
        | tup z => exact ⟨z, rfl⟩
        | _ => cases hs
      obtain ⟨d1, d2⟩ := Bool.and_eq_true_iff.mp (show (_ && _) = true from pu)
      show ∃ k, D.bl true = .bl k ∧ _
      repeat walk_at "d"
      refine EV.lcT ?_
      repeat walk_at "d"
      refine ⟨of_decide_eq_true d1, fun i es => es = ((ds.take i).filter fun c => !c.isWord).map id, rfl, ?_, ?_⟩
      · rintro i c es hc hl rfl
        repeat walk_at "d"
        have hcz := szA_get d2 c (List.mem_of_getElem? hc)
        refine ⟨sz_raw hcz, hcz, ?_⟩
        rintro _ rfl
        have e := takeFilt (fun c => !c.isWord) id hc
        show ∃ k, D.bl c.isWord = .bl k ∧ _
        repeat walk_at "d"
        by_cases hm : c.isWord = true
        · rw [hm] at e ⊢
          repeat walk_at "d"
          refine Eq.trans ?_ e.symm
          simp
        · have hm : c.isWord = false := by simpa using hm
          rw [hm] at e ⊢
          repeat walk_at "d"
          refine Eq.trans ?_ e.symm
          simp
      · rintro es rfl _
        repeat walk_at "d"
        rw [List.take_length, filt_all]
        rfl
    · have hs' : d.isTup = false := by simpa using hs
      rw [hs']
      repeat walk_at "d"
      rw [(D.not_tup hs').1]
abbrev spCouple (K : PySem.W.Frag) : Sp := spA K (fun x : D => [x]) (fun x => x.sz = true) fun x d => d = .bl x.isTwo
theorem ok_law_is_couple (T : Tx K mg a) : FnOk P w K mg base CX0 1 a.f_law_is_couple a.d_law_is_couple ["_law_thing_here"] (spCouple K) := by
  refine T.F_law_is_couple.ok (k := 0) sc_law_is_couple (fun vs H Q E h => ?_) (fun cdv A outer s H vs Q E hr h => ?_)
  · exact spA_len h fun _ => rfl
  · refine ⟨_, PSs.nox (pss_one (ps_ret (pe_and (pe_callB (VB.kIsi (K := K) rfl) (by rfl) T.n_isinstance (by decide +kernel) (pa_cons (pv 0) (pa_cons (pe_bltn (v := .ty "tuple") (u := .type "tuple") (by rfl) T.n_tuple (by decide +kernel) rfl) pa_nil))) (pe_one (pe_cmpR op_eq (pe_callB (VB.kLen (K := K) rfl) (by rfl) T.n_len (by decide +kernel) (pa_cons (pv 0) pa_nil)) pe_int (nomark _)))))), body_ok h fun d pu => ?_⟩
    refine ⟨[.dat d], by cases d <;> first | rfl | simp [D.sz] at pu, ?_⟩
    repeat walk_at "d"
    refine RC.isiTup pu ?_
    by_cases hs : d.isTup = true
    · obtain ⟨ds, rfl⟩ : ∃ z, d = .tup z := by
        cases d with
        | tup z => exact ⟨z, rfl⟩
        | _ => cases hs
      show ∃ k, D.bl true = .bl k ∧ _
      repeat walk_at "d"
      match ds with
      | [] => exact congrArg D.bl (decide_eq_false (by decide))
      | [_] => exact congrArg D.bl (decide_eq_false (by simp))
      | [_, _] => exact congrArg D.bl (decide_eq_true (by simp))
      | _ :: _ :: _ :: _ => exact congrArg D.bl (decide_eq_false (by simp; omega))
    · have hs' : d.isTup = false := by simpa using hs
      rw [hs']
      repeat walk_at "d"
      cases d <;> first | rfl | cases hs'


/-! ### drawn numbers, texts, names -/
abbrev spNumber (K : PySem.W.Frag) : Sp := spA K (fun x : Addr => [.raw x]) (fun _ => True) fun _ d => ∃ i : Int, d = .int i ∧ i.natAbs < 10 ^ 45
theorem ok_law_number (T : Tx K mg a) : FnOk P w K mg base CX0 2 a.f_law_number a.d_law_number ["_law_bag_here"] (spNumber K) := by
  refine T.F_law_number.ok (k := 1) sc_law_number (fun vs H Q E h => ?_) (fun cdv A outer s H vs Q E hr h => ?_)
  · exact spA_len h fun _ => rfl
  · refine ⟨_, PSs.nox (pss_cons (ps_set (i := 1) sc_law_number.nd rfl (Or.inl rfl) (pe_lst (pa_cons pe_int (pa_cons pe_int (pa_cons (pe_op op_pow pe_int pe_int) (pa_cons (pe_call (ok_law_take (K := K) T) (hr.mono (by decide)) (by rfl) T.m_law_take T.k_law_take T.b_law_take .nil pass0 (pa_cons (pv 0) (pa_cons (pe_op op_add (pe_op op_pow pe_int pe_int) pe_int) pa_nil))) (pa_cons (pe_call (ok_law_take (K := K) T) (hr.mono (by decide)) (by rfl) T.m_law_take T.k_law_take T.b_law_take .nil pass0 (pa_cons (pv 0) (pa_cons (pe_op op_pow pe_int pe_int) pa_nil))) (pa_cons (pe_op op_sub pe_int (pe_call (ok_law_take (K := K) T) (hr.mono (by decide)) (by rfl) T.m_law_take T.k_law_take T.b_law_take .nil pass0 (pa_cons (pv 0) (pa_cons (pe_op op_pow pe_int pe_int) pa_nil)))) (pa_cons pe_int pa_nil)))))))))
    (pss_one (ps_ret (pe_op op_sub (pe_op op_add (pe_ix (VB.kIxL (K := K) rfl) (pv 1) (pe_call (ok_law_take (K := K) T) (hr.mono (by decide)) (by rfl) T.m_law_take T.k_law_take T.b_law_take .nil pass0 (pa_cons (pv 0) (pa_cons pe_int pa_nil))) (fun _ _ => rfl)) (pe_call (ok_law_take (K := K) T) (hr.mono (by decide)) (by rfl) T.m_law_take T.k_law_take T.b_law_take .nil pass0 (pa_cons (pv 0) (pa_cons pe_int pa_nil)))) pe_int)))), body_ok h fun b _ => ?_⟩
    refine ⟨[.bag b, .no], rfl, ?_⟩
    have e9 : (10 : Int) ^ (9 : Int).toNat = 1000000000 := by decide +kernel
    have e30 : (10 : Int) ^ (30 : Int).toNat = 10 ^ 30 := by decide +kernel
    repeat walk_at "d"
    rw [e9]
    refine ⟨by decide, by decide +kernel, fun r1 a0 a1 => ?_⟩
    repeat walk_at "d"
    rw [e30]
    refine ⟨by decide +kernel, by decide +kernel, fun r2 b0 b1 => ?_⟩
    repeat walk_at "d"
    rw [e30]
    refine ⟨by decide +kernel, by decide +kernel, fun r3 c0 c1 => ?_⟩
    repeat walk_at "d"
    refine ⟨by decide, by decide, fun k k0 k1 => ?_⟩
    have e45 : (10 : Int) ^ 30 + 10 < 10 ^ 45 := by decide +kernel
    have big : ((10 ^ 45 : Nat) : Int) = (10 : Int) ^ 45 := by decide +kernel
    have big2 : (2000000000 : Int) < 10 ^ 45 := by decide +kernel
    obtain ⟨i, ei, hi⟩ : ∃ i, atI [D.int 0, D.int 8, D.int 1000000000, D.int r1, D.int r2, D.int (0 - r3), D.int 40] k = some (.int i) ∧ -(10 ^ 30 : Int) - 2 ≤ i ∧ i + 5 < 10 ^ 45 := by
      have : k = 0 ∨ k = 1 ∨ k = 2 ∨ k = 3 ∨ k = 4 ∨ k = 5 ∨ k = 6 := by omega
      generalize (10 : Int) ^ 30 = X at *
      generalize (10 : Int) ^ 45 = Y at *
      rcases this with rfl | rfl | rfl | rfl | rfl | rfl | rfl
      · exact ⟨_, rfl, by omega, by omega⟩
      · exact ⟨_, rfl, by omega, by omega⟩
      · exact ⟨_, rfl, by omega, by omega⟩
      · exact ⟨_, rfl, by omega, by omega⟩
      · exact ⟨_, rfl, by omega, by omega⟩
      · exact ⟨_, rfl, by omega, by omega⟩
      · exact ⟨_, rfl, by omega, by omega⟩
    refine RD.ixL ei ?_
    repeat walk_at "d"
    refine ⟨by decide, by decide, fun t t0 t1 => ?_⟩
    repeat walk_at "d"
    have e45' : ((10 ^ 45 : Nat) : Int) = (10 : Int) ^ 45 := big
    generalize (10 : Nat) ^ 45 = Z at *
    generalize (10 : Int) ^ 30 = X at *
    generalize (10 : Int) ^ 45 = Y at *
    omega
theorem addF {K : PySem.W.Frag} {P : D → Prop} {x y : Str} (hz : x.length + y.length ≤ sizeLine) (hf : (decide (1 ≤ (x ++ y).length) && (decide ((x ++ y).length ≤ 1000) && smB (x ++ y))) = true) (p : ∀ z : Str, 1 ≤ z.length → z.length ≤ 1000 → Sm z → P (.str z)) :
    VB.RD K (fun x y H Q => ∃ i j, x = .str i ∧ y = .str j ∧ i.length + j.length ≤ sizeLine ∧ Q (.str (i ++ j)) H) (.str x) (.str y) P := by
  obtain ⟨h1, h2⟩ := Bool.and_eq_true_iff.mp hf
  obtain ⟨h2, h3⟩ := Bool.and_eq_true_iff.mp h2
  exact RD.addS hz (p _ (of_decide_eq_true h1) (of_decide_eq_true h2) (smB_iff.mp h3).2)
abbrev Tx11 (z : Str) : Prop := z.length ≤ 11 ∧ Sm z
abbrev spText (K : PySem.W.Frag) : Sp := spA K (fun x : Addr => [.raw x]) (fun _ => True) fun _ d => ∃ z : Str, d = .str z ∧ Tx11 z
theorem ok_law_text (T : Tx K mg a) : FnOk P w K mg base CX0 2 a.f_law_text a.d_law_text ["_law_bag_here"] (spText K) := by
  refine T.F_law_text.ok (k := 1) sc_law_text (fun vs H Q E h => ?_) (fun cdv A outer s H vs Q E hr h => ?_)
  · exact spA_len h fun _ => rfl
  · refine ⟨_, PSs.nox (pss_cons (ps_set (i := 1) sc_law_text.nd rfl (Or.inr rfl) pe_str)
    (pss_cons (ps_set (i := 2) sc_law_text.nd rfl (Or.inl rfl) (pe_op op_add_str pe_str (pe_upper (pv 1))))
    (pss_cons (ps_set (i := 3) sc_law_text.nd rfl (Or.inl rfl) (pe_ix (VB.kIxL (K := K) rfl) (pe_lst (pa_cons (pe_call (ok_law_take (K := K) T) (hr.mono (by decide)) (by rfl) T.m_law_take T.k_law_take T.b_law_take .nil pass0 (pa_cons (pv 0) (pa_cons pe_int pa_nil))) (pa_cons pe_int (pa_cons pe_int (pa_cons pe_int (pa_cons pe_int pa_nil)))))) (pe_call (ok_law_take (K := K) T) (hr.mono (by decide)) (by rfl) T.m_law_take T.k_law_take T.b_law_take .nil pass0 (pa_cons (pv 0) (pa_cons pe_int pa_nil))) (fun _ _ => rfl)))
    (pss_cons (ps_set (i := 4) sc_law_text.nd rfl (Or.inl rfl) (VB.kJoin (K := K) rfl pe_str (pe_lc (own := [("_law_k", 6)]) (g := gName 6) (tt := tYes) rfl sc_law_text.nd (pi_range1 rfl T.n_range (pa_cons (pv 3) pa_nil)) (blkOk_by (N := ["_law_bag_here", "_law_letters", "_law_others", "_law_many", "_law_text_here", "_law_spot", "_law_k"]) (sc := defScope s_law_text) (by decide +kernel)) (fun _ _ _ _ _ => pg_name (i := 6) sc_law_text.nd rfl (Or.inl rfl)) (fun _ _ _ _ _ => pts_nil) (fun _ _ _ _ _ => (pe_ix ix_str (pv 1) (pe_call (ok_law_take (K := K) T) (hr.mono (by decide)) (by rfl) T.m_law_take T.k_law_take T.b_law_take .nil pass0 (pa_cons (pv 0) (pa_cons pe_int pa_nil))) (fun _ _ => rfl))))))
    (pss_cons (ps_if (PW.pt (pw_or (pt_cmpR op_eq (pv 4) pe_str (nomark _)) (pw_or1 (pt_cmpR op_gt (pe_call (ok_law_take (K := K) T) (hr.mono (by decide)) (by rfl) T.m_law_take T.k_law_take T.b_law_take .nil pass0 (pa_cons (pv 0) (pa_cons pe_int pa_nil))) pe_int (nomark _))))) (pss_one (ps_ret (pv 4))) pss_nil)
    (pss_cons (ps_set (i := 5) sc_law_text.nd rfl (Or.inl rfl) (pe_call (ok_law_take (K := K) T) (hr.mono (by decide)) (by rfl) T.m_law_take T.k_law_take T.b_law_take .nil pass0 (pa_cons (pv 0) (pa_cons (pv 3) pa_nil))))
    (pss_one (ps_ret (pe_op op_add_str (pe_op op_add_str (pe_slice sl_str (pv 4) po_none (po_some (pv 5))) (pe_ix ix_str (pv 2) (pe_call (ok_law_take (K := K) T) (hr.mono (by decide)) (by rfl) T.m_law_take T.k_law_take T.b_law_take .nil pass0 (pa_cons (pv 0) (pa_cons (pe_callB (VB.kLen (K := K) rfl) (by rfl) T.n_len (by decide +kernel) (pa_cons (pv 2) pa_nil)) pa_nil))) (fun _ _ => rfl))) (pe_slice sl_str (pv 4) (po_some (pe_op op_add (pv 5) pe_int)) po_none)))))))))), body_ok h fun b _ => ?_⟩
    refine ⟨[.bag b, .no, .no, .no, .no, .no, .no], rfl, ?_⟩
    refine ST.seq (ST.asg (EV.str ?_))
    walk_at "d"
    refine ST.seq (ST.asg (EV.op (EV.str (EV.upper (EV.var rfl ⟨_, rfl, by decide +kernel, addF (by decide +kernel) (by decide +kernel) fun others o1 o2 o3 => ?_⟩)))))
    repeat walk_at "d"
    refine ⟨by decide, by decide, fun r a0 a1 => ?_⟩
    repeat walk_at "d"
    refine ⟨by decide, by decide, fun k k0 k1 => ?_⟩
    obtain ⟨m, em, m0, m1⟩ : ∃ m, atI [D.int r, D.int 8, D.int 9, D.int 1, D.int 3] k = some (.int m) ∧ 0 ≤ m ∧ m ≤ 10 := by
      have : k = 0 ∨ k = 1 ∨ k = 2 ∨ k = 3 ∨ k = 4 := by omega
      rcases this with rfl | rfl | rfl | rfl | rfl
      · exact ⟨_, rfl, by omega, by omega⟩
      · exact ⟨_, rfl, by omega, by omega⟩
      · exact ⟨_, rfl, by omega, by omega⟩
      · exact ⟨_, rfl, by omega, by omega⟩
      · exact ⟨_, rfl, by omega, by omega⟩
    refine RD.ixL em ?_
    repeat walk_at "d"
    refine EV.lcR ?_
    repeat walk_at "d"
    refine ⟨by omega, by omega, fun i es => ∃ ys : List Str, es = ys.map D.str ∧ ys.length = i ∧ ∀ y ∈ ys, y.length = 1 ∧ Lw y, ⟨[], rfl, rfl, fun _ m => nomatch m⟩, ?_, ?_⟩
    · rintro i es hi hl ⟨ys, rfl, hy, hw⟩
      repeat walk_at "d"
      refine ⟨by decide, by decide, fun r26 p0 p1 => ?_⟩
      obtain ⟨c, e, hc⟩ := let_at p0 p1
      refine RD.ixS (by decide +kernel) e ⟨ys ++ [⟨#[c]⟩], by rw [List.map_append]; rfl, by rw [List.length_append, hy]; rfl, fun y m => ?_⟩
      rcases List.mem_append.mp m with m | m
      · exact hw y m
      · rw [List.mem_singleton.mp m]
        exact ⟨rfl, hc⟩
    rintro es ⟨ys, rfl, hy, hw⟩ hl0
    have s1 := sum_ones ys fun x m => (hw x m).1
    have bl : (Txt.join "" ys).length = ys.length := by rw [join_len, s1]
    have bw : Lw (Txt.join "" ys) := join_lw ys fun x m => (hw x m).2
    refine ⟨ys, rfl, ?_, ?_⟩
    · rw [s1, show (("" : Str)).length = 0 from rfl]
      omega
    generalize Txt.join "" ys = z at bl bw ⊢
    have zm : (z.length : Int) = m := by omega
    have zs := bw.sm
    clear bl bw s1 hw
    repeat walk_at "d"
    refine iteD (fun e => ?_) (fun e => ?_)
    · repeat walk_at "d"
      exact ⟨by omega, zs⟩
    have zpos : 0 < z.length := by
      apply Nat.pos_of_ne_zero
      intro z0
      apply e
      have : z.cps = #[] := Array.eq_empty_of_size_eq_zero z0
      show z = Str.ofString ""
      rw [show z = ⟨z.cps⟩ from rfl, this]
      rfl
    repeat walk_at "d"
    refine ⟨by decide, by decide, fun r3 q0 q1 => ?_⟩
    repeat walk_at "d"
    refine iteD (fun _ => ?_) (fun _ => ?_)
    · repeat walk_at "d"
      exact ⟨by omega, zs⟩
    repeat walk_at "d"
    refine ⟨by omega, by omega, fun spot s0 s1 => ?_⟩
    repeat walk_at "d"
    refine SD.slS (by rw [sizeLine_eq]; omega) ?_
    repeat walk_at "d"
    refine RC.lenS (by rw [sizeLine_eq]; omega) ?_
    repeat walk_at "d"
    refine ⟨by omega, by omega, fun j j0 j1 => ?_⟩
    obtain ⟨c, mc, ec⟩ := atI_of (xs := others.cps.toList) j0 (by rw [len_cps]; exact j1)
    refine RD.ixS (by rw [sizeLine_eq]; omega) ec ?_
    have l1 := cutS_len z none (some spot)
    have l1' : (cutS z none (some spot)).length = spot.toNat := by
      have := cut_lo_len z spot.toNat (by omega)
      rw [Int.toNat_of_nonneg s0] at this
      exact this
    have c1 : (⟨#[c]⟩ : Str).length = 1 := rfl
    refine RD.addS (by rw [c1, sizeLine_eq]; omega) ?_
    repeat walk_at "d"
    refine SD.slS (by rw [sizeLine_eq]; omega) ?_
    have l2' : (cutS z (some (spot + 1)) none).length = z.length - (spot + 1).toNat := by
      have := cut_hi_len z (spot + 1).toNat (by omega)
      rw [Int.toNat_of_nonneg (by omega)] at this
      exact this
    have lapp : ∀ x y : Str, (x ++ y).length = x.length + y.length := fun x y => by
      show (x.cps ++ y.cps).size = _
      rw [Array.size_append]
      rfl
    refine RD.addS (by rw [lapp, c1, sizeLine_eq]; omega) ?_
    refine ⟨_, rfl, by rw [lapp, lapp, c1]; omega, ((zs.cut _ _).app fun c' m' => ?_).app (zs.cut _ _)⟩
    have : c' = c := by simpa using m'
    rw [this]
    exact o3 c mc
abbrev spAnyName (K : PySem.W.Frag) : Sp := spA K (fun x : Addr => [.raw x]) (fun _ => True) fun _ d => ∃ xs : List Str, d = .tup (xs.map D.str) ∧ xs.length ≤ 9 ∧ ∀ z ∈ xs, Tx11 z
theorem ok_law_any_name (T : Tx K mg a) : FnOk P w K mg base CX0 3 a.f_law_any_name a.d_law_any_name ["_law_bag_here"] (spAnyName K) := by
  refine T.F_law_any_name.ok (k := 2) sc_law_any_name (fun vs H Q E h => ?_) (fun cdv A outer s H vs Q E hr h => ?_)
  · exact spA_len h fun _ => rfl
  · refine ⟨_, PSs.nox (pss_cons (ps_asg (pe_tup (pa_cons (pe_ix (VB.kIxL (K := K) rfl) (pe_lst (pa_cons (pe_call (ok_law_take (K := K) T) (hr.mono (by decide)) (by rfl) T.m_law_take T.k_law_take T.b_law_take .nil pass0 (pa_cons (pv 0) (pa_cons pe_int pa_nil))) (pa_cons (pe_call (ok_law_take (K := K) T) (hr.mono (by decide)) (by rfl) T.m_law_take T.k_law_take T.b_law_take .nil pass0 (pa_cons (pv 0) (pa_cons pe_int pa_nil))) pa_nil))) (pe_call (ok_law_take (K := K) T) (hr.mono (by decide)) (by rfl) T.m_law_take T.k_law_take T.b_law_take .nil pass0 (pa_cons (pv 0) (pa_cons pe_int pa_nil))) (fun _ _ => rfl)) (pa_cons (pe_call (ok_law_take (K := K) T) (hr.mono (by decide)) (by rfl) T.m_law_take T.k_law_take T.b_law_take .nil pass0 (pa_cons (pv 0) (pa_cons pe_int pa_nil))) pa_nil))) (VB.kTg (K := K) (n := 2) rfl rfl (pgs_cons (pg_name (i := 1) sc_law_any_name.nd rfl (Or.inl rfl)) (pgs_cons (pg_name (i := 2) sc_law_any_name.nd rfl (Or.inr rfl)) pgs_nil))))
    (pss_one (ps_ret (pe_callTy (VB.kTup (K := K) rfl) (by rfl) T.n_tuple (by decide +kernel) (pa_cons (pe_lc (own := [("_law_k", 3)]) (g := gName 3) (tt := tYes) rfl sc_law_any_name.nd (pi_range1 rfl T.n_range (pa_cons (pv 1) pa_nil)) (blkOk_by (N := ["_law_bag_here", "_law_many", "_law_way", "_law_k"]) (sc := defScope s_law_any_name) (by decide +kernel)) (fun _ _ _ _ _ => pg_name (i := 3) sc_law_any_name.nd rfl (Or.inl rfl)) (fun _ _ _ _ _ => pts_nil) (fun _ _ _ _ _ => (pe_ix (VB.kIxL (K := K) rfl) (pe_lst (pa_cons (pe_call (ok_law_text (K := K) T) (hr.mono (by decide)) (by rfl) T.m_law_text T.k_law_text T.b_law_text .nil pass0 (pa_cons (pv 0) pa_nil)) (pa_cons (pe_ix (VB.kIxL (K := K) rfl) (pe_lst (pa_cons pe_str (pa_cons pe_str (pa_cons pe_str pa_nil)))) (pe_call (ok_law_take (K := K) T) (hr.mono (by decide)) (by rfl) T.m_law_take T.k_law_take T.b_law_take .nil pass0 (pa_cons (pv 0) (pa_cons pe_int pa_nil))) (fun _ _ => rfl)) pa_nil))) (pv 2) (fun _ _ => rfl)))) pa_nil))))), body_ok h fun b _ => ?_⟩
    refine ⟨[.bag b, .no, .no, .no], rfl, ?_⟩
    repeat walk_at "d"
    refine ⟨by decide, by decide, fun r4 a0 a1 => ?_⟩
    repeat walk_at "d"
    refine ⟨by decide, by decide, fun r10 b0 b1 => ?_⟩
    repeat walk_at "d"
    refine ⟨by decide, by decide, fun k k0 k1 => ?_⟩
    obtain ⟨m, em, m0, m1⟩ : ∃ m, atI [D.int r4, D.int r10] k = some (.int m) ∧ 0 ≤ m ∧ m ≤ 9 := by
      have : k = 0 ∨ k = 1 := by omega
      rcases this with rfl | rfl
      · exact ⟨_, rfl, by omega, by omega⟩
      · exact ⟨_, rfl, by omega, by omega⟩
    refine RD.ixL em ?_
    repeat walk_at "d"
    refine ⟨by decide, by decide, fun way w0 w1 => ?_⟩
    repeat walk_at "d"
    refine EV.lcR ?_
    repeat walk_at "d"
    refine ⟨by omega, by omega, fun i es => ∃ ys : List Str, es = ys.map D.str ∧ ys.length = i ∧ ∀ y ∈ ys, Tx11 y, ⟨[], rfl, rfl, fun _ m => nomatch m⟩, ?_, ?_⟩
    · rintro i es hi hl ⟨ys, rfl, hy, hw⟩
      repeat walk_at "d"
      refine ⟨by simp, trivial, ?_⟩
      rintro _ ⟨z, rfl, hz⟩
      repeat walk_at "d"
      refine ⟨by decide, by decide, fun k k0 k1 => ?_⟩
      obtain ⟨u, eu, hu⟩ : ∃ u : Str, atI [D.str ("a" : Str), D.str ("lists" : Str), D.str ("zzzzzzzz" : Str)] k = some (.str u) ∧ Tx11 u := by
        have : k = 0 ∨ k = 1 ∨ k = 2 := by omega
        rcases this with rfl | rfl | rfl
        · exact ⟨_, rfl, by decide +kernel, (smB_iff.mp (by decide +kernel)).2⟩
        · exact ⟨_, rfl, by decide +kernel, (smB_iff.mp (by decide +kernel)).2⟩
        · exact ⟨_, rfl, by decide +kernel, (smB_iff.mp (by decide +kernel)).2⟩
      refine RD.ixL eu ?_
      repeat walk_at "d"
      obtain ⟨v, ev, hv⟩ : ∃ v : Str, atI [D.str z, D.str u] way = some (.str v) ∧ Tx11 v := by
        have : way = 0 ∨ way = 1 := by omega
        rcases this with rfl | rfl
        · exact ⟨_, rfl, hz⟩
        · exact ⟨_, rfl, hu⟩
      refine RD.ixL ev ⟨ys ++ [v], by rw [List.map_append]; rfl, by rw [List.length_append, hy]; rfl, fun y m => ?_⟩
      rcases List.mem_append.mp m with q | q
      · exact hw y q
      · rw [List.mem_singleton.mp q]
        exact hv
    rintro es ⟨ys, rfl, hy, hw⟩ _
    repeat walk_at "d"
    exact ⟨by omega, hw⟩


/-! ### odd things -/
abbrev spOdd (K : PySem.W.Frag) : Sp := spA K (fun x : Addr => [.raw x]) (fun _ => True) fun _ d => Fit 5000 4 d
theorem fit_dec {d : D} (h : (d.ft && (decide (d.py.weight ≤ 5000) && decide (d.py.depth ≤ 4))) = true) : Fit 5000 4 d := by
  obtain ⟨h1, h2⟩ := Bool.and_eq_true_iff.mp h
  obtain ⟨h2, h3⟩ := Bool.and_eq_true_iff.mp h2
  exact ⟨h1, of_decide_eq_true h2, of_decide_eq_true h3⟩
theorem fit_long : Fit 5000 4 (.tup [.str (Txt.mul ("a" : Str) 4000)]) := by
  have hl : (Txt.mul ("a" : Str) 4000).length = 4000 := by
    rw [mul_len _ _ (by decide)]
    rfl
  have hw : Lw ("a" : Str) := by unfold Lw; decide +kernel
  refine (Fit.tup (w := 4000) (k := 0) (l := 1) (fun d m => ?_) (Nat.le_refl _) (by decide)).mono (by decide) (by decide)
  rw [List.mem_singleton.mp m]
  exact Fit.str (Nat.le_of_eq hl) (by decide) (hw.mul _).sm
theorem ok_law_odd (T : Tx K mg a) : FnOk P w K mg base CX0 2 a.f_law_odd a.d_law_odd ["_law_bag_here"] (spOdd K) := by
  refine T.F_law_odd.ok (k := 1) sc_law_odd (fun vs H Q E h => ?_) (fun cdv A outer s H vs Q E hr h => ?_)
  · exact spA_len h fun _ => rfl
  · refine ⟨_, PSs.nox (pss_cons (ps_set (i := 1) sc_law_odd.nd rfl (Or.inl rfl) (pe_lst (pa_cons pe_non (pa_cons pe_bl (pa_cons pe_bl (pa_cons pe_str (pa_cons pe_str (pa_cons pe_int (pa_cons pe_int (pa_cons (pe_lst pa_nil) (pa_cons (pe_tup pa_nil) (pa_cons pe_dnewK (pa_cons (pe_disp (pps_cons pe_str pe_int pps_nil) rfl rfl (by decide) (by decide)) (pa_cons (pe_lst (pa_cons (pe_lst pa_nil) pa_nil)) (pa_cons (pe_tup (pa_cons (pe_tup pa_nil) pa_nil)) (pa_cons (pe_tup (pa_cons (pe_tup (pa_cons pe_str pa_nil)) pa_nil)) (pa_cons (pe_tup (pa_cons pe_str (pa_cons pe_str pa_nil))) (pa_cons (pe_lst (pa_cons pe_str (pa_cons pe_str pa_nil))) pa_nil))))))))))))))))))
    (pss_cons (ps_set (i := 1) sc_law_odd.nd rfl (Or.inl rfl) (pe_op op_cat (pv 1) (pe_lst (pa_cons (pe_tup (pa_cons (pe_tup (pa_cons pe_str pa_nil)) (pa_cons pe_str pa_nil))) (pa_cons (pe_lst (pa_cons (pe_tup (pa_cons pe_str pa_nil)) (pa_cons pe_str pa_nil))) (pa_cons (pe_tup (pa_cons pe_str (pa_cons pe_str (pa_cons pe_str pa_nil)))) (pa_cons (pe_tup (pa_cons (pe_tup (pa_cons pe_str pa_nil)) (pa_cons pe_str pa_nil))) (pa_cons (pe_tup (pa_cons (pe_op VB.op_mul_str pe_str pe_int) pa_nil)) (pa_cons (pe_op op_pow pe_int pe_int) (pa_cons (pe_tup (pa_cons pe_int (pa_cons pe_int pa_nil))) pa_nil))))))))))
    (pss_cons (ps_set (i := 1) sc_law_odd.nd rfl (Or.inl rfl) (pe_op op_cat (pv 1) (pe_lst (pa_cons (pe_op (VB.op_repA (K := K) rfl) (pe_tup (pa_cons pe_str pa_nil)) pe_int) (pa_cons (pe_op (VB.kCatA (K := K) rfl) (pe_op (VB.op_repA (K := K) rfl) (pe_tup (pa_cons pe_str pa_nil)) pe_int) (pe_tup (pa_cons pe_str pa_nil))) pa_nil)))))
    (pss_one (ps_ret (pe_ix (VB.kIxL (K := K) rfl) (pv 1) (pe_call (ok_law_take (K := K) T) (hr.mono (by decide)) (by rfl) T.m_law_take T.k_law_take T.b_law_take .nil pass0 (pa_cons (pv 0) (pa_cons pe_int pa_nil))) (fun _ _ => rfl))))))), body_ok h fun b _ => ?_⟩
    refine ⟨[.bag b, .no], rfl, ?_⟩
    repeat walk_at "d"
    refine RD.mulS (by decide) ?_
    have fl := fit_long
    generalize Txt.mul (Str.ofString "a") 4000 = long at fl ⊢
    obtain ⟨A, eA, hA, lA⟩ : ∃ A, A = [D.non, D.bl true, D.bl false, D.str (Str.ofString ""), D.str (Str.ofString "a"), D.int 0, D.int 1,
              D.lst [], D.tup [], D.dic [] [], D.dic [Sum.inr (Str.ofString "a")] [D.int 1], D.lst [D.lst []],
              D.tup [D.tup []], D.tup [D.tup [D.str (Str.ofString "a")]],
              D.tup [D.str (Str.ofString "a"), D.str (Str.ofString "b")],
              D.lst [D.str (Str.ofString "a"), D.str (Str.ofString "b")]] ∧ (∀ d ∈ A, Fit 5000 4 d) ∧ A.length = 16 := by
      refine ⟨_, rfl, ?_, rfl⟩
      simp only [List.forall_mem_cons]
      repeat (first | exact fun _ m => nomatch m | refine ⟨fit_dec (by decide +kernel), ?_⟩)
    rw [← eA]
    clear eA
    repeat walk_at "d"
    refine RD.cat (by rw [lA]; show 16 + 7 ≤ sizeLine; decide) ?_
    repeat walk_at "d"
    obtain ⟨B, eB, hB, lB⟩ : ∃ B, B = [D.tup [D.tup [D.str (Str.ofString "a")], D.str (Str.ofString "k")], D.lst [D.tup [D.str (Str.ofString "a")], D.str (Str.ofString "k")],
        D.tup [D.str (Str.ofString "a"), D.str (Str.ofString "k"), D.str (Str.ofString "k")], D.tup [D.tup [D.str (Str.ofString "a")], D.str (Str.ofString "K")], D.tup [D.str long], D.int (10 ^ (39 : Int).toNat), D.tup [D.int 1, D.int 2]] ∧ (∀ d ∈ B, Fit 5000 4 d) ∧ B.length = 7 := by
      refine ⟨_, rfl, ?_, rfl⟩
      simp only [List.forall_mem_cons]
      repeat (first | exact fun _ m => nomatch m | refine ⟨fl, ?_⟩ | refine ⟨fit_dec (by decide +kernel), ?_⟩)
    rw [← eB]
    clear eB
    refine RD.repA ⟨fun z => (nomatch z), by decide, by decide, by decide⟩ ?_
    have f3 : Fit 5000 4 (.tup (List.replicate (300 : Int).toNat [D.str (Str.ofString "a")]).flatten) := fit_dec (by decide +kernel)
    generalize D.tup (List.replicate (300 : Int).toNat [D.str (Str.ofString "a")]).flatten = c3 at f3 ⊢
    repeat walk_at "d"
    refine RD.repA ⟨fun z => (nomatch z), by decide, by decide, by decide⟩ ?_
    repeat walk_at "d"
    refine RD.catA (by decide +kernel) ?_
    have f4 : Fit 5000 4 (.tup ((List.replicate (299 : Int).toNat [D.str (Str.ofString "a")]).flatten ++ [D.str (Str.ofString "A")])) := fit_dec (by decide +kernel)
    generalize D.tup ((List.replicate (299 : Int).toNat [D.str (Str.ofString "a")]).flatten ++ [D.str (Str.ofString "A")]) = c4 at f4 ⊢
    repeat walk_at "d"
    refine RD.cat (by rw [List.length_append, lA, lB]; show 16 + 7 + 2 ≤ sizeLine; decide) ?_
    repeat walk_at "d"
    refine ⟨by decide, by decide, fun k k0 k1 => ?_⟩
    obtain ⟨x, mx, ex⟩ := atI_of (xs := A ++ B ++ [c3, c4]) k0 (by rw [List.length_append, List.length_append, lA, lB]; exact k1)
    refine RD.ixL ex ?_
    show Fit 5000 4 x
    rcases List.mem_append.mp mx with m | m
    · rcases List.mem_append.mp m with m | m
      · exact hA x m
      · exact hB x m
    · rcases List.mem_cons.mp m with m | m
      · rw [m]
        exact f3
      · rw [List.mem_singleton.mp m]
        exact f4
abbrev spBent (K : PySem.W.Frag) : Sp := spA K (fun x : Addr × List D => [.raw x.1, .tup x.2]) (fun x => x.2.length ≤ 9 ∧ ∀ d ∈ x.2, Fit 5000 4 d) fun _ d => Fit 200000 20 d
theorem ok_law_bent (T : Tx K mg a) : FnOk P w K mg base CX0 3 a.f_law_bent a.d_law_bent ["_law_bag_here", "_law_thing_here"] (spBent K) := by
  refine T.F_law_bent.ok (k := 2) sc_law_bent (fun vs H Q E h => ?_) (fun cdv A outer s H vs Q E hr h => ?_)
  · exact spA_len h fun _ => rfl
  · refine ⟨_, PSs.nox (pss_cons (ps_par (i := 2) (j := 3) (by rfl) sc_law_bent.nd rfl rfl (by decide) rfl rfl (pa_cons (pe_call (ok_law_take (K := K) T) (hr.mono (by decide)) (by rfl) T.m_law_take T.k_law_take T.b_law_take .nil pass0 (pa_cons (pv 0) (pa_cons (pe_op op_add (pe_callB (VB.kLen (K := K) rfl) (by rfl) T.n_len (by decide +kernel) (pa_cons (pv 1) pa_nil)) pe_int) pa_nil))) (pa_cons (pe_call (ok_law_take (K := K) T) (hr.mono (by decide)) (by rfl) T.m_law_take T.k_law_take T.b_law_take .nil pass0 (pa_cons (pv 0) (pa_cons pe_int pa_nil))) pa_nil)) (by rfl))
    (pss_cons (ps_if (pt_cmpR op_eq (pv 3) pe_int (nomark _)) (pss_one (ps_ret (pe_callTy (VB.kLst (K := K) rfl) (by rfl) T.n_list (by decide +kernel) (pa_cons (pv 1) pa_nil)))) pss_nil)
    (pss_one (ps_ret (pe_op (VB.kCatA (K := K) rfl) (pe_op (VB.kCatA (K := K) rfl) (pe_slice (VB.kSlA (K := K) rfl) (pv 1) po_none (po_some (pv 2))) (pe_op (VB.op_repA (K := K) rfl) (pe_tup (pa_cons (pe_call (ok_law_odd (K := K) T) (hr.mono (by decide)) (by rfl) T.m_law_odd T.k_law_odd T.b_law_odd .nil pass0 (pa_cons (pv 0) pa_nil)) pa_nil)) (pe_callTy call_int1 (by rfl) T.n_int (by decide +kernel) (pa_cons (pe_cmpR op_gt (pv 3) pe_int (nomark _)) pa_nil)))) (pe_slice (VB.kSlA (K := K) rfl) (pv 1) (po_some (pe_op op_add (pv 2) (pe_callTy call_int1 (by rfl) T.n_int (by decide +kernel) (pa_cons (pe_cmpR op_lt (pv 3) pe_int (nomark _)) pa_nil)))) po_none)))))), body_ok h fun ⟨b, ds⟩ hp => ?_⟩
    obtain ⟨dl, hd⟩ : ds.length ≤ 9 ∧ ∀ d ∈ ds, Fit 5000 4 d := hp
    refine ⟨[.bag b, .dat (.tup ds), .no, .no], rfl, ?_⟩
    repeat walk_at "d"
    refine ⟨by omega, by omega, fun spot s0 s1 => ?_⟩
    repeat walk_at "d"
    refine ⟨by decide, by decide, fun way w0 w1 => ?_⟩
    repeat walk_at "d"
    refine iteD (fun _ => ?_) (fun _ => ?_)
    · repeat walk_at "d"
      exact (Fit.lst hd dl).mono (by decide) (by decide)
    repeat walk_at "d"
    refine ⟨by simp, trivial, ?_⟩
    intro o ho
    have ho : Fit 5000 4 o := ho
    repeat walk_at "d"
    obtain ⟨k, ek, k0, k1⟩ : ∃ k : Int, k = (if decide (1 < way) = true then 1 else 0) ∧ 0 ≤ k ∧ k ≤ 1 := by
      refine ⟨_, rfl, ?_⟩
      split <;> omega
    rw [← ek]
    refine RD.repA ⟨fun z => (nomatch z), k0, by omega, by show 1 ≤ 1000; decide⟩ ?_
    have hR : (∀ d ∈ (List.replicate k.toNat [o]).flatten, Fit 5000 4 d) ∧ (List.replicate k.toNat [o]).flatten.length ≤ 1 := by
      have : k = 0 ∨ k = 1 := by omega
      rcases this with rfl | rfl
      · exact ⟨fun _ m => (nomatch m), Nat.zero_le _⟩
      · refine ⟨fun d m => ?_, by simp⟩
        rw [List.mem_singleton.mp (show d ∈ [o] by simpa using m)]
        exact ho
    generalize (List.replicate k.toNat [o]).flatten = R at hR ⊢
    obtain ⟨hR, lR⟩ := hR
    have l1 := cutG_len ds none (some spot)
    refine RD.catA (by rw [sizeLine_eq]; omega) ?_
    repeat walk_at "d"
    generalize (spot + _ : Int) = sp2
    have l2 := cutG_len ds (some sp2) none
    refine RD.catA (by rw [List.length_append, sizeLine_eq]; omega) ?_
    refine (Fit.tup (w := 5000) (k := 4) (l := 19) (fun d m => ?_) (by rw [List.length_append, List.length_append]; omega) (by decide)).mono (by decide) (by decide)
    rcases List.mem_append.mp m with m | m
    · rcases List.mem_append.mp m with m | m
      · exact hd d (cutG_mem m)
      · exact hR d m
    · exact hd d (cutG_mem m)


/-! ### a thing -/
theorem tx_fit {z : Str} (h : Tx11 z) : Fit 5000 4 (.str z) := (Fit.str h.1 (by decide) h.2).mono (by decide) (by decide)
theorem nm_fit {xs : List Str} (hl : xs.length ≤ 9) (h : ∀ z ∈ xs, Tx11 z) : Fit 5000 4 (.tup (xs.map D.str)) := by
  refine (Fit.tup (w := 11) (k := 0) (l := 9) (fun d m => ?_) (by rw [List.length_map]; exact hl) (by decide)).mono (by decide) (by decide)
  obtain ⟨z, mz, rfl⟩ := List.mem_map.mp m
  exact Fit.str (h z mz).1 (by decide) (h z mz).2
abbrev spThing (K : PySem.W.Frag) : Sp := spA K (fun x : Addr => [.raw x]) (fun _ => True) fun _ d => Fit 200000 20 d
theorem ok_law_thing (T : Tx K mg a) : FnOk P w K mg base CX0 4 a.f_law_thing a.d_law_thing ["_law_bag_here"] (spThing K) := by
  refine T.F_law_thing.ok (k := 3) sc_law_thing (fun vs H Q E h => ?_) (fun cdv A outer s H vs Q E hr h => ?_)
  · exact spA_len h fun _ => rfl
  · refine ⟨_, PSs.nox (pss_cons (ps_set (i := 1) sc_law_thing.nd rfl (Or.inl rfl) (pe_call (ok_law_take (K := K) T) (hr.mono (by decide)) (by rfl) T.m_law_take T.k_law_take T.b_law_take .nil pass0 (pa_cons (pv 0) (pa_cons pe_int pa_nil))))
    (pss_cons (ps_if (pt_cmpR op_lt (pv 1) pe_int (nomark _)) (pss_one (ps_ret (pe_ix (VB.kIxL (K := K) rfl) (pe_lst (pa_cons (pe_call (ok_law_number (K := K) T) (hr.mono (by decide)) (by rfl) T.m_law_number T.k_law_number T.b_law_number .nil pass0 (pa_cons (pv 0) pa_nil)) (pa_cons (pe_call (ok_law_text (K := K) T) (hr.mono (by decide)) (by rfl) T.m_law_text T.k_law_text T.b_law_text .nil pass0 (pa_cons (pv 0) pa_nil)) pa_nil))) (pv 1) (fun _ _ => rfl)))) pss_nil)
    (pss_cons (ps_if (pt_cmpR op_eq (pv 1) pe_int (nomark _)) (pss_one (ps_ret (pe_call (ok_law_odd (K := K) T) (hr.mono (by decide)) (by rfl) T.m_law_odd T.k_law_odd T.b_law_odd .nil pass0 (pa_cons (pv 0) pa_nil)))) pss_nil)
    (pss_cons (ps_set (i := 2) sc_law_thing.nd rfl (Or.inl rfl) (pe_ix (VB.kIxL (K := K) rfl) (pe_lst (pa_cons (pe_call (ok_law_any_name (K := K) T) (hr.mono (by decide)) (by rfl) T.m_law_any_name T.k_law_any_name T.b_law_any_name .nil pass0 (pa_cons (pv 0) pa_nil)) (pa_cons (pe_tup (pa_cons (pe_call (ok_law_any_name (K := K) T) (hr.mono (by decide)) (by rfl) T.m_law_any_name T.k_law_any_name T.b_law_any_name .nil pass0 (pa_cons (pv 0) pa_nil)) (pa_cons (pe_call (ok_law_text (K := K) T) (hr.mono (by decide)) (by rfl) T.m_law_text T.k_law_text T.b_law_text .nil pass0 (pa_cons (pv 0) pa_nil)) pa_nil))) (pa_cons (pe_tup (pa_cons (pe_call (ok_law_text (K := K) T) (hr.mono (by decide)) (by rfl) T.m_law_text T.k_law_text T.b_law_text .nil pass0 (pa_cons (pv 0) pa_nil)) (pa_cons (pe_call (ok_law_text (K := K) T) (hr.mono (by decide)) (by rfl) T.m_law_text T.k_law_text T.b_law_text .nil pass0 (pa_cons (pv 0) pa_nil)) pa_nil))) pa_nil)))) (pe_op op_sub (pv 1) pe_int) (fun _ _ => rfl)))
    (pss_one (ps_ret (pe_ifExp (pt_cmpR op_eq (pe_call (ok_law_take (K := K) T) (hr.mono (by decide)) (by rfl) T.m_law_take T.k_law_take T.b_law_take .nil pass0 (pa_cons (pv 0) (pa_cons pe_int pa_nil))) pe_int (nomark _)) (pe_call (ok_law_bent (K := K) T) (hr.mono (by decide)) (by rfl) T.m_law_bent T.k_law_bent T.b_law_bent .nil pass0 (pa_cons (pv 0) (pa_cons (pv 2) pa_nil))) (pv 2)))))))), body_ok h fun b _ => ?_⟩
    refine ⟨[.bag b, .no, .no], rfl, ?_⟩
    repeat walk_at "d"
    refine ⟨by decide, by decide, fun way w0 w1 => ?_⟩
    repeat walk_at "d"
    refine iteD (fun lt => ?_) (fun ge => ?_)
    · repeat walk_at "d"
      refine ⟨by simp, trivial, ?_⟩
      rintro _ ⟨i, rfl, hi⟩
      repeat walk_at "d"
      refine ⟨by simp, trivial, ?_⟩
      rintro _ ⟨z, rfl, hz⟩
      repeat walk_at "d"
      have : way = 0 ∨ way = 1 := by omega
      rcases this with rfl | rfl
      · exact RD.ixL (d := .int i) rfl ((Fit.int hi).mono (by decide) (by decide))
      · exact RD.ixL (d := .str z) rfl ((tx_fit hz).mono (by decide) (by decide))
    repeat walk_at "d"
    refine iteD (fun e2 => ?_) (fun e2 => ?_)
    · repeat walk_at "d"
      refine ⟨by simp, trivial, ?_⟩
      intro o ho
      have ho : Fit 5000 4 o := ho
      exact ho.mono (by decide) (by decide)
    repeat walk_at "d"
    refine ⟨by simp, trivial, ?_⟩
    rintro _ ⟨x1, rfl, l1, h1⟩
    repeat walk_at "d"
    refine ⟨by simp, trivial, ?_⟩
    rintro _ ⟨x2, rfl, l2, h2⟩
    repeat walk_at "d"
    refine ⟨by simp, trivial, ?_⟩
    rintro _ ⟨z1, rfl, hz1⟩
    repeat walk_at "d"
    refine ⟨by simp, trivial, ?_⟩
    rintro _ ⟨z2, rfl, hz2⟩
    repeat walk_at "d"
    refine ⟨by simp, trivial, ?_⟩
    rintro _ ⟨z3, rfl, hz3⟩
    repeat walk_at "d"
    obtain ⟨ds, ed, dl, hd⟩ : ∃ ds, atI [D.tup (x1.map D.str), D.tup [D.tup (x2.map D.str), D.str z1], D.tup [D.str z2, D.str z3]] (way - 3) = some (.tup ds) ∧ ds.length ≤ 9 ∧ ∀ d ∈ ds, Fit 5000 4 d := by
      have : way = 3 ∨ way = 4 ∨ way = 5 := by omega
      rcases this with rfl | rfl | rfl
      · refine ⟨_, rfl, by rw [List.length_map]; exact l1, fun d m => ?_⟩
        obtain ⟨z, mz, rfl⟩ := List.mem_map.mp m
        exact tx_fit (h1 z mz)
      · refine ⟨_, rfl, by show 2 ≤ 9; decide, fun d m => ?_⟩
        rcases List.mem_cons.mp m with m | m
        · rw [m]
          exact nm_fit l2 h2
        · rw [List.mem_singleton.mp m]
          exact tx_fit hz1
      · refine ⟨_, rfl, by show 2 ≤ 9; decide, fun d m => ?_⟩
        rcases List.mem_cons.mp m with m | m
        · rw [m]
          exact tx_fit hz2
        · rw [List.mem_singleton.mp m]
          exact tx_fit hz3
    refine RD.ixL ed ?_
    repeat walk_at "d"
    refine ⟨by decide, by decide, fun r3 c0 c1 => ?_⟩
    repeat walk_at "d"
    refine iteD (fun _ => ?_) (fun _ => ?_)
    · repeat walk_at "d"
      refine ⟨(b, ds), rfl, by simp, ⟨dl, hd⟩, fun d h => h⟩
    · repeat walk_at "d"
      exact (Fit.tup hd dl (by decide)).mono (by decide) (by decide)
def D.seven (d : D) : D := .lst [.bl d.isI, .bl d.isWord, .bl d.isName, .bl d.isHolder, .bl (d.inR 0 1000000000), .bl (d.isN || d.inR 0 8), .bl d.isPair]
abbrev spAsked (K : PySem.W.Frag) : Sp := spA K (fun x : D => [x]) (fun x => x.sz = true) fun x d => d = D.seven x
theorem ok_law_asked (T : Tx K mg a) : FnOk P w K mg base CX0 4 a.f_law_asked a.d_law_asked ["_law_thing_here"] (spAsked K) := by
  refine T.F_law_asked.ok (k := 3) sc_law_asked (fun vs H Q E h => ?_) (fun cdv A outer s H vs Q E hr h => ?_)
  · exact spA_len h fun _ => rfl
  · refine ⟨_, PSs.nox (pss_cons (ps_set (i := 1) sc_law_asked.nd rfl (Or.inl rfl) (pe_lst (pa_cons (pe_call (ok_is_integer (K := K) T) (hr.mono (by decide)) (by rfl) T.m_is_integer T.k_is_integer T.b_is_integer .nil pass0 (pa_cons (pv 0) pa_nil)) (pa_cons (pe_call (ok_is_word (K := K) T) (hr.mono (by decide)) (by rfl) T.m_is_word T.k_is_word T.b_is_word .nil pass0 (pa_cons (pv 0) pa_nil)) (pa_cons (pe_call (ok_is_name (K := K) T) (hr.mono (by decide)) (by rfl) T.m_is_name T.k_is_name T.b_is_name .nil pass0 (pa_cons (pv 0) pa_nil)) (pa_cons (pe_call (ok_is_holder (K := K) T) (hr.mono (by decide)) (by rfl) T.m_is_holder T.k_is_holder T.b_is_holder .nil pass0 (pa_cons (pv 0) pa_nil)) pa_nil))))))
    (pss_one (ps_ret (pe_op op_cat (pv 1) (pe_lst (pa_cons (pe_call (ok_is_day (K := K) T) (hr.mono (by decide)) (by rfl) T.m_is_day T.k_is_day T.b_is_day .nil pass0 (pa_cons (pv 0) pa_nil)) (pa_cons (pe_call (ok_is_count (K := K) T) (hr.mono (by decide)) (by rfl) T.m_is_count T.k_is_count T.b_is_count .nil pass0 (pa_cons (pv 0) pa_nil)) (pa_cons (pe_call (ok_is_pair (K := K) T) (hr.mono (by decide)) (by rfl) T.m_is_pair T.k_is_pair T.b_is_pair .nil pass0 (pa_cons (pv 0) pa_nil)) pa_nil)))))))), body_ok h fun d pu => ?_⟩
    refine ⟨[.dat d, .no], by cases d <;> first | rfl | simp [D.sz] at pu, ?_⟩
    repeat walk_at "d"
    refine ⟨sz_raw pu, pu, ?_⟩
    rintro _ rfl
    repeat walk_at "d"
    refine ⟨sz_raw pu, pu, ?_⟩
    rintro _ rfl
    repeat walk_at "d"
    refine ⟨sz_raw pu, pu, ?_⟩
    rintro _ rfl
    repeat walk_at "d"
    refine ⟨sz_raw pu, pu, ?_⟩
    rintro _ rfl
    repeat walk_at "d"
    refine ⟨sz_raw pu, pu, ?_⟩
    rintro _ rfl
    repeat walk_at "d"
    refine ⟨sz_raw pu, pu, ?_⟩
    rintro _ rfl
    repeat walk_at "d"
    refine ⟨sz_raw pu, pu, ?_⟩
    rintro _ rfl
    repeat walk_at "d"
    refine RD.cat (by show 4 + 3 ≤ sizeLine; decide) ?_
    rfl
theorem isTwo_at {d : D} (h : d.isTwo = true) : ∃ x y, d = .tup [x, y] := by
  cases d with
  | tup ds =>
    match ds, h with
    | [x, y], _ => exact ⟨x, y, rfl⟩
  | _ => cases h
theorem notTwo {d : D} (h : d.isTwo = false) : d.isHolder = false ∧ d.isPair = false := by
  cases d with
  | tup ds =>
    match ds, h with
    | [], _ => exact ⟨rfl, rfl⟩
    | [_], _ => exact ⟨rfl, rfl⟩
    | _ :: _ :: _ :: _, _ => exact ⟨rfl, rfl⟩
  | _ => exact ⟨rfl, rfl⟩
theorem ft_inR {d : D} (h : d.ft = true) : d.inR (-(10 ^ (60 : Int).toNat)) (10 ^ (60 : Int).toNat) = d.isI := by
  cases d with
  | int i =>
    have hi : i.natAbs < 10 ^ 45 := of_decide_eq_true h
    have e1 : ((10 ^ 45 : Nat) : Int) ≤ (10 : Int) ^ (60 : Int).toNat := by decide +kernel
    show (decide _ && decide _) = true
    generalize (10 : Int) ^ (60 : Int).toNat = X at e1 ⊢
    generalize (10 : Nat) ^ 45 = Y at e1 hi
    rw [decide_eq_true (by omega), decide_eq_true (by omega)]
    rfl
  | _ => rfl
abbrev spDue (K : PySem.W.Frag) : Sp := spA K (fun x : D => [x]) (fun x => x.ft = true) fun x d => d = D.seven x
theorem ok_law_due (T : Tx K mg a) : FnOk P w K mg base CX0 3 a.f_law_due a.d_law_due ["_law_thing_here"] (spDue K) := by
  refine T.F_law_due.ok (k := 2) sc_law_due (fun vs H Q E h => ?_) (fun cdv A outer s H vs Q E hr h => ?_)
  · exact spA_len h fun _ => rfl
  · refine ⟨_, PSs.nox (pss_cons (ps_set (i := 1) sc_law_due.nd rfl (Or.inl rfl) (pe_and (pe_call (ok_law_is_couple (K := K) T) (hr.mono (by decide)) (by rfl) T.m_law_is_couple T.k_law_is_couple T.b_law_is_couple .nil pass0 (pa_cons (pv 0) pa_nil)) (pe_and (pe_call (ok_law_is_name (K := K) T) (hr.mono (by decide)) (by rfl) T.m_law_is_name T.k_law_is_name T.b_law_is_name .nil pass0 (pa_cons (pe_ix (VB.kIxT (K := K) rfl) (pv 0) pe_int (fun _ _ => rfl)) pa_nil)) (pe_one (pe_call (ok_law_is_word (K := K) T) (hr.mono (by decide)) (by rfl) T.m_law_is_word T.k_law_is_word T.b_law_is_word .nil pass0 (pa_cons (pe_ix (VB.kIxT (K := K) rfl) (pv 0) pe_int (fun _ _ => rfl)) pa_nil))))))
    (pss_cons (ps_set (i := 2) sc_law_due.nd rfl (Or.inl rfl) (pe_and (pe_call (ok_law_is_couple (K := K) T) (hr.mono (by decide)) (by rfl) T.m_law_is_couple T.k_law_is_couple T.b_law_is_couple .nil pass0 (pa_cons (pv 0) pa_nil)) (pe_and (pe_call (ok_law_is_word (K := K) T) (hr.mono (by decide)) (by rfl) T.m_law_is_word T.k_law_is_word T.b_law_is_word .nil pass0 (pa_cons (pe_ix (VB.kIxT (K := K) rfl) (pv 0) pe_int (fun _ _ => rfl)) pa_nil)) (pe_one (pe_call (ok_law_is_word (K := K) T) (hr.mono (by decide)) (by rfl) T.m_law_is_word T.k_law_is_word T.b_law_is_word .nil pass0 (pa_cons (pe_ix (VB.kIxT (K := K) rfl) (pv 0) pe_int (fun _ _ => rfl)) pa_nil))))))
    (pss_cons (ps_set (i := 3) sc_law_due.nd rfl (Or.inl rfl) (pe_lst (pa_cons (pe_call (ok_law_within (K := K) T) (hr.mono (by decide)) (by rfl) T.m_law_within T.k_law_within T.b_law_within .nil pass0 (pa_cons (pv 0) (pa_cons (pe_un un_neg (pe_op op_pow pe_int pe_int)) (pa_cons (pe_op op_pow pe_int pe_int) pa_nil)))) (pa_cons (pe_call (ok_law_is_word (K := K) T) (hr.mono (by decide)) (by rfl) T.m_law_is_word T.k_law_is_word T.b_law_is_word .nil pass0 (pa_cons (pv 0) pa_nil)) (pa_cons (pe_call (ok_law_is_name (K := K) T) (hr.mono (by decide)) (by rfl) T.m_law_is_name T.k_law_is_name T.b_law_is_name .nil pass0 (pa_cons (pv 0) pa_nil)) (pa_cons (pv 1) pa_nil))))))
    (pss_one (ps_ret (pe_op op_cat (pv 3) (pe_lst (pa_cons (pe_call (ok_law_within (K := K) T) (hr.mono (by decide)) (by rfl) T.m_law_within T.k_law_within T.b_law_within .nil pass0 (pa_cons (pv 0) (pa_cons pe_int (pa_cons (pe_op op_pow pe_int pe_int) pa_nil)))) (pa_cons (pe_or (pe_cmpR op_isN (pv 0) pe_non (nomark _)) (pe_one (pe_call (ok_law_within (K := K) T) (hr.mono (by decide)) (by rfl) T.m_law_within T.k_law_within T.b_law_within .nil pass0 (pa_cons (pv 0) (pa_cons pe_int (pa_cons pe_int pa_nil)))))) (pa_cons (pv 2) pa_nil)))))))))), body_ok h fun d ft => ?_⟩
    have ft : d.ft = true := ft
    have pu := (D.ft_ok ft).1
    refine ⟨[.dat d, .no, .no, .no], by cases d <;> first | rfl | simp [D.sz] at pu, ?_⟩
    refine ST.seq (ST.asg (EV.imp (P' := fun x => x = .bl d.isHolder) ?_ fun x ex => ?_))
    · repeat walk_at "d"
      refine ⟨sz_raw pu, pu, ?_⟩
      rintro _ rfl
      repeat walk_at "d"
      by_cases h2 : d.isTwo = true
      · obtain ⟨x, y, rfl⟩ := isTwo_at h2
        have d2 := (Bool.and_eq_true_iff.mp (show (decide ([x, y].length ≤ 16777000) && D.szA [x, y]) = true from pu)).2
        have zx := szA_get d2 x (List.mem_cons_self ..)
        have zy := szA_get d2 y (List.mem_cons_of_mem _ (List.mem_cons_self ..))
        rw [h2]
        repeat walk_at "d"
        refine RD.ixT (d := x) rfl ?_
        repeat walk_at "d"
        refine ⟨sz_raw zx, zx, ?_⟩
        rintro _ rfl
        repeat walk_at "d"
        show if x.isName = true then _ else _
        by_cases hx : x.isName = true
        · rw [hx, if_pos rfl]
          repeat walk_at "d"
          refine RD.ixT (d := y) rfl ?_
          repeat walk_at "d"
          refine ⟨sz_raw zy, zy, ?_⟩
          rintro _ rfl
          show D.bl y.isWord = .bl (x.isName && y.isWord)
          rw [hx]
          rfl
        · have hx : x.isName = false := by simpa using hx
          rw [hx, if_neg Bool.false_ne_true]
          show D.bl false = .bl (x.isName && y.isWord)
          rw [hx]
          rfl
      · have h2 : d.isTwo = false := by simpa using h2
        rw [h2]
        repeat walk_at "d"
        rw [(notTwo h2).1]
    subst ex
    walk_at "d"
    refine ST.seq (ST.asg (EV.imp (P' := fun x => x = .bl d.isPair) ?_ fun x ex => ?_))
    · repeat walk_at "d"
      refine ⟨sz_raw pu, pu, ?_⟩
      rintro _ rfl
      repeat walk_at "d"
      by_cases h2 : d.isTwo = true
      · obtain ⟨x, y, rfl⟩ := isTwo_at h2
        have d2 := (Bool.and_eq_true_iff.mp (show (decide ([x, y].length ≤ 16777000) && D.szA [x, y]) = true from pu)).2
        have zx := szA_get d2 x (List.mem_cons_self ..)
        have zy := szA_get d2 y (List.mem_cons_of_mem _ (List.mem_cons_self ..))
        rw [h2]
        repeat walk_at "d"
        refine RD.ixT (d := x) rfl ?_
        repeat walk_at "d"
        refine ⟨sz_raw zx, zx, ?_⟩
        rintro _ rfl
        repeat walk_at "d"
        show if x.isWord = true then _ else _
        by_cases hx : x.isWord = true
        · rw [hx, if_pos rfl]
          repeat walk_at "d"
          refine RD.ixT (d := y) rfl ?_
          repeat walk_at "d"
          refine ⟨sz_raw zy, zy, ?_⟩
          rintro _ rfl
          show D.bl y.isWord = .bl (x.isWord && y.isWord)
          rw [hx]
          rfl
        · have hx : x.isWord = false := by simpa using hx
          rw [hx, if_neg Bool.false_ne_true]
          show D.bl false = .bl (x.isWord && y.isWord)
          rw [hx]
          rfl
      · have h2 : d.isTwo = false := by simpa using h2
        rw [h2]
        repeat walk_at "d"
        rw [(notTwo h2).2]
    subst ex
    repeat walk_at "d"
    refine ⟨(d, -(10 ^ (60 : Int).toNat), 10 ^ (60 : Int).toNat), rfl, by simpa using fun b e => sz_raw pu (ρ := []) b (by rw [e]; exact List.mem_cons_self ..), pu, ?_⟩
    rintro _ rfl
    dsimp only
    rw [ft_inR ft]
    repeat walk_at "d"
    refine ⟨sz_raw pu, pu, ?_⟩
    rintro _ rfl
    repeat walk_at "d"
    refine ⟨sz_raw pu, pu, ?_⟩
    rintro _ rfl
    repeat walk_at "d"
    refine ⟨(d, 0, 10 ^ (9 : Int).toNat), rfl, by simpa using fun b e => sz_raw pu (ρ := []) b (by rw [e]; exact List.mem_cons_self ..), pu, ?_⟩
    rintro _ rfl
    dsimp only
    rw [show (10 : Int) ^ (9 : Int).toNat = 1000000000 by decide +kernel]
    refine EA.cons (EV.imp (P' := fun x => x = .bl (d.isN || d.inR 0 8)) ?_ fun x ex => ?_)
    · repeat walk_at "d"
      by_cases hn : d.isN = true
      · rw [hn]
        repeat walk_at "d"
        rfl
      have hn : d.isN = false := by simpa using hn
      rw [hn]
      repeat walk_at "d"
      refine ⟨(d, 0, 8), rfl, by simpa using fun b e => sz_raw pu (ρ := []) b (by rw [e]; exact List.mem_cons_self ..), pu, ?_⟩
      rintro _ rfl
      rfl
    subst ex
    repeat walk_at "d"
    refine RD.cat (by show 4 + 3 ≤ sizeLine; decide) ?_
    rfl


/-! ### the law -/
theorem seven_fit (d : D) : Fit 200000 20 (D.seven d) := by
  unfold K11.D.seven
  refine (Fit.lst (w := 0) (k := 0) (l := 7) (fun x m => ?_) (Nat.le_refl _)).mono (by decide) (by decide)
  simp only [List.mem_cons, List.not_mem_nil, or_false] at m
  rcases m with rfl | rfl | rfl | rfl | rfl | rfl | rfl <;> exact ⟨rfl, Nat.le_refl _, Nat.le_refl _⟩
theorem ok_law (T : Tx K mg a) : FnG P w K mg base CX0 5 a.f_law a.d_law ["_law_script"] (spLaw K) := by
  refine VB.okG (k := 4) T.F_law sc_law (fun vs H Q E h => ?_) (fun cdv A outer s H vs Q E hg hr h => ?_)
  · obtain ⟨a, ns, rfl, _⟩ := h
    rfl
  · refine ⟨_, PSs.nox (pss_cons (ps_set (i := 1) sc_law.nd rfl (Or.inl rfl) (pe_call (ok_law_bag (K := K) T) (hr.mono (by decide)) (by rfl) T.m_law_bag T.k_law_bag T.b_law_bag .nil pass0 (pa_cons (pv 0) pa_nil)))
    (pss_cons (ps_for PassesOwn.never rfl (pi_range1 rfl T.n_range (pa_cons pe_int pa_nil)) (pg_name (i := 2) sc_law.nd rfl (Or.inl rfl))
      (pss_cons (ps_set (i := 3) sc_law.nd rfl (Or.inl rfl) (pe_call (ok_law_thing (K := K) T) (hr.mono (by decide)) (by rfl) T.m_law_thing T.k_law_thing T.b_law_thing .nil pass0 (pa_cons (pv 1) pa_nil)))
    (pss_cons (ps_par (i := 4) (j := 5) (by rfl) sc_law.nd rfl rfl (by decide) rfl rfl (pa_cons (pe_callB (VB.call_reprX (K := K) rfl T.sys hg hr.units) (by rfl) T.n_repr (by decide +kernel) (pa_cons (pv 3) pa_nil)) (pa_cons (pe_callB (VB.call_reprX (K := K) rfl T.sys hg hr.units) (by rfl) T.n_repr (by decide +kernel) (pa_cons (pe_call (ok_law_due (K := K) T) (hr.mono (by decide)) (by rfl) T.m_law_due T.k_law_due T.b_law_due .nil pass0 (pa_cons (pv 3) pa_nil)) pa_nil)) pa_nil)) (by rfl))
    (pss_one (ps_for PassesOwn.never rfl (pi_range1 rfl T.n_range (pa_cons pe_int pa_nil)) (pg_name (i := 6) sc_law.nd rfl (Or.inl rfl))
      (pss_one (ps_if (PW.pt (pw_or (pt_cmpR op_ne (pe_callB (VB.call_reprX (K := K) rfl T.sys hg hr.units) (by rfl) T.n_repr (by decide +kernel) (pa_cons (pe_call (ok_law_asked (K := K) T) (hr.mono (by decide)) (by rfl) T.m_law_asked T.k_law_asked T.b_law_asked .nil pass0 (pa_cons (pv 3) pa_nil)) pa_nil)) (pv 5) (nomark _)) (pw_or1 (pt_cmpR op_ne (pe_callB (VB.call_reprX (K := K) rfl T.sys hg hr.units) (by rfl) T.n_repr (by decide +kernel) (pa_cons (pv 3) pa_nil)) (pv 4) (nomark _))))) (pss_one (ps_ret pe_bl)) pss_nil)))))))
    (pss_one (ps_ret pe_bl)))), law_body h (by decide) fun b => ⟨[.no, .bag b, .no, .no, .no, .no, .no], rfl, ?_⟩⟩
    repeat walk_at "d"
    refine ST.forR ?_
    repeat walk_at "d"
    refine ⟨by decide, by decide, fun _ ρ => ∃ (e2 e3 e4 e5 e6 : En), ρ = [.no, .bag b, e2, e3, e4, e5, e6], ⟨_, _, _, _, _, rfl⟩, ?_, ?_⟩
    · rintro i ρ hi ⟨e2, e3, e4, e5, e6, rfl⟩
      repeat walk_at "d"
      refine ⟨by simp, trivial, ?_⟩
      intro d hd
      have hd : Fit 200000 20 d := hd
      have pu := hd.sz
      repeat walk_at "d"
      refine RC.reprX hd.rp ?_
      repeat walk_at "d"
      refine ⟨sz_raw pu, hd.ft, ?_⟩
      rintro _ rfl
      refine EA.nil ?_
      refine RC.reprX (seven_fit d).rp ?_
      repeat walk_at "d"
      refine ST.forR ?_
      repeat walk_at "d"
      refine ⟨by decide, by decide, fun _ ρ => ∃ e6 : En, ρ = [.no, .bag b, .dat (.int i), .dat d, .dat (.str d.py.shown), .dat (.str (D.seven d).py.shown), e6], ⟨_, rfl⟩, ?_, ?_⟩
      · rintro j ρ hj ⟨e6, rfl⟩
        repeat walk_at "d"
        refine ⟨sz_raw pu, pu, ?_⟩
        rintro _ rfl
        refine EA.nil ?_
        refine RC.reprX (seven_fit d).rp ?_
        repeat walk_at "d"
        rw [decide_eq_true rfl]
        repeat walk_at "d"
        refine RC.reprX hd.rp ?_
        repeat walk_at "d"
        rw [decide_eq_true rfl]
        repeat walk_at "d"
        exact ⟨_, rfl⟩
      · rintro ρ ⟨e6, rfl⟩
        exact ⟨_, _, _, _, _, rfl⟩
    · rintro ρ ⟨e2, e3, e4, e5, e6, rfl⟩
      repeat walk_at "d"
      rfl


def e_is_integer : He.DefD := ⟨("is_integer", none), "is_integer", "is_integer", defArgs s_is_integer, defBody s_is_integer, defScope s_is_integer, [], []⟩
def e_is_word : He.DefD := ⟨("is_word", none), "is_word", "is_word", defArgs s_is_word, defBody s_is_word, defScope s_is_word, [], []⟩
def e_is_name : He.DefD := ⟨("is_name", none), "is_name", "is_name", defArgs s_is_name, defBody s_is_name, defScope s_is_name, [], []⟩
def e_is_holder : He.DefD := ⟨("is_holder", none), "is_holder", "is_holder", defArgs s_is_holder, defBody s_is_holder, defScope s_is_holder, [], []⟩
def e_is_day : He.DefD := ⟨("is_day", none), "is_day", "is_day", defArgs s_is_day, defBody s_is_day, defScope s_is_day, [], []⟩
def e_is_count : He.DefD := ⟨("is_count", none), "is_count", "is_count", defArgs s_is_count, defBody s_is_count, defScope s_is_count, [], []⟩
def e_is_pair : He.DefD := ⟨("is_pair", none), "is_pair", "is_pair", defArgs s_is_pair, defBody s_is_pair, defScope s_is_pair, [], []⟩
def e_law_bag : He.DefD := ⟨("_law_bag", none), "_law_bag", "_law_bag", defArgs s_law_bag, defBody s_law_bag, defScope s_law_bag, [], []⟩
def e_law_take : He.DefD := ⟨("_law_take", none), "_law_take", "_law_take", defArgs s_law_take, defBody s_law_take, defScope s_law_take, [], []⟩
def e_law_within : He.DefD := ⟨("_law_within", none), "_law_within", "_law_within", defArgs s_law_within, defBody s_law_within, defScope s_law_within, [], []⟩
def e_law_is_word : He.DefD := ⟨("_law_is_word", none), "_law_is_word", "_law_is_word", defArgs s_law_is_word, defBody s_law_is_word, defScope s_law_is_word, [], []⟩
def e_law_is_name : He.DefD := ⟨("_law_is_name", none), "_law_is_name", "_law_is_name", defArgs s_law_is_name, defBody s_law_is_name, defScope s_law_is_name, [], []⟩
def e_law_is_couple : He.DefD := ⟨("_law_is_couple", none), "_law_is_couple", "_law_is_couple", defArgs s_law_is_couple, defBody s_law_is_couple, defScope s_law_is_couple, [], []⟩
def e_law_number : He.DefD := ⟨("_law_number", none), "_law_number", "_law_number", defArgs s_law_number, defBody s_law_number, defScope s_law_number, [], []⟩
def e_law_text : He.DefD := ⟨("_law_text", none), "_law_text", "_law_text", defArgs s_law_text, defBody s_law_text, defScope s_law_text, [], []⟩
def e_law_any_name : He.DefD := ⟨("_law_any_name", none), "_law_any_name", "_law_any_name", defArgs s_law_any_name, defBody s_law_any_name, defScope s_law_any_name, [], []⟩
def e_law_odd : He.DefD := ⟨("_law_odd", none), "_law_odd", "_law_odd", defArgs s_law_odd, defBody s_law_odd, defScope s_law_odd, [], []⟩
def e_law_bent : He.DefD := ⟨("_law_bent", none), "_law_bent", "_law_bent", defArgs s_law_bent, defBody s_law_bent, defScope s_law_bent, [], []⟩
def e_law_thing : He.DefD := ⟨("_law_thing", none), "_law_thing", "_law_thing", defArgs s_law_thing, defBody s_law_thing, defScope s_law_thing, [], []⟩
def e_law_due : He.DefD := ⟨("_law_due", none), "_law_due", "_law_due", defArgs s_law_due, defBody s_law_due, defScope s_law_due, [], []⟩
def e_law_asked : He.DefD := ⟨("_law_asked", none), "_law_asked", "_law_asked", defArgs s_law_asked, defBody s_law_asked, defScope s_law_asked, [], []⟩
def e_law : He.DefD := ⟨("law", none), "law", "law", defArgs s_law, defBody s_law, defScope s_law, [], []⟩
def fn : List He.DefD := [e_is_integer, e_is_word, e_is_name, e_is_holder, e_is_day, e_is_count, e_is_pair, e_law_bag, e_law_take, e_law_within, e_law_is_word, e_law_is_name, e_law_is_couple, e_law_number, e_law_text, e_law_any_name, e_law_odd, e_law_bent, e_law_thing, e_law_due, e_law_asked, e_law]
def fa : List He.Fa := [.glo "is_integer", .glo "is_word", .glo "is_name", .glo "is_holder", .glo "is_day", .glo "is_count", .glo "is_pair", .glo "_law_bag", .glo "_law_take", .glo "_law_within", .glo "_law_is_word", .glo "_law_is_name", .glo "_law_is_couple", .glo "_law_number", .glo "_law_text", .glo "_law_any_name", .glo "_law_odd", .glo "_law_bent", .glo "_law_thing", .glo "_law_due", .glo "_law_asked", .glo "law", .str "LETTERS" "abcdefghijklmnopqrstuvwxyz", .int "MOST_LETTERS" 8, .int "LAST_DAY" 1000000000, .int "MOST_COUNT" 8, .free "abs", .free "all", .free "bool", .free "int", .free "isinstance", .free "len", .free "list", .free "range", .free "repr", .free "str", .free "tuple"]
abbrev R : PySem.W.OpenRow := PySem.W.OpenLaw.row PySem.Challenge.rw_vouchchains_k11_kinds_known
abbrev hk : PySem.W.Hook := VB.hookE 4 fa fn
def ob (s : PySem.W.SharedT) : Bool × He.AlD := VB.obsEG 4 fa fn (HandSHeadRun.getT s)
theorem ob_eq (s : PySem.W.SharedT) : ob s = hk.obs s.abs := VB.obsEG_eq (HandSHeadRun.getT_eq s)
def loose : List Str := ["LETTERS", "MOST_LETTERS", "LAST_DAY", "MOST_COUNT", "is_integer", "is_word", "is_name", "is_holder", "is_day", "is_count", "is_pair", "_law_bag", "_law_take", "_law_within", "_law_is_word", "_law_is_name", "_law_is_couple", "_law_number", "_law_text", "_law_any_name", "_law_odd", "_law_bent", "_law_thing", "_law_due", "_law_asked"]
theorem run (w : World) : HandSHeadRun.RunEq R (PySem.W.view R.prog [27]) hk ob 2000 (["LETTERS", "MOST_LETTERS", "LAST_DAY", "MOST_COUNT", "is_integer", "is_word", "is_name", "is_holder", "is_day", "is_count", "is_pair", "_law_bag", "_law_take", "_law_within", "_law_is_word", "_law_is_name", "_law_is_couple", "_law_number", "_law_text", "_law_any_name", "_law_odd", "_law_bent", "_law_thing", "_law_due", "_law_asked"]) w := by
  intro os
  kernel_rfl
theorem facts {P : Program} {w : World} {K : PySem.W.Frag} {h : Heap} {mg : Str → Option Value} {f : Addr} (X : K.In h) (G : h.Ns mainGlobals mg) (hfa : mg ("law" : Str) = some (.ref f)) (sy : VB.sysOk K = true) (c : He.SaysD fa fn K) :
    ∃ fd : FuncData, (∀ (s : Shared) (v : Value), BindsTo s fd ⟨[v], []⟩ [("_law_script", v)]) ∧ ∀ base : Heap, K.In base → base.Ns mainGlobals mg → FnG P w K mg base CX0 5 f fd ["_law_script"] ((spLaw K)) := by
  obtain ⟨d0, F0⟩ := c.def_ 0 (d := e_is_integer) rfl
  obtain ⟨d1, F1⟩ := c.def_ 1 (d := e_is_word) rfl
  obtain ⟨d2, F2⟩ := c.def_ 2 (d := e_is_name) rfl
  obtain ⟨d3, F3⟩ := c.def_ 3 (d := e_is_holder) rfl
  obtain ⟨d4, F4⟩ := c.def_ 4 (d := e_is_day) rfl
  obtain ⟨d5, F5⟩ := c.def_ 5 (d := e_is_count) rfl
  obtain ⟨d6, F6⟩ := c.def_ 6 (d := e_is_pair) rfl
  obtain ⟨d7, F7⟩ := c.def_ 7 (d := e_law_bag) rfl
  obtain ⟨d8, F8⟩ := c.def_ 8 (d := e_law_take) rfl
  obtain ⟨d9, F9⟩ := c.def_ 9 (d := e_law_within) rfl
  obtain ⟨d10, F10⟩ := c.def_ 10 (d := e_law_is_word) rfl
  obtain ⟨d11, F11⟩ := c.def_ 11 (d := e_law_is_name) rfl
  obtain ⟨d12, F12⟩ := c.def_ 12 (d := e_law_is_couple) rfl
  obtain ⟨d13, F13⟩ := c.def_ 13 (d := e_law_number) rfl
  obtain ⟨d14, F14⟩ := c.def_ 14 (d := e_law_text) rfl
  obtain ⟨d15, F15⟩ := c.def_ 15 (d := e_law_any_name) rfl
  obtain ⟨d16, F16⟩ := c.def_ 16 (d := e_law_odd) rfl
  obtain ⟨d17, F17⟩ := c.def_ 17 (d := e_law_bent) rfl
  obtain ⟨d18, F18⟩ := c.def_ 18 (d := e_law_thing) rfl
  obtain ⟨d19, F19⟩ := c.def_ 19 (d := e_law_due) rfl
  obtain ⟨d20, F20⟩ := c.def_ 20 (d := e_law_asked) rfl
  obtain ⟨d21, F21⟩ := c.def_ 21 (d := e_law) rfl
  obtain ⟨t0, g0⟩ := He.str_ok X G (c.fact 22 (f := .str "LETTERS" "abcdefghijklmnopqrstuvwxyz") rfl)
  obtain ⟨t1, g1⟩ := He.int_ok X G (c.fact 23 (f := .int "MOST_LETTERS" 8) rfl)
  obtain ⟨t2, g2⟩ := He.int_ok X G (c.fact 24 (f := .int "LAST_DAY" 1000000000) rfl)
  obtain ⟨t3, g3⟩ := He.int_ok X G (c.fact 25 (f := .int "MOST_COUNT" 8) rfl)
  have ef := hfa.symm.trans (He.glo_ok X G (c.fact 21 (f := .glo "law") rfl))
  cases ef
  let a : Ad := ⟨He.ga K "is_integer", d0, He.ga K "is_word", d1, He.ga K "is_name", d2, He.ga K "is_holder", d3, He.ga K "is_day", d4, He.ga K "is_count", d5, He.ga K "is_pair", d6, He.ga K "_law_bag", d7, He.ga K "_law_take", d8, He.ga K "_law_within", d9, He.ga K "_law_is_word", d10, He.ga K "_law_is_name", d11, He.ga K "_law_is_couple", d12, He.ga K "_law_number", d13, He.ga K "_law_text", d14, He.ga K "_law_any_name", d15, He.ga K "_law_odd", d16, He.ga K "_law_bent", d17, He.ga K "_law_thing", d18, He.ga K "_law_due", d19, He.ga K "_law_asked", d20, He.ga K "law", d21, t0, t1, t2, t3⟩
  have T : Tx K mg a := ⟨F0, He.glo_ok X G (c.fact 0 (f := .glo "is_integer") rfl), F0.kp, F0.bindsN fun _ _ _ _ _ _ us hl => match us, hl with | [_], _ => rfl,
    F1, He.glo_ok X G (c.fact 1 (f := .glo "is_word") rfl), F1.kp, F1.bindsN fun _ _ _ _ _ _ us hl => match us, hl with | [_], _ => rfl,
    F2, He.glo_ok X G (c.fact 2 (f := .glo "is_name") rfl), F2.kp, F2.bindsN fun _ _ _ _ _ _ us hl => match us, hl with | [_], _ => rfl,
    F3, He.glo_ok X G (c.fact 3 (f := .glo "is_holder") rfl), F3.kp, F3.bindsN fun _ _ _ _ _ _ us hl => match us, hl with | [_], _ => rfl,
    F4, He.glo_ok X G (c.fact 4 (f := .glo "is_day") rfl), F4.kp, F4.bindsN fun _ _ _ _ _ _ us hl => match us, hl with | [_], _ => rfl,
    F5, He.glo_ok X G (c.fact 5 (f := .glo "is_count") rfl), F5.kp, F5.bindsN fun _ _ _ _ _ _ us hl => match us, hl with | [_], _ => rfl,
    F6, He.glo_ok X G (c.fact 6 (f := .glo "is_pair") rfl), F6.kp, F6.bindsN fun _ _ _ _ _ _ us hl => match us, hl with | [_], _ => rfl,
    F7, He.glo_ok X G (c.fact 7 (f := .glo "_law_bag") rfl), F7.kp, F7.bindsN fun _ _ _ _ _ _ us hl => match us, hl with | [_], _ => rfl,
    F8, He.glo_ok X G (c.fact 8 (f := .glo "_law_take") rfl), F8.kp, F8.bindsN fun _ _ _ _ _ _ us hl => match us, hl with | [_, _], _ => rfl,
    F9, He.glo_ok X G (c.fact 9 (f := .glo "_law_within") rfl), F9.kp, F9.bindsN fun _ _ _ _ _ _ us hl => match us, hl with | [_, _, _], _ => rfl,
    F10, He.glo_ok X G (c.fact 10 (f := .glo "_law_is_word") rfl), F10.kp, F10.bindsN fun _ _ _ _ _ _ us hl => match us, hl with | [_], _ => rfl,
    F11, He.glo_ok X G (c.fact 11 (f := .glo "_law_is_name") rfl), F11.kp, F11.bindsN fun _ _ _ _ _ _ us hl => match us, hl with | [_], _ => rfl,
    F12, He.glo_ok X G (c.fact 12 (f := .glo "_law_is_couple") rfl), F12.kp, F12.bindsN fun _ _ _ _ _ _ us hl => match us, hl with | [_], _ => rfl,
    F13, He.glo_ok X G (c.fact 13 (f := .glo "_law_number") rfl), F13.kp, F13.bindsN fun _ _ _ _ _ _ us hl => match us, hl with | [_], _ => rfl,
    F14, He.glo_ok X G (c.fact 14 (f := .glo "_law_text") rfl), F14.kp, F14.bindsN fun _ _ _ _ _ _ us hl => match us, hl with | [_], _ => rfl,
    F15, He.glo_ok X G (c.fact 15 (f := .glo "_law_any_name") rfl), F15.kp, F15.bindsN fun _ _ _ _ _ _ us hl => match us, hl with | [_], _ => rfl,
    F16, He.glo_ok X G (c.fact 16 (f := .glo "_law_odd") rfl), F16.kp, F16.bindsN fun _ _ _ _ _ _ us hl => match us, hl with | [_], _ => rfl,
    F17, He.glo_ok X G (c.fact 17 (f := .glo "_law_bent") rfl), F17.kp, F17.bindsN fun _ _ _ _ _ _ us hl => match us, hl with | [_, _], _ => rfl,
    F18, He.glo_ok X G (c.fact 18 (f := .glo "_law_thing") rfl), F18.kp, F18.bindsN fun _ _ _ _ _ _ us hl => match us, hl with | [_], _ => rfl,
    F19, He.glo_ok X G (c.fact 19 (f := .glo "_law_due") rfl), F19.kp, F19.bindsN fun _ _ _ _ _ _ us hl => match us, hl with | [_], _ => rfl,
    F20, He.glo_ok X G (c.fact 20 (f := .glo "_law_asked") rfl), F20.kp, F20.bindsN fun _ _ _ _ _ _ us hl => match us, hl with | [_], _ => rfl,
    F21, He.glo_ok X G (c.fact 21 (f := .glo "law") rfl), F21.kp, F21.bindsN fun _ _ _ _ _ _ us hl => match us, hl with | [_], _ => rfl,
    g0,
    g1,
    g2,
    g3,
    He.free_ok X G (c.fact 26 (f := .free "abs") rfl),
    He.free_ok X G (c.fact 27 (f := .free "all") rfl),
    He.free_ok X G (c.fact 28 (f := .free "bool") rfl),
    He.free_ok X G (c.fact 29 (f := .free "int") rfl),
    He.free_ok X G (c.fact 30 (f := .free "isinstance") rfl),
    He.free_ok X G (c.fact 31 (f := .free "len") rfl),
    He.free_ok X G (c.fact 32 (f := .free "list") rfl),
    He.free_ok X G (c.fact 33 (f := .free "range") rfl),
    He.free_ok X G (c.fact 34 (f := .free "repr") rfl),
    He.free_ok X G (c.fact 35 (f := .free "str") rfl),
    He.free_ok X G (c.fact 36 (f := .free "tuple") rfl),
    sy⟩
  have bl := FunD.bindsA (ps := ["_law_script"]) F21 fun _ _ _ _ _ _ us hl => match us, hl with | [_], _ => rfl
  exact ⟨d21, fun s v => bl s [v] rfl, fun _ _ _ => ok_law T⟩
end K11
open PySem PySem.W PySem.Calls PyProof.Rows
set_option maxRecDepth 100000 in
set_option maxHeartbeats 0 in
theorem PySem.Challenge.cw_vouchchains_k11_kinds_known_holds : PySem.Challenge.rw_vouchchains_k11_kinds_known.Holds := by
  w_on; o_law
  refine HandSHeadRun.head_any (r := OpenLaw.row PySem.Challenge.rw_vouchchains_k11_kinds_known) (q := view (OpenLaw.row PySem.Challenge.rw_vouchchains_k11_kinds_known).prog [27]) (H := K11.hk) (ob := K11.ob) (M := 2000) (loose := ["LETTERS", "MOST_LETTERS", "LAST_DAY", "MOST_COUNT", "is_integer", "is_word", "is_name", "is_holder", "is_day", "is_count", "is_pair", "_law_bag", "_law_take", "_law_within", "_law_is_word", "_law_is_name", "_law_is_couple", "_law_number", "_law_text", "_law_any_name", "_law_odd", "_law_bent", "_law_thing", "_law_due", "_law_asked"]) (d := HandSHeadRun.topDef (OpenLaw.row PySem.Challenge.rw_vouchchains_k11_kinds_known).prog 27) (kwd := []) K11.ob_eq
    (by kernel_rfl) (fun s => by kernel_rfl) K11.run (by kernel_rfl) (by kernel_rfl) (by kernel_rfl) (by rfl) (by first | assumption | decide +kernel) (by decide +kernel) ⟨rfl, rfl, rfl, rfl, rfl, by decide +kernel⟩ ?hw ?hc
  case hw => w_witness2
  case hc =>
    refine VB.walk_G (l := PySem.Challenge.rw_vouchchains_k11_kinds_known) (n := 63) (k := 5) (x := "_law_script") (CX := L2.CX0) rfl (by decide) (by kernel_rfl) ⟨rfl, by decide, by decide⟩ ?F (fun _ _ _ _ z => z)
    intro w mg fa h Y G hmg0
    obtain ⟨K, KX, sy, c⟩ := Y
    have hmg : mg ("law" : PySem.Str) = some (.ref fa) := by
      have e : (HandSHeadRun.topDef (OpenLaw.row PySem.Challenge.rw_vouchchains_k11_kinds_known).prog 27).name = ("law" : PySem.Str) := by kernel_rfl
      rw [← e]
      exact hmg0
    obtain ⟨fd, hb, hF⟩ := K11.facts (P := (PySem.Challenge.rw_vouchchains_k11_kinds_known).prog) (w := w) KX G hmg sy c
    exact ⟨K, fd, VB.spLaw K, KX, hb, fun H a ns hl hO hS => VB.law_start hl hO hS, hF⟩
