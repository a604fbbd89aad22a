import PyProof.Rows.All
import Wide.All
import OpenK.AllK
import Wide.FinOn
import HandS.ForMost
import HandS.ForExc
import HandS.Wide
import HandS.TupAny
import HandS.IsInst
import HandS.Style
import HandS.Flow
import HandS.Walk
import HandS.Evl
import HandS.Defaults
import HandS.Head0
import HandS.Head1
import HandS.Head2
import HandS.HeadEnd
import HandS.HeadHook1
import HandS.HeadHook2
import PySem.Challenge.RW_vouchchains_k12_begins_and_names
set_option Elab.async false
set_option linter.all false
set_option maxRecDepth 100000
set_option maxHeartbeats 4000000
/-! The common part: growing heaps with one bag of draws; rules that lack; a def that may be called only where no repr runs. -/
namespace VB
open PySem PySem.Spec PyProof.Rows L2

/-! ### heaps that grow, a bag of draws apart -/
def bagSh : HO → Bool
  | .lst [.int _, .int _, .int _, .ref _] => true
  | _ => false
def bagO (z s i : Int) (c : Addr) : HO := .lst [.int z, .int s, .int i, .ref c]
def BagV (z s i : Int) : Prop := 0 ≤ z ∧ 0 ≤ s ∧ s < 2147483647 ∧ 0 ≤ i
structure Gr (H H' : Hp) : Prop where
  keep : ∀ a o, H a = some o → bagSh o = false → H' a = some o
  bag : ∀ b z s i c, H b = some (bagO z s i c) → BagV z s i → ∃ z' s' i', H' b = some (bagO z' s' i' c) ∧ BagV z' s' i'
  free : ∀ a, H' a = none → H a = none
theorem Gr.refl (H : Hp) : Gr H H := ⟨fun _ _ e _ => e, fun _ z s i _ e v => ⟨z, s, i, e, v⟩, fun _ e => e⟩
theorem Gr.trans {H H1 H2 : Hp} (a : Gr H H1) (b : Gr H1 H2) : Gr H H2 :=
  ⟨fun x o e n => b.keep x o (a.keep x o e n) n, fun x z s i c e v => by
    obtain ⟨z1, s1, i1, e1, v1⟩ := a.bag x z s i c e v
    exact b.bag x z1 s1 i1 c e1 v1, fun x e => a.free x (b.free x e)⟩
theorem Gr.same {H H' : Hp} (h : ∀ a o, H a = some o → H' a = some o) : Gr H H' :=
  ⟨fun a o e _ => h a o e, fun _ z s i _ e v => ⟨z, s, i, h _ _ e, v⟩, fun a e => by
    cases q : H a with
    | none => rfl
    | some o =>
      have := h a o q
      rw [e] at this
      cases this⟩
theorem Gr.new {H : Hp} {p : Addr} {o : HO} (n : H p = none) : Gr H (upd H p o) := Gr.same fun a u e => by
  rw [upd_ne (ne_of_none e n)]
  exact e
/-- what H0 does not know may change -/
theorem Gr.mut {H0 H : Hp} {p : Addr} {o : HO} (g : Gr H0 H) (n : H0 p = none) : Gr H0 (upd H p o) :=
  ⟨fun a u e nb => by
    rw [upd_ne (ne_of_none e n)]
    exact g.keep a u e nb, fun b z s i c e v => by
    obtain ⟨z1, s1, i1, e1, v1⟩ := g.bag b z s i c e v
    refine ⟨z1, s1, i1, ?_, v1⟩
    rw [upd_ne (ne_of_none e n)]
    exact e1, fun a e => by
    by_cases h : a = p
    · rw [h]
      exact n
    · rw [upd_ne h] at e
      exact g.free a e⟩
/-- the bag is written -/
theorem Gr.bagW {H : Hp} {b c : Addr} {z s i z' s' i' : Int} (e : H b = some (bagO z s i c)) (v : BagV z' s' i') : Gr H (upd H b (bagO z' s' i' c)) :=
  ⟨fun a o ea nb => by
    by_cases h : a = b
    · subst h
      rw [e] at ea
      cases ea
      cases nb
    · rw [upd_ne h]
      exact ea, fun b' z1 s1 i1 c1 e1 v1 => by
    by_cases h : b' = b
    · subst h
      rw [e] at e1
      have q := Option.some.inj e1
      unfold bagO at q
      injection q with q
      simp only [List.cons.injEq, V.ref.injEq, and_true] at q
      obtain ⟨_, _, _, rfl⟩ := q
      exact ⟨z', s', i', upd_same, v⟩
    · exact ⟨z1, s1, i1, by rw [upd_ne h]; exact e1, v1⟩, fun a ea => by
    by_cases h : a = b
    · rw [h, upd_same] at ea
      cases ea
    · rw [upd_ne h] at ea
      exact ea⟩
/-- a bag stands at b -/
def BagAt (H : Hp) (b : Addr) : Prop := ∃ (z s i : Int) (c : Addr) (ns : List Int), H b = some (bagO z s i c) ∧ BagV z s i ∧ H c = some (.lst (ns.map V.int)) ∧ ∀ n ∈ ns, 0 ≤ n
theorem ints_sh (ns : List Int) : bagSh (.lst (ns.map V.int)) = false := by
  match ns with
  | [] => rfl
  | [_] => rfl
  | [_, _] => rfl
  | [_, _, _] => rfl
  | [_, _, _, _] => rfl
  | _ :: _ :: _ :: _ :: _ :: _ => rfl
theorem strs_sh (xs : List Str) : bagSh (.lst (xs.map V.str)) = false := by
  match xs with
  | [] => rfl
  | _ :: _ => rfl
theorem BagAt.gr {H H' : Hp} {b : Addr} (h : BagAt H b) (g : Gr H H') : BagAt H' b := by
  obtain ⟨z, s, i, c, ns, e, v, ec, hn⟩ := h
  obtain ⟨z', s', i', e', v'⟩ := g.bag b z s i c e v
  exact ⟨z', s', i', c, ns, e', v', g.keep c _ ec (ints_sh ns), hn⟩
theorem Gr.tup {K : PySem.W.Frag} {H H' : Hp} {a : Addr} {xs : List V} (g : Gr H H') (h : SqT K H a xs) : SqT K H' a xs := by
  rcases h with (h | ⟨o, h⟩) | h
  · exact .inl (.inl (g.keep _ _ h rfl))
  · exact .inl (.inr ⟨o, g.keep _ _ h rfl⟩)
  · exact .inr h
theorem Gr.lst {K : PySem.W.Frag} {H H' : Hp} {a : Addr} {xs : List V} (g : Gr H H') (n : bagSh (.lst xs) = false) (h : SqL K H a xs) : SqL K H' a xs := by
  rcases h with (h | ⟨o, h⟩) | h
  · exact .inl (.inl (g.keep _ _ h n))
  · exact .inl (.inr ⟨o, g.keep _ _ h rfl⟩)
  · exact .inr h
theorem Gr.lst1 {H H' : Hp} {a : Addr} {xs : List V} (g : Gr H H') (n : bagSh (.lst xs) = false) (h : H a = some (.lst xs)) : H' a = some (.lst xs) := g.keep _ _ h n

/-! ### rules that lack -/
section
variable {X : Cx}
/-- xs[k] read for xs[k] op= e -/
def rGetL : V → V → Hp → VK → Prop := fun o i H Q => ∃ (p : Addr) (xs : List V) (k : Int) (v : V), o = .ref p ∧ i = .int k ∧ 0 ≤ k ∧ k < 2 ^ 63 ∧ H p = some (.lst xs) ∧ xs[k.toNat]? = some v ∧ Q v H
theorem get_list : PGet X rGetL := by
  intro pins s σ H o i ov iv Q I ro ri h
  obtain ⟨p, xs, k, v, rfl, rfl, k0, k1, hp, hv, q⟩ := h
  cases ro
  obtain ⟨t, rfl⟩ := ri
  obtain ⟨its, r, pl, _⟩ := I.list (SqL.of hp)
  obtain ⟨w, ew, rw'⟩ := r.get hv
  exact wpAny_getItem_list pl.isList k0 k1 (by simpa using ew) ⟨v, H, I, rw', q⟩
/-- repr of data, where no repr runs -/
def rRepr (K : PySem.W.Frag) : List V → Hp → VK → Prop := fun vs H Q => ∃ (x : V) (d : PyData), vs = [x] ∧ Dp K H x d ∧ d.showable = true ∧ d.hasDict = false ∧ d.depth ≤ 30 ∧ d.shown.length ≤ sizeLine ∧ Q (.str d.shown) H
theorem call_repr {K : PySem.W.Frag} (hK : X.K = K) (hg : X.A.guards = some []) (hu : X.A.units + 64 < cLine) : CallR X (.builtin "repr") (rRepr K) := by
  subst hK
  intro pins s σ H xs us Q I r h
  obtain ⟨x, d, rfl, hd, h1, h2, h3, h4, q⟩ := h
  cases r with
  | cons r0 rn =>
    cases rn
    obtain ⟨as, hr⟩ := Dp.reads I d x _ hd r0
    have leaf : ∀ {h' : Heap} {tk : Nat} {t : Tok}, (∀ b o, s.heap.get? b = some o → h'.get? b = some o) → EP X pins σ Q (.str d.shown t) { s with heap := h', toks := tk } :=
      fun hk => ⟨.str d.shown, H, I.kept hk, ⟨_, rfl⟩, q⟩
    cases hd with
    | non => cases r0; exact P.repr_of_none (leaf fun _ _ e => e)
    | bl b => cases r0; exact P.repr_of_bool (leaf fun _ _ e => e)
    | int i => obtain ⟨_, rfl⟩ := r0; exact P.repr_of_int (by simpa [PyData.showable] using h1) (leaf fun _ _ e => e)
    | str z => obtain ⟨_, rfl⟩ := r0; exact P.repr_of_str (leaf fun _ _ e => e) (hsz := h4)
    | lst hs ha => cases r0; exact repr_of_reads' hr h1 (fun z => by rw [h2] at z; cases z) hg (by omega) (fun _ _ e => e) (fun h' u tk hk => leaf hk) h4
    | tup hs ha => cases r0; exact repr_of_reads' hr h1 (fun z => by rw [h2] at z; cases z) hg (by omega) (fun _ _ e => e) (fun h' u tk hk => leaf hk) h4
/-- s * n, a text some times -/
def rMulS : R2 := fun x y H Q => ∃ (z : Str) (k : Int), x = .str z ∧ y = .int k ∧ 0 ≤ k ∧ k ≤ 1000 ∧ z.length ≤ 1000 ∧ Q (.str (Txt.mul z k)) H
theorem op_mul_str : OpR X (binaryOp .Mult) rMulS := by
  intro pins s σ H x y v u Q I rx ry h
  obtain ⟨z, k, rfl, rfl, h0, h1, h2, q⟩ := h
  obtain ⟨t, rfl⟩ := rx
  obtain ⟨t', rfl⟩ := ry
  refine SB.mul ⟨?_, fun _ _ => ?_, fun _ _ => ?_⟩ fun t2 k2 => ⟨.str _, H, I.tok _, ⟨_, rfl⟩, q⟩
  · rw [decide_eq_false (by omega), decide_eq_false (by omega)]
    rfl
  · have hk : 0 < k := by omega
    have : (1000 : Int) ≤ (2 ^ 63 - 1) / k := by
      rw [Int.le_ediv_iff_mul_le hk]
      omega
    omega
  · unfold Builtin.Str.tooLong
    have h3 : z.length * k.toNat ≤ 1000 * 1000 := Nat.mul_le_mul h2 (by omega)
    have e : sizeLine = 16777216 := by decide
    simp only [decide_eq_false_iff_not]
    omega
end

/-! ### the same rules, the written part by its name (within a comprehension's block) -/
section
variable {X : Cx} {K : PySem.W.Frag} {pos : Pos}
theorem kIxL (h : X.K = K) : IxR X (rIxL K) := h ▸ ix_list
theorem kIxT (h : X.K = K) : IxR X (rIxT K) := h ▸ ix_tup
theorem kSlL (h : X.K = K) : SlR X (rSlL K) := h ▸ sl_list
theorem kSlA (h : X.K = K) : SlR X (rSlA K) := h ▸ sl_tupA
theorem kEqD (h : X.K = K) (hu : X.A.units + 64 < cLine) : OpR X (compareOp .Eq) (rEqD K) := h ▸ op_eqD hu
theorem kNeD (h : X.K = K) (hu : X.A.units + 64 < cLine) : OpR X (compareOp .NotEq) (rNeD K) := h ▸ op_neD hu
theorem kCatA (h : X.K = K) : OpR X (binaryOp .Add) (rCatA K) := h ▸ op_catA
def rLenK (K : PySem.W.Frag) : List V → Hp → VK → Prop := fun xs H Q => ∃ x n, xs = [x] ∧ LenV K x H n ∧ Q (.int (n : Nat)) H
theorem kLen (h : X.K = K) : CallR X (.builtin "len") (rLenK K) := h ▸ call_len
theorem kIsi (h : X.K = K) : CallR X (.builtin "isinstance") (rIsi K) := h ▸ call_isi
theorem kIsiT (h : X.K = K) : CallR X (.builtin "isinstance") (rIsiT K) := h ▸ call_isiT
theorem kAll (h : X.K = K) (hc : X.calm = true) : CallR X (.builtin "all") (rAll K) := h ▸ cr_all hc
theorem kAny (h : X.K = K) (hc : X.calm = true) : CallR X (.builtin "any") (rAny K) := h ▸ cr_any hc
def rTupK (K : PySem.W.Frag) : List V → Hp → VK → Prop := fun xs H Q => ∃ p ys, xs = [.ref p] ∧ ((SqL K H p ys ∧ ∀ l, H l = none → Q (.ref l) (upd H l (.tup ys))) ∨ (SqT K H p ys ∧ Q (.ref p) H))
theorem kTup (h : X.K = K) : CallR X (.type "tuple") (rTupK K) := h ▸ call_tuple_of
def rLstK (K : PySem.W.Frag) : List V → Hp → VK → Prop := fun xs H Q => ∃ p ys, xs = [.ref p] ∧ (SqL K H p ys ∨ SqT K H p ys) ∧ ∀ l, H l = none → Q (.ref l) (upd H l (.lst ys))
theorem kPiL {tg l : Expr} {tl : TE} (h : X.K = K) (hl : PE X l tl) : PI X tg l (iList K tl) := h ▸ pi_list hl
theorem kPiT {tg l : Expr} {tl : TE} (h : X.K = K) (hl : PE X l tl) : PI X tg l (iTup K tl) := h ▸ pi_tup hl
theorem kOrT {a b : Expr} {rest : List Expr} {pos : Pos} {ta tb : TE} (h : X.K = K) (ha : PE X a ta) (hb : PE X (.BoolOp .Or (b :: rest) pos) tb) : PE X (.BoolOp .Or (a :: b :: rest) pos) (tOrT K ta tb) := h ▸ pe_orT ha hb
def rJoinK (K : PySem.W.Frag) : V → List V → Hp → VK → Prop := fun x xs H Q => ∃ a p, ∃ ys : List Str, x = .str a ∧ xs = [.ref p] ∧ (SqL K H p (ys.map V.str) ∨ SqT K H p (ys.map V.str)) ∧ (ys.map (·.length)).sum + ys.length * a.length ≤ 16777216 ∧ Q (.str (Txt.join a ys)) H
def rSplitK : V → List V → Hp → VK → Prop := fun x xs H Q => ∃ a b, x = .str a ∧ xs = [.str b] ∧ (b.length == 0) = false ∧ a.length + 2 ≤ sizeLine ∧ rNewStrs (Txt.split a b) H Q
theorem kJoin {o e : Expr} {to te : TE} {apos pos : Pos} (h : X.K = K) (ho : PE X o to) (he : PE X e te) (hs : starEach [e] X.env = [(false, eval e X.env)] := by rfl) (hb : attributeBase o "join" X.env (eval o X.env) = eval o X.env := by rfl) (hl : (apos.endLine == pos.line) = true := by rfl) :
    PE X (.Call (.Attribute o "join" apos) [e] [] pos) (tM1 (rJoinK K) to te) := h ▸ pe_join ho he hs hb hl
theorem kSplit {o e : Expr} {to te : TE} {apos pos : Pos} (ho : PE X o to) (he : PE X e te) (hs : starEach [e] X.env = [(false, eval e X.env)] := by rfl) (hb : attributeBase o "split" X.env (eval o X.env) = eval o X.env := by rfl) (hl : (apos.endLine == pos.line) = true := by rfl) :
    PE X (.Call (.Attribute o "split" apos) [e] [] pos) (tM1 rSplitK to te) := pe_split ho he hs hb hl
theorem kTg {es : List Expr} {k n : Nat} {t : TGs} (h : X.K = K) (hc : X.calm = true) (hp : PGs X es t) (hn : (assignEach es X.env).length = n := by rfl) (hst : (assignEach es X.env).findIdx? (·.1) = none := by rfl) : PG X (.Tuple es k pos) (gTup K n t) := h ▸ pg_tup hc hp hn hst
theorem kLst (h : X.K = K) : CallR X (.type "list") (rLstK K) := h ▸ call_list_of
end
/-! ### a def that may be called only where no repr runs -/
structure FnG (P : Program) (w : World) (K : PySem.W.Frag) (mg : Str → Option Value) (base : Heap) (CX : CXT) (k : Nat) (f : Addr) (fd : FuncData) (ps : List Str) (sp : Sp) : Prop where
  len : ∀ vs H Q E, sp vs H Q E → List.length vs = List.length ps
  run : ∀ A outer s H args us vs Q E, A.guards = some [] → Room k A → Env0 P w K mg base A outer s H → BindsTo s fd args (ps.zip us) → Vals vs us → sp vs H Q E →
      codeAny (model P w) A (.call (.ref f) args) (CR CX outer P w H s Q E) s
section
variable {P : Program} {w : World} {K : PySem.W.Frag} {mg : Str → Option Value} {base : Heap} {CX : CXT} {f : Addr} {fd : FuncData} {ps : List Str} {k : Nat} {sp : Sp}
theorem FnG.of (F : FnOk P w K mg base CX k f fd ps sp) : FnG P w K mg base CX k f fd ps sp :=
  ⟨F.len, fun A outer s H args us vs Q E _ => F.run A outer s H args us vs Q E⟩
theorem FnG.mono {j : Nat} (F : FnG P w K mg base CX k f fd ps sp) (h : k ≤ j) : FnG P w K mg base CX j f fd ps sp :=
  ⟨F.len, fun A outer s H args us vs Q E g r => F.run A outer s H args us vs Q E g (r.mono h)⟩
/-- the body's rule -/
theorem okG {x qual : Str} {pa : Arguments} {body : List Stmt} {sc : Scope} {dvs : List V} {kws : List (Str × V)} {N : List Str} (F : FunD K x qual pa body sc dvs kws f fd) (S : FnScope N ps sc) (len : ∀ vs H Q E, sp vs H Q E → List.length vs = List.length ps)
    (hb : ∀ (cdv : Value) (A : Around) (outer : List Env) (s : Shared) (H : Hp) (vs : List V) (Q : VK) (E : XK), A.guards = some [] → Room k (A.deeper (envOfC qual sc s.heap.objs.size f cdv)) → sp vs H Q E →
      ∃ t, PSs (cxOf CX P w K mg base N qual sc f cdv A outer s H E) body t ∧ t ⟨fun _ H' => Q .non H', Q, fun _ _ => False, fun _ _ => False⟩ (start N vs) H) : FnG P w K mg base CX (k + 1) f fd ps sp := by
  obtain ⟨oc, od, dV, kV, doc, pm, an, cdv, ct, osl, rfl, lk, hcd, _⟩ := F.ex
  refine ⟨len, fun A outer s H args us vs Q E hg hr e0 hbi rv hs => ?_⟩
  have inK : K.In s.heap := e0.mod.kin.keeps fun b o e => (e0.bs b o e).1
  have lim : s.heap.NoLimit := e0.mod.nolimit.keeps fun b o e => (e0.bs b o e).1
  refine codeAny_call_function hr.depth (inK _ _ lk) rfl S.co S.gen rfl (PySem.W.codeRec_of inK hcd) (hbi _ _ _ _ ?_)
  refine wpAny_newFunctionEnv_cells S.kind (fun y hy => ?_) fun env he s1 x1 => ?_
  · rcases S.par y.1 (List.of_mem_zip hy).1 with q | q
    · exact Or.inl q
    · exact Or.inr ⟨q, PySem.W.cellsFrom_some _ _ _ (Or.inl q)⟩
  · subst he
    refine ⟨lim.keeps x1.toInCall.keep, codeAny_func ?_⟩
    obtain ⟨t, ht, hq⟩ := hb cdv A outer s H vs Q E hg (hr.deeper _) hs
    refine wpAny_mono (ht.run [] s1 _ H _ (inv_start S hr.hd e0 (len vs H Q E hs) rv x1) hq) (fun fl s' hf => ?_) fun _ _ hf => hf
    match fl, hf with
    | .ret u, ⟨v, σ', H', J, r2, q⟩ => exact ⟨v, H', J.os, J.bare, J.base, J.hok, r2, q⟩
    | .next, ⟨σ', H', J, q⟩ => exact ⟨V.non, H', J.os, J.bare, J.base, J.hok, rfl, q⟩
    | .brk, ⟨_, _, _, q⟩ => exact q.elim
    | .cont, ⟨_, _, _, q⟩ => exact q.elim
end
section
variable {X : Cx} {CX : CXT} {k : Nat} {f : Addr} {fd : FuncData} {ps : List Str} {sp : Sp} {ds : List Value} {dvs : List V} {E : XK} {x : Str} {p pos : Pos} {e : Expr} {es : List Expr} {t : TA}
theorem run_G {pins : List (Addr × Obj)} {σ : L2.St} {H : Hp} {s : Shared} {Q : VK} {us : List Value} {vs : List V} (F : FnG X.prog X.w X.K X.mg X.base CX k f fd ps sp) (g : X.A.guards = some []) (hr : Room k X.A) (hb : Binds X.K fd ps ds) (hd : Vals dvs ds)
    (hx : Passes CX X E) (I : Inv X pins σ H s) (r : Vals vs us) (h : sp (vs ++ dvs) H Q E) : wpAny (model X.prog X.w) X.A (call (.ref f) us) (EP X pins σ Q) X.xe s := by
  have ra := r.append hd
  refine wpAny_call (codeAny_mono (F.run X.A X.stack s H ⟨us, []⟩ _ _ Q E g hr I.env0 (hb s us I.kIn (by rw [← ra.length]; exact F.len _ _ _ _ h)) ra h) fun res s' hq => ?_)
  match res, hq with
  | .error er, hq => exact hx pins σ H s er s' I hq
  | .ok (.ret u), hq => exact I.after hq
  | .ok .next, hq => exact False.elim hq
  | .ok .brk, hq => exact False.elim hq
  | .ok .cont, hq => exact False.elim hq
theorem pe_callG (F : FnG X.prog X.w X.K X.mg X.base CX k f fd ps sp) (g : X.A.guards = some []) (hr : Room k X.A) (hg : Gl X x) (hm : X.mg x = some (.ref f)) (hk : PySem.W.keepIn X.K (.ref f) = true) (hb : Binds X.K fd ps ds) (hd : Vals dvs ds)
    (hx : Passes CX X E) (ha : PA X (e :: es) t) (hdb : (x == ("__debug__" : Str)) = false := by decide) (he : starEach (e :: es) X.env = (false, eval e X.env) :: starEach es X.env := by rfl)
    (hpl : (backTo pos (starEach es X.env)).any (·.1) = false := by rfl) : PE X (.Call (.Name x p) (e :: es) [] pos) (tCall sp dvs E t) :=
  ⟨fun pins s σ H Q I h => wpAny_Call_Name_kw (ld_glob I hg hm (PySem.W.callWith_K (h₀ := X.base) I.ok.mod.kin hk
    (thn (ha.run pos pins s σ H _ I h) fun us s1 ⟨vs, H1, I1, r, q⟩ => ⟨I1.kIn, run_G F g hr hb hd hx I1 r q⟩) he hpl) hdb)⟩
end

/-! ### the end of a law whose def runs where no repr runs -/
theorem law_G {P : Program} {w : World} {K : PySem.W.Frag} {mg mb : Str → Option Value} {CX : CXT} {k : Nat} {fa a : Addr} {fd : FuncData} {x : Str} {sp : Sp} {s1 : Shared} {vs : List Value} {ns : List Int}
    (KX : K.In s1.heap) (hns : s1.heap.Ns mainGlobals mg) (hb : s1.heap.Ns builtinsNs mb) (hbb : ∀ x : Str, x ≠ "__name__" → mb x = bootBuiltins x) (hlim : s1.heap.NoLimit) (hg : s1.gens = #[])
    (ha : s1.heap.get? a = some { cls := .type "list", data := .seq vs.toArray }) (hi : IntsAre vs ns) (hl : ns.length ≤ sizeLine) (hr : Room k callerA)
    (F : ∀ base : Heap, K.In base → base.Ns mainGlobals mg → FnG P w K mg base CX k fa fd [x] sp) (hbind : ∀ (s : Shared) (u : Value), BindsTo s fd ⟨[u], []⟩ [(x, u)])
    (hsp : ∀ H : Hp, Only H → SqL K H a (ns.map V.int) → sp [.ref a] H (fun v _ => v = .bl true) fun _ _ _ => False)
    (hCX : ∀ H e s', CX [] H s1 (fun _ _ _ => False) e s' → False) :
    codeAny (model P w) callerA (.call (.ref fa) ⟨[.ref a], []⟩) (fun r s' => r = .ok (.ret (.bool true)) ∧ OldK s1.heap s'.heap ∧ s'.os = s1.os ∧ AllBare s'.gens) s1 := by
  have vi := vals_ints hi
  have go : ∀ H : Hp, Only H → SqL K H a (ns.map V.int) → HOk P w H s1.heap → (∀ b, H b ≠ none → b = a) → (H a ≠ none → K.lookup a = none) →
      codeAny (model P w) callerA (.call (.ref fa) ⟨[.ref a], []⟩) (fun r s' => r = .ok (.ret (.bool true)) ∧ OldK s1.heap s'.heap ∧ s'.os = s1.os ∧ AllBare s'.gens) s1 := by
    intro H hO hS hok only kno
    -- what is a dict of names is not tracked
    have keepNs : ∀ {b : Addr} {m : Str → Option Value}, s1.heap.Ns b m → (hidT s1.heap H).Ns b m := fun {b m} ⟨o, es, ep, e, d, r⟩ => by
      refine ⟨o, es, ep, hidT_get e ?_, d, r⟩
      cases hq : H b with
      | none => rfl
      | some u =>
        have hba := only b (by rw [hq]; exact Option.some_ne_none u)
        rw [hba, ha] at e
        have := Option.some.inj e
        rw [← this] at d
        cases d
    have kin2 : K.In (hidT s1.heap H) := fun b o e => hidT_get (KX b o e) (by
      cases hq : H b with
      | none => rfl
      | some u =>
        have hba := only b (by rw [hq]; exact Option.some_ne_none u)
        rw [hba] at e hq
        rw [kno (by rw [hq]; exact Option.some_ne_none u)] at e
        cases e)
    obtain ⟨mc, l1, l2⟩ := hlim
    have md : Mod K mg (hidT s1.heap H) := ⟨kin2, keepNs hns, ⟨mb, keepNs hb, hbb⟩, ⟨mc, keepNs l1, l2⟩⟩
    have nomem : ∀ {b : Addr}, b ∉ frs [] := fun {b} z => by
      have z2 : b ∈ ([] : List Addr) := z
      cases z2
    have en : Env0 P w K mg (hidT s1.heap H) callerA [] s1 H :=
      { frames := rfl, mod := md, bs := fun b o e => of_hidT e, bsz := Nat.le_of_eq (hidT_size _ _), funs := trivial, frf := fun b z => (nomem z).elim, hok := hok, bare := AllBare.of_eq hg }
    refine codeAny_mono ((F _ kin2 (keepNs hns)).run callerA [] s1 H ⟨[.ref a], []⟩ [.ref a] [.ref a] _ _ rfl hr en (hbind s1 (.ref a)) (.cons rfl .nil) (hsp H hO hS)) fun r s' h => ?_
    match r, h with
    | .error e, h => exact (hCX H e s' h).elim
    | .ok .next, h => exact False.elim h
    | .ok .brk, h => exact False.elim h
    | .ok .cont, h => exact False.elim h
    | .ok (.ret u), ⟨v, H', os, bare, un, hok', r', q⟩ =>
      have q' : v = .bl true := q
      subst q'
      have r2 : u = Value.bool true := r'
      subst r2
      refine ⟨rfl, OldK.of_keep fun b o e => ?_, os, bare⟩
      rcases hO b with z | ⟨ob, ys, z⟩
      · exact un.keep b o e z nomem List.not_mem_nil
      · have old := (hok b _ z).1
        rw [e] at old
        rw [Option.some.inj old]
        exact (hok' b _ (un.frzs b ob _ z)).1
  cases hk : K.lookup a with
  | some o =>
    have e := KX a o hk
    rw [ha] at e
    cases e
    refine go (fun _ => none) (fun _ => Or.inl rfl) (Or.inr ⟨_, vs.toArray, _, hk, rfl, rfl, rfl, ?_, ?_⟩) (fun b u z => nomatch z) (fun b z => absurd rfl z) fun z => absurd rfl z
    · rw [List.size_toArray, hi.length]
      exact hl
    · simpa using vi
  | none =>
    have here : (fun b => if b = a then some (HO.frz { cls := .type "list", data := .seq vs.toArray } (.lst (ns.map V.int))) else none : Hp) a = some (HO.frz { cls := .type "list", data := .seq vs.toArray } (.lst (ns.map V.int))) := if_pos rfl
    refine go (fun b => if b = a then some (.frz { cls := .type "list", data := .seq vs.toArray } (.lst (ns.map V.int))) else none) (fun b => ?_) (Or.inl (Or.inr ⟨_, here⟩)) (fun b u z => ?_) (fun b z => ?_) fun _ => hk
    · by_cases h : b = a
      · exact Or.inr ⟨_, _, if_pos h⟩
      · exact Or.inl (if_neg h)
    · by_cases h : b = a
      · subst h
        have z2 := here.symm.trans z
        cases z2
        exact ⟨ha, by rw [List.length_map]; exact hl, vs, _, vi, ha⟩
      · have z2 := (if_neg h).symm.trans z
        cases z2
    · by_cases h : b = a
      · exact h
      · exact absurd (if_neg h) z
theorem walk_G {l : PySem.W.OpenLaw} {n k : Nat} {q : Program} {loose : List Str} {XP : (Str → Option Value) → Heap → Prop} {YP : World → Heap → Prop} {d : DefRec} {CX : CXT} {x : Str}
    (hn : l.most = some n) (hn2 : n ≤ sizeLine) (hdf : d.params.defaults = []) (hr : Room k callerA)
    (F : ∀ w mg fa h, YP w h → h.Ns mainGlobals mg → mg d.name = some (.ref fa) →
      ∃ (K : PySem.W.Frag) (fd : FuncData) (sp : Sp), K.In h ∧ (∀ (s : Shared) (u : Value), BindsTo s fd ⟨[u], []⟩ [(x, u)]) ∧
        (∀ H a ns, List.length ns ≤ n → Only H → SqL K H a (ns.map V.int) → sp [.ref a] H (fun v _ => v = .bl true) fun _ _ _ => False) ∧
        ∀ base : Heap, K.In base → base.Ns mainGlobals mg → FnG l.prog w K mg base CX k fa fd [x] sp)
    (hCX : ∀ H s e s', CX [] H s (fun _ _ _ => False) e s' → False) : PySem.W.WalkO q loose XP YP l.row.toRowW d [] (fun f vs => PySem.call f vs) :=
  Att.attach_call hn hdf fun w s0 s1 mg mb fa o pm cd doc a vs ns G Y ho hd hcd hmg hobj hints hlen hg => by
    obtain ⟨K, fd, sp, KX, hb, hs, hF⟩ := F w mg fa _ Y G.T.g hmg
    exact law_G KX G.T.g G.T.b G.T.builtins G.T.nolimit hg hobj hints (Nat.le_trans hlen hn2) hr hF hb (fun H hO hS => hs H a ns hlen hO hS) (fun H e s' => hCX H s1 e s')
theorem pos_ {j : Int} (h : 0 < j) : 0 < j := h
theorem cmul_ {i j : Int} (h : -(2 ^ 64) < i) (k : i < 2 ^ 64) : CMul i j := Or.inl ⟨h, k⟩
theorem iteNT {A B : Prop} (h : B) : if (!true) = true then A else B := iteF h
theorem iteNF {A B : Prop} (h : A) : if (!false) = true then A else B := iteT h
theorem iteD {c A B : Prop} [Decidable c] (h1 : c → A) (h2 : ¬ c → B) : if decide c = true then A else B := by
  by_cases h : c
  · rw [decide_eq_true h]
    exact iteT (h1 h)
  · rw [decide_eq_false h]
    exact iteF (h2 h)
theorem iteND {c A B : Prop} [Decidable c] (h1 : ¬ c → A) (h2 : c → B) : if (!decide c) = true then A else B := by
  by_cases h : c
  · rw [decide_eq_true h]
    exact iteF (h2 h)
  · rw [decide_eq_false h]
    exact iteT (h1 h)
end VB

set_option Elab.async false
set_option linter.all false
set_option maxRecDepth 100000
set_option maxHeartbeats 4000000
/-! Readings over data: what an expression, a statement of a law is worth, no heap in sight. -/
namespace VB
open PySem PySem.Spec PyProof.Rows L2

/-- data: what never changes behind its back; raw: an address as it is (the bag) -/
inductive D where
  | non | bl (b : Bool) | int (i : Int) | str (x : Str) | ty (n : String) | tup (ds : List D) | lst (ds : List D) | raw (a : Addr)

/-! ### heaps: all but W stays; the bags of W stay bags -/
structure Gw (W : List Addr) (H H' : Hp) : Prop where
  keep : ∀ a o, a ∉ W → H a = some o → H' a = some o
  free : ∀ a, H' a = none → H a = none
theorem Gw.refl {W : List Addr} {H : Hp} : Gw W H H := ⟨fun _ _ _ e => e, fun _ e => e⟩
theorem Gw.trans {W : List Addr} {H H1 H2 : Hp} (a : Gw W H H1) (b : Gw W H1 H2) : Gw W H H2 := ⟨fun x o n e => b.keep x o n (a.keep x o n e), fun x e => a.free x (b.free x e)⟩
theorem Gw.mono {W B : List Addr} {H H' : Hp} (g : Gw W H H') (s : ∀ a ∈ W, a ∈ B) : Gw B H H' := ⟨fun a o n e => g.keep a o (fun z => n (s a z)) e, g.free⟩
theorem Gw.new {W : List Addr} {H : Hp} {p : Addr} {o : HO} (n : H p = none) : Gw W H (upd H p o) := ⟨fun a u _ e => by
  rw [upd_ne (ne_of_none e n)]
  exact e, fun a e => by
  by_cases h : a = p
  · rw [h]
    exact n
  · rw [upd_ne h] at e
    exact e⟩
theorem Gw.wr {W : List Addr} {H : Hp} {p : Addr} {o : HO} (m : p ∈ W) (n : H p ≠ none) : Gw W H (upd H p o) := ⟨fun a u na e => by
  have q : a ≠ p := fun z => by
    subst z
    exact na m
  rw [upd_ne q]
  exact e, fun a e => by
  by_cases h : a = p
  · rw [h, upd_same] at e
    cases e
  · rw [upd_ne h] at e
    exact e⟩
/-- the bag at b, its cells at c -/
def BagC (H : Hp) (b c : Addr) (ns : List Int) : Prop := (∃ z s i : Int, H b = some (bagO z s i c) ∧ BagV z s i) ∧ H c = some (.lst (ns.map V.int)) ∧ ∀ n ∈ ns, 0 ≤ n
structure Gs (W : List Addr) (H H' : Hp) : Prop where
  gw : Gw W H H'
  bag : ∀ b ∈ W, ∀ c ns, c ∉ W → BagC H b c ns → BagC H' b c ns
theorem Gs.refl {W : List Addr} {H : Hp} : Gs W H H := ⟨Gw.refl, fun _ _ _ _ _ h => h⟩
theorem Gs.trans {W : List Addr} {H H1 H2 : Hp} (a : Gs W H H1) (b : Gs W H1 H2) : Gs W H H2 := ⟨a.gw.trans b.gw, fun x m c ns n h => b.bag x m c ns n (a.bag x m c ns n h)⟩
theorem BagC.wr {H : Hp} {p b c : Addr} {o : HO} {ns : List Int} (h : BagC H b c ns) (n1 : b ≠ p) (n2 : c ≠ p) : BagC (upd H p o) b c ns := by
  obtain ⟨⟨z, s, i, e, v⟩, ec, hn⟩ := h
  refine ⟨⟨z, s, i, ?_, v⟩, ?_, hn⟩
  · rw [upd_ne n1]
    exact e
  · rw [upd_ne n2]
    exact ec
theorem BagC.new {H : Hp} {p b c : Addr} {o : HO} {ns : List Int} (h : BagC H b c ns) (n : H p = none) : BagC (upd H p o) b c ns :=
  h.wr (by
    obtain ⟨⟨z, s, i, e, v⟩, _⟩ := h
    exact ne_of_none e n) (ne_of_none h.2.1 n)
theorem Gs.new {W : List Addr} {H : Hp} {p : Addr} {o : HO} (n : H p = none) : Gs W H (upd H p o) := ⟨Gw.new n, fun b _ c ns _ h => h.new n⟩
theorem Gs.bagW {W : List Addr} {H : Hp} {b c : Addr} {z s i z' s' i' : Int} (m : b ∈ W) (e : H b = some (bagO z s i c)) (v : BagV z' s' i') : Gs W H (upd H b (bagO z' s' i' c)) :=
  ⟨Gw.wr m (by rw [e]; exact Option.some_ne_none _), fun b1 m1 c1 ns n1 h => by
    obtain ⟨⟨z1, s1, i1, e1, v1⟩, ec, hn⟩ := h
    have hc : c1 ≠ b := fun q => n1 (q ▸ m)
    by_cases h : b1 = b
    · subst h
      rw [e] at e1
      have q := Option.some.inj e1
      unfold bagO at q
      injection q with q
      simp only [List.cons.injEq, V.ref.injEq, and_true] at q
      obtain ⟨_, _, _, rfl⟩ := q
      refine ⟨⟨z', s', i', upd_same, v⟩, ?_, hn⟩
      rw [upd_ne hc]
      exact ec
    · refine ⟨⟨z1, s1, i1, ?_, v1⟩, ?_, hn⟩
      · rw [upd_ne h]
        exact e1
      · rw [upd_ne hc]
        exact ec⟩

/-! ### a value stands for data, whatever happens at B -/
mutual
inductive Sg (K : PySem.W.Frag) (B : List Addr) (H : Hp) : V → D → Prop
  | non : Sg K B H .non .non
  | bl (b : Bool) : Sg K B H (.bl b) (.bl b)
  | int (i : Int) : Sg K B H (.int i) (.int i)
  | str (x : Str) : Sg K B H (.str x) (.str x)
  | ty (n : String) : Sg K B H (.ty n) (.ty n)
  | raw (a : Addr) : Sg K B H (.ref a) (.raw a)
  | tup {a : Addr} {xs : List V} {ds : List D} : a ∉ B → Rd H a (.tup xs) → SgA K B H xs ds → Sg K B H (.ref a) (.tup ds)
  | tupK {a : Addr} {xs : List V} {ds : List D} : (∀ h : Hp, SqT K h a xs) → SgA K B H xs ds → Sg K B H (.ref a) (.tup ds)
  | lst {a : Addr} {xs : List V} {ds : List D} : a ∉ B → H a = some (.lst xs) → SgA K B H xs ds → Sg K B H (.ref a) (.lst ds)
inductive SgA (K : PySem.W.Frag) (B : List Addr) (H : Hp) : List V → List D → Prop
  | nil : SgA K B H [] []
  | cons {v : V} {vs : List V} {d : D} {ds : List D} : Sg K B H v d → SgA K B H vs ds → SgA K B H (v :: vs) (d :: ds)
end
theorem rd_gw {W : List Addr} {H H' : Hp} {a : Addr} {u : HO} (n : a ∉ W) (g : Gw W H H') (h : Rd H a u) : Rd H' a u := by
  rcases h with h | ⟨o, h⟩
  · exact Or.inl (g.keep _ _ n h)
  · exact Or.inr ⟨o, g.keep _ _ n h⟩
theorem rd_kn {H : Hp} {a p : Addr} {u : HO} (h : Rd H a u) (n : H p = none) : a ≠ p := by
  rintro rfl
  rcases h with h | ⟨o, h⟩
  · rw [n] at h
    cases h
  · rw [n] at h
    cases h
section
variable {K : PySem.W.Frag} {B : List Addr} {H H' : Hp}
mutual
theorem Sg.gw (g : Gw B H H') : ∀ {v : V} {d : D}, Sg K B H v d → Sg K B H' v d
  | _, _, .non => .non
  | _, _, .bl b => .bl b
  | _, _, .int i => .int i
  | _, _, .str x => .str x
  | _, _, .ty n => .ty n
  | _, _, .raw a => .raw a
  | _, _, .tup n h r => .tup n (rd_gw n g h) (SgA.gw g r)
  | _, _, .tupK h r => .tupK h (SgA.gw g r)
  | _, _, .lst n h r => .lst n (g.keep _ _ n h) (SgA.gw g r)
theorem SgA.gw (g : Gw B H H') : ∀ {vs : List V} {ds : List D}, SgA K B H vs ds → SgA K B H' vs ds
  | _, _, .nil => .nil
  | _, _, .cons h r => .cons (Sg.gw g h) (SgA.gw g r)
end
mutual
/-- fewer places left out -/
theorem Sg.less {B' : List Addr} (s : ∀ a ∈ B', a ∈ B) : ∀ {v : V} {d : D}, Sg K B H v d → Sg K B' H v d
  | _, _, .non => .non
  | _, _, .bl b => .bl b
  | _, _, .int i => .int i
  | _, _, .str x => .str x
  | _, _, .ty n => .ty n
  | _, _, .raw a => .raw a
  | _, _, .tup n h r => .tup (fun z => n (s _ z)) h (SgA.less s r)
  | _, _, .tupK h r => .tupK h (SgA.less s r)
  | _, _, .lst n h r => .lst (fun z => n (s _ z)) h (SgA.less s r)
theorem SgA.less {B' : List Addr} (s : ∀ a ∈ B', a ∈ B) : ∀ {vs : List V} {ds : List D}, SgA K B H vs ds → SgA K B' H vs ds
  | _, _, .nil => .nil
  | _, _, .cons h r => .cons (Sg.less s h) (SgA.less s r)
end
mutual
/-- one more, that is new -/
theorem Sg.out {p : Addr} {u : HO} (n : H p = none) : ∀ {v : V} {d : D}, Sg K B H v d → Sg K (p :: B) (upd H p u) v d
  | _, _, .non => .non
  | _, _, .bl b => .bl b
  | _, _, .int i => .int i
  | _, _, .str x => .str x
  | _, _, .ty n => .ty n
  | _, _, .raw a => .raw a
  | _, _, .tup m h r => .tup (fun z => (List.mem_cons.mp z).elim (rd_kn h n) m) (rd_gw m (Gw.new n) h) (SgA.out n r)
  | _, _, .tupK h r => .tupK h (SgA.out n r)
  | _, _, .lst m h r => .lst (fun z => (List.mem_cons.mp z).elim (ne_of_none h n) m) ((Gw.new n).keep _ _ m h) (SgA.out n r)
theorem SgA.out {p : Addr} {u : HO} (n : H p = none) : ∀ {vs : List V} {ds : List D}, SgA K B H vs ds → SgA K (p :: B) (upd H p u) vs ds
  | _, _, .nil => .nil
  | _, _, .cons h r => .cons (Sg.out n h) (SgA.out n r)
end
theorem Sg.sqT {a : Addr} {ds : List D} (h : Sg K B H (.ref a) (.tup ds)) : ∃ xs, SqT K H a xs ∧ SgA K B H xs ds := by
  cases h with
  | tup _ h r => exact ⟨_, Or.inl h, r⟩
  | tupK h r => exact ⟨_, h H, r⟩
theorem SgA.length : ∀ {vs : List V} {ds : List D}, SgA K B H vs ds → vs.length = ds.length
  | _, _, .nil => rfl
  | _, _, .cons _ r => congrArg (· + 1) (SgA.length r)
theorem SgA.get : ∀ {vs : List V} {ds : List D} {i : Nat} {d : D}, SgA K B H vs ds → ds[i]? = some d → ∃ v, vs[i]? = some v ∧ Sg K B H v d
  | _, _, _, _, .nil, e => by simp at e
  | _, _, 0, _, .cons h _, e => by simp at e; subst e; exact ⟨_, rfl, h⟩
  | _, _, i + 1, d, .cons _ r, e => by
    obtain ⟨v, h1, h2⟩ := SgA.get (i := i) (d := d) r (by simpa using e)
    exact ⟨v, by simpa using h1, h2⟩
theorem SgA.getV : ∀ {vs : List V} {ds : List D} {i : Nat} {v : V}, SgA K B H vs ds → vs[i]? = some v → ∃ d, ds[i]? = some d ∧ Sg K B H v d
  | _, _, _, _, .nil, e => by simp at e
  | _, _, 0, _, .cons h _, e => by simp at e; subst e; exact ⟨_, rfl, h⟩
  | _, _, i + 1, v, .cons _ r, e => by
    obtain ⟨d, h1, h2⟩ := SgA.getV (i := i) (v := v) r (by simpa using e)
    exact ⟨d, by simpa using h1, h2⟩
theorem SgA.append : ∀ {xs ys : List V} {ds es : List D}, SgA K B H xs ds → SgA K B H ys es → SgA K B H (xs ++ ys) (ds ++ es)
  | _, _, _, _, .nil, s => s
  | _, _, _, _, .cons h r, s => .cons h (SgA.append r s)
theorem SgA.take : ∀ {xs : List V} {ds : List D} (n : Nat), SgA K B H xs ds → SgA K B H (xs.take n) (ds.take n)
  | _, _, 0, _ => .nil
  | _, _, _ + 1, .nil => .nil
  | _, _, n + 1, .cons h r => .cons h (SgA.take n r)
theorem SgA.drop : ∀ {xs : List V} {ds : List D} (n : Nat), SgA K B H xs ds → SgA K B H (xs.drop n) (ds.drop n)
  | _, _, 0, r => r
  | _, _, _ + 1, .nil => .nil
  | _, _, n + 1, .cons _ r => SgA.drop n r
theorem SgA.strs : ∀ {xs : List V} {ss : List Str}, SgA K B H xs (ss.map D.str) → xs = ss.map V.str
  | _, [], .nil => rfl
  | _, s :: ss, .cons (.str _) r => by rw [SgA.strs (ss := ss) r]; rfl
theorem SgA.bls : ∀ {xs : List V} {ss : List Bool}, SgA K B H xs (ss.map D.bl) → xs = ss.map V.bl
  | _, [], .nil => rfl
  | _, s :: ss, .cons (.bl _) r => by rw [SgA.bls (ss := ss) r]; rfl
theorem SgA.ints : ∀ {xs : List V} {ss : List Int}, SgA K B H xs (ss.map D.int) → xs = ss.map V.int
  | _, [], .nil => rfl
  | _, s :: ss, .cons (.int _) r => by rw [SgA.ints (ss := ss) r]; rfl
theorem SgA.ofStrs : ∀ {ss : List Str}, SgA K B H (ss.map V.str) (ss.map D.str)
  | [] => .nil
  | s :: ss => .cons (.str s) SgA.ofStrs
end

/-! ### the slots -/
inductive En where
  | no | dat (d : D) | bag (b : Addr)
def EnOk (K : PySem.W.Frag) (B W : List Addr) (H : Hp) (o : Option (Option V)) : En → Prop
  | .no => True
  | .dat d => ∃ v, o = some (some v) ∧ Sg K B H v d
  | .bag b => o = some (some (.ref b)) ∧ b ∈ W ∧ ∃ c ns, c ∉ B ∧ BagC H b c ns
structure BW (B W : List Addr) (H : Hp) : Prop where
  sub : ∀ a ∈ W, a ∈ B
  kn : ∀ a ∈ B, H a ≠ none
structure EnvOk (K : PySem.W.Frag) (B W : List Addr) (H : Hp) (σ : L2.St) (ρ : List En) : Prop where
  bw : BW B W H
  len : σ.length = ρ.length
  sl : ∀ (i : Nat) (e : En), ρ[i]? = some e → EnOk K B W H (σ[i]?) e
section
variable {K : PySem.W.Frag} {B W : List Addr} {H H' : Hp} {σ : L2.St} {ρ : List En}
theorem BW.gs (b : BW B W H) (g : Gs W H H') : BW B W H' := ⟨b.sub, fun a m z => b.kn a m (g.gw.free a z)⟩
theorem BW.gw (b : BW B W H) (g : Gs W H H') : Gw B H H' := g.gw.mono b.sub
theorem EnOk.gs {o : Option (Option V)} {e : En} (b : BW B W H) (g : Gs W H H') (h : EnOk K B W H o e) : EnOk K B W H' o e := by
  cases e with
  | no => trivial
  | dat d =>
    obtain ⟨v, e, s⟩ := h
    exact ⟨v, e, s.gw (b.gw g)⟩
  | bag q =>
    obtain ⟨e, m, c, ns, nc, hb⟩ := h
    exact ⟨e, m, c, ns, nc, g.bag q m c ns (fun z => nc (b.sub c z)) hb⟩
theorem EnvOk.gs (h : EnvOk K B W H σ ρ) (g : Gs W H H') : EnvOk K B W H' σ ρ := ⟨h.bw.gs g, h.len, fun i e q => (h.sl i e q).gs h.bw g⟩
theorem EnvOk.set {i : Nat} {v : V} {d : D} (h : EnvOk K B W H σ ρ) (s : Sg K B H v d) : EnvOk K B W H (σ.set i (some v)) (ρ.set i (.dat d)) := by
  refine ⟨h.bw, by rw [List.length_set, List.length_set]; exact h.len, fun j e q => ?_⟩
  by_cases hj : i = j
  · subst hj
    have hi : i < ρ.length := by
      have := (List.getElem?_eq_some_iff.mp q).1
      rw [List.length_set] at this
      exact this
    rw [List.getElem?_set_self hi] at q
    cases q
    rw [List.getElem?_set_self (by rw [h.len]; exact hi)]
    exact ⟨v, rfl, s⟩
  · rw [List.getElem?_set_ne hj] at q
    rw [List.getElem?_set_ne hj]
    exact h.sl j e q
theorem EnvOk.clr {i : Nat} (h : EnvOk K B W H σ ρ) : EnvOk K B W H (σ.set i none) (ρ.set i .no) := by
  refine ⟨h.bw, by rw [List.length_set, List.length_set]; exact h.len, fun j e q => ?_⟩
  by_cases hj : i = j
  · subst hj
    have hi : i < ρ.length := by
      have := (List.getElem?_eq_some_iff.mp q).1
      rw [List.length_set] at this
      exact this
    rw [List.getElem?_set_self hi] at q
    cases q
    trivial
  · rw [List.getElem?_set_ne hj] at q
    rw [List.getElem?_set_ne hj]
    exact h.sl j e q
/-- a new place p, written, may be left out from here on -/
theorem EnvOk.out {p : Addr} {u : HO} (h : EnvOk K B W H σ ρ) (n : H p = none) : EnvOk K (p :: B) W (upd H p u) σ ρ := by
  refine ⟨⟨fun a m => List.mem_cons_of_mem _ (h.bw.sub a m), fun a m => ?_⟩, h.len, fun i e q => ?_⟩
  · by_cases z : a = p
    · rw [z, upd_same]
      exact Option.some_ne_none _
    · rw [upd_ne z]
      rcases List.mem_cons.mp m with q | q
      · exact absurd q z
      · exact h.bw.kn a q
  · have r := h.sl i e q
    cases e with
    | no => trivial
    | dat d =>
      obtain ⟨v, e1, s⟩ := r
      exact ⟨v, e1, s.out n⟩
    | bag b =>
      obtain ⟨e1, m, c, ns, nc, hb⟩ := r
      refine ⟨e1, m, c, ns, fun z => ?_, hb.new n⟩
      rcases List.mem_cons.mp z with q | q
      · exact ne_of_none hb.2.1 n q
      · exact nc q
/-- a place of B that no bag is, is written -/
theorem EnvOk.wr {p : Addr} {u : HO} (h : EnvOk K B W H σ ρ) (m : p ∈ B) (n : p ∉ W) : EnvOk K B W (upd H p u) σ ρ := by
  refine ⟨⟨h.bw.sub, fun a ma => ?_⟩, h.len, fun i e q => ?_⟩
  · by_cases z : a = p
    · rw [z, upd_same]
      exact Option.some_ne_none _
    · rw [upd_ne z]
      exact h.bw.kn a ma
  · have r := h.sl i e q
    cases e with
    | no => trivial
    | dat d =>
      obtain ⟨v, e1, s⟩ := r
      exact ⟨v, e1, s.gw (Gw.wr m (h.bw.kn p m))⟩
    | bag b =>
      obtain ⟨e1, mb, c, ns, nc, hb⟩ := r
      refine ⟨e1, mb, c, ns, nc, hb.wr (fun z => n (z ▸ mb)) (fun z => nc (z ▸ m))⟩
/-- back to fewer -/
theorem EnvOk.back {B' : List Addr} (h : EnvOk K B W H σ ρ) (s : ∀ a ∈ B', a ∈ B) (sw : ∀ a ∈ W, a ∈ B') : EnvOk K B' W H σ ρ := by
  refine ⟨⟨sw, fun a m => h.bw.kn a (s a m)⟩, h.len, fun i e q => ?_⟩
  have r := h.sl i e q
  cases e with
  | no => trivial
  | dat d =>
    obtain ⟨v, e1, z⟩ := r
    exact ⟨v, e1, z.less s⟩
  | bag b =>
    obtain ⟨e1, m, c, ns, nc, hb⟩ := r
    exact ⟨e1, m, c, ns, fun z => nc (s c z), hb⟩
end

/-! ### what an expression, its arguments, a test are worth -/
def EV (K : PySem.W.Frag) (te : TE) (ρ : List En) (P : D → Prop) : Prop := ∀ (B W : List Addr) (H : Hp) (σ : L2.St), EnvOk K B W H σ ρ → ∀ Q : VK, (∀ v d H', Gs W H H' → Sg K B H' v d → P d → Q v H') → te σ H Q
def EA (K : PySem.W.Frag) (ta : TA) (ρ : List En) (P : List D → Prop) : Prop := ∀ (B W : List Addr) (H : Hp) (σ : L2.St), EnvOk K B W H σ ρ → ∀ Q : List V → Hp → Prop, (∀ vs ds H', Gs W H H' → SgA K B H' vs ds → P ds → Q vs H') → ta σ H Q
def ET (K : PySem.W.Frag) (tt : TT) (ρ : List En) (P : Bool → Prop) : Prop := ∀ (B W : List Addr) (H : Hp) (σ : L2.St), EnvOk K B W H σ ρ → ∀ Q : Bool → Hp → Prop, (∀ b H', Gs W H H' → P b → Q b H') → tt σ H Q
def EO (K : PySem.W.Frag) (to : L2.St → Hp → (Option Int → Hp → Prop) → Prop) (ρ : List En) (P : Option Int → Prop) : Prop := ∀ (B W : List Addr) (H : Hp) (σ : L2.St), EnvOk K B W H σ ρ → ∀ Q : Option Int → Hp → Prop, (∀ b H', Gs W H H' → P b → Q b H') → to σ H Q
/-- an operation on two values; a call on values -/
def RD (K : PySem.W.Frag) (r : R2) (x y : D) (P : D → Prop) : Prop := ∀ (B W : List Addr) (H : Hp) (v u : V), BW B W H → Sg K B H v x → Sg K B H u y → ∀ Q : VK, (∀ z d H', Gs W H H' → Sg K B H' z d → P d → Q z H') → r v u H Q
def RC (K : PySem.W.Frag) (r : List V → Hp → VK → Prop) (ρ : List En) (ds : List D) (P : D → Prop) : Prop := ∀ (B W : List Addr) (H : Hp) (σ : L2.St) (vs : List V), EnvOk K B W H σ ρ → SgA K B H vs ds → ∀ Q : VK, (∀ z d H', Gs W H H' → Sg K B H' z d → P d → Q z H') → r vs H Q
section
variable {K : PySem.W.Frag} {ρ : List En} {P : D → Prop} {PB : Bool → Prop} {te ta tb tc : TE} {tt tu : TT} {r r2 : R2}
theorem EV.var {i : Nat} {d : D} (h : ρ[i]? = some (.dat d)) (p : P d) : EV K (tVar i) ρ P := fun B W H σ e Q q => by
  obtain ⟨v, e1, s⟩ := e.sl i _ h
  exact ⟨v, e1, q v d H Gs.refl s p⟩
theorem EV.bag {i : Nat} {b : Addr} (h : ρ[i]? = some (.bag b)) (p : P (.raw b)) : EV K (tVar i) ρ P := fun B W H σ e Q q => by
  obtain ⟨e1, _⟩ := e.sl i _ h
  exact ⟨_, e1, q _ (.raw b) H Gs.refl (.raw b) p⟩
theorem EV.int {i : Int} (p : P (.int i)) : EV K (tC (.int i)) ρ P := fun B W H σ e Q q => q _ _ H Gs.refl (.int i) p
theorem EV.str {x : Str} (p : P (.str x)) : EV K (tC (.str x)) ρ P := fun B W H σ e Q q => q _ _ H Gs.refl (.str x) p
theorem EV.bl {b : Bool} (p : P (.bl b)) : EV K (tC (.bl b)) ρ P := fun B W H σ e Q q => q _ _ H Gs.refl (.bl b) p
theorem EV.ty {n : String} (p : P (.ty n)) : EV K (tC (.ty n)) ρ P := fun B W H σ e Q q => q _ _ H Gs.refl (.ty n) p
theorem EV.non (p : P .non) : EV K (tC .non) ρ P := fun B W H σ e Q q => q _ _ H Gs.refl .non p
theorem EV.imp {P' : D → Prop} (h : EV K te ρ P') (k : ∀ d, P' d → P d) : EV K te ρ P := fun B W H σ e Q q => h B W H σ e Q fun v d H' g s p => q v d H' g s (k d p)
theorem EV.op (h : EV K ta ρ fun x => EV K tb ρ fun y => RD K r x y P) : EV K (tOp r ta tb) ρ P := fun B W H σ e Q q =>
  h B W H σ e _ fun v x H1 g1 s1 h1 => h1 B W H1 σ (e.gs g1) _ fun u y H2 g2 s2 h2 =>
    h2 B W H2 v u ((e.gs g1).gs g2).bw (s1.gw ((e.gs g1).bw.gw g2)) s2 Q fun z d H3 g3 s3 p => q z d H3 ((g1.trans g2).trans g3) s3 p
theorem EV.un {ru : V → Hp → VK → Prop} (h : EV K ta ρ fun x => ∃ i j, x = .int i ∧ (∀ H Q, Q (.int j) H → ru (.int i) H Q) ∧ P (.int j)) : EV K (tUn ru ta) ρ P := fun B W H σ e Q q =>
  h B W H σ e _ fun v x H1 g1 s1 h1 => by
    obtain ⟨i, j, rfl, h2, p⟩ := h1
    cases s1
    exact h2 _ _ (q _ _ H1 g1 (.int j) p)
theorem EV.chain (h : EV K ta ρ fun x => EV K tb ρ fun y => RD K r x y fun z => ∃ k, z = .bl k ∧ (if k = true then EV K tc ρ (fun w => RD K r2 y w P) else P (.bl false))) : EV K (tChain r r2 ta tb tc) ρ P := fun B W H σ e Q q =>
  h B W H σ e _ fun v x H1 g1 s1 h1 => h1 B W H1 σ (e.gs g1) _ fun u y H2 g2 s2 h2 =>
    h2 B W H2 v u ((e.gs g1).gs g2).bw (s1.gw ((e.gs g1).bw.gw g2)) s2 _ fun z d H3 g3 s3 p => by
      obtain ⟨k, rfl, p⟩ := p
      cases s3
      have e3 := ((e.gs g1).gs g2).gs g3
      refine ⟨k, rfl, ?_⟩
      cases k with
      | true =>
        rw [if_pos rfl] at p ⊢
        exact p B W H3 σ e3 _ fun w d H4 g4 s4 p4 => p4 B W H4 u w (e3.gs g4).bw (s2.gw (((e.gs g1).gs g2).bw.gw (g3.trans g4))) s4 Q fun z d H5 g5 s5 p5 => q z d H5 ((((g1.trans g2).trans g3).trans g4).trans g5) s5 p5
      | false =>
        rw [if_neg Bool.false_ne_true] at p ⊢
        exact q _ _ H3 ((g1.trans g2).trans g3) (.bl false) p
/-- truth values by and, or, not -/
theorem EV.andV (h : EV K ta ρ fun x => ∃ c, x = .bl c ∧ (if c = true then EV K tb ρ P else P (.bl false))) : EV K (tAndV ta tb) ρ P := fun B W H σ e Q q =>
  h B W H σ e _ fun v x H1 g1 s1 h1 => by
    obtain ⟨c, rfl, h2⟩ := h1
    cases s1
    refine ⟨c, rfl, ?_⟩
    cases c with
    | true =>
      rw [if_pos rfl] at h2 ⊢
      exact h2 B W H1 σ (e.gs g1) Q fun z d H2 g2 s2 p => q z d H2 (g1.trans g2) s2 p
    | false =>
      rw [if_neg Bool.false_ne_true] at h2 ⊢
      exact q _ _ H1 g1 (.bl false) h2
theorem EV.orV (h : EV K ta ρ fun x => ∃ c, x = .bl c ∧ (if c = true then P (.bl true) else EV K tb ρ P)) : EV K (tOrV ta tb) ρ P := fun B W H σ e Q q =>
  h B W H σ e _ fun v x H1 g1 s1 h1 => by
    obtain ⟨c, rfl, h2⟩ := h1
    cases s1
    refine ⟨c, rfl, ?_⟩
    cases c with
    | true =>
      rw [if_pos rfl] at h2 ⊢
      exact q _ _ H1 g1 (.bl true) h2
    | false =>
      rw [if_neg Bool.false_ne_true] at h2 ⊢
      exact h2 B W H1 σ (e.gs g1) Q fun z d H2 g2 s2 p => q z d H2 (g1.trans g2) s2 p
theorem EV.notV (h : EV K ta ρ fun x => ∃ c, x = .bl c ∧ P (.bl (!c))) : EV K (tNotV ta) ρ P := fun B W H σ e Q q =>
  h B W H σ e _ fun v x H1 g1 s1 h1 => by
    obtain ⟨c, rfl, h2⟩ := h1
    cases s1
    exact ⟨c, rfl, q _ _ H1 g1 (.bl _) h2⟩
/-- a text or what stands in its place -/
theorem EV.orT (h : EV K ta ρ fun x => ∃ z : Str, x = .str z ∧ z.length ≤ sizeLine ∧ (if z.length = 0 then EV K tb ρ P else P (.str z))) : EV K (tOrT K ta tb) ρ P := fun B W H σ e Q q =>
  h B W H σ e _ fun v x H1 g1 s1 h1 => by
    obtain ⟨z, rfl, hz, h2⟩ := h1
    cases s1
    refine ⟨_, ⟨hz, rfl⟩, ?_⟩
    by_cases h0 : z.length = 0
    · rw [if_pos h0] at h2
      rw [h0]
      exact iteF (h2 B W H1 σ (e.gs g1) Q fun z d H2 g2 s2 p => q z d H2 (g1.trans g2) s2 p)
    · rw [if_neg h0] at h2
      rw [show (((z.length : Int) != 0) = true) by simpa using h0]
      exact iteT (q _ _ H1 g1 (.str z) h2)
theorem EV.ifx (h : ET K tt ρ fun b => if b = true then EV K ta ρ P else EV K tb ρ P) : EV K (tIf tt ta tb) ρ P := fun B W H σ e Q q =>
  h B W H σ e _ fun b H1 g1 h1 => by
    cases b with
    | true =>
      rw [if_pos rfl] at h1 ⊢
      exact h1 B W H1 σ (e.gs g1) Q fun z d H2 g2 s2 p => q z d H2 (g1.trans g2) s2 p
    | false =>
      rw [if_neg Bool.false_ne_true] at h1 ⊢
      exact h1 B W H1 σ (e.gs g1) Q fun z d H2 g2 s2 p => q z d H2 (g1.trans g2) s2 p
/-! tests -/
theorem ET.test (h : EV K te ρ fun x => ∃ k, x = .bl k ∧ PB k) : ET K (tTest te) ρ PB := fun B W H σ e Q q =>
  h B W H σ e _ fun v x H1 g1 s1 h1 => by
    obtain ⟨k, rfl, p⟩ := h1
    cases s1
    exact ⟨k, rfl, q k H1 g1 p⟩
theorem ET.b (h : EV K te ρ fun x => ∃ k, x = .bl k ∧ PB k) : ET K (tB te) ρ PB := fun B W H σ e Q q =>
  h B W H σ e _ fun v x H1 g1 s1 h1 => by
    obtain ⟨k, rfl, p⟩ := h1
    cases s1
    exact ⟨k, rfl, q k H1 g1 p⟩
theorem ET.and (h : ET K tt ρ fun c => if c = true then ET K tu ρ PB else PB false) : ET K (tAnd tt tu) ρ PB := fun B W H σ e Q q =>
  h B W H σ e _ fun c H1 g1 h1 => by
    cases c with
    | true =>
      rw [if_pos rfl] at h1 ⊢
      exact h1 B W H1 σ (e.gs g1) Q fun b H2 g2 p => q b H2 (g1.trans g2) p
    | false =>
      rw [if_neg Bool.false_ne_true] at h1 ⊢
      exact q false H1 g1 h1
theorem ET.or (h : ET K tt ρ fun c => if c = true then PB true else ET K tu ρ PB) : ET K (tOr tt tu) ρ PB := fun B W H σ e Q q =>
  h B W H σ e _ fun c H1 g1 h1 => by
    cases c with
    | true =>
      rw [if_pos rfl] at h1 ⊢
      exact q true H1 g1 h1
    | false =>
      rw [if_neg Bool.false_ne_true] at h1 ⊢
      exact h1 B W H1 σ (e.gs g1) Q fun b H2 g2 p => q b H2 (g1.trans g2) p
theorem ET.not (h : ET K tt ρ fun c => PB (!c)) : ET K (tNot tt) ρ PB := fun B W H σ e Q q => h B W H σ e _ fun c H1 g1 h1 => q _ H1 g1 h1
theorem ET.yes (p : PB true) : ET K tYes ρ PB := fun B W H σ e Q q => q true H Gs.refl p
/-! arguments, displays -/
theorem EA.nil {PA : List D → Prop} (p : PA []) : EA K tNil ρ PA := fun B W H σ e Q q => q _ _ H Gs.refl .nil p
theorem EA.cons {PA : List D → Prop} {tr : TA} (h : EV K ta ρ fun x => EA K tr ρ fun xs => PA (x :: xs)) : EA K (tCons ta tr) ρ PA := fun B W H σ e Q q =>
  h B W H σ e _ fun v x H1 g1 s1 h1 => h1 B W H1 σ (e.gs g1) _ fun vs ds H2 g2 s2 p => q _ _ H2 (g1.trans g2) (.cons (s1.gw ((e.gs g1).bw.gw g2)) s2) p
theorem BW.notNew {B W : List Addr} {H : Hp} {p : Addr} (b : BW B W H) (n : H p = none) : p ∉ B := fun m => b.kn p m n
theorem EV.tup {t : TA} (h : EA K t ρ fun ds => ds.length ≤ sizeLine ∧ P (.tup ds)) : EV K (tTup t) ρ P := fun B W H σ e Q q =>
  h B W H σ e _ fun vs ds H1 g1 s1 p => ⟨by rw [s1.length]; exact p.1, fun a n => q _ _ _ (g1.trans (Gs.new n)) (.tup ((e.gs g1).bw.notNew n) (Or.inl upd_same) (s1.gw (Gw.new n))) p.2⟩
theorem EV.lst {t : TA} (h : EA K t ρ fun ds => ds.length ≤ sizeLine ∧ P (.lst ds)) : EV K (tLst t) ρ P := fun B W H σ e Q q =>
  h B W H σ e _ fun vs ds H1 g1 s1 p => ⟨by rw [s1.length]; exact p.1, fun a n => q _ _ _ (g1.trans (Gs.new n)) (.lst ((e.gs g1).bw.notNew n) upd_same (s1.gw (Gw.new n))) p.2⟩
theorem EV.cb {rc : List V → Hp → VK → Prop} {t : TA} (h : EA K t ρ fun ds => RC K rc ρ ds P) : EV K (tCB rc t) ρ P := fun B W H σ e Q q =>
  h B W H σ e _ fun vs ds H1 g1 s1 p => p B W H1 σ vs (e.gs g1) s1 Q fun z d H2 g2 s2 p2 => q z d H2 (g1.trans g2) s2 p2
theorem EO.none {PO : Option Int → Prop} (p : PO none) : EO K tNoPart ρ PO := fun B W H σ e Q q => q _ H Gs.refl p
theorem EO.some {PO : Option Int → Prop} (h : EV K te ρ fun x => ∃ i, x = .int i ∧ PO (some i)) : EO K (tPart te) ρ PO := fun B W H σ e Q q =>
  h B W H σ e _ fun v x H1 g1 s1 h1 => by
    obtain ⟨i, rfl, p⟩ := h1
    cases s1
    exact ⟨i, rfl, q _ H1 g1 p⟩
end
end VB

set_option Elab.async false
set_option linter.all false
set_option maxRecDepth 100000
set_option maxHeartbeats 4000000
/-! Rules by values, comprehensions, statements, defs: over data. -/
namespace VB
open PySem PySem.Spec PyProof.Rows L2

/-! ### data as the library's own -/
mutual
def D.py : D → PyData
  | .non => .none
  | .bl b => .bool b
  | .int i => .int i
  | .str x => .str x
  | .tup ds => .tuple (D.pyA ds)
  | .lst ds => .list (D.pyA ds)
  | .ty _ => .none
  | .raw _ => .none
def D.pyA : List D → List PyData
  | [] => []
  | d :: ds => D.py d :: D.pyA ds
end
mutual
def D.pu : D → Bool
  | .tup ds => D.puA ds
  | .lst ds => D.puA ds
  | .ty _ => false
  | .raw _ => false
  | _ => true
def D.puA : List D → Bool
  | [] => true
  | d :: ds => D.pu d && D.puA ds
end
section
variable {K : PySem.W.Frag} {B : List Addr} {H : Hp}
mutual
theorem Sg.dp : ∀ {v : V} {d : D}, Sg K B H v d → d.pu = true → Dp K H v d.py
  | _, _, .non, _ => .non
  | _, _, .bl b, _ => .bl b
  | _, _, .int i, _ => .int i
  | _, _, .str x, _ => .str x
  | _, _, .ty n, p => by simp [D.pu] at p
  | _, _, .raw a, p => by simp [D.pu] at p
  | _, _, .tup n h r, p => by
    unfold D.py
    exact .tup (Or.inl h) (SgA.dp r (by simpa [D.pu] using p))
  | _, _, .tupK h r, p => by
    unfold D.py
    exact .tup (h H) (SgA.dp r (by simpa [D.pu] using p))
  | _, _, .lst n h r, p => by
    unfold D.py
    exact .lst (SqL.of h) (SgA.dp r (by simpa [D.pu] using p))
theorem SgA.dp : ∀ {vs : List V} {ds : List D}, SgA K B H vs ds → D.puA ds = true → DpAll K H vs (D.pyA ds)
  | _, _, .nil, _ => .nil
  | _, _, .cons h r, p => by
    have q := Bool.and_eq_true_iff.mp (show (_ && _) = true from p)
    exact .cons (Sg.dp h q.1) (SgA.dp r q.2)
end
theorem SgA.atI {xs : List V} {ds : List D} {i : Int} {d : D} (r : SgA K B H xs ds) (e : atI ds i = some d) : ∃ v, atI xs i = some v ∧ Sg K B H v d := by
  unfold L2.atI at e ⊢
  rw [r.length]
  cases h : ixN ds.length i with
  | none =>
    rw [h] at e
    cases e
  | some j =>
    rw [h] at e
    exact r.get (show ds[j]? = some d from e)
end
theorem atI_map {α β : Type} {f : α → β} {xs : List α} {i : Int} {x : α} (h : atI xs i = some x) : atI (xs.map f) i = some (f x) := by
  unfold L2.atI at h ⊢
  rw [List.length_map]
  cases e : ixN xs.length i with
  | none =>
    rw [e] at h
    cases h
  | some j =>
    rw [e] at h
    have h2 : xs[j]? = some x := h
    show (xs.map f)[j]? = some (f x)
    rw [List.getElem?_map, h2]
    rfl
/-- a slice of a list -/
def cutG {α : Type} (xs : List α) (lo hi : Option Int) : List α := (xs.drop (HT.sIx xs.length 0 lo)).take (HT.sIx xs.length xs.length hi - HT.sIx xs.length 0 lo)

/-! ### operations -/
section
variable {K : PySem.W.Frag} {P : D → Prop}
theorem RD.i0 {f : Int → Int → Int} {i j : Int} (p : P (.int (f i j))) : RD K (rI0 fun i j => .int (f i j)) (.int i) (.int j) P := fun B W H v u b sv su Q q => by
  cases sv
  cases su
  exact ⟨i, j, rfl, rfl, q _ _ H Gs.refl (.int _) p⟩
theorem RD.i0b {f : Int → Int → Bool} {i j : Int} (p : P (.bl (f i j))) : RD K (rI0 fun i j => .bl (f i j)) (.int i) (.int j) P := fun B W H v u b sv su Q q => by
  cases sv
  cases su
  exact ⟨i, j, rfl, rfl, q _ _ H Gs.refl (.bl _) p⟩
theorem RD.iC {C : Int → Int → Prop} {f : Int → Int → Int} {i j : Int} (c : C i j) (p : P (.int (f i j))) : RD K (rI C fun i j => .int (f i j)) (.int i) (.int j) P := fun B W H v u b sv su Q q => by
  cases sv
  cases su
  exact ⟨i, j, rfl, rfl, c, q _ _ H Gs.refl (.int _) p⟩
theorem RD.eqI {i j : Int} (p : P (.bl (decide (i = j)))) : RD K rEq (.int i) (.int j) P := fun B W H v u b sv su Q q => by
  cases sv
  cases su
  exact ⟨rfl, q _ _ H Gs.refl (.bl _) (by simpa using p)⟩
theorem RD.neI {i j : Int} (p : P (.bl (!decide (i = j)))) : RD K rNe (.int i) (.int j) P := fun B W H v u b sv su Q q => by
  cases sv
  cases su
  exact ⟨rfl, q _ _ H Gs.refl (.bl _) (by simpa using p)⟩
theorem RD.eqS {i j : Str} (p : P (.bl (decide (i = j)))) : RD K rEq (.str i) (.str j) P := fun B W H v u b sv su Q q => by
  cases sv
  cases su
  exact ⟨rfl, q _ _ H Gs.refl (.bl _) (by simpa using p)⟩
theorem RD.neS {i j : Str} (p : P (.bl (!decide (i = j)))) : RD K rNe (.str i) (.str j) P := fun B W H v u b sv su Q q => by
  cases sv
  cases su
  exact ⟨rfl, q _ _ H Gs.refl (.bl _) (by simpa using p)⟩
theorem RD.isB {i j : Bool} (p : P (.bl (decide (i = j)))) : RD K rIsB (.bl i) (.bl j) P := fun B W H v u b sv su Q q => by
  cases sv
  cases su
  exact ⟨i, j, rfl, rfl, q _ _ H Gs.refl (.bl _) p⟩
theorem RD.notB {i j : Bool} (p : P (.bl (!decide (i = j)))) : RD K rNotB (.bl i) (.bl j) P := fun B W H v u b sv su Q q => by
  cases sv
  cases su
  exact ⟨i, j, rfl, rfl, q _ _ H Gs.refl (.bl _) p⟩
def D.isN : D → Bool
  | .non => true
  | _ => false
theorem Sg.isN {B : List Addr} {H : Hp} {v : V} {d : D} (s : Sg K B H v d) : decide (v = .non) = d.isN := by
  cases s <;> rfl
theorem RD.isNon {d : D} (p : P (.bl d.isN)) : RD K (fun x y H Q => y = .non ∧ Q (.bl (decide (x = .non))) H) d .non P := fun B W H v u b sv su Q q => by
  cases su
  refine ⟨rfl, ?_⟩
  rw [sv.isN]
  exact q _ _ H Gs.refl (.bl _) p
theorem RD.notNon {d : D} (p : P (.bl (!d.isN))) : RD K (fun x y H Q => y = .non ∧ Q (.bl (!decide (x = .non))) H) d .non P := fun B W H v u b sv su Q q => by
  cases su
  refine ⟨rfl, ?_⟩
  rw [sv.isN]
  exact q _ _ H Gs.refl (.bl _) p
theorem RD.eqD {x y : D} (h : x.pu = true ∧ y.pu = true ∧ SeqAt.shaped x.py = true ∧ SeqAt.shaped y.py = true) (p : P (.bl (PyData.eqv x.py y.py))) : RD K (rEqD K) x y P := fun B W H v u b sv su Q q =>
  ⟨x.py, y.py, sv.dp h.1, su.dp h.2.1, h.2.2.1, h.2.2.2, q _ _ H Gs.refl (.bl _) p⟩
theorem RD.neD {x y : D} (h : x.pu = true ∧ y.pu = true ∧ SeqAt.shaped x.py = true ∧ SeqAt.shaped y.py = true) (p : P (.bl (!PyData.eqv x.py y.py))) : RD K (rNeD K) x y P := fun B W H v u b sv su Q q =>
  ⟨x.py, y.py, sv.dp h.1, su.dp h.2.1, h.2.2.1, h.2.2.2, q _ _ H Gs.refl (.bl _) p⟩
theorem RD.ixL {ds : List D} {i : Int} {d : D} (e : atI ds i = some d) (p : P d) : RD K (rIxL K) (.lst ds) (.int i) P := fun B W H v u b sv su Q q => by
  cases su
  cases sv with
  | lst n h r =>
    obtain ⟨v, e1, s⟩ := r.atI e
    exact ⟨_, _, i, v, rfl, rfl, SqL.of h, e1, q _ _ H Gs.refl s p⟩
theorem RD.ixT {ds : List D} {i : Int} {d : D} (e : atI ds i = some d) (p : P d) : RD K (rIxT K) (.tup ds) (.int i) P := fun B W H v u b sv su Q q => by
  cases su
  have go : ∀ {a : Addr}, Sg K B H (.ref a) (.tup ds) → rIxT K (.ref a) (.int i) H Q := fun {a} s => by
    obtain ⟨xs, h, r⟩ := s.sqT
    obtain ⟨v, e1, s⟩ := r.atI e
    exact ⟨_, _, i, v, rfl, rfl, h, e1, q _ _ H Gs.refl s p⟩
  cases sv with
  | tup n h r => exact go (.tup n h r)
  | tupK h r => exact go (.tupK h r)
theorem RD.ixS {z : Str} {i : Int} {c : Nat} (hz : z.length ≤ sizeLine) (e : atI z.cps.toList i = some c) (p : P (.str ⟨#[c]⟩)) : RD K rIxS (.str z) (.int i) P := fun B W H v u b sv su Q q => by
  cases su
  cases sv
  exact ⟨z, i, c, rfl, rfl, hz, e, q _ _ H Gs.refl (.str _) p⟩
theorem RD.addS {x y : Str} (hz : x.length + y.length ≤ sizeLine) (p : P (.str (x ++ y))) : RD K (fun x y H Q => ∃ i j, x = .str i ∧ y = .str j ∧ i.length + j.length ≤ sizeLine ∧ Q (.str (i ++ j)) H) (.str x) (.str y) P := fun B W H v u b sv su Q q => by
  cases su
  cases sv
  exact ⟨x, y, rfl, rfl, hz, q _ _ H Gs.refl (.str _) p⟩
theorem RD.mulS {z : Str} {k : Int} (h : 0 ≤ k ∧ k ≤ 1000 ∧ z.length ≤ 1000) (p : P (.str (Txt.mul z k))) : RD K rMulS (.str z) (.int k) P := fun B W H v u b sv su Q q => by
  cases su
  cases sv
  exact ⟨z, k, rfl, rfl, h.1, h.2.1, h.2.2, q _ _ H Gs.refl (.str _) p⟩
theorem RD.inS {c : Nat} {z : Str} (p : P (.bl (decide (c ∈ z.cps.toList)))) : RD K (fun x y H Q => ∃ (c : Nat) (z : Str), x = .str ⟨#[c]⟩ ∧ y = .str z ∧ Q (.bl (decide (c ∈ z.cps.toList))) H) (.str ⟨#[c]⟩) (.str z) P := fun B W H v u b sv su Q q => by
  cases su
  cases sv
  exact ⟨c, z, rfl, rfl, q _ _ H Gs.refl (.bl _) p⟩
theorem RD.ninS {c : Nat} {z : Str} (p : P (.bl (!decide (c ∈ z.cps.toList)))) : RD K (fun x y H Q => ∃ (c : Nat) (z : Str), x = .str ⟨#[c]⟩ ∧ y = .str z ∧ Q (.bl (!decide (c ∈ z.cps.toList))) H) (.str ⟨#[c]⟩) (.str z) P := fun B W H v u b sv su Q q => by
  cases su
  cases sv
  exact ⟨c, z, rfl, rfl, q _ _ H Gs.refl (.bl _) p⟩
theorem RD.cat {xs ys : List D} (hz : xs.length + ys.length ≤ sizeLine) (p : P (.lst (xs ++ ys))) : RD K rCat (.lst xs) (.lst ys) P := fun B W H v u b sv su Q q => by
  cases sv with
  | lst n h r =>
    cases su with
    | lst n2 h2 r2 =>
      refine ⟨_, _, _, _, rfl, rfl, h, h2, by rw [r.length, r2.length]; exact hz, fun a na => q _ _ _ (Gs.new na) (.lst (b.notNew na) upd_same ((r.append r2).gw (Gw.new na))) p⟩
theorem RD.catA {xs ys : List D} (hz : xs.length + ys.length ≤ sizeLine) (p : P (.tup (xs ++ ys))) : RD K (rCatA K) (.tup xs) (.tup ys) P := fun B W H v u b sv su Q q => by
  have go : ∀ {a c : Addr}, Sg K B H (.ref a) (.tup xs) → Sg K B H (.ref c) (.tup ys) → rCatA K (.ref a) (.ref c) H Q := fun {a c} s s2 => by
    obtain ⟨vs, h, r⟩ := s.sqT
    obtain ⟨us, h2, r2⟩ := s2.sqT
    refine ⟨_, _, _, _, rfl, rfl, h, h2, by rw [r.length, r2.length]; exact hz, fun e => ?_, fun _ e => ?_, fun _ _ p1 n => ?_⟩
    · subst e
      cases r
      exact q _ _ H Gs.refl s2 p
    · subst e
      cases r2
      exact q _ _ H Gs.refl s (by simpa using p)
    · exact q _ _ _ (Gs.new n) (.tup (b.notNew n) (Or.inl upd_same) ((r.append r2).gw (Gw.new n))) p
  cases sv with
  | tup n h r =>
    cases su with
    | tup n2 h2 r2 => exact go (.tup n h r) (.tup n2 h2 r2)
    | tupK h2 r2 => exact go (.tup n h r) (.tupK h2 r2)
  | tupK h r =>
    cases su with
    | tup n2 h2 r2 => exact go (.tupK h r) (.tup n2 h2 r2)
    | tupK h2 r2 => exact go (.tupK h r) (.tupK h2 r2)
end

/-! ### slices -/
def SD (K : PySem.W.Frag) (r : V → Option Int → Option Int → Hp → VK → Prop) (x : D) (lo hi : Option Int) (P : D → Prop) : Prop := ∀ (B W : List Addr) (H : Hp) (v : V), BW B W H → Sg K B H v x → ∀ Q : VK, (∀ z d H', Gs W H H' → Sg K B H' z d → P d → Q z H') → r v lo hi H Q
section
variable {K : PySem.W.Frag} {P : D → Prop} {ρ : List En}
theorem EV.sl {r : V → Option Int → Option Int → Hp → VK → Prop} {te : TE} {tl th : L2.St → Hp → (Option Int → Hp → Prop) → Prop} (h : EV K te ρ fun x => EO K tl ρ fun lo => EO K th ρ fun hi => SD K r x lo hi P) : EV K (tSl r te tl th) ρ P := fun B W H σ e Q q =>
  h B W H σ e _ fun v x H1 g1 s1 h1 => h1 B W H1 σ (e.gs g1) _ fun lo H2 g2 h2 => h2 B W H2 σ ((e.gs g1).gs g2) _ fun hi H3 g3 h3 =>
    h3 B W H3 v (((e.gs g1).gs g2).gs g3).bw (s1.gw ((e.gs g1).bw.gw (g2.trans g3))) Q fun z d H4 g4 s4 p => q z d H4 (((g1.trans g2).trans g3).trans g4) s4 p
theorem SgA.cut {B : List Addr} {H : Hp} {xs : List V} {ds : List D} (r : SgA K B H xs ds) (lo hi : Option Int) : SgA K B H (cutV xs lo hi) (cutG ds lo hi) := by
  unfold cutV cutG
  rw [r.length]
  exact (r.drop _).take _
theorem SD.slL {ds : List D} {lo hi : Option Int} (p : P (.lst (cutG ds lo hi))) : SD K (rSlL K) (.lst ds) lo hi P := fun B W H v b sv Q q => by
  cases sv with
  | lst n h r => exact ⟨_, _, rfl, SqL.of h, fun a na => q _ _ _ (Gs.new na) (.lst (b.notNew na) upd_same ((r.cut lo hi).gw (Gw.new na))) p⟩
theorem cutG_whole {α : Type} {xs : List α} {lo hi : Option Int} (h : HT.sIx xs.length 0 lo = 0 ∧ HT.sIx xs.length xs.length hi = xs.length) : cutG xs lo hi = xs := by
  unfold cutG
  rw [h.1, h.2]
  simp
theorem SD.slA {ds : List D} {lo hi : Option Int} (p : P (.tup (cutG ds lo hi))) : SD K (rSlA K) (.tup ds) lo hi P := fun B W H v b sv Q q => by
  have go : ∀ {a : Addr}, Sg K B H (.ref a) (.tup ds) → rSlA K (.ref a) lo hi H Q := fun {a} s => by
    obtain ⟨xs, h, r⟩ := s.sqT
    refine ⟨_, _, rfl, h, fun w => ?_, fun w a na => q _ _ _ (Gs.new na) (.tup (b.notNew na) (Or.inl upd_same) ((r.cut lo hi).gw (Gw.new na))) p⟩
    rw [r.length] at w
    rw [cutG_whole w] at p
    exact q _ _ H Gs.refl s p
  cases sv with
  | tup n h r => exact go (.tup n h r)
  | tupK h r => exact go (.tupK h r)
theorem SD.slS {z : Str} {lo hi : Option Int} (hz : z.length ≤ sizeLine) (p : P (.str (cutS z lo hi))) : SD K rSlS (.str z) lo hi P := fun B W H v b sv Q q => by
  cases sv
  exact ⟨z, rfl, hz, q _ _ H Gs.refl (.str _) p⟩
end

/-! ### calls on values -/
section
variable {K : PySem.W.Frag} {P : D → Prop} {ρ : List En}
theorem EV.neg {ta : TE} (h : EV K ta ρ fun x => ∃ i, x = .int i ∧ P (.int (-i))) : EV K (tUn (rU fun i => .int (-i)) ta) ρ P := EV.un (EV.imp h fun x ⟨i, e, p⟩ => ⟨i, -i, e, fun _ _ q => ⟨i, rfl, q⟩, p⟩)
theorem RC.lenS {z : Str} (hz : z.length ≤ sizeLine) (p : P (.int z.length)) : RC K (rLenK K) ρ [.str z] P := fun B W H σ vs e s Q q => by
  cases s with
  | cons s1 s2 =>
    cases s2
    cases s1
    exact ⟨_, _, rfl, ⟨hz, rfl⟩, q _ _ H Gs.refl (.int _) p⟩
theorem RC.lenL {ds : List D} (p : P (.int ds.length)) : RC K (rLenK K) ρ [.lst ds] P := fun B W H σ vs e s Q q => by
  cases s with
  | cons s1 s2 =>
    cases s2
    cases s1 with
    | lst n h r =>
      refine ⟨_, _, rfl, Or.inl ⟨_, SqL.of h, rfl⟩, ?_⟩
      rw [r.length]
      exact q _ _ H Gs.refl (.int _) p
theorem RC.lenT {ds : List D} (p : P (.int ds.length)) : RC K (rLenK K) ρ [.tup ds] P := fun B W H σ vs e s Q q => by
  have go : ∀ {a : Addr}, Sg K B H (.ref a) (.tup ds) → ∃ x n, [V.ref a] = [x] ∧ LenV K x H n ∧ Q (.int (n : Nat)) H := fun {a} s => by
    obtain ⟨xs, h, r⟩ := s.sqT
    refine ⟨_, _, rfl, Or.inr ⟨_, h, rfl⟩, ?_⟩
    rw [r.length]
    exact q _ _ H Gs.refl (.int _) p
  cases s with
  | cons s1 s2 =>
    cases s2
    cases s1 with
    | tup n h r => exact go (.tup n h r)
    | tupK h r => exact go (.tupK h r)
theorem RC.abs {i : Int} (p : P (.int (if i < 0 then -i else i))) : RC K (fun xs H Q => ∃ i, xs = [.int i] ∧ Q (.int (if i < 0 then -i else i)) H) ρ [.int i] P := fun B W H σ vs e s Q q => by
  cases s with
  | cons s1 s2 =>
    cases s2
    cases s1
    exact ⟨i, rfl, q _ _ H Gs.refl (.int _) p⟩
theorem RC.intI {i : Int} (p : P (.int i)) : RC K (fun xs H Q => (∃ i, xs = [.int i] ∧ Q (.int i) H) ∨ ∃ k, xs = [.bl k] ∧ Q (.int (if k then 1 else 0)) H) ρ [.int i] P := fun B W H σ vs e s Q q => by
  cases s with
  | cons s1 s2 =>
    cases s2
    cases s1
    exact Or.inl ⟨i, rfl, q _ _ H Gs.refl (.int _) p⟩
theorem RC.intB {k : Bool} (p : P (.int (if k then 1 else 0))) : RC K (fun xs H Q => (∃ i, xs = [.int i] ∧ Q (.int i) H) ∨ ∃ k, xs = [.bl k] ∧ Q (.int (if k then 1 else 0)) H) ρ [.bl k] P := fun B W H σ vs e s Q q => by
  cases s with
  | cons s1 s2 =>
    cases s2
    cases s1
    exact Or.inr ⟨k, rfl, q _ _ H Gs.refl (.int _) p⟩
theorem RC.all {bs : List Bool} (p : P (.bl (bs.all id))) : RC K (rAll K) ρ [.lst (bs.map D.bl)] P := fun B W H σ vs e s Q q => by
  cases s with
  | cons s1 s2 =>
    cases s2
    cases s1 with
    | lst n h r =>
      rw [r.bls] at h
      exact ⟨_, bs, rfl, SqL.of h, q _ _ H Gs.refl (.bl _) p⟩
theorem RC.any {bs : List Bool} (p : P (.bl (bs.any id))) : RC K (rAny K) ρ [.lst (bs.map D.bl)] P := fun B W H σ vs e s Q q => by
  cases s with
  | cons s1 s2 =>
    cases s2
    cases s1 with
    | lst n h r =>
      rw [r.bls] at h
      exact ⟨_, bs, rfl, SqL.of h, q _ _ H Gs.refl (.bl _) p⟩
theorem RC.tupL {ds : List D} (p : P (.tup ds)) : RC K (rTupK K) ρ [.lst ds] P := fun B W H σ vs e s Q q => by
  cases s with
  | cons s1 s2 =>
    cases s2
    cases s1 with
    | lst n h r => exact ⟨_, _, rfl, Or.inl ⟨SqL.of h, fun a na => q _ _ _ (Gs.new na) (.tup (e.bw.notNew na) (Or.inl upd_same) (r.gw (Gw.new na))) p⟩⟩
theorem RC.listL {ds : List D} (p : P (.lst ds)) : RC K (rLstK K) ρ [.lst ds] P := fun B W H σ vs e s Q q => by
  cases s with
  | cons s1 s2 =>
    cases s2
    cases s1 with
    | lst n h r => exact ⟨_, _, rfl, Or.inl (SqL.of h), fun a na => q _ _ _ (Gs.new na) (.lst (e.bw.notNew na) upd_same (r.gw (Gw.new na))) p⟩
theorem RC.listT {ds : List D} (p : P (.lst ds)) : RC K (rLstK K) ρ [.tup ds] P := fun B W H σ vs e s Q q => by
  have go : ∀ {a : Addr}, Sg K B H (.ref a) (.tup ds) → ∃ p ys, [V.ref a] = [V.ref p] ∧ (SqL K H p ys ∨ SqT K H p ys) ∧ ∀ l, H l = none → Q (.ref l) (upd H l (.lst ys)) := fun {a} s => by
    obtain ⟨xs, h, r⟩ := s.sqT
    exact ⟨_, _, rfl, Or.inr h, fun a na => q _ _ _ (Gs.new na) (.lst (e.bw.notNew na) upd_same (r.gw (Gw.new na))) p⟩
  cases s with
  | cons s1 s2 =>
    cases s2
    cases s1 with
    | tup n h r => exact go (.tup n h r)
    | tupK h r => exact go (.tupK h r)
theorem RC.repr {d : D} (h : d.pu = true ∧ d.py.showable = true ∧ d.py.hasDict = false ∧ d.py.depth ≤ 30 ∧ d.py.shown.length ≤ sizeLine) (p : P (.str d.py.shown)) : RC K (rRepr K) ρ [d] P := fun B W H σ vs e s Q q => by
  cases s with
  | cons s1 s2 =>
    cases s2
    exact ⟨_, d.py, rfl, s1.dp h.1, h.2.1, h.2.2.1, h.2.2.2.1, h.2.2.2.2, q _ _ H Gs.refl (.str _) p⟩
/-- the name of a built-in type -/
def D.tyn : D → Option String
  | .non => some "NoneType"
  | .bl _ => some "bool"
  | .int _ => some "int"
  | .str _ => some "str"
  | .tup _ => some "tuple"
  | .lst _ => some "list"
  | _ => none
theorem Sg.tyx {B : List Addr} {H : Hp} {v : V} {d : D} {n : String} (s : Sg K B H v d) (e : d.tyn = some n) : TyX K H v (.type n) := by
  cases s with
  | non => cases e; exact .base .non
  | bl b => cases e; exact .base (.bl b)
  | int i => cases e; exact .base (.int i)
  | str x => cases e; exact .base (.str x)
  | ty n => cases e
  | raw a => cases e
  | tup n h r =>
    cases e
    rcases h with h | ⟨o, h⟩
    · exact .base (.tup h)
    · exact .fTuple h
  | tupK h r =>
    cases e
    rcases h (fun _ => none) with (z | ⟨o, z⟩) | ⟨o, its, n, h1, h2, _⟩
    · cases z
    · cases z
    · exact .kTuple h1 h2
  | lst n h r => cases e; exact .base (.lst h)
theorem RC.isi {d : D} {n c : String} {b : Bool} (e : d.tyn = some n) (hk : kitB n c = some b) (p : P (.bl b)) : RC K (rIsi K) ρ [d, .ty c] P := fun B W H σ vs ev s Q q => by
  cases s with
  | cons s1 s2 =>
    cases s2 with
    | cons s2 s3 =>
      cases s3
      cases s2
      exact ⟨_, _, _, _, b, rfl, .ty c, s1.tyx e, kit_ty hk, q _ _ H Gs.refl (.bl _) p⟩
/-! texts -/
theorem EV.join {to te : TE} (h : EV K to ρ fun x => ∃ a : Str, x = .str a ∧ EV K te ρ fun y => ∃ ys : List Str, y = .lst (ys.map D.str) ∧ (ys.map (·.length)).sum + ys.length * a.length ≤ 16777216 ∧ P (.str (Txt.join a ys))) :
    EV K (tM1 (rJoinK K) to te) ρ P := fun B W H σ e Q q =>
  h B W H σ e _ fun v x H1 g1 s1 h1 => by
    obtain ⟨a, rfl, h1⟩ := h1
    cases s1
    refine ⟨⟨a, rfl⟩, h1 B W H1 σ (e.gs g1) _ fun u y H2 g2 s2 h2 => ?_⟩
    obtain ⟨ys, rfl, hz, p⟩ := h2
    cases s2 with
    | lst n h r =>
      rw [r.strs] at h
      exact ⟨a, _, ys, rfl, rfl, Or.inl (SqL.of h), hz, q _ _ H2 (g1.trans g2) (.str _) p⟩
theorem EV.split {to te : TE} (h : EV K to ρ fun x => ∃ a : Str, x = .str a ∧ EV K te ρ fun y => ∃ b : Str, y = .str b ∧ (b.length == 0) = false ∧ a.length + 2 ≤ sizeLine ∧ P (.lst ((Txt.split a b).map D.str))) :
    EV K (tM1 rSplitK to te) ρ P := fun B W H σ e Q q =>
  h B W H σ e _ fun v x H1 g1 s1 h1 => by
    obtain ⟨a, rfl, h1⟩ := h1
    cases s1
    refine ⟨⟨a, rfl⟩, h1 B W H1 σ (e.gs g1) _ fun u y H2 g2 s2 h2 => ?_⟩
    obtain ⟨b, rfl, hb, hz, p⟩ := h2
    cases s2
    exact ⟨a, b, rfl, rfl, hb, hz, fun a na => q _ _ _ ((g1.trans g2).trans (Gs.new na)) (.lst (((e.gs g1).gs g2).bw.notNew na) upd_same SgA.ofStrs) p⟩
end

/-! ### comprehensions -/
theorem Gs.mut {W : List Addr} {H H1 : Hp} {p : Addr} {o : HO} (g : Gs W H H1) (n : H p = none) : Gs W H (upd H1 p o) :=
  ⟨⟨fun a u na e => by
    rw [upd_ne (ne_of_none e n)]
    exact g.gw.keep a u na e, fun a e => by
    by_cases h : a = p
    · rw [h]
      exact n
    · rw [upd_ne h] at e
      exact g.gw.free a e⟩, fun b m c ns nc h => (g.bag b m c ns nc h).wr (by
    obtain ⟨⟨z, s, i, e, v⟩, _⟩ := h
    exact ne_of_none e n) (ne_of_none h.2.1 n)⟩
/-- the state of a comprehension's block between two turns: Dl the new list, es what it holds -/
def LcI (K : PySem.W.Frag) (B W : List Addr) (H1 : Hp) (Dl : Addr) (σ : L2.St) (ρ : List En) (Rel : Nat → List D → Prop) (i : Nat) (H : Hp) : Prop :=
  ∃ (acc : List V) (es : List D), H Dl = some (.lst acc) ∧ SgA K (Dl :: B) H acc es ∧ es.length ≤ i ∧ Rel i es ∧ EnvOk K (Dl :: B) W H σ ρ ∧ Gs W H1 H
section
variable {K : PySem.W.Frag} {P : D → Prop} {ρ : List En} {te : TE} {tt : TT} {j : Nat}
theorem LcI.start {B W : List Addr} {H1 : Hp} {Dl : Addr} {σ : L2.St} {Rel : Nat → List D → Prop} (e : EnvOk K B W H1 σ ρ) (n : H1 Dl = none) (h0 : Rel 0 []) : LcI K B W H1 Dl (wipe σ [j]) (ρ.set j .no) Rel 0 (upd H1 Dl (.lst [])) :=
  ⟨[], [], upd_same, .nil, Nat.le_refl _, h0, (e.out n).clr, Gs.new n⟩
theorem LcI.done {B W : List Addr} {H1 H : Hp} {Dl : Addr} {σ σ' : L2.St} {ρ' : List En} {Rel : Nat → List D → Prop} {i : Nat} {Q : VK} (e : EnvOk K B W H1 σ ρ) (n : H1 Dl = none) (h : LcI K B W H1 Dl σ' ρ' Rel i H) (hP : ∀ es, Rel i es → es.length ≤ i → P (.lst es))
    (q : ∀ v d H', Gs W H1 H' → Sg K B H' v d → P d → Q v H') : Q (.ref Dl) H := by
  obtain ⟨acc, es, hD, sa, hl, hr, _, g⟩ := h
  exact q _ _ H g (.lst (e.bw.notNew n) hD (sa.less fun a m => List.mem_cons_of_mem _ m)) (hP es hr hl)
theorem LcI.turn {B W : List Addr} {H1 H : Hp} {Dl : Addr} {σ : L2.St} {Rel : Nat → List D → Prop} {i : Nat} {v : V} {x : D} (e : EnvOk K B W H1 σ ρ) (n : H1 Dl = none) (hi : i < 16777000) (h : LcI K B W H1 Dl (wipe σ [j]) (ρ.set j .no) Rel i H) (s : Sg K (Dl :: B) H v x)
    (hs : ∀ es, es.length ≤ i → Rel i es → ET K tt (ρ.set j (.dat x)) fun b => if b = true then EV K te (ρ.set j (.dat x)) fun y => Rel (i + 1) (es ++ [y]) else Rel (i + 1) es) :
    gName j v (wipe σ [j]) H fun σ2 H2 => wipe σ2 [j] = wipe σ [j] ∧ tt σ2 H2 fun b H3 => if b = true then te σ2 H3 fun y H4 => ∃ acc, H4 Dl = some (.lst acc) ∧ acc.length < sizeLine ∧ LcI K B W H1 Dl (wipe σ [j]) (ρ.set j .no) Rel (i + 1) (upd H4 Dl (.lst (acc ++ [y])))
      else LcI K B W H1 Dl (wipe σ [j]) (ρ.set j .no) Rel (i + 1) H3 := by
  obtain ⟨acc, es, hD, sa, hl, hr, en, g⟩ := h
  have dW : Dl ∉ W := fun m => (e.bw.notNew n) (e.bw.sub _ m)
  have en2 : EnvOk K (Dl :: B) W H ((wipe σ [j]).set j (some v)) (ρ.set j (.dat x)) := by
    have z := en.set (i := j) s
    rw [List.set_set] at z
    exact z
  refine ⟨?_, ?_⟩
  · show List.set (List.set (List.set σ j none) j (some v)) j none = List.set σ j none
    rw [List.set_set, List.set_set]
  · refine hs es hl hr _ W H _ en2 _ fun b H3 g3 h3 => ?_
    cases b with
    | true =>
      rw [if_pos rfl] at h3 ⊢
      refine h3 _ W H3 _ (en2.gs g3) _ fun y d H4 g4 s4 r4 => ?_
      have g34 := g3.trans g4
      have hD4 : H4 Dl = some (.lst acc) := g34.gw.keep _ _ dW hD
      have en4 := en.gs g34
      refine ⟨acc, hD4, ?_, acc ++ [y], es ++ [d], upd_same, ?_, ?_, r4, en4.wr (List.mem_cons_self ..) dW, (g.trans g34).mut n⟩
      · rw [sa.length]
        have : sizeLine = 16777216 := by decide
        omega
      · exact ((sa.gw (en.bw.gw g34)).append (.cons s4 .nil)).gw (Gw.wr (List.mem_cons_self ..) (en4.bw.kn _ (List.mem_cons_self ..)))
      · rw [List.length_append, List.length_singleton]
        omega
    | false =>
      rw [if_neg Bool.false_ne_true] at h3 ⊢
      exact ⟨acc, es, g3.gw.keep _ _ dW hD, sa.gw (en.bw.gw g3), Nat.le_succ_of_le hl, h3, en.gs g3, g.trans g3⟩
/-- over a range from 0 -/
theorem EV.lcR {ta : TA} (h : EA K ta ρ fun ds => ∃ n : Int, ds = [.int n] ∧ -(2 ^ 62) ≤ n ∧ n ≤ 16777000 ∧ ∃ Rel : Nat → List D → Prop, Rel 0 [] ∧ (∀ (i : Nat) es, i < n.toNat → es.length ≤ i → Rel i es → ∀ ρ', ρ' = ρ.set j (.dat (.int i)) → ET K tt ρ' fun b =>
      if b = true then EV K te ρ' fun y => Rel (i + 1) (es ++ [y]) else Rel (i + 1) es) ∧ ∀ es, Rel n.toNat es → es.length ≤ n.toNat → P (.lst es)) : EV K (tLc (iRng1 ta) (gName j) tt te [j]) ρ P := fun B W H σ e Q q =>
  h B W H σ e _ fun vs ds H1 g1 s1 p => by
    obtain ⟨n, rfl, n0, n1, Rel, r0, rs, rd⟩ := p
    cases s1 with
    | cons s1 s2 =>
      cases s2
      cases s1
      have e1 := e.gs g1
      refine ⟨n, rfl, n0, by omega, fun Dl nD => lc_range (LcI K B W H1 Dl (wipe σ [j]) (ρ.set j .no) Rel) (LcI.start e1 nD r0) (fun i H2 hi h2 => ?_) fun H2 h2 => LcI.done e1 nD h2 rd fun v d H' g s => q v d H' (g1.trans g) s⟩
      rw [Int.zero_add]
      exact LcI.turn e1 nD (by omega) h2 (.int _) fun es hl hr => rs i es hi hl hr _ rfl
/-- over a list -/
theorem EV.lcL {tl : TE} (h : EV K tl ρ fun d => ∃ ds, d = .lst ds ∧ ds.length ≤ 16777000 ∧ ∃ Rel : Nat → List D → Prop, Rel 0 [] ∧ (∀ (i : Nat) x es, ds[i]? = some x → es.length ≤ i → Rel i es → ∀ ρ', ρ' = ρ.set j (.dat x) → ET K tt ρ' fun b =>
      if b = true then EV K te ρ' fun y => Rel (i + 1) (es ++ [y]) else Rel (i + 1) es) ∧ ∀ es, Rel ds.length es → es.length ≤ ds.length → P (.lst es)) : EV K (tLc (iList K tl) (gName j) tt te [j]) ρ P := fun B W H σ e Q q =>
  h B W H σ e _ fun v d H1 g1 s1 p => by
    obtain ⟨ds, rfl, hz, Rel, r0, rs, rd⟩ := p
    cases s1 with
    | @lst a xs _ nB hL r =>
      have e1 := e.gs g1
      have aW : a ∉ W := fun m => nB (e1.bw.sub _ m)
      refine ⟨a, rfl, ⟨xs, SqL.of hL⟩, fun Dl nD => ?_⟩
      have ha : a ≠ Dl := ne_of_none hL nD
      refine lc_list (K := K) (a := a) (xs := xs) (LcI K B W H1 Dl (wipe σ [j]) (ρ.set j .no) Rel) (LcI.start e1 nD r0) (fun i H2 hi h2 => ?_) (fun i x H2 hx h2 => ?_) fun H2 h2 => LcI.done e1 nD (by rw [r.length] at h2; exact h2) rd fun v d H' g s => q v d H' (g1.trans g) s
      · obtain ⟨_, _, _, _, _, _, _, g⟩ := h2
        exact SqL.of (g.gw.keep _ _ aW hL)
      · obtain ⟨d, hd, sd⟩ := r.getV hx
        have hi : i < ds.length := (List.getElem?_eq_some_iff.mp hd).1
        have s2 : Sg K (Dl :: B) H2 x d := by
          obtain ⟨acc, es, hD, sa, _, _, en, g⟩ := id h2
          have z := sd.out (u := .lst acc) nD
          refine z.gw ⟨fun b o nb eb => ?_, fun b eb => ?_⟩
          · have hb : b ≠ Dl := fun q => nb (q ▸ List.mem_cons_self ..)
            rw [upd_ne hb] at eb
            exact g.gw.keep b o (fun m => nb (List.mem_cons_of_mem _ (e1.bw.sub _ m))) eb
          · have hb : b ≠ Dl := fun q => by
              rw [q, hD] at eb
              cases eb
            rw [upd_ne hb]
            exact g.gw.free b eb
        exact LcI.turn e1 nD (by omega) h2 s2 fun es hl hr => rs i d es hd hl hr _ rfl
/-- over a tuple -/
theorem EV.lcT {tl : TE} (h : EV K tl ρ fun d => ∃ ds, d = .tup ds ∧ ds.length ≤ 16777000 ∧ ∃ Rel : Nat → List D → Prop, Rel 0 [] ∧ (∀ (i : Nat) x es, ds[i]? = some x → es.length ≤ i → Rel i es → ∀ ρ', ρ' = ρ.set j (.dat x) → ET K tt ρ' fun b =>
      if b = true then EV K te ρ' fun y => Rel (i + 1) (es ++ [y]) else Rel (i + 1) es) ∧ ∀ es, Rel ds.length es → es.length ≤ ds.length → P (.lst es)) : EV K (tLc (iTup K tl) (gName j) tt te [j]) ρ P := fun B W H σ e Q q =>
  h B W H σ e _ fun v d H1 g1 s1 p => by
    obtain ⟨ds, rfl, hz, Rel, r0, rs, rd⟩ := p
    have e1 := e.gs g1
    have go : ∀ {a : Addr} {xs : List V}, (∀ H', Gs W H1 H' → SqT K H' a xs) → SgA K B H1 xs ds → iTup K (fun _ H R => R (.ref a) H) σ H1 fun J H1 => ∀ Dl, H1 Dl = none → ∃ W' : Nat → Nat → Hp → Prop, (∃ m, W' 0 m (upd H1 Dl (.lst []))) ∧ ∀ i m H, W' i m H →
        (J.stop i H ∧ Q (.ref Dl) H) ∨ (J.go i H ∧ ∃ Nx : Hp → Prop, (∀ H', Nx H' → ∃ m', m' < m ∧ W' (i + 1) m' H') ∧ ∀ x H', J.yld i H x H' → gName j x (wipe σ [j]) H' fun σ2 H2 => wipe σ2 [j] = wipe σ [j] ∧ tt σ2 H2 fun b H3 =>
          if b = true then te σ2 H3 fun y H4 => ∃ acc, H4 Dl = some (.lst acc) ∧ acc.length < sizeLine ∧ Nx (upd H4 Dl (.lst (acc ++ [y]))) else Nx H3) := fun {a xs} hT r => by
      refine ⟨a, rfl, ⟨xs, hT _ Gs.refl⟩, fun Dl nD => ?_⟩
      refine lc_tup (K := K) (a := a) (xs := xs) (LcI K B W H1 Dl (wipe σ [j]) (ρ.set j .no) Rel) (LcI.start e1 nD r0) (fun i H2 hi h2 => ?_) (fun i x H2 hx h2 => ?_) fun H2 h2 => LcI.done e1 nD (by rw [r.length] at h2; exact h2) rd fun v d H' g s => q v d H' (g1.trans g) s
      · obtain ⟨_, _, _, _, _, _, _, g⟩ := h2
        exact hT _ g
      · obtain ⟨d, hd, sd⟩ := r.getV hx
        have hi : i < ds.length := (List.getElem?_eq_some_iff.mp hd).1
        have s2 : Sg K (Dl :: B) H2 x d := by
          obtain ⟨acc, es, hD, sa, _, _, en, g⟩ := id h2
          have z := sd.out (u := .lst acc) nD
          refine z.gw ⟨fun b o nb eb => ?_, fun b eb => ?_⟩
          · have hb : b ≠ Dl := fun q => nb (q ▸ List.mem_cons_self ..)
            rw [upd_ne hb] at eb
            exact g.gw.keep b o (fun m => nb (List.mem_cons_of_mem _ (e1.bw.sub _ m))) eb
          · have hb : b ≠ Dl := fun q => by
              rw [q, hD] at eb
              cases eb
            rw [upd_ne hb]
            exact g.gw.free b eb
        exact LcI.turn e1 nD (by omega) h2 s2 fun es hl hr => rs i d es hd hl hr _ rfl
    cases s1 with
    | tup nB h r => exact go (fun H' g => Or.inl (rd_gw (fun m => nB (e1.bw.sub _ m)) g.gw h)) r
    | tupK h r => exact go (fun H' g => h H') r
/-- over a text's signs -/
theorem EV.lcS {tl : TE} (h : EV K tl ρ fun d => ∃ z : Str, d = .str z ∧ z.length ≤ 16777000 ∧ ∃ Rel : Nat → List D → Prop, Rel 0 [] ∧ (∀ (i : Nat) c es, z.cps[i]? = some c → es.length ≤ i → Rel i es → ∀ ρ', ρ' = ρ.set j (.dat (.str ⟨#[c]⟩)) → ET K tt ρ' fun b =>
      if b = true then EV K te ρ' fun y => Rel (i + 1) (es ++ [y]) else Rel (i + 1) es) ∧ ∀ es, Rel z.cps.size es → es.length ≤ z.cps.size → P (.lst es)) : EV K (tLc (iStr tl) (gName j) tt te [j]) ρ P := fun B W H σ e Q q =>
  h B W H σ e _ fun v d H1 g1 s1 p => by
    obtain ⟨z, rfl, hz, Rel, r0, rs, rd⟩ := p
    cases s1
    have e1 := e.gs g1
    refine ⟨z, rfl, fun Dl nD => lc_it walk_str (LcI K B W H1 Dl (wipe σ [j]) (ρ.set j .no) Rel) (LcI.start e1 nD r0) (fun _ _ _ _ => trivial) (fun i x H2 H3 hi h2 hy => ?_) fun H2 h2 => LcI.done e1 nD h2 rd fun v d H' g s => q v d H' (g1.trans g) s⟩
    obtain ⟨rfl, c, hc, rfl⟩ := hy
    exact LcI.turn e1 nD (by have : z.cps.size = z.length := rfl; omega) h2 (.str _) fun es hl hr => rs i c es hc hl hr _ rfl
end

/-! ### statements -/
structure Po where
  nx : List En → Prop
  rt : D → Prop
  bk : List En → Prop := fun _ => False
  ct : List En → Prop := fun _ => False
def ST (K : PySem.W.Frag) (t : TS) (ρ : List En) (P : Po) : Prop := ∀ (B W : List Addr) (H : Hp) (σ : L2.St), EnvOk K B W H σ ρ → ∀ E : Ends,
  (∀ ρ' σ' H', Gs W H H' → EnvOk K B W H' σ' ρ' → P.nx ρ' → E.nx σ' H') → (∀ v d H', Gs W H H' → Sg K B H' v d → P.rt d → E.rt v H') →
  (∀ ρ' σ' H', Gs W H H' → EnvOk K B W H' σ' ρ' → P.bk ρ' → E.bk σ' H') → (∀ ρ' σ' H', Gs W H H' → EnvOk K B W H' σ' ρ' → P.ct ρ' → E.ct σ' H') → t E σ H
section
variable {K : PySem.W.Frag} {P : Po} {ρ : List En} {te : TE} {tt : TT} {t u : TS} {ta : TA} {i j : Nat}
theorem ST.seq (h : ST K t ρ { P with nx := fun ρ' => ST K u ρ' P }) : ST K (tSeq t u) ρ P := fun B W H σ e E q1 q2 q3 q4 =>
  h B W H σ e { E with nx := u E } (fun ρ' σ' H' g e' p => p B W H' σ' e' E (fun ρ2 σ2 H2 g2 => q1 ρ2 σ2 H2 (g.trans g2)) (fun v d H2 g2 => q2 v d H2 (g.trans g2)) (fun ρ2 σ2 H2 g2 => q3 ρ2 σ2 H2 (g.trans g2)) (fun ρ2 σ2 H2 g2 => q4 ρ2 σ2 H2 (g.trans g2))) q2 q3 q4
/-- M: what holds between the two -/
theorem ST.cut (M : List En → Prop) (h : ST K t ρ { P with nx := M }) (k : ∀ ρ', M ρ' → ST K u ρ' P) : ST K (Evl.tCut t u) ρ P := fun B W H σ e E q1 q2 q3 q4 =>
  ⟨fun σ' H' => ∃ ρ', Gs W H H' ∧ EnvOk K B W H' σ' ρ' ∧ M ρ', h B W H σ e { E with nx := fun σ' H' => ∃ ρ', Gs W H H' ∧ EnvOk K B W H' σ' ρ' ∧ M ρ' } (fun ρ' σ' H' g e' m => ⟨ρ', g, e', m⟩) q2 q3 q4,
    fun σ' H' ⟨ρ', g, e', m⟩ => k ρ' m B W H' σ' e' E (fun ρ2 σ2 H2 g2 => q1 ρ2 σ2 H2 (g.trans g2)) (fun v d H2 g2 => q2 v d H2 (g.trans g2)) (fun ρ2 σ2 H2 g2 => q3 ρ2 σ2 H2 (g.trans g2)) (fun ρ2 σ2 H2 g2 => q4 ρ2 σ2 H2 (g.trans g2))⟩
/-- the same, each way goes on by itself -/
theorem ST.cut2 (h : ST K t ρ { P with nx := fun ρ' => ST K u ρ' P }) : ST K (Evl.tCut t u) ρ P := ST.cut (fun ρ' => ST K u ρ' P) h fun _ m => m
theorem ST.next (h : P.nx ρ) : ST K tNext ρ P := fun B W H σ e E q1 q2 q3 q4 => q1 ρ σ H Gs.refl e h
theorem ST.brk (h : P.bk ρ) : ST K tBreak ρ P := fun B W H σ e E q1 q2 q3 q4 => q3 ρ σ H Gs.refl e h
theorem ST.cont (h : P.ct ρ) : ST K tCont ρ P := fun B W H σ e E q1 q2 q3 q4 => q4 ρ σ H Gs.refl e h
theorem ST.asg (h : EV K te ρ fun d => ∀ ρ', ρ' = ρ.set i (.dat d) → P.nx ρ') : ST K (tAsg te (gName i)) ρ P := fun B W H σ e E q1 q2 q3 q4 =>
  h B W H σ e _ fun v d H1 g1 s1 p => q1 _ _ H1 g1 ((e.gs g1).set s1) (p _ rfl)
theorem ST.ret (h : EV K te ρ P.rt) : ST K (tRet te) ρ P := fun B W H σ e E q1 q2 q3 q4 => h B W H σ e _ fun v d H1 g1 s1 p => q2 v d H1 g1 s1 p
theorem ST.retN (h : P.rt .non) : ST K tRetN ρ P := fun B W H σ e E q1 q2 q3 q4 => q2 _ _ H Gs.refl .non h
theorem ST.drop (h : EV K te ρ fun _ => P.nx ρ) : ST K (tDrop te) ρ P := fun B W H σ e E q1 q2 q3 q4 => h B W H σ e _ fun v d H1 g1 s1 p => q1 _ _ H1 g1 (e.gs g1) p
theorem ST.ifs (h : ET K tt ρ fun b => if b = true then ST K t ρ P else ST K u ρ P) : ST K (tIfS tt t u) ρ P := fun B W H σ e E q1 q2 q3 q4 =>
  h B W H σ e _ fun b H1 g1 h1 => by
    cases b with
    | true =>
      rw [if_pos rfl] at h1 ⊢
      exact h1 B W H1 σ (e.gs g1) E (fun ρ2 σ2 H2 g2 => q1 ρ2 σ2 H2 (g1.trans g2)) (fun v d H2 g2 => q2 v d H2 (g1.trans g2)) (fun ρ2 σ2 H2 g2 => q3 ρ2 σ2 H2 (g1.trans g2)) (fun ρ2 σ2 H2 g2 => q4 ρ2 σ2 H2 (g1.trans g2))
    | false =>
      rw [if_neg Bool.false_ne_true] at h1 ⊢
      exact h1 B W H1 σ (e.gs g1) E (fun ρ2 σ2 H2 g2 => q1 ρ2 σ2 H2 (g1.trans g2)) (fun v d H2 g2 => q2 v d H2 (g1.trans g2)) (fun ρ2 σ2 H2 g2 => q3 ρ2 σ2 H2 (g1.trans g2)) (fun ρ2 σ2 H2 g2 => q4 ρ2 σ2 H2 (g1.trans g2))
theorem ET.imp {A A' : Bool → Prop} (h : ET K tt ρ A) (k : ∀ b, A b → A' b) : ET K tt ρ A' := fun B W H σ e Q q => h B W H σ e _ fun b H1 g1 h1 => q b H1 g1 (k b h1)
/-- an if that may go on: what follows is walked once -/
theorem ST.ifN (k : ST K u ρ P) {c : TS} (h : ET K tt ρ fun b => b = true → ST K c ρ { P with nx := fun ρ' => ST K u ρ' P }) : ST K (tSeq (tIfS tt c tNext) u) ρ P :=
  ST.seq (ST.ifs (h.imp fun b hb => by
    cases b with
    | true => exact hb rfl
    | false => exact ST.next k))
theorem ST.par (h : EA K ta ρ fun ds => ∃ x y, ds = [x, y] ∧ ∀ ρ', ρ' = (ρ.set i (.dat x)).set j (.dat y) → P.nx ρ') : ST K (tPar i j ta) ρ P := fun B W H σ e E q1 q2 q3 q4 =>
  h B W H σ e _ fun vs ds H1 g1 s1 p => by
    obtain ⟨x, y, rfl, p⟩ := p
    cases s1 with
    | cons s1 s2 =>
      cases s2 with
      | cons s2 s3 =>
        cases s3
        exact ⟨_, _, rfl, q1 _ _ H1 g1 (((e.gs g1).set s1).set s2) (p _ rfl)⟩
/-- x, y = a tuple -/
theorem ST.tup2 (h : EV K te ρ fun d => ∃ x y, d = .tup [x, y] ∧ ∀ ρ', ρ' = (ρ.set i (.dat x)).set j (.dat y) → P.nx ρ') : ST K (tAsg te (gTup K 2 (gCons (gName i) (gCons (gName j) gNil)))) ρ P := fun B W H σ e E q1 q2 q3 q4 =>
  h B W H σ e _ fun v d H1 g1 s1 p => by
    obtain ⟨x, y, rfl, p⟩ := p
    have go : ∀ {a : Addr}, Sg K B H1 (.ref a) (.tup [x, y]) → gTup K 2 (gCons (gName i) (gCons (gName j) gNil)) (.ref a) σ H1 E.nx := fun {a} s => by
      obtain ⟨xs, hT, r⟩ := s.sqT
      cases r with
      | cons s1 s2 =>
        cases s2 with
        | cons s2 s3 =>
          cases s3
          exact ⟨a, _, rfl, hT, rfl, _, _, rfl, _, _, rfl, rfl, q1 _ _ H1 g1 (((e.gs g1).set s1).set s2) (p _ rfl)⟩
    cases s1 with
    | tup n h r => exact go (.tup n h r)
    | tupK h r => exact go (.tupK h r)
/-- for over range(n): I between the turns -/
theorem ST.forR (h : EA K ta ρ fun ds => ∃ n : Int, ds = [.int n] ∧ -(2 ^ 62) ≤ n ∧ n < 2 ^ 62 ∧ ∃ I : Nat → List En → Prop, I 0 ρ ∧ (∀ (i : Nat) ρ', i < n.toNat → I i ρ' → ∀ ρ2, ρ2 = ρ'.set j (.dat (.int i)) → ST K t ρ2 ⟨I (i + 1), P.rt, P.nx, I (i + 1)⟩) ∧ ∀ ρ', I n.toNat ρ' → P.nx ρ') :
    ST K (tFor (iRng1 ta) (gName j) t) ρ P := fun B W H σ e E q1 q2 q3 q4 =>
  h B W H σ e _ fun vs ds H1 g1 s1 p => by
    obtain ⟨n, rfl, n0, n1, I, i0, is_, id_⟩ := p
    cases s1 with
    | cons s1 s2 =>
      cases s2
      cases s1
      refine ⟨n, rfl, n0, n1, for_range (fun i σ' H' => ∃ ρ', Gs W H1 H' ∧ EnvOk K B W H' σ' ρ' ∧ I i ρ') ⟨ρ, Gs.refl, e.gs g1, i0⟩ (fun i σ' H' hi ⟨ρ', g, e', hI⟩ => ?_) fun σ' H' ⟨ρ', g, e', hI⟩ => q1 ρ' σ' H' (g1.trans g) e' (id_ ρ' hI)⟩
      rw [Int.zero_add]
      exact is_ i ρ' hi hI _ rfl B W H' _ (e'.set (.int _)) _ (fun ρ2 σ2 H2 g2 e2 p => ⟨ρ2, g.trans g2, e2, p⟩) (fun v d H2 g2 => q2 v d H2 ((g1.trans g).trans g2)) (fun ρ2 σ2 H2 g2 e2 p => q1 ρ2 σ2 H2 ((g1.trans g).trans g2) e2 p) (fun ρ2 σ2 H2 g2 e2 p => ⟨ρ2, g.trans g2, e2, p⟩)
/-- for over a list -/
theorem ST.forL {tl : TE} (h : EV K tl ρ fun d => ∃ ds, d = .lst ds ∧ ∃ I : Nat → List En → Prop, I 0 ρ ∧ (∀ (i : Nat) x ρ', ds[i]? = some x → I i ρ' → ∀ ρ2, ρ2 = ρ'.set j (.dat x) → ST K t ρ2 ⟨I (i + 1), P.rt, P.nx, I (i + 1)⟩) ∧ ∀ ρ', I ds.length ρ' → P.nx ρ') :
    ST K (tFor (iList K tl) (gName j) t) ρ P := fun B W H σ e E q1 q2 q3 q4 =>
  h B W H σ e _ fun v d H1 g1 s1 p => by
    obtain ⟨ds, rfl, I, i0, is_, id_⟩ := p
    cases s1 with
    | @lst a xs _ nB hL r =>
      have e1 := e.gs g1
      have aW : a ∉ W := fun m => nB (e1.bw.sub _ m)
      refine ⟨a, rfl, ⟨xs, SqL.of hL⟩, for_list (K := K) (a := a) (xs := xs) (fun i σ' H' => ∃ ρ', Gs W H1 H' ∧ EnvOk K B W H' σ' ρ' ∧ I i ρ') ⟨ρ, Gs.refl, e1, i0⟩ (fun i σ' H' hi ⟨ρ', g, e', hI⟩ => SqL.of (g.gw.keep _ _ aW hL)) (fun i x σ' H' hx ⟨ρ', g, e', hI⟩ => ?_) fun σ' H' ⟨ρ', g, e', hI⟩ => q1 ρ' σ' H' (g1.trans g) e' (id_ ρ' (by rw [r.length] at hI; exact hI))⟩
      obtain ⟨d, hd, sd⟩ := r.getV hx
      exact is_ i d ρ' hd hI _ rfl B W H' _ (e'.set (sd.gw (e1.bw.gw g))) _ (fun ρ2 σ2 H2 g2 e2 p => ⟨ρ2, g.trans g2, e2, p⟩) (fun v d H2 g2 => q2 v d H2 ((g1.trans g).trans g2)) (fun ρ2 σ2 H2 g2 e2 p => q1 ρ2 σ2 H2 ((g1.trans g).trans g2) e2 p) (fun ρ2 σ2 H2 g2 e2 p => ⟨ρ2, g.trans g2, e2, p⟩)
end

/-! ### defs -/
/-- an argument as it is handed over: data, or a bag by its address -/
def D.en : D → En
  | .raw b => .bag b
  | d => .dat d
/-- a promise over data: the arguments are enc x for some x of dom, post tells the answer -/
def spA (K : PySem.W.Frag) {α : Type} (enc : α → List D) (dom : α → Prop) (post : α → D → Prop) : Sp := fun vs H Q _ => ∃ (B W : List Addr) (x : α), EnvOk K B W H (vs.map some) ((enc x).map D.en) ∧ dom x ∧ ∀ v d H', Gs W H H' → Sg K B H' v d → post x d → Q v H'
theorem spA_len {K : PySem.W.Frag} {α : Type} {enc : α → List D} {dom : α → Prop} {post : α → D → Prop} {n : Nat} {vs : List V} {H : Hp} {Q : VK} {E : XK} (h : spA K enc dom post vs H Q E) (hp : ∀ x, (enc x).length = n) : vs.length = n := by
  obtain ⟨B, W, x, e, p, _⟩ := h
  have := e.len
  rw [List.length_map, List.length_map] at this
  rw [this]
  exact hp x
theorem Sg.en {K : PySem.W.Frag} {B W : List Addr} {H : Hp} {σ : L2.St} {ρ : List En} {v : V} {d : D} (e : EnvOk K B W H σ ρ) (s : Sg K B H v d) (hb : ∀ b, d = .raw b → En.bag b ∈ ρ) : EnOk K B W H (some (some v)) d.en := by
  cases d with
  | raw b =>
    cases s
    obtain ⟨i, hi, ei⟩ := List.mem_iff_getElem.mp (hb b rfl)
    have q : ρ[i]? = some (.bag b) := by rw [List.getElem?_eq_getElem hi, ei]
    obtain ⟨_, h2⟩ := e.sl i _ q
    exact ⟨rfl, h2⟩
  | non => exact ⟨v, rfl, s⟩
  | bl b => exact ⟨v, rfl, s⟩
  | int b => exact ⟨v, rfl, s⟩
  | str b => exact ⟨v, rfl, s⟩
  | ty b => exact ⟨v, rfl, s⟩
  | tup b => exact ⟨v, rfl, s⟩
  | lst b => exact ⟨v, rfl, s⟩
theorem SgA.ens {K : PySem.W.Frag} {B W : List Addr} {H : Hp} {σ : L2.St} {ρ : List En} {vs : List V} {ds : List D} (e : EnvOk K B W H σ ρ) (s : SgA K B H vs ds) (hb : ∀ b, D.raw b ∈ ds → En.bag b ∈ ρ) : EnvOk K B W H (vs.map some) (ds.map D.en) := by
  refine ⟨e.bw, by rw [List.length_map, List.length_map]; exact s.length, fun i q hq => ?_⟩
  rw [List.getElem?_map] at hq
  cases hd : ds[i]? with
  | none =>
    rw [hd] at hq
    cases hq
  | some d =>
    rw [hd] at hq
    cases hq
    obtain ⟨v, hv, sv⟩ := s.get hd
    rw [List.getElem?_map, hv]
    exact sv.en e fun b z => hb b (z ▸ List.mem_of_getElem? hd)
theorem EV.call {K : PySem.W.Frag} {P : D → Prop} {ρ : List En} {α : Type} {enc : α → List D} {dom : α → Prop} {post : α → D → Prop} {E : XK} {ta : TA} (h : EA K ta ρ fun ds => ∃ x, ds = enc x ∧ (∀ b, D.raw b ∈ ds → En.bag b ∈ ρ) ∧ dom x ∧ ∀ d, post x d → P d) : EV K (tCall (spA K enc dom post) [] E ta) ρ P := fun B W H σ e Q q =>
  h B W H σ e _ fun vs ds H1 g1 s1 p => by
    obtain ⟨x, rfl, hb, hd, p⟩ := p
    have e1 := e.gs g1
    refine ⟨B, W, x, ?_, hd, fun v d H2 g2 s2 p2 => q v d H2 (g1.trans g2) s2 (p d p2)⟩
    rw [List.append_nil]
    exact s1.ens e1 hb
/-- the draw's promise -/
abbrev spTake (K : PySem.W.Frag) : Sp := spA K (fun x : Addr × Int => [.raw x.1, .int x.2]) (fun x => 0 < x.2 ∧ x.2 < 2 ^ 200) fun x d => ∃ r, d = .int r ∧ 0 ≤ r ∧ r < x.2
theorem EV.take {K : PySem.W.Frag} {P : D → Prop} {ρ : List En} {E : XK} {te : TE} {i : Nat} {b : Addr} (hi : ρ[i]? = some (.bag b)) (h : EV K te ρ fun x => ∃ n : Int, x = .int n ∧ 0 < n ∧ n < 2 ^ 200 ∧ ∀ r, 0 ≤ r → r < n → P (.int r)) :
    EV K (tCall (spTake K) [] E (tCons (tVar i) (tCons te tNil))) ρ P := by
  refine EV.call (EA.cons (EV.bag hi (EA.cons (EV.imp h fun d hd => ?_))))
  obtain ⟨n, rfl, n0, n1, hr⟩ := hd
  refine EA.nil ⟨(b, n), rfl, fun b' m => ?_, ⟨n0, n1⟩, fun d hd => ?_⟩
  · have : b' = b := by simpa using m
    rw [this]
    exact List.mem_of_getElem? hi
  · obtain ⟨r, rfl, r0, r1⟩ := hd
    exact hr r r0 r1
/-- a body, from its promise -/
theorem body_ok {K : PySem.W.Frag} {N : List Str} {t : TS} {α : Type} {enc : α → List D} {dom : α → Prop} {post : α → D → Prop} {vs : List V} {H : Hp} {Q : VK} {E : XK} (h : spA K enc dom post vs H Q E)
    (hb : ∀ x, dom x → ∃ ρ, (enc x).map D.en ++ List.replicate (N.length - (enc x).length) .no = ρ ∧ ST K t ρ ⟨fun _ => post x .non, post x, fun _ => False, fun _ => False⟩) :
    t ⟨fun _ H' => Q .non H', Q, fun _ _ => False, fun _ _ => False⟩ (start N vs) H := by
  obtain ⟨B, W, x, e, p, q⟩ := h
  have hl : vs.length = (enc x).length := by
    have := e.len
    rw [List.length_map, List.length_map] at this
    exact this
  obtain ⟨ρ, rfl, hb⟩ := hb x p
  refine hb B W H _ ⟨e.bw, ?_, fun i en hi => ?_⟩ _ (fun ρ' σ' H' g _ p => q _ _ H' g .non p) (fun v d H' g s p => q v d H' g s p) (fun _ _ _ _ _ z => z.elim) fun _ _ _ _ _ z => z.elim
  · unfold L2.start
    rw [List.length_append, List.length_append, List.length_map, List.length_map, List.length_replicate, List.length_replicate, hl]
  · by_cases hlt : i < (enc x).length
    · rw [List.getElem?_append_left (by rw [List.length_map]; exact hlt)] at hi
      unfold L2.start
      rw [List.getElem?_append_left (by rw [List.length_map, hl]; exact hlt)]
      exact e.sl i en hi
    · rw [List.getElem?_append_right (by rw [List.length_map]; omega)] at hi
      rw [List.getElem?_replicate] at hi
      split at hi
      · cases hi
        trivial
      · cases hi
end VB

set_option Elab.async false
set_option linter.all false
set_option maxRecDepth 100000
set_option maxHeartbeats 4000000
/-! Texts, names: the mathematics. -/
namespace VB
open PySem PySem.Spec PyProof.Rows L2

abbrev LET : Str := "abcdefghijklmnopqrstuvwxyz"
def Lw (z : Str) : Prop := ∀ c ∈ z.cps.toList, c ∈ LET.cps.toList
def Wd (z : Str) : Prop := 1 ≤ z.length ∧ z.length ≤ 8 ∧ Lw z
def lwB (z : Str) : Bool := z.cps.toList.all fun c => decide (c ∈ LET.cps.toList)
theorem lwB_iff {z : Str} : lwB z = true ↔ Lw z := by
  unfold lwB Lw
  rw [List.all_eq_true]
  exact ⟨fun h c m => of_decide_eq_true (h c m), fun h c m => decide_eq_true (h c m)⟩
instance (z : Str) : Decidable (Wd z) := decidable_of_iff (1 ≤ z.length ∧ z.length ≤ 8 ∧ lwB z = true) (by unfold Wd; rw [lwB_iff])
theorem len_cps (z : Str) : z.cps.toList.length = z.length := by simp [Str.length]
theorem Lw.app {x y : Str} (h : Lw x) (k : Lw y) : Lw (x ++ y) := fun c m => by
  rw [Str.cps_append, Array.toList_append, List.mem_append] at m
  exact m.elim (h c) (k c)
theorem Lw.cut {x : Str} (h : Lw x) (lo hi : Option Int) : Lw (cutS x lo hi) := fun c m => by
  unfold cutS at m
  exact h c (List.mem_of_mem_drop (List.mem_of_mem_take (by simpa using m)))
theorem Lw.empty : Lw Str.empty := fun c m => by
  have : c ∈ ([] : List Nat) := m
  cases this
theorem foldl_mem (p : Nat → Prop) : ∀ (l : List (Array Nat)) (acc : Array Nat), (∀ c ∈ acc.toList, p c) → (∀ x ∈ l, ∀ c ∈ x.toList, p c) → ∀ c ∈ (l.foldl (· ++ ·) acc).toList, p c
  | [], acc, h, _ => h
  | x :: l, acc, h, k => foldl_mem p l (acc ++ x) (fun c m => by
    rw [Array.toList_append, List.mem_append] at m
    exact m.elim (h c) (k x List.mem_cons_self c)) fun y m => k y (List.mem_cons_of_mem _ m)
theorem foldl_len : ∀ (l : List (Array Nat)) (acc : Array Nat), (l.foldl (· ++ ·) acc).size = acc.size + (l.map (·.size)).sum
  | [], acc => by simp
  | x :: l, acc => by
    show (List.foldl (· ++ ·) (acc ++ x) l).size = _
    rw [foldl_len l (acc ++ x), Array.size_append, List.map_cons, List.sum_cons]
    omega
theorem Lw.mul {x : Str} (h : Lw x) (n : Int) : Lw (Txt.mul x n) := by
  unfold Txt.mul
  split
  · exact Lw.empty
  · split
    · exact h
    · exact fun c m => foldl_mem (fun c => c ∈ LET.cps.toList) _ #[] (fun c m => by cases m) (fun y my c mc => by
        rw [(List.mem_replicate.mp my).2] at mc
        exact h c mc) c m
theorem mul_len (x : Str) (n : Int) (h0 : 0 ≤ n) : (Txt.mul x n).length = n.toNat * x.length := by
  unfold Txt.mul
  split
  · have : n.toNat = 0 := by omega
    rw [this]
    simp [Str.empty, Str.length]
  · split
    · rename_i h1 h2
      rw [Bool.or_eq_true] at h2
      rcases h2 with h2 | h2
      · have : n = 1 := by simpa using h2
        rw [this]
        simp
      · have : x.length = 0 := by simpa using h2
        rw [this]
        simp
    · show (List.foldl (· ++ ·) #[] (List.replicate n.toNat x.cps)).size = _
      rw [foldl_len]
      simp [Str.length]
theorem joinR_empty : ∀ l : List Str, (Str.join "" l).cps.toList = (l.map fun z => z.cps.toList).flatten
  | [] => rfl
  | [x] => by simp [Str.join]
  | x :: y :: l => by
    show (x ++ "" ++ Str.join "" (y :: l)).cps.toList = _
    rw [Str.cps_append, Str.cps_append, Array.toList_append, Array.toList_append, joinR_empty (y :: l)]
    simp [show (("" : Str).cps.toList) = [] from by decide]
theorem join_empty (l : List Str) : (Txt.join "" l).cps.toList = (l.map fun z => z.cps.toList).flatten := by
  show (Builtin.Str.glued "" l).cps.toList = _
  rw [StrLaws.glued_eq_join]
  exact joinR_empty l
/-- a text cut in two -/
theorem cut_lo (z : Str) (k : Nat) (hk : k ≤ z.length) : (cutS z none (some (k : Int))).cps.toList = z.cps.toList.take k := by
  unfold cutS
  simp only [HT.sIx_none, HT.sIx_nat]
  rw [Nat.min_eq_left hk]
  simp
theorem cut_hi (z : Str) (k : Nat) (hk : k ≤ z.length) : (cutS z (some (k : Int)) none).cps.toList = z.cps.toList.drop k := by
  unfold cutS
  simp only [HT.sIx_none, HT.sIx_nat]
  rw [Nat.min_eq_left hk, ← len_cps, ← List.length_drop, List.take_length]
theorem cut_lo_len (z : Str) (k : Nat) (hk : k ≤ z.length) : (cutS z none (some (k : Int))).length = k := by
  rw [← len_cps, cut_lo z k hk, List.length_take, len_cps]
  omega
theorem cut_hi_len (z : Str) (k : Nat) (hk : k ≤ z.length) : (cutS z (some (k : Int)) none).length = z.length - k := by
  rw [← len_cps, cut_hi z k hk, List.length_drop, len_cps]
theorem cutG_len {α : Type} (xs : List α) (lo hi : Option Int) : (cutG xs lo hi).length ≤ xs.length := by
  unfold cutG
  rw [List.length_take, List.length_drop]
  omega
theorem cutG_mem {α : Type} {xs : List α} {lo hi : Option Int} {x : α} (h : x ∈ cutG xs lo hi) : x ∈ xs := List.mem_of_mem_drop (List.mem_of_mem_take h)
theorem cutG_map {α β : Type} (f : α → β) (xs : List α) (lo hi : Option Int) : cutG (xs.map f) lo hi = (cutG xs lo hi).map f := by
  unfold cutG
  rw [List.length_map, List.map_take, List.map_drop]
theorem cutG_lo {α : Type} (xs : List α) (k : Nat) : cutG xs none (some (k : Int)) = xs.take k := by
  unfold cutG
  simp only [HT.sIx_none, HT.sIx_nat, List.drop_zero, Nat.sub_zero]
  by_cases h : k ≤ xs.length
  · rw [Nat.min_eq_left h]
  · rw [Nat.min_eq_right (by omega), List.take_length, List.take_of_length_le (by omega)]
theorem cutG_hi {α : Type} (xs : List α) (k : Nat) : cutG xs (some (k : Int)) none = xs.drop k := by
  unfold cutG
  simp only [HT.sIx_none, HT.sIx_nat]
  by_cases h : k ≤ xs.length
  · rw [Nat.min_eq_left h, ← List.length_drop, List.take_length]
  · rw [Nat.min_eq_right (by omega), List.drop_length, List.drop_of_length_le (by omega)]
    simp
/-- an item by a place in bounds -/
theorem atI_of {α : Type} {xs : List α} {i : Int} (h0 : 0 ≤ i) (h1 : i < xs.length) : ∃ x ∈ xs, atI xs i = some x := by
  have hj : i.toNat < xs.length := by omega
  have e : i = ((i.toNat : Nat) : Int) := by omega
  refine ⟨xs[i.toNat], List.getElem_mem hj, ?_⟩
  have z := atI_nat (List.getElem?_eq_getElem hj)
  rw [← e] at z
  exact z
theorem LET_len : LET.cps.toList.length = 26 := by decide
/-- a letter of the alphabet -/
theorem let_at {i : Int} (h0 : 0 ≤ i) (h1 : i < 26) : ∃ c, atI LET.cps.toList i = some c ∧ Lw ⟨#[c]⟩ := by
  obtain ⟨c, hc, e⟩ := atI_of (xs := LET.cps.toList) h0 (by rw [LET_len]; exact h1)
  refine ⟨c, e, fun d m => ?_⟩
  have : d ∈ [c] := m
  rw [List.mem_singleton] at this
  rw [this]
  exact hc
theorem let_wd {c : Nat} (h : Lw ⟨#[c]⟩) : Wd ⟨#[c]⟩ := ⟨by show 1 ≤ 1; decide, by show 1 ≤ 8; decide, h⟩
theorem words_ok : (Txt.split ("lists paper anchor notice trust arrive renew back all none any named open shut soft strict ok root" ++ " a b ab zz ask days") " ").length = 24 ∧ ∀ x ∈ Txt.split ("lists paper anchor notice trust arrive renew back all none any named open shut soft strict ok root" ++ " a b ab zz ask days") " ", Wd x := by decide +kernel
theorem sum_ones (ws : List Str) (h : ∀ x ∈ ws, x.length = 1) : (ws.map (·.length)).sum = ws.length := by
  induction ws with
  | nil => rfl
  | cons x r ih =>
    rw [List.map_cons, List.sum_cons, h x List.mem_cons_self, ih fun y m => h y (List.mem_cons_of_mem _ m), List.length_cons]
    omega
theorem join_len (ws : List Str) : (Txt.join "" ws).length = (ws.map (·.length)).sum := by
  rw [← len_cps, join_empty, List.length_flatten, List.map_map]
  exact congrArg List.sum (List.map_congr_left fun z _ => len_cps z)
theorem join_lw (ws : List Str) (h : ∀ x ∈ ws, Lw x) : Lw (Txt.join "" ws) := fun c m => by
  rw [join_empty, List.mem_flatten] at m
  obtain ⟨l, hl, hc⟩ := m
  obtain ⟨z, hz, rfl⟩ := List.mem_map.mp hl
  exact h z hz c hc
theorem rot_mem {α : Type} {xs : List α} {t k : Option Int} {x : α} (h : x ∈ cutG (cutG xs t none ++ cutG xs none t) none k) : x ∈ xs := by
  rcases List.mem_append.mp (cutG_mem h) with m | m
  · exact cutG_mem m
  · exact cutG_mem m
theorem rot_len {α : Type} (xs : List α) (t k : Nat) (ht : t ≤ xs.length) (hk : k ≤ xs.length) : (cutG (cutG xs (some (t : Int)) none ++ cutG xs none (some (t : Int))) none (some (k : Int))).length = k := by
  rw [cutG_lo, cutG_lo, cutG_hi, List.length_take, List.length_append, List.length_drop, List.length_take]
  omega
theorem mul_one_lw {c : Nat} (h : Lw ⟨#[c]⟩) {k : Int} (h1 : 1 ≤ k) (h8 : k ≤ 8) : Wd (Txt.mul ⟨#[c]⟩ k) := by
  have e : (Txt.mul ⟨#[c]⟩ k).length = k.toNat := by
    rw [mul_len _ _ (by omega)]
    show k.toNat * 1 = _
    omega
  exact ⟨by omega, by omega, h.mul k⟩
theorem cutS_len (z : Str) (lo hi : Option Int) : (cutS z lo hi).length ≤ z.length := by
  rw [← len_cps, ← len_cps z]
  unfold cutS
  show (List.take _ (List.drop _ z.cps.toList)).toArray.toList.length ≤ _
  rw [List.length_take, List.length_drop]
  omega
theorem mul_zero' (z : Str) : (Txt.mul z 0).length = 0 := by rw [mul_len _ _ (by decide)]; simp
theorem mul_one' (z : Str) : Txt.mul z 1 = z := by
  unfold Txt.mul
  rw [if_neg (by decide), if_pos (by rfl)]
mutual
/-- data of the kinds that the words' tests meet, its texts and tuples below the line -/
def D.sz : D → Bool
  | .str z => decide (z.length ≤ 16777000)
  | .tup ds => decide (ds.length ≤ 16777000) && D.szA ds
  | .ty _ => false
  | .raw _ => false
  | _ => true
def D.szA : List D → Bool
  | [] => true
  | d :: ds => D.sz d && D.szA ds
end
def D.isWord : D → Bool
  | .str z => decide (1 ≤ z.length) && (decide (z.length ≤ 8) && lwB z)
  | _ => false
def D.isName : D → Bool
  | .tup ds => ds.all D.isWord
  | _ => false
def D.isHolder : D → Bool
  | .tup [x, y] => x.isName && y.isWord
  | _ => false
theorem lwB_map (z : Str) : ((z.cps.toList.map fun c => decide (c ∈ LET.cps.toList)).all id) = lwB z := by
  unfold lwB
  rw [List.all_map]
  rfl
theorem takeMap {α β : Type} (f : α → β) {xs : List α} {i : Nat} {x : α} (h : xs[i]? = some x) : (xs.take (i + 1)).map f = (xs.take i).map f ++ [f x] := by
  rw [List.take_add_one, h, List.map_append]
  rfl
/-- what isinstance tells of data -/
def D.isTy (d : D) (n : String) : Bool := match d.tyn with
  | some m => (kitB m n).getD false
  | none => false
theorem sz_tyn {d : D} (h : d.sz = true) : ∃ n, d.tyn = some n ∧ (n = "NoneType" ∨ n = "bool" ∨ n = "int" ∨ n = "str" ∨ n = "tuple" ∨ n = "list") := by
  cases d with
  | raw a => simp [D.sz] at h
  | ty a => simp [D.sz] at h
  | non => exact ⟨_, rfl, by simp⟩
  | bl b => exact ⟨_, rfl, by simp⟩
  | int i => exact ⟨_, rfl, by simp⟩
  | str z => exact ⟨_, rfl, by simp⟩
  | tup ds => exact ⟨_, rfl, by simp⟩
  | lst ds => exact ⟨_, rfl, by simp⟩
def D.isStr : D → Bool
  | .str _ => true
  | _ => false
def D.isTup : D → Bool
  | .tup _ => true
  | _ => false
theorem RC.isiStr {K : PySem.W.Frag} {ρ : List En} {P : D → Prop} {d : D} (h : d.sz = true) (p : P (.bl d.isStr)) : RC K (rIsi K) ρ [d, .ty "str"] P := by
  cases d with
  | raw a => simp [D.sz] at h
  | ty a => simp [D.sz] at h
  | non => exact RC.isi (b := false) rfl (by decide +kernel) p
  | bl b => exact RC.isi (b := false) rfl (by decide +kernel) p
  | int i => exact RC.isi (b := false) rfl (by decide +kernel) p
  | str z => exact RC.isi (b := true) rfl (by decide +kernel) p
  | tup ds => exact RC.isi (b := false) rfl (by decide +kernel) p
  | lst ds => exact RC.isi (b := false) rfl (by decide +kernel) p
theorem RC.isiTup {K : PySem.W.Frag} {ρ : List En} {P : D → Prop} {d : D} (h : d.sz = true) (p : P (.bl d.isTup)) : RC K (rIsi K) ρ [d, .ty "tuple"] P := by
  cases d with
  | raw a => simp [D.sz] at h
  | ty a => simp [D.sz] at h
  | non => exact RC.isi (b := false) rfl (by decide +kernel) p
  | bl b => exact RC.isi (b := false) rfl (by decide +kernel) p
  | int i => exact RC.isi (b := false) rfl (by decide +kernel) p
  | str z => exact RC.isi (b := false) rfl (by decide +kernel) p
  | tup ds => exact RC.isi (b := true) rfl (by decide +kernel) p
  | lst ds => exact RC.isi (b := false) rfl (by decide +kernel) p
theorem D.not_str {d : D} (h : d.isStr = false) : d.isWord = false := by
  cases d with
  | str z => cases h
  | _ => rfl
theorem D.not_tup {d : D} (h : d.isTup = false) : d.isName = false ∧ d.isHolder = false := by
  cases d with
  | tup z => cases h
  | _ => exact ⟨rfl, rfl⟩
theorem szA_get {ds : List D} (h : D.szA ds = true) : ∀ d ∈ ds, d.sz = true := by
  induction ds with
  | nil => exact fun d m => nomatch m
  | cons x r ih =>
    have q := Bool.and_eq_true_iff.mp (show (_ && _) = true from h)
    intro d m
    rcases List.mem_cons.mp m with e | m
    · rw [e]
      exact q.1
    · exact ih q.2 d m
theorem RC.allF {K : PySem.W.Frag} {ρ : List En} {P : D → Prop} {α : Type} {f : α → Bool} {xs : List α} (p : P (.bl (xs.all f))) : RC K (rAll K) ρ [.lst (xs.map fun x => D.bl (f x))] P := by
  have e : (xs.map fun x => D.bl (f x)) = (xs.map f).map D.bl := by rw [List.map_map]; rfl
  rw [e]
  refine RC.all ?_
  rw [List.all_map]
  exact p
/-! data of texts, of ints: == -/
theorem pyA_strs : ∀ xs : List Str, D.pyA (xs.map D.str) = xs.map PyData.str
  | [] => rfl
  | x :: r => by
    show D.py (.str x) :: D.pyA (r.map D.str) = _
    rw [pyA_strs r]
    rfl
theorem puA_strs : ∀ xs : List Str, D.puA (xs.map D.str) = true
  | [] => rfl
  | x :: r => by
    show (true && D.puA (r.map D.str)) = true
    rw [puA_strs r]
    rfl
theorem wd_ok {x : Str} (h : Lw x) : PyData.strOk x = true := by
  unfold PyData.strOk
  rw [Array.all_eq_true]
  intro i hi
  have m : x.cps[i] ∈ x.cps.toList := by simp
  have c := h _ m
  have all : ∀ c ∈ LET.cps.toList, c < 0x110000 := by decide
  exact decide_eq_true (all _ c)
theorem lay_strs : ∀ xs : List Str, (∀ x ∈ xs, Lw x) → PyData.canLayAll0 (xs.map PyData.str) = true
  | [], _ => rfl
  | x :: r, h => by
    show (PyData.canLay0 (.str x) && PyData.canLayAll0 (r.map PyData.str)) = true
    rw [lay_strs r fun y m => h y (List.mem_cons_of_mem _ m), Bool.and_true]
    show PyData.canLay0 (.str x) = true
    unfold PyData.canLay0
    exact wd_ok (h x List.mem_cons_self)
theorem depth_strs : ∀ xs : List Str, PyData.depthAll (xs.map PyData.str) = 0
  | [] => rfl
  | x :: r => by
    show max (PyData.depth (.str x)) (PyData.depthAll (r.map PyData.str)) = 0
    rw [depth_strs r]
    rfl
theorem strs_shaped {xs ys : List Str} (hx : ∀ x ∈ xs, Wd x) (hy : ∀ x ∈ ys, Wd x) : (D.tup (xs.map D.str)).pu = true ∧ (D.tup (ys.map D.str)).pu = true ∧ SeqAt.shaped (D.tup (xs.map D.str)).py = true ∧ SeqAt.shaped (D.tup (ys.map D.str)).py = true := by
  have one : ∀ zs : List Str, (∀ x ∈ zs, Wd x) → SeqAt.shaped (D.tup (zs.map D.str)).py = true := fun zs hz => by
    unfold D.py SeqAt.shaped
    rw [pyA_strs]
    unfold PyData.canLay0 PyData.depth
    rw [lay_strs zs fun x m => (hz x m).2.2, depth_strs]
    rfl
  exact ⟨by unfold D.pu; exact puA_strs xs, by unfold D.pu; exact puA_strs ys, one xs hx, one ys hy⟩
theorem eqvAll_strs : ∀ xs ys : List Str, PyData.eqvAll (xs.map PyData.str) (ys.map PyData.str) = decide (xs = ys)
  | [], [] => rfl
  | [], _ :: _ => by simp [PyData.eqvAll]
  | _ :: _, [] => by simp [PyData.eqvAll]
  | x :: xs, y :: ys => by
    show (PyData.eqv (.str x) (.str y) && PyData.eqvAll (xs.map PyData.str) (ys.map PyData.str)) = _
    rw [eqvAll_strs xs ys]
    unfold PyData.eqv
    rw [Bool.eq_iff_iff]
    simp
theorem strs_eqv (xs ys : List Str) : PyData.eqv (D.tup (xs.map D.str)).py (D.tup (ys.map D.str)).py = decide (xs = ys) := by
  unfold D.py
  rw [pyA_strs, pyA_strs]
  unfold PyData.eqv
  exact eqvAll_strs xs ys
theorem pyA_ints : ∀ xs : List Int, D.pyA (xs.map D.int) = xs.map PyData.int
  | [] => rfl
  | x :: r => by
    show D.py (.int x) :: D.pyA (r.map D.int) = _
    rw [pyA_ints r]
    rfl
theorem puA_ints : ∀ xs : List Int, D.puA (xs.map D.int) = true
  | [] => rfl
  | x :: r => by
    show (true && D.puA (r.map D.int)) = true
    rw [puA_ints r]
    rfl
theorem lay_ints : ∀ xs : List Int, PyData.canLayAll0 (xs.map PyData.int) = true
  | [] => rfl
  | x :: r => by
    show (PyData.canLay0 (.int x) && PyData.canLayAll0 (r.map PyData.int)) = true
    rw [lay_ints r]
    unfold PyData.canLay0
    rfl
theorem depth_ints : ∀ xs : List Int, PyData.depthAll (xs.map PyData.int) = 0
  | [] => rfl
  | x :: r => by
    show max (PyData.depth (.int x)) (PyData.depthAll (r.map PyData.int)) = 0
    rw [depth_ints r]
    rfl
theorem ints_shaped {ks ls : List Int} : (D.lst (ks.map D.int)).pu = true ∧ (D.lst (ls.map D.int)).pu = true ∧ SeqAt.shaped (D.lst (ks.map D.int)).py = true ∧ SeqAt.shaped (D.lst (ls.map D.int)).py = true := by
  have one : ∀ zs : List Int, SeqAt.shaped (D.lst (zs.map D.int)).py = true := fun zs => by
    unfold D.py SeqAt.shaped
    rw [pyA_ints]
    unfold PyData.canLay0 PyData.depth
    rw [lay_ints zs, depth_ints]
    rfl
  exact ⟨by unfold D.pu; exact puA_ints ks, by unfold D.pu; exact puA_ints ls, one ks, one ls⟩
theorem ints_nil (ks : List Int) : PyData.eqv (D.lst (ks.map D.int)).py (D.lst []).py = ks.isEmpty := by
  unfold D.py
  rw [pyA_ints]
  unfold PyData.eqv
  cases ks with
  | nil => rfl
  | cons x r => simp [PyData.eqvAll, D.pyA]
theorem iteTT {A B : Prop} (h : B) : if (!decide (true = true)) = true then A else B := by simpa using h
theorem iteFF {A B : Prop} (h : B) : if (!decide (false = false)) = true then A else B := by simpa using h
theorem iteTF {A B : Prop} (h : A) : if (!decide (true = false)) = true then A else B := by simpa using h
theorem iteFT {A B : Prop} (h : A) : if (!decide (false = true)) = true then A else B := by simpa using h
/-! ### names as data -/
abbrev nm (xs : List Str) : D := .tup (xs.map D.str)
theorem wd_isWord {x : Str} (h : Wd x) : (D.str x).isWord = true := by
  show (decide (1 ≤ x.length) && (decide (x.length ≤ 8) && lwB x)) = true
  rw [decide_eq_true h.1, decide_eq_true h.2.1, lwB_iff.mpr h.2.2]
  rfl
theorem nm_isName : ∀ {xs : List Str}, (∀ x ∈ xs, Wd x) → (nm xs).isName = true := fun {xs} h => by
  show (xs.map D.str).all D.isWord = true
  rw [List.all_eq_true]
  intro d m
  obtain ⟨x, mx, rfl⟩ := List.mem_map.mp m
  exact wd_isWord (h x mx)
theorem nm_notHolder (xs : List Str) : (nm xs).isHolder = false := by
  match xs with
  | [] => rfl
  | [_] => rfl
  | [_, _] => rfl
  | _ :: _ :: _ :: _ => rfl
theorem szA_strs : ∀ {xs : List Str}, (∀ x ∈ xs, Wd x) → D.szA (xs.map D.str) = true
  | [], _ => rfl
  | x :: r, h => by
    show (decide (x.length ≤ 16777000) && D.szA (r.map D.str)) = true
    rw [szA_strs (fun y m => h y (List.mem_cons_of_mem _ m)), decide_eq_true (by have := (h x (List.mem_cons_self ..)).2.1; omega)]
    rfl
theorem nm_sz {xs : List Str} (h : ∀ x ∈ xs, Wd x) (hl : xs.length ≤ 100000) : (nm xs).sz = true := by
  show (decide ((xs.map D.str).length ≤ 16777000) && D.szA (xs.map D.str)) = true
  rw [szA_strs h, decide_eq_true (by rw [List.length_map]; omega)]
  rfl
/-! ### a law's frame: the bag first, then data -/
abbrev spBag (K : PySem.W.Frag) : Sp := fun vs H Q _ => ∃ (a : Addr) (ns : List Int), vs = [.ref a] ∧ SqL K H a (ns.map V.int) ∧ ns.length ≤ 63 ∧ ∀ H' b c ns', BagC H' b c ns' → b ≠ c → Q (.ref b) H'
abbrev spLaw (K : PySem.W.Frag) : Sp := fun vs H Q _ => ∃ (a : Addr) (ns : List Int), vs = [.ref a] ∧ SqL K H a (ns.map V.int) ∧ ns.length ≤ 63 ∧ ∀ H', Q (.bl true) H'
theorem law_start {K : PySem.W.Frag} {H : Hp} {a : Addr} {ns : List Int} {O : Prop} (hl : ns.length ≤ 63) (_ : O) (hS : SqL K H a (ns.map V.int)) : spLaw K [.ref a] H (fun v _ => v = .bl true) fun _ _ _ => False := ⟨a, ns, rfl, hS, hl, fun _ => rfl⟩
theorem law_body {K : PySem.W.Frag} {N : List Str} {u : TS} {vs : List V} {H : Hp} {Q : VK} {E E1 : XK} (h : spLaw K vs H Q E) (hN : 2 ≤ N.length)
    (hb : ∀ b, ∃ ρ, En.no :: En.bag b :: List.replicate (N.length - 2) En.no = ρ ∧ ST K u ρ ⟨fun _ => False, fun d => d = .bl true, fun _ => False, fun _ => False⟩) :
    tSeq (tAsg (tCall (spBag K) [] E1 (tCons (tVar 0) tNil)) (gName 1)) u ⟨fun _ H' => Q .non H', Q, fun _ _ => False, fun _ _ => False⟩ (start N vs) H := by
  obtain ⟨a, ns, rfl, hS, hl, q⟩ := h
  refine ⟨_, rfl, a, ns, rfl, hS, hl, fun H' b c ns' hB hbc => ?_⟩
  obtain ⟨ρ, rfl, hs⟩ := hb b
  refine hs [b] [b] H' _ ⟨⟨fun _ m => m, fun x m => ?_⟩, ?_, fun i e hi => ?_⟩ _ (fun _ _ _ _ _ z => z.elim) (fun v d H2 g s p => ?_) (fun _ _ _ _ _ z => z.elim) fun _ _ _ _ _ z => z.elim
  · rw [List.mem_singleton.mp m]
    obtain ⟨⟨z, s, i, hz, _⟩, _, _⟩ := hB
    rw [hz]
    exact fun z => (nomatch z)
  · unfold L2.start
    simp
    omega
  · match i with
    | 0 =>
      cases hi
      trivial
    | 1 =>
      cases hi
      refine ⟨?_, List.mem_singleton_self _, c, ns', fun m => hbc (List.mem_singleton.mp m).symm, hB⟩
      unfold L2.start
      match N, hN with
      | _ :: _ :: _, _ => rfl
    | i + 2 =>
      have : e = .no := by
        have z : (List.replicate (N.length - 2) En.no)[i]? = some e := hi
        rw [List.getElem?_replicate] at z
        split at z
        · exact (Option.some.inj z).symm
        · cases z
      rw [this]
      trivial
  · rw [p] at s
    cases s
    exact q H2
end VB

open PySem PySem.Spec PyProof.Rows L2 VB
local macro_rules | `(tactic| walk_at "d") => `(tactic| first
  | with_reducible refine EV.op ?_
  | ((with_reducible refine' EV.var ?h ?_); (case h => rfl))
  | ((with_reducible refine' EV.bag ?h ?_); (case h => rfl))
  | with_reducible refine EV.int ?_
  | with_reducible refine EV.str ?_
  | with_reducible refine EV.bl ?_
  | with_reducible refine EV.non ?_
  | with_reducible refine EV.ty ?_
  | with_reducible refine EV.cb ?_
  | with_reducible refine EA.cons ?_
  | with_reducible refine EA.nil ?_
  | ((with_reducible refine' EV.take ?h ?_); (case h => rfl))
  | with_reducible refine EV.call ?_
  | with_reducible refine EV.neg ?_
  | with_reducible refine EV.tup ?_
  | with_reducible refine EV.lst ?_
  | with_reducible refine EV.sl ?_
  | with_reducible refine EO.none ?_
  | with_reducible refine EO.some ?_
  | with_reducible refine EV.andV ?_
  | with_reducible refine EV.orV ?_
  | with_reducible refine EV.notV ?_
  | with_reducible refine EV.orT ?_
  | with_reducible refine EV.ifx ?_
  | with_reducible refine EV.chain ?_
  | with_reducible refine EV.join ?_
  | with_reducible refine EV.split ?_
  | with_reducible refine ET.test ?_
  | with_reducible refine ET.b ?_
  | with_reducible refine ET.and ?_
  | with_reducible refine ET.or ?_
  | with_reducible refine ET.not ?_
  | with_reducible refine ET.yes ?_
  | with_reducible refine ST.seq ?_
  | (with_reducible refine ST.asg ?_)
  | with_reducible refine ST.ret ?_
  | with_reducible refine ST.drop ?_
  | with_reducible refine ST.ifs ?_
  | with_reducible refine ST.par ?_
  | with_reducible refine ST.tup2 ?_
  | with_reducible refine ST.next ?_
  | with_reducible refine ST.brk ?_
  | with_reducible refine ST.cont ?_
  | with_reducible refine ST.retN ?_
  | with_reducible refine RD.i0 ?_
  | with_reducible refine RD.i0b ?_
  | with_reducible refine RD.eqI ?_
  | with_reducible refine RD.neI ?_
  | with_reducible refine RD.eqS ?_
  | with_reducible refine RD.neS ?_
  | with_reducible refine RD.isB ?_
  | with_reducible refine RD.notB ?_
  | with_reducible refine RD.isNon ?_
  | with_reducible refine RD.notNon ?_
  | with_reducible refine RD.inS ?_
  | with_reducible refine RD.ninS ?_
  | with_reducible refine RD.iC (wide_div (b := 200) (by decide) (by decide) (by decide) (by decide)) ?_
  | with_reducible refine RD.iC (VB.pos_ (by decide)) ?_
  | with_reducible refine RD.iC (VB.cmul_ (by decide) (by decide)) ?_
  | with_reducible refine SD.slL ?_
  | with_reducible refine SD.slA ?_
  | with_reducible refine RC.lenL ?_
  | with_reducible refine RC.lenT ?_
  | with_reducible refine RC.abs ?_
  | with_reducible refine RC.intI ?_
  | with_reducible refine RC.intB ?_
  | with_reducible refine RC.tupL ?_
  | with_reducible refine RC.listL ?_
  | with_reducible refine RC.listT ?_
  | with_reducible refine RD.addS (by decide +kernel) ?_
  | with_reducible refine iteT ?_
  | with_reducible refine iteF ?_
  | with_reducible refine VB.iteNT ?_
  | with_reducible refine VB.iteNF ?_
  | with_reducible refine VB.iteTT ?_
  | with_reducible refine VB.iteFF ?_
  | with_reducible refine VB.iteTF ?_
  | with_reducible refine VB.iteFT ?_
  | refine ⟨Nat.le_of_ble_eq_true rfl, ?_⟩
  | (intro ρ1 e1; simp only [List.set_cons_succ, List.set_cons_zero] at e1; subst e1)
  | refine ⟨_, rfl, ?_⟩
  | refine ⟨_, _, rfl, ?_⟩)
namespace K12
open PySem PySem.Spec PyProof.Rows L2 VB
def top (i : Nat) : Stmt := PySem.Challenge.pw_vouchchains_k12_begins_and_names.main.body.getD i (.Pass ⟨0, 0, 0, 0⟩)
abbrev s_is_word : Stmt := top 3
abbrev s_is_name : Stmt := top 4
abbrev s_is_holder : Stmt := top 5
abbrev s_begins : Stmt := top 6
abbrev s_law_bag : Stmt := top 8
abbrev s_law_take : Stmt := top 9
abbrev s_law_labels : Stmt := top 10
abbrev s_law_name : Stmt := top 11
abbrev s_law_near : Stmt := top 12
abbrev s_law_has_first : Stmt := top 13
abbrev s_law : Stmt := top 14
theorem sc_is_word : FnScope ["thing", "letter"] ["thing"] (defScope s_is_word) := ⟨rfl, rfl, rfl, by decide +kernel, rfl, by decide +kernel, by decide +kernel⟩
theorem sc_is_name : FnScope ["thing", "label"] ["thing"] (defScope s_is_name) := ⟨rfl, rfl, rfl, by decide +kernel, rfl, by decide +kernel, by decide +kernel⟩
theorem sc_is_holder : FnScope ["thing"] ["thing"] (defScope s_is_holder) := ⟨rfl, rfl, rfl, by decide +kernel, rfl, by decide +kernel, by decide +kernel⟩
theorem sc_begins : FnScope ["name", "other"] ["name", "other"] (defScope s_begins) := ⟨rfl, rfl, rfl, by decide +kernel, rfl, by decide +kernel, by decide +kernel⟩
theorem sc_law_bag : FnScope ["_law_script", "_law_cell"] ["_law_script"] (defScope s_law_bag) := ⟨rfl, rfl, rfl, by decide +kernel, rfl, by decide +kernel, by decide +kernel⟩
theorem sc_law_take : FnScope ["_law_bag_here", "_law_many", "_law_cell", "_law_more", "_law_drawn", "_law_begin", "_law_second"] ["_law_bag_here", "_law_many"] (defScope s_law_take) := ⟨rfl, rfl, rfl, by decide +kernel, rfl, by decide +kernel, by decide +kernel⟩
theorem sc_law_labels : FnScope ["_law_bag_here", "_law_many", "_law_letters", "_law_words", "_law_way", "_law_turn", "_law_base", "_law_at", "_law_far", "_law_some", "_law_k"] ["_law_bag_here", "_law_many"] (defScope s_law_labels) := ⟨rfl, rfl, rfl, by decide +kernel, rfl, by decide +kernel, by decide +kernel⟩
theorem sc_law_name : FnScope ["_law_bag_here", "_law_labels_here", "_law_most", "_law_k"] ["_law_bag_here", "_law_labels_here", "_law_most"] (defScope s_law_name) := ⟨rfl, rfl, rfl, by decide +kernel, rfl, by decide +kernel, by decide +kernel⟩
theorem sc_law_near : FnScope ["_law_bag_here", "_law_labels_here", "_law_name_here", "_law_way", "_law_spot", "_law_bent"] ["_law_bag_here", "_law_labels_here", "_law_name_here"] (defScope s_law_near) := ⟨rfl, rfl, rfl, by decide +kernel, rfl, by decide +kernel, by decide +kernel⟩
theorem sc_law_has_first : FnScope ["_law_name_here", "_law_other", "_law_k"] ["_law_name_here", "_law_other"] (defScope s_law_has_first) := ⟨rfl, rfl, rfl, by decide +kernel, rfl, by decide +kernel, by decide +kernel⟩
theorem sc_law : FnScope ["_law_script", "_law_bag_here", "_law_labels_here", "_law_name_here", "_law_k", "_law_other", "_law_due", "_law_again", "_law_found", "_law_holder"] ["_law_script"] (defScope s_law) := ⟨rfl, rfl, rfl, by decide +kernel, rfl, by decide +kernel, by decide +kernel⟩
structure Ad where
  f_is_word : Addr
  d_is_word : FuncData
  f_is_name : Addr
  d_is_name : FuncData
  f_is_holder : Addr
  d_is_holder : FuncData
  f_begins : Addr
  d_begins : FuncData
  f_law_bag : Addr
  d_law_bag : FuncData
  f_law_take : Addr
  d_law_take : FuncData
  f_law_labels : Addr
  d_law_labels : FuncData
  f_law_name : Addr
  d_law_name : FuncData
  f_law_near : Addr
  d_law_near : FuncData
  f_law_has_first : Addr
  d_law_has_first : FuncData
  f_law : Addr
  d_law : FuncData
  t_LETTERS : Tok
  t_MOST_LETTERS : Tok
structure Tx (K : PySem.W.Frag) (mg : Str → Option Value) (a : Ad) : Prop where
  F_is_word : FunD K "is_word" "is_word" (defArgs s_is_word) (defBody s_is_word) (defScope s_is_word) [] [] a.f_is_word a.d_is_word
  m_is_word : mg "is_word" = some (.ref a.f_is_word)
  k_is_word : PySem.W.keepIn K (.ref a.f_is_word) = true
  b_is_word : Binds K a.d_is_word ["thing"] []
  F_is_name : FunD K "is_name" "is_name" (defArgs s_is_name) (defBody s_is_name) (defScope s_is_name) [] [] a.f_is_name a.d_is_name
  m_is_name : mg "is_name" = some (.ref a.f_is_name)
  k_is_name : PySem.W.keepIn K (.ref a.f_is_name) = true
  b_is_name : Binds K a.d_is_name ["thing"] []
  F_is_holder : FunD K "is_holder" "is_holder" (defArgs s_is_holder) (defBody s_is_holder) (defScope s_is_holder) [] [] a.f_is_holder a.d_is_holder
  m_is_holder : mg "is_holder" = some (.ref a.f_is_holder)
  k_is_holder : PySem.W.keepIn K (.ref a.f_is_holder) = true
  b_is_holder : Binds K a.d_is_holder ["thing"] []
  F_begins : FunD K "begins" "begins" (defArgs s_begins) (defBody s_begins) (defScope s_begins) [] [] a.f_begins a.d_begins
  m_begins : mg "begins" = some (.ref a.f_begins)
  k_begins : PySem.W.keepIn K (.ref a.f_begins) = true
  b_begins : Binds K a.d_begins ["name", "other"] []
  F_law_bag : FunD K "_law_bag" "_law_bag" (defArgs s_law_bag) (defBody s_law_bag) (defScope s_law_bag) [] [] a.f_law_bag a.d_law_bag
  m_law_bag : mg "_law_bag" = some (.ref a.f_law_bag)
  k_law_bag : PySem.W.keepIn K (.ref a.f_law_bag) = true
  b_law_bag : Binds K a.d_law_bag ["_law_script"] []
  F_law_take : FunD K "_law_take" "_law_take" (defArgs s_law_take) (defBody s_law_take) (defScope s_law_take) [] [] a.f_law_take a.d_law_take
  m_law_take : mg "_law_take" = some (.ref a.f_law_take)
  k_law_take : PySem.W.keepIn K (.ref a.f_law_take) = true
  b_law_take : Binds K a.d_law_take ["_law_bag_here", "_law_many"] []
  F_law_labels : FunD K "_law_labels" "_law_labels" (defArgs s_law_labels) (defBody s_law_labels) (defScope s_law_labels) [] [] a.f_law_labels a.d_law_labels
  m_law_labels : mg "_law_labels" = some (.ref a.f_law_labels)
  k_law_labels : PySem.W.keepIn K (.ref a.f_law_labels) = true
  b_law_labels : Binds K a.d_law_labels ["_law_bag_here", "_law_many"] []
  F_law_name : FunD K "_law_name" "_law_name" (defArgs s_law_name) (defBody s_law_name) (defScope s_law_name) [] [] a.f_law_name a.d_law_name
  m_law_name : mg "_law_name" = some (.ref a.f_law_name)
  k_law_name : PySem.W.keepIn K (.ref a.f_law_name) = true
  b_law_name : Binds K a.d_law_name ["_law_bag_here", "_law_labels_here", "_law_most"] []
  F_law_near : FunD K "_law_near" "_law_near" (defArgs s_law_near) (defBody s_law_near) (defScope s_law_near) [] [] a.f_law_near a.d_law_near
  m_law_near : mg "_law_near" = some (.ref a.f_law_near)
  k_law_near : PySem.W.keepIn K (.ref a.f_law_near) = true
  b_law_near : Binds K a.d_law_near ["_law_bag_here", "_law_labels_here", "_law_name_here"] []
  F_law_has_first : FunD K "_law_has_first" "_law_has_first" (defArgs s_law_has_first) (defBody s_law_has_first) (defScope s_law_has_first) [] [] a.f_law_has_first a.d_law_has_first
  m_law_has_first : mg "_law_has_first" = some (.ref a.f_law_has_first)
  k_law_has_first : PySem.W.keepIn K (.ref a.f_law_has_first) = true
  b_law_has_first : Binds K a.d_law_has_first ["_law_name_here", "_law_other"] []
  F_law : FunD K "law" "law" (defArgs s_law) (defBody s_law) (defScope s_law) [] [] a.f_law a.d_law
  m_law : mg "law" = some (.ref a.f_law)
  k_law : PySem.W.keepIn K (.ref a.f_law) = true
  b_law : Binds K a.d_law ["_law_script"] []
  g_LETTERS : mg "LETTERS" = some (.str "abcdefghijklmnopqrstuvwxyz" a.t_LETTERS)
  g_MOST_LETTERS : mg "MOST_LETTERS" = some (.int 8 a.t_MOST_LETTERS)
  n_abs : mg "abs" = none
  n_all : mg "all" = none
  n_int : mg "int" = none
  n_isinstance : mg "isinstance" = none
  n_len : mg "len" = none
  n_range : mg "range" = none
  n_repr : mg "repr" = none
  n_str : mg "str" = none
  n_tuple : mg "tuple" = none
variable {P : Program} {w : World} {K : PySem.W.Frag} {mg : Str → Option Value} {base : Heap} {a : Ad}
/-! ### the draw -/
theorem bag_rd {K : PySem.W.Frag} {σ : L2.St} {H : Hp} {Q : VK} {b c : Addr} {z s i k : Int} {v : V} (h0 : σ[0]? = some (some (.ref b))) (hb : H b = some (bagO z s i c)) (e : atI [V.int z, .int s, .int i, .ref c] k = some v) (q : Q v H) : tOp (rIxL K) (tVar 0) (tC (.int k)) σ H Q :=
  ⟨_, h0, b, _, k, v, rfl, rfl, SqL.of hb, e, q⟩
theorem ok_law_take (T : Tx K mg a) : FnOk P w K mg base CX0 1 a.f_law_take a.d_law_take ["_law_bag_here", "_law_many"] (spTake K) := by
  refine T.F_law_take.ok (k := 0) sc_law_take (fun vs H Q E h => ?_) (fun cdv A outer s H vs Q E hr h => ?_)
  · exact spA_len h fun _ => rfl
  · obtain ⟨B, W, ⟨b, n⟩, en, ⟨n0, n1⟩, q⟩ := h
    have n0 : 0 < n := n0
    have n1 : n < 2 ^ 200 := n1
    have hv : vs = [.ref b, .int n] := by
      have hl := en.len
      match vs, en, hl with
      | [x, y], en, _ =>
        obtain ⟨e0, _⟩ := en.sl 0 _ rfl
        obtain ⟨v1, e1, s1⟩ := en.sl 1 _ rfl
        cases s1
        cases e0
        cases e1
        rfl
    subst hv
    obtain ⟨_, bW, c, ns, cB, hC⟩ := en.sl 0 _ rfl
    have cW : c ∉ W := fun m => cB (en.bw.sub _ m)
    refine ⟨_, PSs.nox (Evl.pss_cut (ps_if (pt_cmpR op_eq (pe_ix (VB.kIxL (K := K) rfl) (pv 0) pe_int (fun _ _ => rfl)) pe_int (nomark _)) (pss_cons (ps_set (i := 2) sc_law_take.nd rfl (Or.inl rfl) pe_int)
    (Evl.pss_cut (ps_if (pt_cmpR op_lt (pe_ix (VB.kIxL (K := K) rfl) (pv 0) pe_int (fun _ _ => rfl)) (pe_callB (VB.kLen (K := K) rfl) (by rfl) T.n_len (by decide +kernel) (pa_cons (pe_ix (VB.kIxL (K := K) rfl) (pv 0) pe_int (fun _ _ => rfl)) pa_nil)) (nomark _)) (pss_one (ps_set (i := 2) sc_law_take.nd rfl (Or.inl rfl) (pe_ix (VB.kIxL (K := K) rfl) (pe_ix (VB.kIxL (K := K) rfl) (pv 0) pe_int (fun _ _ => rfl)) (pe_ix (VB.kIxL (K := K) rfl) (pv 0) pe_int (fun _ _ => rfl)) (fun _ _ => rfl)))) pss_nil)
    (pss_cons (ps_augS (pv 0) pe_int VB.get_list pe_int ip_add set_list)
    (Evl.pss_cut (ps_if (pt_cmpR op_ge (pv 2) pe_int (nomark _)) (pss_one (ps_asg (pv 2) (pg_sub (pv 0) pe_int set_list))) pss_nil)
    (pss_cons (ps_set (i := 3) sc_law_take.nd rfl (Or.inl rfl) (pe_op op_add (pe_op op_mod (pe_callTy call_int1 (by rfl) T.n_int (by decide +kernel) (pa_cons (pv 2) pa_nil)) pe_int) (pe_op op_mul pe_int (pe_ix (VB.kIxL (K := K) rfl) (pv 0) pe_int (fun _ _ => rfl)))))
    (pss_one (ps_asg (pe_op op_mod (pe_callTy call_int1 (by rfl) T.n_int (by decide +kernel) (pa_cons (pe_op op_add (pe_op op_mul (pe_ix (VB.kIxL (K := K) rfl) (pv 0) pe_int (fun _ _ => rfl)) pe_int) (pv 3)) pa_nil)) pe_int) (pg_sub (pv 0) pe_int set_list)))))))) pss_nil)
    (pss_cons (ps_if (pt_cmpR op_gt (pe_ix (VB.kIxL (K := K) rfl) (pv 0) pe_int (fun _ _ => rfl)) pe_int (nomark _)) (pss_cons (ps_set (i := 4) sc_law_take.nd rfl (Or.inl rfl) (pe_op op_mod (pe_callTy call_int1 (by rfl) T.n_int (by decide +kernel) (pa_cons (pe_ix (VB.kIxL (K := K) rfl) (pv 0) pe_int (fun _ _ => rfl)) pa_nil)) (pv 1)))
    (pss_cons (ps_asg (pe_op op_fdivW (pe_ix (VB.kIxL (K := K) rfl) (pv 0) pe_int (fun _ _ => rfl)) (pv 1)) (pg_sub (pv 0) pe_int set_list))
    (pss_one (ps_ret (pv 4))))) pss_nil)
    (pss_cons (ps_set (i := 5) sc_law_take.nd rfl (Or.inl rfl) (pe_op op_mod (pe_callTy call_int1 (by rfl) T.n_int (by decide +kernel) (pa_cons (pe_op op_mul (pe_op op_add (pe_ix (VB.kIxL (K := K) rfl) (pv 0) pe_int (fun _ _ => rfl)) pe_int) pe_int) pa_nil)) pe_int))
    (pss_cons (ps_set (i := 6) sc_law_take.nd rfl (Or.inl rfl) (pe_op op_mod (pe_callTy call_int1 (by rfl) T.n_int (by decide +kernel) (pa_cons (pe_op op_mul (pe_op op_mod (pe_callTy call_int1 (by rfl) T.n_int (by decide +kernel) (pa_cons (pe_op op_mul (pv 5) (pv 5)) pa_nil)) pe_int) pe_int) pa_nil)) pe_int))
    (pss_cons (ps_if (pt_cmpR op_gt (pv 1) pe_int (nomark _)) (pss_one (ps_ret (pe_op op_mod (pe_callTy call_int1 (by rfl) T.n_int (by decide +kernel) (pa_cons (pe_op op_add (pe_op op_mul (pv 6) pe_int) (pv 5)) pa_nil)) (pv 1)))) pss_nil)
    (pss_one (ps_ret (pe_op op_mod (pe_callTy call_int1 (by rfl) T.n_int (by decide +kernel) (pa_cons (pe_op op_fdivW (pv 6) pe_int) pa_nil)) (pv 1))))))))), ?_⟩
    have fin : ∀ H' r, Gs W H H' → 0 ≤ r → r < n → Q (.int r) H' := fun H' r g h0 h1 => q _ _ H' g (.int r) ⟨r, rfl, h0, h1⟩
    have n9 : CDivW 0 n := wide_div (b := 200) n0 (by omega) (by decide) (by decide)
    -- the first if, whose two ways meet
    refine ⟨fun σ' H' => ∃ c2 c3, σ' = [some (.ref b), some (.int n), c2, c3, none, none, none] ∧ Gs W H H', ?_, ?_⟩
    · obtain ⟨⟨z, s1, i, hb, v1, v2, v3, v4⟩, hc, hn⟩ := hC
      refine bag_rd (v := .int z) rfl hb rfl ⟨rfl, _, rfl, ite2 (fun _ => ?_) (fun _ => ⟨none, none, rfl, Gs.refl⟩)⟩
      refine ⟨fun σ' H' => ∃ k : Int, σ' = [some (.ref b), some (.int n), some (.int k), none, none, none, none] ∧ 0 ≤ k ∧ H' = H, ?_, ?_⟩
      · refine bag_rd (v := .int i) rfl hb rfl (bag_rd (v := .ref c) rfl hb rfl ⟨_, _, rfl, Or.inl ⟨_, SqL.of hc, rfl⟩, _, _, rfl, rfl, _, rfl, ite2 (fun lt => ?_) (fun _ => ⟨0, rfl, Int.le_refl _, rfl⟩)⟩)
        have lt2 : i.toNat < ns.length := by
          have := of_decide_eq_true lt
          rw [List.length_map] at this
          omega
        refine bag_rd (v := .ref c) rfl hb rfl (bag_rd (v := .int i) rfl hb rfl ⟨c, _, i, .int (ns[i.toNat]), rfl, rfl, SqL.of hc, ?_, ?_⟩)
        · have e : i = ((i.toNat : Nat) : Int) := by omega
          have z : (ns.map V.int)[i.toNat]? = some (.int ns[i.toNat]) := by
            rw [List.getElem?_map, List.getElem?_eq_getElem lt2]
            rfl
          have z2 := atI_nat z
          rw [← e] at z2
          exact z2
        · exact ⟨_, rfl, hn _ (List.getElem_mem lt2), rfl⟩
      · rintro σ1 H1 ⟨k, rfl, k0, rfl⟩
        -- the place goes on
        refine ⟨_, rfl, b, _, 2, .int i, rfl, rfl, by decide, by decide, hb, rfl, _, _, rfl, rfl, b, _, 2, 2, rfl, rfl, hb, rfl, ?_⟩
        have g1 : Gs W H1 (upd H1 b (bagO z s1 (i + 1) c)) := Gs.bagW bW hb ⟨v1, v2, v3, by omega⟩
        have hb1 : (upd H1 b (bagO z s1 (i + 1) c)) b = some (bagO z s1 (i + 1) c) := upd_same
        show Evl.tCut _ _ _ _ (upd H1 b (bagO z s1 (i + 1) c))
        generalize upd H1 b (bagO z s1 (i + 1) c) = H2 at g1 hb1 ⊢
        refine ⟨fun σ' H' => ∃ z2 : Int, σ' = [some (.ref b), some (.int n), some (.int k), none, none, none, none] ∧ 0 ≤ z2 ∧ Gs W H1 H' ∧ H' b = some (bagO z2 s1 (i + 1) c), ?_, ?_⟩
        · refine ⟨_, rfl, _, _, rfl, rfl, _, rfl, ite2 (fun _ => ?_) (fun _ => ⟨z, rfl, v1, g1, hb1⟩)⟩
          refine ⟨_, rfl, _, rfl, b, _, 0, 0, rfl, rfl, hb1, rfl, k, rfl, k0, ?_, upd_same⟩
          exact g1.trans (Gs.bagW bW hb1 ⟨k0, v2, v3, by omega⟩)
        · rintro σ3 H3 ⟨z2, rfl, z0, g3, hb3⟩
          -- more
          refine ⟨_, rfl, Or.inl ⟨_, rfl, _, _, rfl, rfl, pos_ (by decide), bag_rd (v := .int (i + 1)) rfl hb3 rfl ⟨_, _, rfl, rfl, (by constructor <;> decide), _, _, rfl, rfl, ?_⟩⟩⟩
          refine bag_rd (v := .int s1) rfl hb3 rfl ⟨_, _, rfl, rfl, (by constructor <;> omega), _, rfl, _, _, rfl, rfl, Or.inl ⟨_, rfl, _, _, rfl, rfl, pos_ (by decide), _, rfl, b, _, 1, 1, rfl, rfl, hb3, rfl, _, _, rfl, ?_⟩⟩
          refine g3.trans (Gs.bagW bW hb3 ⟨z0, Int.emod_nonneg _ (by decide), Int.emod_lt_of_pos _ (by decide), by omega⟩)
    · rintro σ1 H1 ⟨c2, c3, rfl, g⟩
      obtain ⟨⟨z, s1, i, hb, v1, v2, v3, v4⟩, hc, hn⟩ := g.bag b bW c ns cW hC
      refine bag_rd (v := .int z) rfl hb rfl ⟨_, _, rfl, rfl, _, rfl, ite2 (fun zp => ?_) (fun _ => ?_)⟩
      · -- the cell is drawn from
        refine bag_rd (v := .int z) rfl hb rfl (Or.inl ⟨_, rfl, _, rfl, _, _, rfl, rfl, n0, ?_⟩)
        refine bag_rd (v := .int z) rfl hb rfl ⟨_, rfl, _, _, rfl, rfl, n9, _, rfl, b, _, 0, 0, rfl, rfl, hb, rfl, _, rfl, ?_⟩
        refine fin _ _ (g.trans (Gs.bagW (z' := z / n) bW hb ⟨Int.ediv_nonneg v1 (Int.le_of_lt n0), v2, v3, v4⟩)) (Int.emod_nonneg _ (by omega)) (Int.emod_lt_of_pos _ n0)
      · -- a number of its own
        refine bag_rd (v := .int s1) rfl hb rfl ⟨_, _, rfl, rfl, _, _, rfl, rfl, (by constructor <;> omega), Or.inl ⟨_, rfl, _, _, rfl, rfl, pos_ (by decide), ?_⟩⟩
        have p1 : 0 ≤ ((s1 + 1) * 39373) % 1000000007 := Int.emod_nonneg _ (by decide)
        have p2 : ((s1 + 1) * 39373) % 1000000007 < 1000000007 := Int.emod_lt_of_pos _ (by decide)
        generalize ((s1 + 1) * 39373) % 1000000007 = m at p1 p2 ⊢
        refine ⟨_, rfl, _, rfl, _, _, rfl, rfl, (by constructor <;> omega), Or.inl ⟨_, rfl, _, _, rfl, rfl, pos_ (by decide), _, _, rfl, rfl, ?_, Or.inl ⟨_, rfl, _, _, rfl, rfl, pos_ (by decide), ?_⟩⟩⟩
        · have q1 : 0 ≤ m * m % 998244353 := Int.emod_nonneg _ (by decide)
          have q2 : m * m % 998244353 < 998244353 := Int.emod_lt_of_pos _ (by decide)
          constructor <;> omega
        have p3 : 0 ≤ (m * m % 998244353 * 30011) % 998244353 := Int.emod_nonneg _ (by decide)
        have p4 : (m * m % 998244353 * 30011) % 998244353 < 998244353 := Int.emod_lt_of_pos _ (by decide)
        generalize (m * m % 998244353 * 30011) % 998244353 = m2 at p3 p4 ⊢
        refine ⟨_, rfl, _, _, rfl, rfl, _, rfl, ite2 (fun _ => ?_) (fun _ => ?_)⟩
        · exact ⟨_, rfl, _, _, rfl, rfl, (by constructor <;> omega), _, rfl, _, _, rfl, rfl, Or.inl ⟨_, rfl, _, rfl, _, _, rfl, rfl, n0, fin _ _ g (Int.emod_nonneg _ (by omega)) (Int.emod_lt_of_pos _ n0)⟩⟩
        · exact ⟨_, rfl, _, _, rfl, rfl, wide_div (b := 200) (by decide) (by decide) (by decide) (by decide), Or.inl ⟨_, rfl, _, rfl, _, _, rfl, rfl, n0, fin _ _ g (Int.emod_nonneg _ (by omega)) (Int.emod_lt_of_pos _ n0)⟩⟩

/-! ### the bag of draws -/
theorem ok_law_bag (T : Tx K mg a) : FnOk P w K mg base CX0 1 a.f_law_bag a.d_law_bag ["_law_script"] (spBag K) := by
  refine T.F_law_bag.ok (k := 0) sc_law_bag (fun vs H Q E h => ?_) (fun cdv A outer s H vs Q E hr h => ?_)
  · obtain ⟨x, ns, rfl, _⟩ := h
    rfl
  · obtain ⟨x, ns, rfl, hS, hl, q⟩ := h
    refine ⟨_, PSs.nox (pss_one (ps_ret (pe_lst (pa_cons pe_int (pa_cons pe_int (pa_cons pe_int (pa_cons (pe_lc (own := [("_law_cell", 1)]) (g := gName 1) (tt := tYes) rfl sc_law_bag.nd (VB.kPiL (K := K) rfl (pe_slice (VB.kSlL (K := K) rfl) (pv 0) po_none (po_some pe_int))) (blkOk_by (N := ["_law_script", "_law_cell"]) (sc := defScope s_law_bag) (by decide +kernel)) (fun _ _ _ _ _ => pg_name (i := 1) sc_law_bag.nd rfl (Or.inl rfl)) (fun _ _ _ _ _ => pts_nil) (fun _ _ _ _ _ => (pe_callB call_abs (by rfl) T.n_abs (by decide +kernel) (pa_cons (pv 1) pa_nil)))) pa_nil))))))), ?_⟩
    refine ⟨_, rfl, 63, rfl, x, _, rfl, hS, fun p np => ?_⟩
    have ecut : cutV (ns.map V.int) none (some 63) = (cutG ns none (some 63)).map V.int := cutG_map V.int ns none (some 63)
    have hp : (upd H p (.lst (cutV (ns.map V.int) none (some 63)))) p = some (.lst ((cutG ns none (some 63)).map V.int)) := by rw [upd_same, ecut]
    generalize upd H p (.lst (cutV (ns.map V.int) none (some 63))) = H1 at hp ⊢
    have ml : (cutG ns none (some 63)).length ≤ 63 := Nat.le_trans (cutG_len ns none (some 63)) hl
    generalize cutG ns none (some 63) = ms at hp ml
    refine ⟨p, rfl, ⟨_, SqL.of hp⟩, fun D nD => ?_⟩
    have pD : p ≠ D := ne_of_none hp nD
    refine lc_list (K := K) (a := p) (xs := ms.map V.int) (fun i H2 => ∃ ks : List Int, H2 D = some (.lst (ks.map V.int)) ∧ ks.length = i ∧ (∀ k ∈ ks, 0 ≤ k) ∧ H2 p = some (.lst (ms.map V.int)))
      ⟨[], upd_same, rfl, (fun _ m => nomatch m), by rw [upd_ne pD]; exact hp⟩ (fun i H2 _ ⟨_, _, _, _, h4⟩ => SqL.of h4) ?_ ?_
    · rintro i y H2 hy ⟨ks, h1, h2, h3, h4⟩
      obtain ⟨m, rfl⟩ : ∃ m, y = V.int m := by
        rw [List.getElem?_map] at hy
        cases e : ms[i]? with
        | none =>
          rw [e] at hy
          cases hy
        | some m =>
          rw [e] at hy
          exact ⟨m, (Option.some.inj hy).symm⟩
      have hi : i < 63 := by
        have := (List.getElem?_eq_some_iff.mp hy).1
        rw [List.length_map] at this
        omega
      refine ⟨rfl, ?_⟩
      unfold tYes
      simp only [if_true]
      refine ⟨_, rfl, m, rfl, _, h1, ?_, ks ++ [if m < 0 then -m else m], ?_, ?_, ?_, ?_⟩
      · rw [List.length_map]
        have : sizeLine = 16777216 := by decide
        omega
      · rw [upd_same, List.map_append]
        rfl
      · rw [List.length_append, h2]
        rfl
      · intro k mk
        rcases List.mem_append.mp mk with z | z
        · exact h3 k z
        · rw [List.mem_singleton.mp z]
          split <;> omega
      · rw [upd_ne pD]
        exact h4
    · rintro H2 ⟨ks, h1, h2, h3, h4⟩
      refine ⟨by show 4 ≤ sizeLine; decide, fun b nb => ?_⟩
      have bD : D ≠ b := ne_of_none h1 nb
      refine q _ b D ks ⟨⟨0, 1234567891, 0, upd_same, by decide, by decide, by decide, by decide⟩, ?_, h3⟩ bD.symm
      rw [upd_ne bD]
      exact h1


/-! ### labels -/
abbrev spLabels (K : PySem.W.Frag) : Sp := spA K (fun x : Addr × Int => [.raw x.1, .int x.2]) (fun x => 1 ≤ x.2 ∧ x.2 ≤ 24) fun x d => ∃ ws : List Str, d = .lst (ws.map D.str) ∧ (ws.length : Int) = x.2 ∧ ∀ y ∈ ws, Wd y
theorem ok_law_labels (T : Tx K mg a) : FnOk P w K mg base CX0 2 a.f_law_labels a.d_law_labels ["_law_bag_here", "_law_many"] (spLabels K) := by
  refine T.F_law_labels.ok (k := 1) sc_law_labels (fun vs H Q E h => ?_) (fun cdv A outer s H vs Q E hr h => ?_)
  · exact spA_len h fun _ => rfl
  · refine ⟨_, PSs.nox (pss_cons (ps_set (i := 2) sc_law_labels.nd rfl (Or.inr rfl) pe_str)
    (pss_cons (ps_set (i := 3) sc_law_labels.nd rfl (Or.inl rfl) pe_str)
    (pss_cons (ps_set (i := 3) sc_law_labels.nd rfl (Or.inl rfl) (VB.kSplit (pe_op op_add_str (pv 3) pe_str) pe_str))
    (pss_cons (ps_asg (pe_tup (pa_cons (pe_call (ok_law_take (K := K) T) (hr.mono (by decide)) (by rfl) T.m_law_take T.k_law_take T.b_law_take .nil pass0 (pa_cons (pv 0) (pa_cons pe_int pa_nil))) (pa_cons (pe_call (ok_law_take (K := K) T) (hr.mono (by decide)) (by rfl) T.m_law_take T.k_law_take T.b_law_take .nil pass0 (pa_cons (pv 0) (pa_cons pe_int pa_nil))) pa_nil))) (VB.kTg (K := K) (n := 2) rfl rfl (pgs_cons (pg_name (i := 4) sc_law_labels.nd rfl (Or.inl rfl)) (pgs_cons (pg_name (i := 5) sc_law_labels.nd rfl (Or.inr rfl)) pgs_nil))))
    (pss_cons (ps_set (i := 6) sc_law_labels.nd rfl (Or.inr rfl) (VB.kJoin (K := K) rfl pe_str (pe_lc (own := [("_law_k", 10)]) (g := gName 10) (tt := tYes) rfl sc_law_labels.nd (pi_range1 rfl T.n_range (pa_cons (pe_op op_add pe_int (pe_call (ok_law_take (K := K) T) (hr.mono (by decide)) (by rfl) T.m_law_take T.k_law_take T.b_law_take .nil pass0 (pa_cons (pv 0) (pa_cons pe_int pa_nil)))) pa_nil)) (blkOk_by (N := ["_law_bag_here", "_law_many", "_law_letters", "_law_words", "_law_way", "_law_turn", "_law_base", "_law_at", "_law_far", "_law_some", "_law_k"]) (sc := defScope s_law_labels) (by decide +kernel)) (fun _ _ _ _ _ => pg_name (i := 10) sc_law_labels.nd rfl (Or.inl rfl)) (fun _ _ _ _ _ => pts_nil) (fun _ _ _ _ _ => (pe_ix ix_str (pv 2) (pe_call (ok_law_take (K := K) T) (hr.mono (by decide)) (by rfl) T.m_law_take T.k_law_take T.b_law_take .nil pass0 (pa_cons (pv 0) (pa_cons pe_int pa_nil))) (fun _ _ => rfl))))))
    (pss_cons (ps_asg (pe_tup (pa_cons (pe_call (ok_law_take (K := K) T) (hr.mono (by decide)) (by rfl) T.m_law_take T.k_law_take T.b_law_take .nil pass0 (pa_cons (pv 0) (pa_cons (pe_op op_add (pe_callB (VB.kLen (K := K) rfl) (by rfl) T.n_len (by decide +kernel) (pa_cons (pv 6) pa_nil)) pe_int) pa_nil))) (pa_cons (pe_op op_fdivW (pv 4) pe_int) pa_nil))) (VB.kTg (K := K) (n := 2) rfl rfl (pgs_cons (pg_name (i := 7) sc_law_labels.nd rfl (Or.inr rfl)) (pgs_cons (pg_name (i := 8) sc_law_labels.nd rfl (Or.inr rfl)) pgs_nil))))
    (pss_cons (ps_if (pt_cmpR op_eq (pv 4) pe_int (nomark _)) (pss_one (ps_ret (pe_slice (VB.kSlL (K := K) rfl) (pe_op op_cat (pe_slice (VB.kSlL (K := K) rfl) (pv 3) (po_some (pv 5)) po_none) (pe_slice (VB.kSlL (K := K) rfl) (pv 3) po_none (po_some (pv 5)))) po_none (po_some (pv 1))))) pss_nil)
    (pss_cons (ps_set (i := 9) sc_law_labels.nd rfl (Or.inr rfl) (pe_lc (own := [("_law_k", 10)]) (g := gName 10) (tt := tYes) rfl sc_law_labels.nd (pi_range1 rfl T.n_range (pa_cons (pv 1) pa_nil)) (blkOk_by (N := ["_law_bag_here", "_law_many", "_law_letters", "_law_words", "_law_way", "_law_turn", "_law_base", "_law_at", "_law_far", "_law_some", "_law_k"]) (sc := defScope s_law_labels) (by decide +kernel)) (fun _ _ _ _ _ => pg_name (i := 10) sc_law_labels.nd rfl (Or.inl rfl)) (fun _ _ _ _ _ => pts_nil) (fun _ _ _ _ _ => (pe_op VB.op_mul_str (pe_ix ix_str (pv 2) (pe_op op_mod (pe_callTy call_int1 (by rfl) T.n_int (by decide +kernel) (pa_cons (pe_op op_add (pv 5) (pe_ix (VB.kIxL (K := K) rfl) (pe_lst (pa_cons (pe_op op_mul pe_int (pv 10)) (pa_cons (pe_op op_fdivW (pv 10) pe_int) pa_nil))) (pv 8) (fun _ _ => rfl))) pa_nil)) pe_int) (fun _ _ => rfl)) (pe_op op_add pe_int (pe_op op_mul (pe_op op_mod (pe_callTy call_int1 (by rfl) T.n_int (by decide +kernel) (pa_cons (pv 10) pa_nil)) pe_int) (pv 8)))))))
    (pss_cons (ps_set (i := 6) sc_law_labels.nd rfl (Or.inr rfl) (pe_op VB.op_mul_str (pv 6) (pe_callTy call_int1 (by rfl) T.n_int (by decide +kernel) (pa_cons (pe_cmpR op_eq (pv 4) pe_int (nomark _)) pa_nil))))
    (pss_one (ps_ret (pe_lc (own := [("_law_k", 10)]) (g := gName 10) (tt := tYes) rfl sc_law_labels.nd (pi_range1 rfl T.n_range (pa_cons (pv 1) pa_nil)) (blkOk_by (N := ["_law_bag_here", "_law_many", "_law_letters", "_law_words", "_law_way", "_law_turn", "_law_base", "_law_at", "_law_far", "_law_some", "_law_k"]) (sc := defScope s_law_labels) (by decide +kernel)) (fun _ _ _ _ _ => pg_name (i := 10) sc_law_labels.nd rfl (Or.inl rfl)) (fun _ _ _ _ _ => pts_nil) (fun _ _ _ _ _ => (pe_op op_add_str (pe_op op_add_str (pe_slice sl_str (pv 6) po_none (po_some (pv 7))) (pe_ix (VB.kIxL (K := K) rfl) (pv 9) (pv 10) (fun _ _ => rfl))) (pe_slice sl_str (pv 6) (po_some (pv 7)) po_none))))))))))))))), body_ok h fun ⟨b, n⟩ hp => ?_⟩
    have n1 : 1 ≤ n := hp.1
    have n2 : n ≤ 24 := hp.2
    refine ⟨[.bag b, .dat (.int n), .no, .no, .no, .no, .no, .no, .no, .no, .no], rfl, ?_⟩
    repeat walk_at "d"
    refine ⟨rfl, by decide +kernel, ?_⟩
    have hW := words_ok
    generalize Txt.split _ _ = words at hW ⊢
    repeat walk_at "d"
    refine ⟨by decide, by decide, fun way w0 w1 => ?_⟩
    repeat walk_at "d"
    refine ⟨by decide, by decide, fun turn t0 t1 => ?_⟩
    repeat walk_at "d"
    -- the base: some letters
    refine EV.lcR ?_
    repeat walk_at "d"
    refine ⟨by decide, by decide, fun r7 q0 q1 => ?_⟩
    repeat walk_at "d"
    refine ⟨by omega, by omega, fun i es => ∃ ys : List Str, es = ys.map D.str ∧ ys.length = i ∧ ∀ y ∈ ys, y.length = 1 ∧ Lw y, ⟨[], rfl, rfl, fun _ m => nomatch m⟩, ?_, ?_⟩
    · rintro i es hi hl ⟨ys, rfl, hy, hw⟩
      repeat walk_at "d"
      refine ⟨by decide, by decide, fun r26 p0 p1 => ?_⟩
      obtain ⟨c, e, hc⟩ := let_at p0 p1
      refine RD.ixS (by decide +kernel) e ⟨ys ++ [⟨#[c]⟩], by rw [List.map_append]; rfl, by rw [List.length_append, hy]; rfl, fun y m => ?_⟩
      rcases List.mem_append.mp m with m | m
      · exact hw y m
      · rw [List.mem_singleton.mp m]
        exact ⟨rfl, hc⟩
    rintro es ⟨ys, rfl, hy, hw⟩ hl0
    have s1 := sum_ones ys fun x m => (hw x m).1
    have bl : (Txt.join "" ys).length = ys.length := by rw [join_len, s1]
    have bw : Lw (Txt.join "" ys) := join_lw ys fun x m => (hw x m).2
    refine ⟨ys, rfl, ?_, ?_⟩
    · rw [s1, show (("" : Str)).length = 0 from rfl]
      omega
    generalize Txt.join "" ys = base at bl bw ⊢
    have b1 : 1 ≤ base.length := by omega
    have b7 : base.length ≤ 7 := by omega
    clear bl s1 hw hy hl0 ys q0 q1 r7
    repeat walk_at "d"
    refine RC.lenS (by rw [sizeLine_eq]; omega) ?_
    repeat walk_at "d"
    refine ⟨by omega, by omega, fun at_ a0 a1 => ?_⟩
    repeat walk_at "d"
    refine ite2 (fun e => ?_) (fun e => ?_)
    · -- words of the package
      repeat walk_at "d"
      refine RD.cat (by
        have h1 := cutG_len (words.map D.str) (some turn) none
        have h2 := cutG_len (words.map D.str) none (some turn)
        rw [List.length_map, hW.1] at h1 h2
        rw [sizeLine_eq]
        omega) ?_
      repeat walk_at "d"
      refine ⟨cutG (cutG words (some turn) none ++ cutG words none (some turn)) none (some n), ?_, ?_, fun x m => hW.2 x (rot_mem m)⟩
      · rw [cutG_map, cutG_map, ← List.map_append, cutG_map]
      · have et : turn = ((turn.toNat : Nat) : Int) := by omega
        have en : n = ((n.toNat : Nat) : Int) := by omega
        rw [et, en, rot_len words turn.toNat n.toNat (by omega) (by omega)]
    have way1 : 1 ≤ way := by
      have : ¬ way = 0 := fun z => e (decide_eq_true z)
      omega
    clear e
    repeat walk_at "d"
    -- some: one for each label
    refine EV.lcR ?_
    repeat walk_at "d"
    have f0 : 0 ≤ way / 3 := by omega
    have f1 : way / 3 ≤ 1 := by omega
    have f2 : way = 2 → way / 3 = 0 := by omega
    generalize way / 3 = far at f0 f1 f2 ⊢
    refine ⟨by omega, by omega, fun i es => ∃ ys : List Str, es = ys.map D.str ∧ ys.length = i ∧ ∀ y ∈ ys, Wd y ∧ (far = 0 → y.length = 1), ⟨[], rfl, rfl, fun _ m => nomatch m⟩, ?_, ?_⟩
    · rintro i es hi hl ⟨ys, rfl, hy, hw⟩
      repeat walk_at "d"
      obtain ⟨m, em, m0⟩ : ∃ m : Int, atI [D.int (3 * (i : Int)), D.int ((i : Int) / 8)] far = some (D.int m) ∧ 0 ≤ m := by
        rcases (show far = 0 ∨ far = 1 by omega) with f | f
        · exact ⟨3 * i, by rw [f]; rfl, by omega⟩
        · exact ⟨(i : Int) / 8, by rw [f]; rfl, by omega⟩
      refine RD.ixL em ?_
      repeat walk_at "d"
      obtain ⟨c, e, hc⟩ := let_at (i := (turn + m) % 26) (Int.emod_nonneg _ (by decide)) (Int.emod_lt_of_pos _ (by decide))
      refine RD.ixS (by decide +kernel) e ?_
      repeat walk_at "d"
      have k0 : 0 ≤ (i : Int) % 8 := Int.emod_nonneg _ (by decide)
      have k8 : (i : Int) % 8 < 8 := Int.emod_lt_of_pos _ (by decide)
      refine RD.iC (VB.cmul_ (by omega) (by omega)) ?_
      repeat walk_at "d"
      have kk : 1 ≤ 1 + (i : Int) % 8 * far ∧ 1 + (i : Int) % 8 * far ≤ 8 ∧ (far = 0 → 1 + (i : Int) % 8 * far = 1) := by
        rcases (show far = 0 ∨ far = 1 by omega) with f | f
        · rw [f]
          omega
        · rw [f]
          omega
      generalize 1 + (i : Int) % 8 * far = k at kk ⊢
      refine RD.mulS ⟨by omega, by omega, by show 1 ≤ 1000; decide⟩ ⟨ys ++ [Txt.mul ⟨#[c]⟩ k], by rw [List.map_append]; rfl, by rw [List.length_append, hy]; rfl, fun y m => ?_⟩
      rcases List.mem_append.mp m with m | m
      · exact hw y m
      · rw [List.mem_singleton.mp m]
        refine ⟨mul_one_lw hc kk.1 kk.2.1, fun f => ?_⟩
        rw [kk.2.2 f, mul_one']
        rfl
    rintro es ⟨ys, rfl, hy, hw⟩ _
    repeat walk_at "d"
    have hb : Lw (Txt.mul base (if decide (way = 2) = true then 1 else 0)) ∧ ((Txt.mul base (if decide (way = 2) = true then 1 else 0)).length = 0 ∨ (far = 0 ∧ Txt.mul base (if decide (way = 2) = true then 1 else 0) = base)) := by
      refine ⟨bw.mul _, ?_⟩
      by_cases e2 : way = 2
      · rw [decide_eq_true e2, if_pos rfl, mul_one']
        exact Or.inr ⟨f2 e2, rfl⟩
      · rw [decide_eq_false e2, if_neg Bool.false_ne_true, mul_zero']
        exact Or.inl rfl
    refine RD.mulS ⟨by split <;> decide, by split <;> decide, by omega⟩ ?_
    generalize Txt.mul base (if decide (way = 2) = true then 1 else 0) = base2 at hb ⊢
    obtain ⟨bw2, hb⟩ := hb
    have b27 : base2.length ≤ 7 := by
      rcases hb with z | ⟨_, z⟩
      · omega
      · rw [z]
        exact b7
    repeat walk_at "d"
    refine EV.lcR ?_
    repeat walk_at "d"
    refine ⟨by omega, by omega, fun i es => ∃ zs : List Str, es = zs.map D.str ∧ zs.length = i ∧ ∀ y ∈ zs, Wd y, ⟨[], rfl, rfl, fun _ m => nomatch m⟩, ?_, ?_⟩
    · rintro i es hi hl ⟨zs, rfl, hz, hzw⟩
      repeat walk_at "d"
      refine SD.slS (by rw [sizeLine_eq]; omega) ?_
      repeat walk_at "d"
      have hi2 : i < ys.length := by omega
      have em : atI (ys.map D.str) (i : Int) = some (.str ys[i]) := atI_nat (by rw [List.getElem?_map, List.getElem?_eq_getElem hi2]; rfl)
      refine RD.ixL em ?_
      have yw := hw _ (List.getElem_mem hi2)
      generalize ys[i] = y at yw ⊢
      have c1 := cutS_len base2 none (some at_)
      have c2 := cutS_len base2 (some at_) none
      obtain ⟨⟨y1, y8, yl⟩, yf⟩ := yw
      refine RD.addS (by rw [sizeLine_eq]; omega) ?_
      repeat walk_at "d"
      refine SD.slS (by rw [sizeLine_eq]; omega) ?_
      refine RD.addS (by rw [sizeLine_eq, Str.length_append]; omega) ?_
      refine ⟨zs ++ [cutS base2 none (some at_) ++ y ++ cutS base2 (some at_) none], by rw [List.map_append]; rfl, by rw [List.length_append, hz]; rfl, fun x m => ?_⟩
      rcases List.mem_append.mp m with m | m
      · exact hzw x m
      · rw [List.mem_singleton.mp m]
        have lw : Lw (cutS base2 none (some at_) ++ y ++ cutS base2 (some at_) none) := ((bw2.cut _ _).app yl).app (bw2.cut _ _)
        have ll : (cutS base2 none (some at_) ++ y ++ cutS base2 (some at_) none).length = (cutS base2 none (some at_)).length + y.length + (cutS base2 (some at_) none).length := by
          rw [Str.length_append, Str.length_append]
        refine ⟨by omega, ?_, lw⟩
        rcases hb with z | ⟨f, z⟩
        · omega
        · have y1' := yf f
          have ea : at_ = ((at_.toNat : Nat) : Int) := by omega
          rw [z] at ll ⊢
          rw [ea] at ll ⊢
          rw [cut_lo_len base at_.toNat (by omega), cut_hi_len base at_.toNat (by omega)] at ll
          omega
    rintro es ⟨zs, rfl, hz, hzw⟩ _
    exact ⟨zs, rfl, by show (zs.length : Int) = n; omega, hzw⟩


/-! ### a name of drawn labels -/
abbrev spName (K : PySem.W.Frag) : Sp := spA K (fun x : Addr × List Str × Int => [.raw x.1, .lst (x.2.1.map D.str), .int x.2.2]) (fun x => x.2.1 ≠ [] ∧ x.2.1.length ≤ 1000 ∧ 0 ≤ x.2.2 ∧ x.2.2 ≤ 1000)
  fun x d => ∃ xs : List Str, d = .tup (xs.map D.str) ∧ (xs.length : Int) ≤ x.2.2 ∧ ∀ y ∈ xs, y ∈ x.2.1
theorem ok_law_name (T : Tx K mg a) : FnOk P w K mg base CX0 2 a.f_law_name a.d_law_name ["_law_bag_here", "_law_labels_here", "_law_most"] (spName K) := by
  refine T.F_law_name.ok (k := 1) sc_law_name (fun vs H Q E h => ?_) (fun cdv A outer s H vs Q E hr h => ?_)
  · exact spA_len h fun _ => rfl
  · refine ⟨_, PSs.nox (pss_one (ps_ret (pe_callTy (VB.kTup (K := K) rfl) (by rfl) T.n_tuple (by decide +kernel) (pa_cons (pe_lc (own := [("_law_k", 3)]) (g := gName 3) (tt := tYes) rfl sc_law_name.nd (pi_range1 rfl T.n_range (pa_cons (pe_call (ok_law_take (K := K) T) (hr.mono (by decide)) (by rfl) T.m_law_take T.k_law_take T.b_law_take .nil pass0 (pa_cons (pv 0) (pa_cons (pe_op op_add (pv 2) pe_int) pa_nil))) pa_nil)) (blkOk_by (N := ["_law_bag_here", "_law_labels_here", "_law_most", "_law_k"]) (sc := defScope s_law_name) (by decide +kernel)) (fun _ _ _ _ _ => pg_name (i := 3) sc_law_name.nd rfl (Or.inl rfl)) (fun _ _ _ _ _ => pts_nil) (fun _ _ _ _ _ => (pe_ix (VB.kIxL (K := K) rfl) (pv 1) (pe_call (ok_law_take (K := K) T) (hr.mono (by decide)) (by rfl) T.m_law_take T.k_law_take T.b_law_take .nil pass0 (pa_cons (pv 0) (pa_cons (pe_callB (VB.kLen (K := K) rfl) (by rfl) T.n_len (by decide +kernel) (pa_cons (pv 1) pa_nil)) pa_nil))) (fun _ _ => rfl)))) pa_nil)))), body_ok h fun ⟨b, ws, m⟩ hp => ?_⟩
    obtain ⟨ne, wl, m0, m1⟩ : ws ≠ [] ∧ ws.length ≤ 1000 ∧ 0 ≤ m ∧ m ≤ 1000 := hp
    refine ⟨[.bag b, .dat (.lst (ws.map D.str)), .dat (.int m), .no], rfl, ?_⟩
    have wpos : 0 < ws.length := List.length_pos_iff.mpr ne
    repeat walk_at "d"
    refine EV.lcR ?_
    repeat walk_at "d"
    refine ⟨by omega, by omega, fun r r0 r1 => ?_⟩
    repeat walk_at "d"
    refine ⟨by omega, by omega, fun i es => ∃ ys : List Str, es = ys.map D.str ∧ ys.length = i ∧ ∀ y ∈ ys, y ∈ ws, ⟨[], rfl, rfl, fun _ m => nomatch m⟩, ?_, ?_⟩
    · rintro i es hi hl ⟨ys, rfl, hy, hw⟩
      repeat walk_at "d"
      refine ⟨by rw [List.length_map]; omega, by rw [List.length_map]; omega, fun j j0 j1 => ?_⟩
      rw [List.length_map] at j1
      obtain ⟨x, hx, ex⟩ := atI_of (xs := ws) j0 j1
      refine RD.ixL (d := .str x) (atI_map ex) ⟨ys ++ [x], by rw [List.map_append]; rfl, by rw [List.length_append, hy]; rfl, fun y my => ?_⟩
      rcases List.mem_append.mp my with q | q
      · exact hw y q
      · rw [List.mem_singleton.mp q]
        exact hx
    rintro es ⟨ys, rfl, hy, hw⟩ _
    repeat walk_at "d"
    exact ⟨by show (ys.length : Int) ≤ m; omega, hw⟩


/-! ### words, names, holders -/
abbrev spWord (K : PySem.W.Frag) : Sp := spA K (fun x : D => [x]) (fun x => x.sz = true) fun x d => d = .bl x.isWord
theorem ok_is_word (T : Tx K mg a) : FnOk P w K mg base CX0 1 a.f_is_word a.d_is_word ["thing"] (spWord K) := by
  refine T.F_is_word.ok (k := 0) sc_is_word (fun vs H Q E h => ?_) (fun cdv A outer s H vs Q E hr h => ?_)
  · exact spA_len h fun _ => rfl
  · refine ⟨_, PSs.nox (pss_cons (ps_if (PW.pt (pw_or (pt_not (pt_val (pe_callB (VB.kIsi (K := K) rfl) (by rfl) T.n_isinstance (by decide +kernel) (pa_cons (pv 0) (pa_cons (pe_bltn (v := .ty "str") (u := .type "str") (by rfl) T.n_str (by decide +kernel) rfl) pa_nil))))) (pw_or1 (pt_not (pt_chain op_le op_le pe_int (pe_callB (VB.kLen (K := K) rfl) (by rfl) T.n_len (by decide +kernel) (pa_cons (pv 0) pa_nil)) (pe_glob (v := .int 8) (by rfl) T.g_MOST_LETTERS ⟨_, rfl⟩)))))) (pss_one (ps_ret pe_bl)) pss_nil)
    (pss_one (ps_ret (pe_callB (VB.kAll (K := K) rfl rfl) (by rfl) T.n_all (by decide +kernel) (pa_cons (pe_lc (own := [("letter", 1)]) (g := gName 1) (tt := tYes) rfl sc_is_word.nd (pi_str (pv 0)) (blkOk_by (N := ["thing", "letter"]) (sc := defScope s_is_word) (by decide +kernel)) (fun _ _ _ _ _ => pg_name (i := 1) sc_is_word.nd rfl (Or.inl rfl)) (fun _ _ _ _ _ => pts_nil) (fun _ _ _ _ _ => (pe_cmpR op_in_sign (pv 1) (pe_glob (v := .str "abcdefghijklmnopqrstuvwxyz") (by rfl) T.g_LETTERS ⟨_, rfl⟩) (by rfl)))) pa_nil))))), body_ok h fun d pu => ?_⟩
    by_cases hs : d.isStr = true
    · obtain ⟨z, rfl⟩ : ∃ z, d = .str z := by
        cases d with
        | str z => exact ⟨z, rfl⟩
        | _ => cases hs
      have z1 : z.length ≤ 16777000 := of_decide_eq_true pu
      refine ⟨[.dat (.str z), .no], rfl, ?_⟩
      repeat walk_at "d"
      refine RC.isiStr pu ?_
      show ∃ k, D.bl true = .bl k ∧ _
      repeat walk_at "d"
      refine RC.lenS (by rw [sizeLine_eq]; omega) ?_
      repeat walk_at "d"
      have nots : ¬ (1 ≤ z.length ∧ z.length ≤ 8) → D.bl false = .bl (D.str z).isWord := fun q => by
        show D.bl false = .bl (decide (1 ≤ z.length) && (decide (z.length ≤ 8) && lwB z))
        by_cases a1 : 1 ≤ z.length
        · rw [decide_eq_true a1, decide_eq_false (fun a2 => q ⟨a1, a2⟩)]
          rfl
        · rw [decide_eq_false a1]
          rfl
      refine iteD (fun h1 => ?_) (fun h1 => ?_)
      · repeat walk_at "d"
        refine iteND (fun h8 => ?_) (fun h8 => ?_)
        · repeat walk_at "d"
          exact nots (by omega)
        · repeat walk_at "d"
          refine EV.lcS ?_
          repeat walk_at "d"
          refine ⟨z1, fun i es => es = (z.cps.toList.take i).map fun c => D.bl (decide (c ∈ LET.cps.toList)), rfl, ?_, ?_⟩
          · rintro i c es hc hl rfl
            repeat walk_at "d"
            exact (takeMap _ (by simpa using hc)).symm
          · rintro es rfl _
            repeat walk_at "d"
            rw [show z.cps.size = z.cps.toList.length by simp, List.take_length]
            refine RC.allF ?_
            show D.bl (lwB z) = .bl (decide (1 ≤ z.length) && (decide (z.length ≤ 8) && lwB z))
            rw [decide_eq_true (by omega), decide_eq_true (by omega)]
            rfl
      · repeat walk_at "d"
        exact nots (by omega)
    · have hs' : d.isStr = false := by simpa using hs
      refine ⟨[.dat d, .no], by cases d <;> first | rfl | simp [D.sz] at pu, ?_⟩
      repeat walk_at "d"
      refine RC.isiStr pu ?_
      rw [hs']
      repeat walk_at "d"
      rw [D.not_str hs']
abbrev spIsName (K : PySem.W.Frag) : Sp := spA K (fun x : D => [x]) (fun x => x.sz = true) fun x d => d = .bl x.isName
theorem ok_is_name (T : Tx K mg a) : FnOk P w K mg base CX0 2 a.f_is_name a.d_is_name ["thing"] (spIsName K) := by
  refine T.F_is_name.ok (k := 1) sc_is_name (fun vs H Q E h => ?_) (fun cdv A outer s H vs Q E hr h => ?_)
  · exact spA_len h fun _ => rfl
  · refine ⟨_, PSs.nox (pss_one (ps_ret (pe_and (pe_callB (VB.kIsi (K := K) rfl) (by rfl) T.n_isinstance (by decide +kernel) (pa_cons (pv 0) (pa_cons (pe_bltn (v := .ty "tuple") (u := .type "tuple") (by rfl) T.n_tuple (by decide +kernel) rfl) pa_nil))) (pe_one (pe_callB (VB.kAll (K := K) rfl rfl) (by rfl) T.n_all (by decide +kernel) (pa_cons (pe_lc (own := [("label", 1)]) (g := gName 1) (tt := tYes) rfl sc_is_name.nd (VB.kPiT (K := K) rfl (pv 0)) (blkOk_by (N := ["thing", "label"]) (sc := defScope s_is_name) (by decide +kernel)) (fun _ _ _ _ _ => pg_name (i := 1) sc_is_name.nd rfl (Or.inl rfl)) (fun _ _ _ _ _ => pts_nil) (fun _ _ _ _ _ => (pe_call (ok_is_word (K := K) T) (hr.mono (by decide)) (by rfl) T.m_is_word T.k_is_word T.b_is_word .nil pass0 (pa_cons (pv 1) pa_nil)))) pa_nil)))))), body_ok h fun d pu => ?_⟩
    refine ⟨[.dat d, .no], by cases d <;> first | rfl | simp [D.sz] at pu, ?_⟩
    repeat walk_at "d"
    refine RC.isiTup pu ?_
    by_cases hs : d.isTup = true
    · obtain ⟨ds, rfl⟩ : ∃ z, d = .tup z := by
        cases d with
        | tup z => exact ⟨z, rfl⟩
        | _ => cases hs
      obtain ⟨d1, d2⟩ := Bool.and_eq_true_iff.mp (show (_ && _) = true from pu)
      show ∃ k, D.bl true = .bl k ∧ _
      repeat walk_at "d"
      refine EV.lcT ?_
      repeat walk_at "d"
      refine ⟨of_decide_eq_true d1, fun i es => es = (ds.take i).map fun c => D.bl c.isWord, rfl, ?_, ?_⟩
      · rintro i c es hc hl rfl
        repeat walk_at "d"
        refine ⟨fun b m => ?_, szA_get d2 c (List.mem_of_getElem? hc), ?_⟩
        · have hcz := szA_get d2 c (List.mem_of_getElem? hc)
          rw [← List.mem_singleton.mp m] at hcz
          cases hcz
        · rintro d rfl
          exact (takeMap _ hc).symm
      · rintro es rfl _
        repeat walk_at "d"
        rw [List.take_length]
        refine RC.allF ?_
        rfl
    · have hs' : d.isTup = false := by simpa using hs
      rw [hs']
      repeat walk_at "d"
      rw [(D.not_tup hs').1]


/-! ### the program's begins, the law's own -/
abbrev spBegins (K : PySem.W.Frag) : Sp := spA K (fun x : List Str × List Str => [nm x.1, nm x.2]) (fun x => (∀ y ∈ x.1, Wd y) ∧ (∀ y ∈ x.2, Wd y) ∧ x.1.length ≤ 1000 ∧ x.2.length ≤ 1000) fun x d => d = .bl (decide (x.2.take x.1.length = x.1))
theorem ok_begins (T : Tx K mg a) : FnOk P w K mg base CX0 1 a.f_begins a.d_begins ["name", "other"] (spBegins K) := by
  refine T.F_begins.ok (k := 0) sc_begins (fun vs H Q E h => ?_) (fun cdv A outer s H vs Q E hr h => ?_)
  · exact spA_len h fun _ => rfl
  · refine ⟨_, PSs.nox (pss_one (ps_ret (pe_cmpR (VB.kEqD (K := K) rfl hr.units) (pe_slice (VB.kSlA (K := K) rfl) (pv 1) po_none (po_some (pe_callB (VB.kLen (K := K) rfl) (by rfl) T.n_len (by decide +kernel) (pa_cons (pv 0) pa_nil)))) (pv 0) (nomark _)))), body_ok h fun ⟨xs, ys⟩ hp => ?_⟩
    obtain ⟨hx, hy, lx, ly⟩ : (∀ y ∈ xs, Wd y) ∧ (∀ y ∈ ys, Wd y) ∧ xs.length ≤ 1000 ∧ ys.length ≤ 1000 := hp
    refine ⟨[.dat (nm xs), .dat (nm ys)], rfl, ?_⟩
    repeat walk_at "d"
    rw [cutG_map, List.length_map, cutG_lo]
    refine RD.eqD (strs_shaped (fun y m => hy y (List.mem_of_mem_take m)) hx) ?_
    rw [strs_eqv]
abbrev spHasFirst (K : PySem.W.Frag) : Sp := spA K (fun x : List Str × List Str => [nm x.1, nm x.2]) (fun x => (∀ y ∈ x.1, Wd y) ∧ (∀ y ∈ x.2, Wd y) ∧ x.1.length ≤ 1000 ∧ x.2.length ≤ 1000) fun x d => d = .bl (decide (x.2.take x.1.length = x.1))
theorem ok_law_has_first (T : Tx K mg a) : FnOk P w K mg base CX0 1 a.f_law_has_first a.d_law_has_first ["_law_name_here", "_law_other"] (spHasFirst K) := by
  refine T.F_law_has_first.ok (k := 0) sc_law_has_first (fun vs H Q E h => ?_) (fun cdv A outer s H vs Q E hr h => ?_)
  · exact spA_len h fun _ => rfl
  · refine ⟨_, PSs.nox (pss_cons (ps_if (pt_cmpR op_gt (pe_callB (VB.kLen (K := K) rfl) (by rfl) T.n_len (by decide +kernel) (pa_cons (pv 0) pa_nil)) (pe_callB (VB.kLen (K := K) rfl) (by rfl) T.n_len (by decide +kernel) (pa_cons (pv 1) pa_nil)) (nomark _)) (pss_one (ps_ret pe_bl)) pss_nil)
    (pss_one (ps_ret (pe_cmpR (VB.kEqD (K := K) rfl hr.units) (pe_lc (own := [("_law_k", 2)]) (g := gName 2) rfl sc_law_has_first.nd (pi_range1 rfl T.n_range (pa_cons (pe_callB (VB.kLen (K := K) rfl) (by rfl) T.n_len (by decide +kernel) (pa_cons (pv 0) pa_nil)) pa_nil)) (blkOk_by (N := ["_law_name_here", "_law_other", "_law_k"]) (sc := defScope s_law_has_first) (by decide +kernel)) (fun _ _ _ _ _ => pg_name (i := 2) sc_law_has_first.nd rfl (Or.inl rfl)) (fun _ _ _ _ _ => pts_one (pt_cmpR op_ne (pe_ix (VB.kIxT (K := K) rfl) (pv 0) (pv 2) (fun _ _ => rfl)) (pe_ix (VB.kIxT (K := K) rfl) (pv 1) (pv 2) (fun _ _ => rfl)) (nomark _))) (fun _ _ _ _ _ => (pv 2))) (pe_lst pa_nil) (nomark _))))), body_ok h fun ⟨xs, ys⟩ hp => ?_⟩
    obtain ⟨hx, hy, lx, ly⟩ : (∀ y ∈ xs, Wd y) ∧ (∀ y ∈ ys, Wd y) ∧ xs.length ≤ 1000 ∧ ys.length ≤ 1000 := hp
    refine ⟨[.dat (nm xs), .dat (nm ys), .no], rfl, ?_⟩
    repeat walk_at "d"
    rw [List.length_map, List.length_map]
    refine iteD (fun lt => ?_) (fun ge => ?_)
    · repeat walk_at "d"
      show D.bl false = .bl (decide (ys.take xs.length = xs))
      rw [decide_eq_false]
      intro e
      have := congrArg List.length e
      rw [List.length_take] at this
      omega
    · repeat walk_at "d"
      refine EV.lcR ?_
      repeat walk_at "d"
      refine ⟨by rw [List.length_map]; omega, by rw [List.length_map]; omega, fun i es => ∃ ks : List Int, es = ks.map D.int ∧ (∀ k ∈ ks, 0 ≤ k ∧ k ≤ 1000) ∧ (ks = [] ↔ ys.take i = xs.take i), ⟨[], rfl, fun _ m => (nomatch m), by simp⟩, ?_, ?_⟩
      · rintro i es hi hl ⟨ks, rfl, hk, he⟩
        rw [List.length_map] at hi
        have hi1 : i < xs.length := by omega
        have hi2 : i < ys.length := by omega
        repeat walk_at "d"
        refine RD.ixT (d := .str xs[i]) (atI_map (atI_nat (List.getElem?_eq_getElem hi1))) ?_
        repeat walk_at "d"
        refine RD.ixT (d := .str ys[i]) (atI_map (atI_nat (List.getElem?_eq_getElem hi2))) ?_
        repeat walk_at "d"
        have et : ys.take (i + 1) = xs.take (i + 1) ↔ ys.take i = xs.take i ∧ xs[i] = ys[i] := by
          rw [List.take_add_one, List.take_add_one, List.getElem?_eq_getElem hi1, List.getElem?_eq_getElem hi2]
          constructor
          · intro e
            have e2 := List.append_inj e (by rw [List.length_take, List.length_take]; omega)
            refine ⟨e2.1, ?_⟩
            have := e2.2
            simp at this
            exact this.symm
          · rintro ⟨e1, e2⟩
            rw [e1, e2]
        refine iteND (fun ne => ?_) (fun eq => ?_)
        · repeat walk_at "d"
          refine ⟨ks ++ [(i : Int)], by rw [List.map_append]; rfl, fun k m => ?_, ?_⟩
          · rcases List.mem_append.mp m with z | z
            · exact hk k z
            · rw [List.mem_singleton.mp z]
              omega
          · refine ⟨fun z => absurd z (by simp), fun z => absurd (et.mp z).2 ne⟩
        · refine ⟨ks, rfl, hk, ?_⟩
          rw [et, ← he]
          exact ⟨fun z => ⟨z, eq⟩, fun z => z.1⟩
      · rintro es ⟨ks, rfl, hk, he⟩ _
        repeat walk_at "d"
        refine RD.eqD (ints_shaped (ks := ks) (ls := [])) ?_
        rw [ints_nil]
        show D.bl _ = .bl (decide (ys.take xs.length = xs))
        have ex : (xs.map D.str).length = xs.length := List.length_map ..
        rw [show ((((xs.map D.str).length : Nat) : Int)).toNat = xs.length by rw [ex]; omega, List.take_length] at he
        congr 1
        rw [Bool.eq_iff_iff, decide_eq_true_iff, ← he]
        cases ks <;> simp


/-! ### holders -/
abbrev spHolder (K : PySem.W.Frag) : Sp := spA K (fun x : D => [x]) (fun x => x.sz = true) fun x d => d = .bl x.isHolder
theorem ok_is_holder (T : Tx K mg a) : FnOk P w K mg base CX0 3 a.f_is_holder a.d_is_holder ["thing"] (spHolder K) := by
  refine T.F_is_holder.ok (k := 2) sc_is_holder (fun vs H Q E h => ?_) (fun cdv A outer s H vs Q E hr h => ?_)
  · exact spA_len h fun _ => rfl
  · refine ⟨_, PSs.nox (pss_one (ps_ret (pe_and (pe_callB (VB.kIsi (K := K) rfl) (by rfl) T.n_isinstance (by decide +kernel) (pa_cons (pv 0) (pa_cons (pe_bltn (v := .ty "tuple") (u := .type "tuple") (by rfl) T.n_tuple (by decide +kernel) rfl) pa_nil))) (pe_and (pe_cmpR op_eq (pe_callB (VB.kLen (K := K) rfl) (by rfl) T.n_len (by decide +kernel) (pa_cons (pv 0) pa_nil)) pe_int (nomark _)) (pe_and (pe_call (ok_is_name (K := K) T) (hr.mono (by decide)) (by rfl) T.m_is_name T.k_is_name T.b_is_name .nil pass0 (pa_cons (pe_ix (VB.kIxT (K := K) rfl) (pv 0) pe_int (fun _ _ => rfl)) pa_nil)) (pe_one (pe_call (ok_is_word (K := K) T) (hr.mono (by decide)) (by rfl) T.m_is_word T.k_is_word T.b_is_word .nil pass0 (pa_cons (pe_ix (VB.kIxT (K := K) rfl) (pv 0) pe_int (fun _ _ => rfl)) pa_nil)))))))), body_ok h fun d pu => ?_⟩
    refine ⟨[.dat d], by cases d <;> first | rfl | simp [D.sz] at pu, ?_⟩
    repeat walk_at "d"
    refine RC.isiTup pu ?_
    by_cases hs : d.isTup = true
    · obtain ⟨ds, rfl⟩ : ∃ z, d = .tup z := by
        cases d with
        | tup z => exact ⟨z, rfl⟩
        | _ => cases hs
      obtain ⟨d1, d2⟩ := Bool.and_eq_true_iff.mp (show (_ && _) = true from pu)
      show ∃ k, D.bl true = .bl k ∧ _
      repeat walk_at "d"
      have no : ds.length ≠ 2 → D.bl false = .bl (D.tup ds).isHolder := fun q => by
        match ds, q with
        | [], _ => rfl
        | [_], _ => rfl
        | [_, _], q => exact absurd rfl q
        | _ :: _ :: _ :: _, _ => rfl
      refine iteD (fun l2 => ?_) (fun l2 => no (by omega))
      obtain ⟨x, y, rfl⟩ : ∃ x y, ds = [x, y] := by
        match ds, l2 with
        | [x, y], _ => exact ⟨x, y, rfl⟩
      have zx := szA_get d2 x (List.mem_cons_self ..)
      have zy := szA_get d2 y (List.mem_cons_of_mem _ (List.mem_cons_self ..))
      repeat walk_at "d"
      refine RD.ixT (d := x) rfl ?_
      repeat walk_at "d"
      refine ⟨fun b m => ?_, zx, ?_⟩
      · rw [← List.mem_singleton.mp m] at zx
        cases zx
      · rintro _ rfl
        show ∃ k, D.bl x.isName = .bl k ∧ _
        repeat walk_at "d"
        by_cases hx : x.isName = true
        · rw [hx, if_pos rfl]
          refine EV.call ?_
          repeat walk_at "d"
          refine RD.ixT (d := y) rfl ?_
          repeat walk_at "d"
          refine ⟨fun b m => ?_, zy, ?_⟩
          · rw [← List.mem_singleton.mp m] at zy
            cases zy
          · rintro _ rfl
            show D.bl y.isWord = .bl (x.isName && y.isWord)
            rw [hx]
            rfl
        · have hx : x.isName = false := by simpa using hx
          rw [hx, if_neg Bool.false_ne_true]
          show D.bl false = .bl (x.isName && y.isWord)
          rw [hx]
          rfl
    · have hs' : d.isTup = false := by simpa using hs
      rw [hs']
      repeat walk_at "d"
      rw [(D.not_tup hs').2]


/-! ### a name near another -/
abbrev spNear (K : PySem.W.Frag) : Sp := spA K (fun x : Addr × List Str × List Str => [.raw x.1, .lst (x.2.1.map D.str), .tup (x.2.2.map D.str)]) (fun x => x.2.1 ≠ [] ∧ x.2.1.length ≤ 1000 ∧ x.2.2.length ≤ 1000 ∧ (∀ y ∈ x.2.1, Wd y) ∧ (∀ y ∈ x.2.2, Wd y))
  fun x d => ∃ ys : List Str, d = .tup (ys.map D.str) ∧ ys.length ≤ 2001 ∧ ∀ y ∈ ys, Wd y
theorem bent_ok {x : Str} (h : Wd x) : Lw (cutS x none (some (-1))) ∧ (cutS x none (some (-1))).length ≤ 8 := ⟨h.2.2.cut _ _, Nat.le_trans (cutS_len ..) h.2.1⟩
theorem bent_a {x : Str} (h : Wd x) : Lw (cutS (x ++ "a") none (some 8)) ∧ (cutS (x ++ "a") none (some 8)).length ≤ 8 := by
  refine ⟨(h.2.2.app (by unfold Lw; decide +kernel)).cut _ _, ?_⟩
  have hl : (x ++ "a" : Str).length = x.length + 1 := by
    show (x.cps ++ _).size = x.cps.size + 1
    rw [Array.size_append]
    rfl
  have hx := h.2.1
  have hx1 := h.1
  by_cases h8 : 8 ≤ (x ++ "a" : Str).length
  · exact Nat.le_of_eq (cut_lo_len _ 8 h8)
  · exact Nat.le_trans (cutS_len ..) (by omega)
theorem ok_law_near (T : Tx K mg a) : FnOk P w K mg base CX0 3 a.f_law_near a.d_law_near ["_law_bag_here", "_law_labels_here", "_law_name_here"] (spNear K) := by
  refine T.F_law_near.ok (k := 2) sc_law_near (fun vs H Q E h => ?_) (fun cdv A outer s H vs Q E hr h => ?_)
  · exact spA_len h fun _ => rfl
  · refine ⟨_, PSs.nox (pss_cons (ps_par (i := 3) (j := 4) (by rfl) sc_law_near.nd rfl rfl (by decide) rfl rfl (pa_cons (pe_call (ok_law_take (K := K) T) (hr.mono (by decide)) (by rfl) T.m_law_take T.k_law_take T.b_law_take .nil pass0 (pa_cons (pv 0) (pa_cons pe_int pa_nil))) (pa_cons (pe_call (ok_law_take (K := K) T) (hr.mono (by decide)) (by rfl) T.m_law_take T.k_law_take T.b_law_take .nil pass0 (pa_cons (pv 0) (pa_cons (pe_op op_add (pe_callB (VB.kLen (K := K) rfl) (by rfl) T.n_len (by decide +kernel) (pa_cons (pv 2) pa_nil)) pe_int) pa_nil))) pa_nil)) (by rfl))
    (pss_cons (ps_if (pt_cmpR op_eq (pv 3) pe_int (nomark _)) (pss_one (ps_ret (pe_op (VB.kCatA (K := K) rfl) (pv 2) (pe_call (ok_law_name (K := K) T) (hr.mono (by decide)) (by rfl) T.m_law_name T.k_law_name T.b_law_name .nil pass0 (pa_cons (pv 0) (pa_cons (pv 1) (pa_cons pe_int pa_nil))))))) pss_nil)
    (pss_cons (ps_if (pt_cmpR op_eq (pv 3) pe_int (nomark _)) (pss_one (ps_ret (pe_slice (VB.kSlA (K := K) rfl) (pv 2) po_none (po_some (pv 4))))) pss_nil)
    (pss_cons (ps_if (pt_cmpR op_eq (pv 3) pe_int (nomark _)) (pss_one (ps_ret (pe_slice (VB.kSlA (K := K) rfl) (pv 2) (po_some (pv 4)) po_none))) pss_nil)
    (pss_cons (ps_if (PW.pt (pw_and (pt_cmpR op_eq (pv 3) pe_int (nomark _)) (pw_and1 (pt_cmpR op_lt (pv 4) (pe_callB (VB.kLen (K := K) rfl) (by rfl) T.n_len (by decide +kernel) (pa_cons (pv 2) pa_nil)) (nomark _))))) (pss_cons (ps_set (i := 5) sc_law_near.nd rfl (Or.inl rfl) (pe_ix (VB.kIxL (K := K) rfl) (pe_lst (pa_cons (pe_slice sl_str (pe_ix (VB.kIxT (K := K) rfl) (pv 2) (pv 4) (fun _ _ => rfl)) po_none (po_some (pe_un un_neg pe_int))) (pa_cons (pe_slice sl_str (pe_op op_add_str (pe_ix (VB.kIxT (K := K) rfl) (pv 2) (pv 4) (fun _ _ => rfl)) pe_str) po_none (po_some pe_int)) (pa_cons (pe_ix (VB.kIxL (K := K) rfl) (pv 1) (pe_call (ok_law_take (K := K) T) (hr.mono (by decide)) (by rfl) T.m_law_take T.k_law_take T.b_law_take .nil pass0 (pa_cons (pv 0) (pa_cons (pe_callB (VB.kLen (K := K) rfl) (by rfl) T.n_len (by decide +kernel) (pa_cons (pv 1) pa_nil)) pa_nil))) (fun _ _ => rfl)) pa_nil)))) (pe_call (ok_law_take (K := K) T) (hr.mono (by decide)) (by rfl) T.m_law_take T.k_law_take T.b_law_take .nil pass0 (pa_cons (pv 0) (pa_cons pe_int pa_nil))) (fun _ _ => rfl)))
    (pss_one (ps_ret (pe_op (VB.kCatA (K := K) rfl) (pe_op (VB.kCatA (K := K) rfl) (pe_slice (VB.kSlA (K := K) rfl) (pv 2) po_none (po_some (pv 4))) (pe_tup (pa_cons (VB.kOrT (K := K) rfl (pv 5) (pe_one pe_str)) pa_nil))) (pe_slice (VB.kSlA (K := K) rfl) (pv 2) (po_some (pe_op op_add (pv 4) pe_int)) po_none))))) pss_nil)
    (pss_one (ps_ret (pe_ix (VB.kIxL (K := K) rfl) (pe_lst (pa_cons (pv 2) (pa_cons (pe_call (ok_law_name (K := K) T) (hr.mono (by decide)) (by rfl) T.m_law_name T.k_law_name T.b_law_name .nil pass0 (pa_cons (pv 0) (pa_cons (pv 1) (pa_cons pe_int pa_nil)))) pa_nil))) (pe_op op_mod (pe_callTy call_int1 (by rfl) T.n_int (by decide +kernel) (pa_cons (pv 3) pa_nil)) pe_int) (fun _ _ => rfl))))))))), body_ok h fun ⟨b, ws, xs⟩ hp => ?_⟩
    obtain ⟨ne, wl, xl, hw, hx⟩ : ws ≠ [] ∧ ws.length ≤ 1000 ∧ xs.length ≤ 1000 ∧ (∀ y ∈ ws, Wd y) ∧ (∀ y ∈ xs, Wd y) := hp
    refine ⟨[.bag b, .dat (.lst (ws.map D.str)), .dat (.tup (xs.map D.str)), .no, .no, .no], rfl, ?_⟩
    have wpos : 0 < ws.length := List.length_pos_iff.mpr ne
    have lx : (xs.map D.str).length = xs.length := List.length_map ..
    have lw : (ws.map D.str).length = ws.length := List.length_map ..
    repeat walk_at "d"
    refine ⟨by decide, by decide, fun way w0 w1 => ?_⟩
    repeat walk_at "d"
    refine ⟨by omega, by omega, fun spot s0 s1 => ?_⟩
    repeat walk_at "d"
    refine iteD (fun e => ?_) (fun _ => ?_)
    · repeat walk_at "d"
      refine ⟨(b, ws, 3), rfl, by simp, ⟨ne, wl, by show (0 : Int) ≤ 3; decide, by show (3 : Int) ≤ 1000; decide⟩, ?_⟩
      rintro d ⟨ys, rfl, hl, hy⟩
      have hl : (ys.length : Int) ≤ 3 := hl
      refine RD.catA (by rw [List.length_map, List.length_map, sizeLine_eq]; omega) ⟨xs ++ ys, by rw [List.map_append], by rw [List.length_append]; omega, fun y m => ?_⟩
      rcases List.mem_append.mp m with m | m
      · exact hx y m
      · exact hw y (hy y m)
    repeat walk_at "d"
    refine iteD (fun e => ?_) (fun _ => ?_)
    · repeat walk_at "d"
      exact ⟨cutG xs none (some spot), by rw [cutG_map], Nat.le_trans (cutG_len ..) (by omega), fun y m => hx y (cutG_mem m)⟩
    repeat walk_at "d"
    refine iteD (fun e => ?_) (fun _ => ?_)
    · repeat walk_at "d"
      exact ⟨cutG xs (some spot) none, by rw [cutG_map], Nat.le_trans (cutG_len ..) (by omega), fun y m => hx y (cutG_mem m)⟩
    refine ST.next (ST.ifN ?_ ?_)
    · -- the name, or one that is drawn
      repeat walk_at "d"
      refine ⟨(b, ws, 6), rfl, by simp, ⟨ne, wl, by show (0 : Int) ≤ 6; decide, by show (6 : Int) ≤ 1000; decide⟩, ?_⟩
      rintro d ⟨ys, rfl, hl, hy⟩
      have hl : (ys.length : Int) ≤ 6 := hl
      repeat walk_at "d"
      by_cases h2 : way % 2 = 0
      · rw [h2]
        exact RD.ixL (d := .tup (xs.map D.str)) rfl ⟨xs, rfl, by omega, hx⟩
      · rw [show way % 2 = 1 by omega]
        exact RD.ixL (d := .tup (ys.map D.str)) rfl ⟨ys, rfl, by omega, fun y m => hw y (hy y m)⟩
    repeat walk_at "d"
    refine iteD (fun e => ?_) (fun _ => fun z => (nomatch z))
    repeat walk_at "d"
    intro lt
    have lt : spot < (xs.map D.str).length := of_decide_eq_true lt
    rw [lx] at lt
    obtain ⟨x, mx, ex⟩ := atI_of (xs := xs) s0 lt
    repeat walk_at "d"
    refine RD.ixT (d := .str x) (atI_map ex) ?_
    repeat walk_at "d"
    have hxw := hx x mx
    have xl8 := hxw.2.1
    refine SD.slS (by rw [sizeLine_eq]; omega) ?_
    repeat walk_at "d"
    refine RD.ixT (d := .str x) (atI_map ex) ?_
    repeat walk_at "d"
    refine RD.addS (by rw [sizeLine_eq]; show x.length + 1 ≤ _; omega) ?_
    have b2 := bent_a hxw
    have xa : (x ++ Str.ofString "a").length ≤ 9 := by
      show (x.cps ++ _).size ≤ 9
      rw [Array.size_append]
      show x.length + 1 ≤ 9
      omega
    repeat walk_at "d"
    refine SD.slS (by rw [sizeLine_eq]; omega) ?_
    repeat walk_at "d"
    refine ⟨by omega, by omega, fun j j0 j1 => ?_⟩
    rw [lw] at j1
    obtain ⟨y, my, ey⟩ := atI_of (xs := ws) j0 j1
    refine RD.ixL (d := .str y) (atI_map ey) ?_
    repeat walk_at "d"
    refine ⟨by decide, by decide, fun k k0 k1 => ?_⟩
    have b1 := bent_ok hxw
    have b3 := hw y my
    obtain ⟨z, ez, hz⟩ : ∃ z : Str, atI [D.str (cutS x none (some (-1))), D.str (cutS (x ++ Str.ofString "a") none (some 8)), D.str y] k = some (.str z) ∧ Lw z ∧ z.length ≤ 8 := by
      have : k = 0 ∨ k = 1 ∨ k = 2 := by omega
      rcases this with rfl | rfl | rfl
      · exact ⟨_, rfl, b1⟩
      · exact ⟨_, rfl, b2⟩
      · exact ⟨_, rfl, b3.2.2, b3.2.1⟩
    refine RD.ixL ez ?_
    repeat walk_at "d"
    refine ⟨by rw [sizeLine_eq]; omega, ?_⟩
    have fin : ∀ u : Str, Wd u → VB.RD K (rCatA K) (.tup (cutG (xs.map D.str) none (some spot))) (.tup [.str u]) fun d => VB.EV K (tSl (rSlA K) (tVar 2) (tPart (tOp (rI0 fun i j => V.int (i + j)) (tVar 4) (tC (V.int 1)))) tNoPart) [.bag b, .dat (.lst (ws.map D.str)), .dat (.tup (xs.map D.str)), .dat (.int way), .dat (.int spot), .dat (.str z)] fun e =>
        VB.RD K (rCatA K) d e fun d => ∃ ys : List Str, d = .tup (ys.map D.str) ∧ ys.length ≤ 2001 ∧ ∀ y ∈ ys, Wd y := fun u hu => by
      have l1 := cutG_len xs none (some spot)
      have l2 := cutG_len xs (some (spot + 1)) none
      rw [cutG_map]
      refine RD.catA (by rw [List.length_map, sizeLine_eq]; show _ + 1 ≤ _; omega) ?_
      repeat walk_at "d"
      rw [cutG_map]
      refine RD.catA (by rw [List.length_append, List.length_map, List.length_map, sizeLine_eq]; show _ + 1 + _ ≤ _; omega) ⟨cutG xs none (some spot) ++ [u] ++ cutG xs (some (spot + 1)) none, by rw [List.map_append, List.map_append]; rfl, ?_, fun y m => ?_⟩
      · rw [List.length_append, List.length_append]
        show _ + 1 + _ ≤ _
        omega
      · rcases List.mem_append.mp m with m | m
        · rcases List.mem_append.mp m with m | m
          · exact hx y (cutG_mem m)
          · rw [List.mem_singleton.mp m]
            exact hu
        · exact hx y (cutG_mem m)
    by_cases z0 : z.length = 0
    · rw [if_pos z0]
      repeat walk_at "d"
      exact fin _ (by unfold Wd Lw; decide +kernel)
    · rw [if_neg z0]
      repeat walk_at "d"
      exact fin _ ⟨by omega, hz.2, hz.1⟩


/-! ### the law -/
theorem bools_ok (p q : Bool) : (D.lst [.bl p, .bl q, .bl true, .bl true]).pu = true ∧ (D.lst [.bl p, .bl q, .bl true, .bl true]).py.showable = true ∧ (D.lst [.bl p, .bl q, .bl true, .bl true]).py.hasDict = false ∧ (D.lst [.bl p, .bl q, .bl true, .bl true]).py.depth ≤ 30 ∧ (D.lst [.bl p, .bl q, .bl true, .bl true]).py.shown.length ≤ sizeLine := by
  cases p <;> cases q <;> decide +kernel
theorem ok_law (T : Tx K mg a) : FnG P w K mg base CX0 4 a.f_law a.d_law ["_law_script"] (spLaw K) := by
  refine VB.okG (k := 3) T.F_law sc_law (fun vs H Q E h => ?_) (fun cdv A outer s H vs Q E hg hr h => ?_)
  · obtain ⟨a, ns, rfl, _⟩ := h
    rfl
  · refine ⟨_, PSs.nox (pss_cons (ps_set (i := 1) sc_law.nd rfl (Or.inl rfl) (pe_call (ok_law_bag (K := K) T) (hr.mono (by decide)) (by rfl) T.m_law_bag T.k_law_bag T.b_law_bag .nil pass0 (pa_cons (pv 0) pa_nil)))
    (pss_cons (ps_set (i := 2) sc_law.nd rfl (Or.inl rfl) (pe_call (ok_law_labels (K := K) T) (hr.mono (by decide)) (by rfl) T.m_law_labels T.k_law_labels T.b_law_labels .nil pass0 (pa_cons (pv 1) (pa_cons (pe_op op_add pe_int (pe_call (ok_law_take (K := K) T) (hr.mono (by decide)) (by rfl) T.m_law_take T.k_law_take T.b_law_take .nil pass0 (pa_cons (pv 1) (pa_cons pe_int pa_nil)))) pa_nil))))
    (pss_cons (ps_set (i := 3) sc_law.nd rfl (Or.inl rfl) (pe_call (ok_law_name (K := K) T) (hr.mono (by decide)) (by rfl) T.m_law_name T.k_law_name T.b_law_name .nil pass0 (pa_cons (pv 1) (pa_cons (pv 2) (pa_cons pe_int pa_nil)))))
    (pss_cons (ps_for PassesOwn.never rfl (pi_range1 rfl T.n_range (pa_cons pe_int pa_nil)) (pg_name (i := 4) sc_law.nd rfl (Or.inl rfl))
      (pss_cons (ps_set (i := 5) sc_law.nd rfl (Or.inl rfl) (pe_slice (VB.kSlA (K := K) rfl) (pe_call (ok_law_near (K := K) T) (hr.mono (by decide)) (by rfl) T.m_law_near T.k_law_near T.b_law_near .nil pass0 (pa_cons (pv 1) (pa_cons (pv 2) (pa_cons (pv 3) pa_nil)))) po_none (po_some pe_int)))
    (pss_cons (ps_set (i := 6) sc_law.nd rfl (Or.inl rfl) (pe_lst (pa_cons (pe_call (ok_law_has_first (K := K) T) (hr.mono (by decide)) (by rfl) T.m_law_has_first T.k_law_has_first T.b_law_has_first .nil pass0 (pa_cons (pv 3) (pa_cons (pv 5) pa_nil))) (pa_cons (pe_call (ok_law_has_first (K := K) T) (hr.mono (by decide)) (by rfl) T.m_law_has_first T.k_law_has_first T.b_law_has_first .nil pass0 (pa_cons (pv 5) (pa_cons (pv 3) pa_nil))) (pa_cons pe_bl (pa_cons pe_bl pa_nil))))))
    (pss_cons (ps_for PassesOwn.never rfl (pi_range1 rfl T.n_range (pa_cons pe_int pa_nil)) (pg_name (i := 7) sc_law.nd rfl (Or.inl rfl))
      (pss_cons (ps_set (i := 8) sc_law.nd rfl (Or.inl rfl) (pe_lst (pa_cons (pe_call (ok_begins (K := K) T) (hr.mono (by decide)) (by rfl) T.m_begins T.k_begins T.b_begins .nil pass0 (pa_cons (pv 3) (pa_cons (pv 5) pa_nil))) (pa_cons (pe_call (ok_begins (K := K) T) (hr.mono (by decide)) (by rfl) T.m_begins T.k_begins T.b_begins .nil pass0 (pa_cons (pv 5) (pa_cons (pv 3) pa_nil))) (pa_cons (pe_call (ok_begins (K := K) T) (hr.mono (by decide)) (by rfl) T.m_begins T.k_begins T.b_begins .nil pass0 (pa_cons (pv 5) (pa_cons (pv 5) pa_nil))) (pa_cons (pe_call (ok_begins (K := K) T) (hr.mono (by decide)) (by rfl) T.m_begins T.k_begins T.b_begins .nil pass0 (pa_cons (pe_tup pa_nil) (pa_cons (pv 5) pa_nil))) pa_nil))))))
    (pss_one (ps_if (pt_cmpR op_ne (pe_callB (VB.call_repr (K := K) rfl hg hr.units) (by rfl) T.n_repr (by decide +kernel) (pa_cons (pv 8) pa_nil)) (pe_callB (VB.call_repr (K := K) rfl hg hr.units) (by rfl) T.n_repr (by decide +kernel) (pa_cons (pv 6) pa_nil)) (nomark _)) (pss_one (ps_ret pe_bl)) pss_nil))))
    (pss_cons (ps_set (i := 9) sc_law.nd rfl (Or.inl rfl) (pe_tup (pa_cons (pv 5) (pa_cons (pe_ix (VB.kIxL (K := K) rfl) (pv 2) (pe_call (ok_law_take (K := K) T) (hr.mono (by decide)) (by rfl) T.m_law_take T.k_law_take T.b_law_take .nil pass0 (pa_cons (pv 1) (pa_cons (pe_callB (VB.kLen (K := K) rfl) (by rfl) T.n_len (by decide +kernel) (pa_cons (pv 2) pa_nil)) pa_nil))) (fun _ _ => rfl)) pa_nil))))
    (pss_cons (ps_if (PW.pt (pw_or (pt_cmpR op_notBl (pe_call (ok_is_name (K := K) T) (hr.mono (by decide)) (by rfl) T.m_is_name T.k_is_name T.b_is_name .nil pass0 (pa_cons (pv 5) pa_nil)) pe_bl (nomark _)) (pw_or (pt_cmpR op_notBl (pe_call (ok_is_holder (K := K) T) (hr.mono (by decide)) (by rfl) T.m_is_holder T.k_is_holder T.b_is_holder .nil pass0 (pa_cons (pv 9) pa_nil)) pe_bl (nomark _)) (pw_or1 (pt_cmpR op_notBl (pe_call (ok_is_holder (K := K) T) (hr.mono (by decide)) (by rfl) T.m_is_holder T.k_is_holder T.b_is_holder .nil pass0 (pa_cons (pv 5) pa_nil)) pe_bl (nomark _)))))) (pss_one (ps_ret pe_bl)) pss_nil)
    (pss_one (ps_set (i := 3) sc_law.nd rfl (Or.inl rfl) (pe_ix (VB.kIxL (K := K) rfl) (pe_lst (pa_cons (pv 3) (pa_cons (pv 5) pa_nil))) (pe_call (ok_law_take (K := K) T) (hr.mono (by decide)) (by rfl) T.m_law_take T.k_law_take T.b_law_take .nil pass0 (pa_cons (pv 1) (pa_cons pe_int pa_nil))) (fun _ _ => rfl))))))))))
    (pss_one (ps_ret pe_bl)))))), law_body h (by decide) fun b => ⟨[.no, .bag b, .no, .no, .no, .no, .no, .no, .no, .no], rfl, ?_⟩⟩
    repeat walk_at "d"
    refine ⟨by decide, by decide, fun r r0 r1 => ?_⟩
    repeat walk_at "d"
    refine ⟨(b, 1 + r), rfl, by simp, ⟨by show 1 ≤ 1 + r; omega, by show 1 + r ≤ 24; omega⟩, ?_⟩
    rintro d ⟨ws, rfl, wl, hw⟩
    have wl : (ws.length : Int) = 1 + r := wl
    have wne : ws ≠ [] := fun z => by rw [z] at wl; simp at wl; omega
    have lw : (ws.map D.str).length = ws.length := List.length_map ..
    repeat walk_at "d"
    refine ⟨(b, ws, 6), rfl, by simp, ⟨wne, by show ws.length ≤ 1000; omega, by show (0 : Int) ≤ 6; decide, by show (6 : Int) ≤ 1000; decide⟩, ?_⟩
    rintro d ⟨xs, rfl, xl, hx⟩
    have xl : (xs.length : Int) ≤ 6 := xl
    have hx := fun y m => hw y (hx y m)
    repeat walk_at "d"
    refine ST.forR ?_
    repeat walk_at "d"
    refine ⟨by decide, by decide, fun _ ρ => ∃ (xs : List Str) (e4 e5 e6 e7 e8 e9 : En), xs.length ≤ 6 ∧ (∀ y ∈ xs, Wd y) ∧ ρ = [.no, .bag b, .dat (.lst (ws.map D.str)), .dat (nm xs), e4, e5, e6, e7, e8, e9], ⟨xs, _, _, _, _, _, _, by omega, hx, rfl⟩, ?_, ?_⟩
    · rintro i ρ hi ⟨xs, e4, e5, e6, e7, e8, e9, xl, hx, rfl⟩
      repeat walk_at "d"
      refine ⟨(b, ws, xs), rfl, by simp, ⟨wne, by show ws.length ≤ 1000; omega, by show xs.length ≤ 1000; omega, hw, hx⟩, ?_⟩
      rintro d ⟨us, rfl, ul, hu⟩
      repeat walk_at "d"
      rw [cutG_map, show cutG us none (some 6) = us.take 6 from cutG_lo us 6]
      have hy : ∀ y ∈ us.take 6, Wd y := fun y m => hu y (List.mem_of_mem_take m)
      have yl : (us.take 6).length ≤ 6 := by rw [List.length_take]; omega
      generalize us.take 6 = ys at hy yl
      refine ⟨(xs, ys), rfl, by simp, ⟨hx, hy, by show xs.length ≤ 1000; omega, by show ys.length ≤ 1000; omega⟩, ?_⟩
      rintro _ rfl
      repeat walk_at "d"
      refine ⟨(ys, xs), rfl, by simp, ⟨hy, hx, by show ys.length ≤ 1000; omega, by show xs.length ≤ 1000; omega⟩, ?_⟩
      rintro _ rfl
      dsimp only
      generalize ep : decide (ys.take xs.length = xs) = p
      generalize eq : decide (xs.take ys.length = ys) = q
      repeat walk_at "d"
      refine ST.forR ?_
      repeat walk_at "d"
      refine ⟨by decide, by decide, fun _ ρ => ∃ (e7 e8 : En), ρ = [.no, .bag b, .dat (.lst (ws.map D.str)), .dat (nm xs), .dat (.int i), .dat (nm ys), .dat (.lst [.bl p, .bl q, .bl true, .bl true]), e7, e8, e9], ⟨_, _, rfl⟩, ?_, ?_⟩
      · rintro j ρ hj ⟨e7, e8, rfl⟩
        repeat walk_at "d"
        refine ⟨(xs, ys), rfl, by simp, ⟨hx, hy, by show xs.length ≤ 1000; omega, by show ys.length ≤ 1000; omega⟩, ?_⟩
        rintro _ rfl
        dsimp only
        rw [ep]
        repeat walk_at "d"
        refine ⟨(ys, xs), rfl, by simp, ⟨hy, hx, by show ys.length ≤ 1000; omega, by show xs.length ≤ 1000; omega⟩, ?_⟩
        rintro _ rfl
        dsimp only
        rw [eq]
        repeat walk_at "d"
        refine ⟨(ys, ys), rfl, by simp, ⟨hy, hy, by show ys.length ≤ 1000; omega, by show ys.length ≤ 1000; omega⟩, ?_⟩
        rintro _ rfl
        dsimp only
        rw [List.take_length, decide_eq_true rfl]
        repeat walk_at "d"
        refine ⟨([], ys), rfl, by simp, ⟨fun _ m => (nomatch m), hy, Nat.zero_le _, by show ys.length ≤ 1000; omega⟩, ?_⟩
        rintro _ rfl
        dsimp only
        rw [List.length_nil, List.take_zero, decide_eq_true rfl]
        repeat walk_at "d"
        refine RC.repr (bools_ok p q) ?_
        repeat walk_at "d"
        refine RC.repr (bools_ok p q) ?_
        repeat walk_at "d"
        rw [decide_eq_true rfl]
        repeat walk_at "d"
        exact ⟨_, _, rfl⟩
      · rintro ρ ⟨e7, e8, rfl⟩
        repeat walk_at "d"
        refine ⟨by omega, by omega, fun j j0 j1 => ?_⟩
        rw [lw] at j1
        obtain ⟨y, my, ey⟩ := atI_of (xs := ws) j0 j1
        refine RD.ixL (d := .str y) (atI_map ey) ?_
        repeat walk_at "d"
        refine ⟨by simp, nm_sz hy (by omega), ?_⟩
        rintro _ rfl
        rw [nm_isName hy]
        repeat walk_at "d"
        refine ⟨by simp, ?_, ?_⟩
        · show (true && (D.sz (nm ys) && (decide (y.length ≤ 16777000) && true))) = true
          rw [nm_sz hy (by omega), decide_eq_true (by have := (hw y my).2.1; omega)]
          rfl
        rintro _ rfl
        rw [show (D.tup [nm ys, D.str y]).isHolder = ((nm ys).isName && (D.str y).isWord) from rfl, nm_isName hy, wd_isWord (hw y my), Bool.and_self]
        repeat walk_at "d"
        refine ⟨by simp, nm_sz hy (by omega), ?_⟩
        rintro _ rfl
        rw [nm_notHolder]
        repeat walk_at "d"
        refine ⟨by decide, by decide, fun k k0 k1 => ?_⟩
        have : k = 0 ∨ k = 1 := by omega
        rcases this with rfl | rfl
        · refine RD.ixL (d := nm xs) rfl ?_
          repeat walk_at "d"
          exact ⟨xs, _, _, _, _, _, _, by omega, hx, rfl⟩
        · refine RD.ixL (d := nm ys) rfl ?_
          repeat walk_at "d"
          exact ⟨ys, _, _, _, _, _, _, by omega, hy, rfl⟩
    · rintro ρ ⟨xs, e4, e5, e6, e7, e8, e9, xl, hx, rfl⟩
      repeat walk_at "d"
      rfl


def e_is_word : He.DefD := ⟨("is_word", none), "is_word", "is_word", defArgs s_is_word, defBody s_is_word, defScope s_is_word, [], []⟩
def e_is_name : He.DefD := ⟨("is_name", none), "is_name", "is_name", defArgs s_is_name, defBody s_is_name, defScope s_is_name, [], []⟩
def e_is_holder : He.DefD := ⟨("is_holder", none), "is_holder", "is_holder", defArgs s_is_holder, defBody s_is_holder, defScope s_is_holder, [], []⟩
def e_begins : He.DefD := ⟨("begins", none), "begins", "begins", defArgs s_begins, defBody s_begins, defScope s_begins, [], []⟩
def e_law_bag : He.DefD := ⟨("_law_bag", none), "_law_bag", "_law_bag", defArgs s_law_bag, defBody s_law_bag, defScope s_law_bag, [], []⟩
def e_law_take : He.DefD := ⟨("_law_take", none), "_law_take", "_law_take", defArgs s_law_take, defBody s_law_take, defScope s_law_take, [], []⟩
def e_law_labels : He.DefD := ⟨("_law_labels", none), "_law_labels", "_law_labels", defArgs s_law_labels, defBody s_law_labels, defScope s_law_labels, [], []⟩
def e_law_name : He.DefD := ⟨("_law_name", none), "_law_name", "_law_name", defArgs s_law_name, defBody s_law_name, defScope s_law_name, [], []⟩
def e_law_near : He.DefD := ⟨("_law_near", none), "_law_near", "_law_near", defArgs s_law_near, defBody s_law_near, defScope s_law_near, [], []⟩
def e_law_has_first : He.DefD := ⟨("_law_has_first", none), "_law_has_first", "_law_has_first", defArgs s_law_has_first, defBody s_law_has_first, defScope s_law_has_first, [], []⟩
def e_law : He.DefD := ⟨("law", none), "law", "law", defArgs s_law, defBody s_law, defScope s_law, [], []⟩
def fn : List He.DefD := [e_is_word, e_is_name, e_is_holder, e_begins, e_law_bag, e_law_take, e_law_labels, e_law_name, e_law_near, e_law_has_first, e_law]
def fa : List He.Fa := [.glo "is_word", .glo "is_name", .glo "is_holder", .glo "begins", .glo "_law_bag", .glo "_law_take", .glo "_law_labels", .glo "_law_name", .glo "_law_near", .glo "_law_has_first", .glo "law", .str "LETTERS" "abcdefghijklmnopqrstuvwxyz", .int "MOST_LETTERS" 8, .free "abs", .free "all", .free "int", .free "isinstance", .free "len", .free "range", .free "repr", .free "str", .free "tuple"]
abbrev R : PySem.W.OpenRow := PySem.W.OpenLaw.row PySem.Challenge.rw_vouchchains_k12_begins_and_names
abbrev hk : PySem.W.Hook := He.hookD 4 fa fn
def ob (s : PySem.W.SharedT) : He.AlD := He.obsDG 4 fa fn (HandSHeadRun.getT s)
theorem ob_eq (s : PySem.W.SharedT) : ob s = hk.obs s.abs := He.obsDG_eq (HandSHeadRun.getT_eq s)
def loose : List Str := ["LETTERS", "MOST_LETTERS", "is_word", "is_name", "is_holder", "begins", "_law_bag", "_law_take", "_law_labels", "_law_name", "_law_near", "_law_has_first"]
theorem run (w : World) : HandSHeadRun.RunEq R (PySem.W.view R.prog [14]) hk ob 2000 (["LETTERS", "MOST_LETTERS", "is_word", "is_name", "is_holder", "begins", "_law_bag", "_law_take", "_law_labels", "_law_name", "_law_near", "_law_has_first"]) w := by
  intro os
  kernel_rfl
theorem facts {P : Program} {w : World} {K : PySem.W.Frag} {h : Heap} {mg : Str → Option Value} {f : Addr} (X : K.In h) (G : h.Ns mainGlobals mg) (hfa : mg ("law" : Str) = some (.ref f)) (c : He.SaysD fa fn K) :
    ∃ fd : FuncData, (∀ (s : Shared) (v : Value), BindsTo s fd ⟨[v], []⟩ [("_law_script", v)]) ∧ ∀ base : Heap, K.In base → base.Ns mainGlobals mg → FnG P w K mg base CX0 4 f fd ["_law_script"] ((spLaw K)) := by
  obtain ⟨d0, F0⟩ := c.def_ 0 (d := e_is_word) rfl
  obtain ⟨d1, F1⟩ := c.def_ 1 (d := e_is_name) rfl
  obtain ⟨d2, F2⟩ := c.def_ 2 (d := e_is_holder) rfl
  obtain ⟨d3, F3⟩ := c.def_ 3 (d := e_begins) rfl
  obtain ⟨d4, F4⟩ := c.def_ 4 (d := e_law_bag) rfl
  obtain ⟨d5, F5⟩ := c.def_ 5 (d := e_law_take) rfl
  obtain ⟨d6, F6⟩ := c.def_ 6 (d := e_law_labels) rfl
  obtain ⟨d7, F7⟩ := c.def_ 7 (d := e_law_name) rfl
  obtain ⟨d8, F8⟩ := c.def_ 8 (d := e_law_near) rfl
  obtain ⟨d9, F9⟩ := c.def_ 9 (d := e_law_has_first) rfl
  obtain ⟨d10, F10⟩ := c.def_ 10 (d := e_law) rfl
  obtain ⟨t0, g0⟩ := He.str_ok X G (c.fact 11 (f := .str "LETTERS" "abcdefghijklmnopqrstuvwxyz") rfl)
  obtain ⟨t1, g1⟩ := He.int_ok X G (c.fact 12 (f := .int "MOST_LETTERS" 8) rfl)
  have ef := hfa.symm.trans (He.glo_ok X G (c.fact 10 (f := .glo "law") rfl))
  cases ef
  let a : Ad := ⟨He.ga K "is_word", d0, He.ga K "is_name", d1, He.ga K "is_holder", d2, He.ga K "begins", d3, He.ga K "_law_bag", d4, He.ga K "_law_take", d5, He.ga K "_law_labels", d6, He.ga K "_law_name", d7, He.ga K "_law_near", d8, He.ga K "_law_has_first", d9, He.ga K "law", d10, t0, t1⟩
  have T : Tx K mg a := ⟨F0, He.glo_ok X G (c.fact 0 (f := .glo "is_word") rfl), F0.kp, F0.bindsN fun _ _ _ _ _ _ us hl => match us, hl with | [_], _ => rfl,
    F1, He.glo_ok X G (c.fact 1 (f := .glo "is_name") rfl), F1.kp, F1.bindsN fun _ _ _ _ _ _ us hl => match us, hl with | [_], _ => rfl,
    F2, He.glo_ok X G (c.fact 2 (f := .glo "is_holder") rfl), F2.kp, F2.bindsN fun _ _ _ _ _ _ us hl => match us, hl with | [_], _ => rfl,
    F3, He.glo_ok X G (c.fact 3 (f := .glo "begins") rfl), F3.kp, F3.bindsN fun _ _ _ _ _ _ us hl => match us, hl with | [_, _], _ => rfl,
    F4, He.glo_ok X G (c.fact 4 (f := .glo "_law_bag") rfl), F4.kp, F4.bindsN fun _ _ _ _ _ _ us hl => match us, hl with | [_], _ => rfl,
    F5, He.glo_ok X G (c.fact 5 (f := .glo "_law_take") rfl), F5.kp, F5.bindsN fun _ _ _ _ _ _ us hl => match us, hl with | [_, _], _ => rfl,
    F6, He.glo_ok X G (c.fact 6 (f := .glo "_law_labels") rfl), F6.kp, F6.bindsN fun _ _ _ _ _ _ us hl => match us, hl with | [_, _], _ => rfl,
    F7, He.glo_ok X G (c.fact 7 (f := .glo "_law_name") rfl), F7.kp, F7.bindsN fun _ _ _ _ _ _ us hl => match us, hl with | [_, _, _], _ => rfl,
    F8, He.glo_ok X G (c.fact 8 (f := .glo "_law_near") rfl), F8.kp, F8.bindsN fun _ _ _ _ _ _ us hl => match us, hl with | [_, _, _], _ => rfl,
    F9, He.glo_ok X G (c.fact 9 (f := .glo "_law_has_first") rfl), F9.kp, F9.bindsN fun _ _ _ _ _ _ us hl => match us, hl with | [_, _], _ => rfl,
    F10, He.glo_ok X G (c.fact 10 (f := .glo "law") rfl), F10.kp, F10.bindsN fun _ _ _ _ _ _ us hl => match us, hl with | [_], _ => rfl,
    g0,
    g1,
    He.free_ok X G (c.fact 13 (f := .free "abs") rfl),
    He.free_ok X G (c.fact 14 (f := .free "all") rfl),
    He.free_ok X G (c.fact 15 (f := .free "int") rfl),
    He.free_ok X G (c.fact 16 (f := .free "isinstance") rfl),
    He.free_ok X G (c.fact 17 (f := .free "len") rfl),
    He.free_ok X G (c.fact 18 (f := .free "range") rfl),
    He.free_ok X G (c.fact 19 (f := .free "repr") rfl),
    He.free_ok X G (c.fact 20 (f := .free "str") rfl),
    He.free_ok X G (c.fact 21 (f := .free "tuple") rfl)⟩
  have bl := FunD.bindsA (ps := ["_law_script"]) F10 fun _ _ _ _ _ _ us hl => match us, hl with | [_], _ => rfl
  exact ⟨d10, fun s v => bl s [v] rfl, fun _ _ _ => ok_law T⟩
end K12
open PySem PySem.W PySem.Calls PyProof.Rows
set_option maxRecDepth 100000 in
set_option maxHeartbeats 0 in
theorem PySem.Challenge.cw_vouchchains_k12_begins_and_names_holds : PySem.Challenge.rw_vouchchains_k12_begins_and_names.Holds := by
  w_on; o_law
  refine HandSHeadRun.head_any (r := OpenLaw.row PySem.Challenge.rw_vouchchains_k12_begins_and_names) (q := view (OpenLaw.row PySem.Challenge.rw_vouchchains_k12_begins_and_names).prog [14]) (H := K12.hk) (ob := K12.ob) (M := 2000) (loose := ["LETTERS", "MOST_LETTERS", "is_word", "is_name", "is_holder", "begins", "_law_bag", "_law_take", "_law_labels", "_law_name", "_law_near", "_law_has_first"]) (d := HandSHeadRun.topDef (OpenLaw.row PySem.Challenge.rw_vouchchains_k12_begins_and_names).prog 14) (kwd := []) K12.ob_eq
    (by kernel_rfl) (fun s => by kernel_rfl) K12.run (by kernel_rfl) (by kernel_rfl) (by kernel_rfl) (by rfl) (by first | assumption | decide +kernel) (by decide +kernel) ⟨rfl, rfl, rfl, rfl, rfl, by decide +kernel⟩ ?hw ?hc
  case hw => w_witness2
  case hc =>
    refine VB.walk_G (l := PySem.Challenge.rw_vouchchains_k12_begins_and_names) (n := 63) (k := 4) (x := "_law_script") (CX := L2.CX0) rfl (by decide) (by kernel_rfl) ⟨rfl, by decide, by decide⟩ ?F (fun _ _ _ _ z => z)
    intro w mg fa h Y G hmg0
    obtain ⟨K, KX, c⟩ := Y
    have hmg : mg ("law" : PySem.Str) = some (.ref fa) := by
      have e : (HandSHeadRun.topDef (OpenLaw.row PySem.Challenge.rw_vouchchains_k12_begins_and_names).prog 14).name = ("law" : PySem.Str) := by kernel_rfl
      rw [← e]
      exact hmg0
    obtain ⟨fd, hb, hF⟩ := K12.facts (P := (PySem.Challenge.rw_vouchchains_k12_begins_and_names).prog) (w := w) KX G hmg c
    exact ⟨K, fd, VB.spLaw K, KX, hb, fun H a ns hl hO hS => VB.law_start hl hO hS, hF⟩
